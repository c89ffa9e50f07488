import PyProof.Rows.All
import Wide.All
import OpenK.AllK
import Wide.FinOn
import HandS.ForMost
import HandS.Exc
import HandS.TryOnly
import HandS.ExcOwn
import HandS.WordsExc
import HandS.Flow
import HandS.Defaults
import HandS.IsInst
import HandS.Wide
import HandS.TupAny
import HandS.TupMul
import HandS.Head0
import HandS.Head1
import HandS.Head2
import HandS.HeadEnd
import HandS.HeadHook1
import HandS.HeadHook2
import PyProof.ReprRoads
import HandS.Sort
import HandS.More
import HandS.RaiseMore
import HandS.Conv
import HandS.Style
import PyProof.IsiBase
import PyProof.FactsAll.set
import PyProof.IsiH_set
import KE.KExcIs
import HandS.ExcInit
import HandS.Walk
import HandS.StrMore
import HandS.MakeKwOnly
import HandS.Codes
import OpenK.KOps
import KE.KCallOwn
import HandS.OwnEq
import HandS.SlotsOwn
import PyProof.InstNe
import PyProof.EqKinds
import PyProof.NeKinds
import KE.GoesEnum
import PyProof.TupleOfSeq
import HandS.ExcValue
import HandS.Property
import HandS.FStr
import HandS.Deep
import HandS.Dict
import PyProof.FString4
import PySem.Challenge.RW_searchorders_k04_shapes_told
set_option Elab.async false
set_option linter.all false
set_option maxRecDepth 100000
set_option maxHeartbeats 0
/-! SL0: promises of defs that may ask for a repr (no guard stands around), the head's hook, the end. -/
namespace SL
open PySem PySem.Spec PyProof.Rows L2

/-- as the layer's promise, where no guard stands around the call -/
structure FnG (P : Program) (w : World) (K : PySem.W.Frag) (mg : Str → Option Value) (base : Heap) (CX : CXT) (k : Nat) (f : Addr) (fd : FuncData) (ps : List Str) (sp : Sp) : Prop where
  len : ∀ vs H Q E, sp vs H Q E → vs.length = ps.length
  go : ∀ (A : Around), A.guards = some [] → ∀ (outer : List Env) (s : Shared) (H : Hp) (args : Args) (us : List Value) (vs : List V) (Q : VK) (E : XK), Room k A →
    Env0 P w K mg base A outer s H → BindsTo s fd args (ps.zip us) → Vals vs us → sp vs H Q E → codeAny (model P w) A (.call (.ref f) args) (CR CX outer P w H s Q E) s

section
variable {P : Program} {w : World} {K : PySem.W.Frag} {mg : Str → Option Value} {base : Heap} {CX : CXT} {j k : Nat} {f : Addr} {fd : FuncData} {ps : List Str} {sp sp' : Sp}
theorem FnG.of (F : FnOk P w K mg base CX k f fd ps sp) : FnG P w K mg base CX k f fd ps sp :=
  ⟨F.len, fun A _ outer s H args us vs Q E hr => F.run A outer s H args us vs Q E hr⟩
theorem FnG.mono (F : FnG P w K mg base CX j f fd ps sp) (h : j ≤ k) : FnG P w K mg base CX k f fd ps sp :=
  ⟨F.len, fun A g outer s H args us vs Q E hr => F.go A g outer s H args us vs Q E (hr.mono h)⟩

/-- a def by its body; the body may use that no guard stands around -/
theorem fn_g {name qual : Str} {params : Arguments} {body : List Stmt} {scope : Scope} {dV kV doc pm cdv ct oc : Value} {an od : Option Addr} {osl : Array (Option Value)} {N : List Str}
    (lk : K.lookup f = some ⟨oc, od, .func (PySem.W.fnOf name qual params body scope dV kV doc pm an cdv ct), osl⟩) (hcd : PySem.W.codeIn K cdv qual = true) (S : FnScope N ps scope)
    (len : ∀ vs H Q E, sp vs H Q E → vs.length = ps.length)
    (hb : ∀ (A : Around), A.guards = some [] → ∀ (outer : List Env) (s : Shared) (H : Hp) (vs : List V) (Q : VK) (E : XK), Room k (A.deeper (envOfC qual scope s.heap.objs.size f cdv)) → sp vs H Q E →
      ∃ t, PSs (cxOf CX P w K mg base N qual scope f cdv A outer s H E) body t ∧ t { nx := fun _ H' => Q .non H', rt := Q } (start N vs) H) :
    FnG P w K mg base CX (k + 1) f (PySem.W.fnOf name qual params body scope dV kV doc pm an cdv ct) ps sp := by
  constructor
  · exact len
  · intro A hg outer s H args us vs Q E room e0 bnd rv hs
    have lenv : vs.length = ps.length := len vs H Q E hs
    have inK : K.In s.heap := e0.mod.kin.keeps (fun b o e => (e0.bs b o e).1)
    have noL : s.heap.NoLimit := e0.mod.nolimit.keeps (fun b o e => (e0.bs b o e).1)
    have hk : ∀ y ∈ ps.zip us, scope.names.lookup y.1 = some .local ∨ (scope.names.lookup y.1 = some .cell ∧ ((cellsFrom (s.heap.objs.size + 1) scope.names []).lookup y.1).isSome = true) := by
      rintro ⟨n, v⟩ hy
      cases S.par n (List.of_mem_zip hy).1 with
      | inl z => exact Or.inl z
      | inr z => exact Or.inr ⟨z, PySem.W.cellsFrom_some _ _ _ (Or.inl z)⟩
    refine codeAny_call_function room.depth (inK _ _ lk) rfl S.co S.gen rfl (PySem.W.codeRec_of inK hcd) (bnd _ _ _ _ ?_)
    refine wpAny_newFunctionEnv_cells S.kind hk (fun env henv s1 inc => ?_)
    subst henv
    refine ⟨noL.keeps inc.toInCall.keep, codeAny_func ?_⟩
    rcases hb A hg outer s H vs Q E (room.deeper _) hs with ⟨t, pss, rd⟩
    have iv : Inv (cxOf CX P w K mg base N qual scope f cdv A outer s H E) [] (start N vs) H s1 := inv_start S room.hd e0 lenv rv inc
    refine wpAny_mono (pss.run [] s1 (start N vs) H _ iv rd) ?_ (fun _ _ z => z)
    have done : ∀ {σ' : L2.St} {H' : Hp} {v : V} {u : Value} {s' : Shared}, Inv (cxOf CX P w K mg base N qual scope f cdv A outer s H E) [] σ' H' s' → RelV v u → Q v H' → CE outer P w H s Q u s' := by
      intro σ' H' v u s' J r q
      exact ⟨v, H', J.os, J.bare, J.base, J.hok, r, q⟩
    intro fl s' z
    match fl, z with
    | .ret u, ⟨v, σ', H', J, r, q⟩ => exact done J r q
    | .next, ⟨σ', H', J, q⟩ => exact done (v := V.non) (u := Value.none) J rfl q
    | .brk, ⟨_, _, _, q⟩ => exact q.elim
    | .cont, ⟨_, _, _, q⟩ => exact q.elim
/-- the same of a def of the text, told by the head -/
theorem fun_g {x qual : Str} {params : Arguments} {body : List Stmt} {scope : Scope} {dvs : List V} {kws : List (Str × V)} {N : List Str} (F : FunD K x qual params body scope dvs kws f fd) (S : FnScope N ps scope)
    (len : ∀ vs H Q E, sp vs H Q E → vs.length = ps.length)
    (hb : ∀ (cdv : Value) (A : Around), A.guards = some [] → ∀ (outer : List Env) (s : Shared) (H : Hp) (vs : List V) (Q : VK) (E : XK), Room k (A.deeper (envOfC qual scope s.heap.objs.size f cdv)) → sp vs H Q E →
      ∃ t, PSs (cxOf CX P w K mg base N qual scope f cdv A outer s H E) body t ∧ t { nx := fun _ H' => Q .non H', rt := Q } (start N vs) H) : FnG P w K mg base CX (k + 1) f fd ps sp := by
  obtain ⟨oc, od, dV, kV, doc, pm, an, cdv, ct, osl, rfl, lk, hcd, _, _⟩ := F.ex
  exact fn_g lk hcd S len fun A hg outer s H vs Q E hr hs => hb cdv A hg outer s H vs Q E hr hs
end

section
variable {X : Cx} {CX : CXT} {k : Nat} {f : Addr} {fd : FuncData} {ps : List Str} {sp : Sp} {dvs : List V} {ds : List Value} {E : XK} {x : Str} {p pos : Pos} {e : Expr} {es : List Expr} {t : TA}
theorem call_g {pins : List (Addr × Obj)} {σ : L2.St} {H : Hp} {s : Shared} {Q : VK} {us : List Value} {vs : List V} (F : FnG X.prog X.w X.K X.mg X.base CX k f fd ps sp) (hg : X.A.guards = some []) (hr : Room k X.A) (hb : Binds X.K fd ps ds)
    (hd : Vals dvs ds) (hx : Passes CX X E) (I : Inv X pins σ H s) (r : Vals vs us) (h : sp (vs ++ dvs) H Q E) : wpAny (model X.prog X.w) X.A (call (.ref f) us) (EP X pins σ Q) X.xe s := by
  have r2 : Vals (vs ++ dvs) (us ++ ds) := r.append hd
  have lenu : (us ++ ds).length = ps.length := r2.length.symm.trans (F.len _ _ _ _ h)
  refine wpAny_call (codeAny_mono (F.go X.A hg X.stack s H ⟨us, []⟩ (us ++ ds) (vs ++ dvs) Q E hr I.env0 (hb s us I.kIn lenu) r2 h) ?_)
  intro r s' z
  match r, z with
  | .error e, z => exact hx pins σ H s e s' I z
  | .ok (.ret u), z => exact I.after z
  | .ok .next, z => exact z.elim
  | .ok .brk, z => exact z.elim
  | .ok .cont, z => exact z.elim
/-- f(e, ..) -/
theorem pe_cg (F : FnG X.prog X.w X.K X.mg X.base CX k f fd ps sp) (hg : X.A.guards = some []) (hr : Room k X.A) (gl : Gl X x) (hm : X.mg x = some (.ref f)) (hk : PySem.W.keepIn X.K (.ref f) = true) (hb : Binds X.K fd ps ds) (hd : Vals dvs ds)
    (hx : Passes CX X E) (ha : PA X (e :: es) t) (hdb : (x == ("__debug__" : Str)) = false := by decide) (he : starEach (e :: es) X.env = (false, eval e X.env) :: starEach es X.env := by rfl)
    (hpl : (backTo pos (starEach es X.env)).any (·.1) = false := by rfl) : PE X (.Call (.Name x p) (e :: es) [] pos) (tCall sp dvs E t) := by
  constructor
  intro pins s σ H Q I h
  refine wpAny_Call_Name_kw (ld_glob I gl hm ?_ hdb)
  refine PySem.W.callWith_K (h₀ := X.base) I.ok.mod.kin hk (thn (ha.run pos pins s σ H _ I h) ?_) he hpl
  rintro us s1 ⟨vs, H1, I1, r, q⟩
  exact ⟨I1.kIn, call_g F hg hr hb hd hx I1 r q⟩
end

/-! ### the end -/
theorem guards_caller : callerA.guards = some [] := rfl
/-- the abstract heap at the law's entry: the script alone, locked as its object, unless it is the text's own -/
def entryH (a : Addr) (o : Obj) (xs : List V) : Hp := fun b => if b = a then some (.frz o (.lst xs)) else none
theorem entryH_ne {a b : Addr} {o : Obj} {xs : List V} (h : b ≠ a) : entryH a o xs b = none := if_neg h
theorem entryH_at {a : Addr} {o : Obj} {xs : List V} : entryH a o xs a = some (.frz o (.lst xs)) := if_pos rfl
section
variable {P : Program} {w : World} {K : PySem.W.Frag} {mg mb : Str → Option Value} {CX : CXT} {k : Nat} {fa a : Addr} {fd : FuncData} {x : Str} {sp : Sp} {s₁ : Shared} {vs : List Value} {ns : List Int}
/-- the law's call, once an abstract heap is chosen that tracks at most the script -/
theorem call_from (KX : K.In s₁.heap) (hns : s₁.heap.Ns mainGlobals mg) (hb : s₁.heap.Ns builtinsNs mb) (hbb : ∀ x : Str, x ≠ "__name__" → mb x = bootBuiltins x) (hlim : s₁.heap.NoLimit) (hg : s₁.gens = #[])
    (ha : s₁.heap.get? a = some { cls := .type "list", data := .seq vs.toArray }) (hr : Room k callerA)
    (F : ∀ base : Heap, K.In base → base.Ns mainGlobals mg → FnG P w K mg base CX k fa fd [x] sp) (hbind : ∀ (s : Shared) (u : Value), BindsTo s fd ⟨[u], []⟩ [(x, u)])
    (hCX : ∀ H e s', CX [] H s₁ (fun _ _ _ => False) e s' → False) (H : Hp) (only : ∀ b, H b = none ∨ (b = a ∧ ∃ o xs, H b = some (.frz o (.lst xs)))) (hK : H a ≠ none → K.lookup a = none) (ok : HOk P w H s₁.heap)
    (hsp : sp [.ref a] H (fun v _ => v = .bl true) fun _ _ _ => False) :
    codeAny (model P w) callerA (.call (.ref fa) ⟨[.ref a], []⟩) (fun r s' => r = .ok (.ret (.bool true)) ∧ OldK s₁.heap s'.heap ∧ s'.os = s₁.os ∧ AllBare s'.gens) s₁ := by
  have dictFree : ∀ {b : Addr} {o : Obj} {es : Array DictEntry} {ep : Nat}, s₁.heap.get? b = some o → o.data = .dict es ep → H b = none := by
    intro b o es ep hb hd
    rcases only b with z | ⟨rfl, _⟩
    · exact z
    · rw [ha] at hb
      cases hb
      cases hd
  have inB : ∀ {b : Addr} {o : Obj}, s₁.heap.get? b = some o → H b = none → (hidT s₁.heap H).get? b = some o := fun e n => hidT_get e n
  have nsB : ∀ {b : Addr} {m : Str → Option Value}, s₁.heap.Ns b m → (hidT s₁.heap H).Ns b m := by
    rintro b m ⟨o, es, ep, e, d, r⟩
    exact ⟨o, es, ep, inB e (dictFree e d), d, r⟩
  have kB : K.In (hidT s₁.heap H) := by
    intro b o e
    refine inB (KX b o e) ?_
    rcases only b with z | ⟨rfl, o', xs, z⟩
    · exact z
    · have q := hK (by rw [z]; exact fun y => by cases y)
      rw [q] at e
      cases e
  obtain ⟨mc, m1, m2⟩ := hlim
  have md : Mod K mg (hidT s₁.heap H) := ⟨kB, nsB hns, ⟨mb, nsB hb, hbb⟩, mc, nsB m1, m2⟩
  have ev : Env0 P w K mg (hidT s₁.heap H) callerA [] s₁ H := ⟨rfl, md, fun b o e => of_hidT e, Nat.le_of_eq (hidT_size _ _), trivial, fun b z => (List.not_mem_nil z).elim, ok, .of_eq hg⟩
  refine codeAny_mono ((F _ kB (nsB hns)).go callerA rfl [] s₁ H ⟨[.ref a], []⟩ [.ref a] [.ref a] _ _ hr ev (hbind s₁ (.ref a)) (.cons rfl .nil) hsp) ?_
  intro r s' z
  match r, z with
  | .error e, z => exact (hCX H e s' z).elim
  | .ok .next, z => exact z.elim
  | .ok .brk, z => exact z.elim
  | .ok .cont, z => exact z.elim
  | .ok (.ret u), z =>
    obtain ⟨v, H', hos, hbare, un, ok', rv, rfl⟩ := z
    cases (show u = Value.bool true from rv)
    refine ⟨rfl, OldK.of_keep (fun b o e => ?_), hos, hbare⟩
    rcases only b with q | ⟨rfl, ob, xs, q⟩
    · exact un.keep b o e q (fun y => (List.not_mem_nil y).elim) (fun y => (List.not_mem_nil y).elim)
    · have e1 := (ok b _ q).1
      have e2 := (ok' b _ (un.frzs b ob _ q)).1
      rw [e] at e1
      cases e1
      exact e2
theorem law_g (KX : K.In s₁.heap) (hns : s₁.heap.Ns mainGlobals mg) (hb : s₁.heap.Ns builtinsNs mb) (hbb : ∀ x : Str, x ≠ "__name__" → mb x = bootBuiltins x) (hlim : s₁.heap.NoLimit) (hg : s₁.gens = #[])
    (ha : s₁.heap.get? a = some { cls := .type "list", data := .seq vs.toArray }) (hi : IntsAre vs ns) (hl : ns.length ≤ sizeLine) (hr : Room k callerA)
    (F : ∀ base : Heap, K.In base → base.Ns mainGlobals mg → FnG P w K mg base CX k fa fd [x] sp) (hbind : ∀ (s : Shared) (u : Value), BindsTo s fd ⟨[u], []⟩ [(x, u)])
    (hCX : ∀ H e s', CX [] H s₁ (fun _ _ _ => False) e s' → False)
    (hsp : ∀ H : Hp, Only H → SqL K H a (ns.map V.int) → sp [.ref a] H (fun v _ => v = .bl true) fun _ _ _ => False) :
    codeAny (model P w) callerA (.call (.ref fa) ⟨[.ref a], []⟩) (fun r s' => r = .ok (.ret (.bool true)) ∧ OldK s₁.heap s'.heap ∧ s'.os = s₁.os ∧ AllBare s'.gens) s₁ := by
  have rv := vals_ints hi
  cases hk : K.lookup a with
  | some o =>
    have e : s₁.heap.get? a = some o := KX a o hk
    rw [ha] at e
    cases e
    refine call_from KX hns hb hbb hlim hg ha hr F hbind hCX (fun _ => none) (fun _ => Or.inl rfl) (fun z => absurd rfl z) (fun b u z => by cases (show (none : Option HO) = some u from z)) (hsp _ (fun _ => Or.inl rfl) ?_)
    exact Or.inr ⟨_, vs.toArray, _, hk, rfl, rfl, rfl, (by rw [List.size_toArray, hi.length]; exact hl), (by simpa using rv)⟩
  | none =>
    have only : ∀ b, entryH a { cls := .type "list", data := .seq vs.toArray } (ns.map V.int) b = none ∨ (b = a ∧ ∃ o xs, entryH a { cls := .type "list", data := .seq vs.toArray } (ns.map V.int) b = some (.frz o (.lst xs))) := by
      intro b
      by_cases e : b = a
      · subst e
        exact Or.inr ⟨rfl, _, _, entryH_at⟩
      · exact Or.inl (entryH_ne e)
    refine call_from KX hns hb hbb hlim hg ha hr F hbind hCX _ only (fun _ => hk) ?_ (hsp _ (fun b => (only b).imp id fun z => z.2) (Or.inl (Or.inr ⟨_, entryH_at⟩)))
    intro b u z
    rcases only b with q | ⟨rfl, _⟩
    · rw [q] at z
      cases z
    · rw [entryH_at] at z
      cases z
      exact ⟨ha, (by rw [List.length_map]; exact hl), vs, _, rv, ha⟩
end
/-- the goal that the head leaves, from the law's promise -/
theorem walk_g {l : PySem.W.OpenLaw} {n k : Nat} {q : Program} {loose : List Str} {XP : (Str → Option Value) → Heap → Prop} {YP : World → Heap → Prop} {d : DefRec} {CX : CXT} {x : Str}
    (hn : l.most = some n) (hn2 : n ≤ sizeLine) (hdf : d.params.defaults = []) (hr : Room k callerA)
    (F : ∀ (w : World) (mg : Str → Option Value) (fa : Addr) (h : Heap), YP w h → h.Ns mainGlobals mg → mg d.name = some (.ref fa) →
      ∃ (K : PySem.W.Frag) (fd : FuncData) (sp : Sp), K.In h ∧ (∀ (s : Shared) (u : Value), BindsTo s fd ⟨[u], []⟩ [(x, u)]) ∧
        (∀ (H : Hp) (a : Addr) (ns : List Int), ns.length ≤ n → Only H → SqL K H a (ns.map V.int) → sp [.ref a] H (fun v _ => v = .bl true) fun _ _ _ => False) ∧
        ∀ base : Heap, K.In base → base.Ns mainGlobals mg → FnG l.prog w K mg base CX k fa fd [x] sp)
    (hCX : ∀ (H : Hp) (s : Shared) (e : Value) (s' : Shared), CX [] H s (fun _ _ _ => False) e s' → False) :
    PySem.W.WalkO q loose XP YP l.row.toRowW d [] (fun f vs => PySem.call f vs) := by
  refine Att.attach_call hn hdf ?_
  intro w s₀ s₁ mg mb fa o pm cd doc a vs ns G Y ho hd hcd hmg hobj hints hlen hg
  obtain ⟨K, fd, sp, KX, hb, hs, hF⟩ := F w mg fa _ Y G.T.g hmg
  exact law_g KX G.T.g G.T.b G.T.builtins G.T.nolimit hg hobj hints (Nat.le_trans hlen hn2) hr hF hb (fun H e s' => hCX H s₁ e s') (fun H hO hS => hs H a ns hlen hO hS)
end SL

/-! ### the head's hook: any looks at the written part, and the defs -/
namespace SL
open PySem PySem.Spec PyProof.Rows L2
abbrev Looks := List (PySem.W.Frag → Bool)
abbrev AlM : Type := Bool × List He.FnW
def obsM (ok : Looks) (fn : List He.DefD) (K : PySem.W.Frag) : AlM := ((ok.all fun f => f K) && fn.all fun d => d.ok K, fn.map fun d => He.fnW K d.at_)
def valM (fn : List He.DefD) : AlM := (true, fn.map He.DefD.val)
/-- what the end leans on -/
def Says (ok : Looks) (fn : List He.DefD) (K : PySem.W.Frag) : Prop := obsM ok fn K = valM fn
def obsMG (n : Nat) (ok : Looks) (fn : List He.DefD) (g : Addr → Option Obj) : AlM := obsM ok fn (He.frG g (cStatics :: He.asD g n))
def hookM (n : Nat) (ok : Looks) (fn : List He.DefD) : PySem.W.Hook where
  α := AlM
  obs s := obsMG n ok fn s.heap.get?
  val _ := valM fn
  says _ h := ∃ K : PySem.W.Frag, K.In h ∧ Says ok fn K
  of _ _ e := ⟨_, He.frG_in, e⟩
  keeps _ _ _ := fun ⟨K, hK, c⟩ k => ⟨K, PySem.W.Frag.In.keeps hK k, c⟩
theorem obsMG_eq {n : Nat} {ok : Looks} {fn : List He.DefD} {g : Addr → Option Obj} {s : Shared} (h : ∀ a, g a = s.heap.get? a) : obsMG n ok fn g = (hookM n ok fn).obs s := by
  rw [show g = s.heap.get? from funext h]
  rfl
section
variable {ok : Looks} {fn : List He.DefD} {K : PySem.W.Frag}
theorem Says.look (c : Says ok fn K) (i : Nat) {f : PySem.W.Frag → Bool} (h : ok[i]? = some f := by rfl) : f K = true := by
  have c1 : ((ok.all fun f => f K) && fn.all fun d => d.ok K) = true := congrArg Prod.fst c
  exact List.all_eq_true.mp (Bool.and_eq_true_iff.mp c1).1 f (List.mem_of_getElem? h)
theorem Says.defn (c : Says ok fn K) (i : Nat) {d : He.DefD} (h : fn[i]? = some d := by rfl) : ∃ fd, FunD K d.name d.qual d.params d.body d.scope (d.dvs K) (d.kws K) (He.fAd K d.at_) fd := by
  have c1 : ((ok.all fun f => f K) && fn.all fun d => d.ok K) = true := congrArg Prod.fst c
  have c2 : fn.map (fun d => He.fnW K d.at_) = fn.map He.DefD.val := congrArg Prod.snd c
  have c3 : (fn.map fun d => He.fnW K d.at_)[i]? = (fn.map He.DefD.val)[i]? := congrArg (fun l => l[i]?) c2
  rw [List.getElem?_map, List.getElem?_map, h] at c3
  exact He.DefD.funD (Option.some.inj c3) (List.all_eq_true.mp (Bool.and_eq_true_iff.mp c1).2 d (List.mem_of_getElem? h))
end
end SL

/-! SL1: rules joined by kinds, their steps; what stands in the heap. -/
namespace SL
open PySem PySem.Spec PyProof.Rows L2

theorem hu64 {k : Nat} {A : Around} {env : Env} (hr : Room k (A.deeper env)) : (A.deeper env).units + 130 < cLine := by
  have := hr.un
  omega
theorem guards_deeper {A : Around} {env : Env} (h : A.guards = some []) : (A.deeper env).guards = some [] := by
  first
    | exact h
    | simp [Around.deeper, h]

/-! ### module names as values -/
section
variable {mg : Str → Option Value} {x : Str}
theorem gv_int {i : Int} (h : ∃ t, mg x = some (.int i t)) : ∃ u, mg x = some u ∧ RelV (.int i) u := by
  obtain ⟨t, e⟩ := h
  exact ⟨_, e, t, rfl⟩
theorem gv_str {z : Str} (h : ∃ t, mg x = some (.str z t)) : ∃ u, mg x = some u ∧ RelV (.str z) u := by
  obtain ⟨t, e⟩ := h
  exact ⟨_, e, t, rfl⟩
theorem gv_ref {a : Addr} (h : mg x = some (.ref a)) : ∃ u, mg x = some u ∧ RelV (.ref a) u := ⟨_, h, rfl⟩
end

/-! ### joined readings -/
abbrev rSub : R2 := rI0 fun i j => .int (i - j)
abbrev rMod : R2 := rI (fun _ j => j ≠ 0) fun i j => .int (i.fmod j)
abbrev rDiv : R2 := rI CDivW fun i j => .int (i / j)
abbrev rPow : R2 := rI CPow fun i j => .int (i ^ j.toNat)
abbrev rNeg : V → Hp → VK → Prop := rU fun i => .int (-i)
def rAddI : R2 := rI0 fun i j => .int (i + j)
def rAddS : R2 := fun x y H Q => ∃ i j, x = .str i ∧ y = .str j ∧ i.length + j.length ≤ sizeLine ∧ Q (.str (i ++ j)) H
def uAdd (K : PySem.W.Frag) : R2 := fun x y H Q => rAddI x y H Q ∨ rAddS x y H Q ∨ rCat x y H Q ∨ rCatA K x y H Q
def rMulW : R2 := rI CMulW fun i j => .int (i * j)
def uMul (K : PySem.W.Frag) : R2 := fun x y H Q => rMulW x y H Q ∨ rRep x y H Q ∨ rRepT K x y H Q
def rAddF (x y : V) : Prop := True
section
variable {X : Cx}
theorem op_uAdd : OpR X (binaryOp .Add) (uAdd X.K) := op_add.or (op_add_str.or (op_cat.or op_catA))
theorem op_uMul : OpR X (binaryOp .Mult) (uMul X.K) := op_mulW.or (op_rep.or op_repT)
end
def uEq (K : PySem.W.Frag) : R2 := fun x y H Q => rEq x y H Q ∨ rEqD K x y H Q
def uNe (K : PySem.W.Frag) : R2 := fun x y H Q => rNe x y H Q ∨ rNeD K x y H Q
def rLtI : R2 := rI0 fun i j => .bl (decide (i < j))
def rLtS : R2 := fun x y H Q => ∃ i j, x = .str i ∧ y = .str j ∧ Q (.bl (decide (i.cps.toList < j.cps.toList))) H
def uLt (K : PySem.W.Frag) : R2 := fun x y H Q => rLtI x y H Q ∨ rLtS x y H Q ∨ rLtT K x y H Q
def uLe : R2 := rI0 fun i j => .bl (decide (i ≤ j))
abbrev rGt : R2 := rI0 fun i j => .bl (decide (j < i))
abbrev rGe : R2 := rI0 fun i j => .bl (decide (j ≤ i))
def rInS : R2 := fun x y H Q => ∃ (c : Nat) (z : Str), x = .str ⟨#[c]⟩ ∧ y = .str z ∧ Q (.bl (decide (c ∈ z.cps.toList))) H
def rNiS : R2 := fun x y H Q => ∃ (c : Nat) (z : Str), x = .str ⟨#[c]⟩ ∧ y = .str z ∧ Q (.bl (!decide (c ∈ z.cps.toList))) H
def rInR : R2 := fun x y H Q => ∃ i a lo hi, x = V.int i ∧ y = V.ref a ∧ H a = some (.rng lo hi) ∧ Q (.bl (decide (lo ≤ i ∧ i < hi))) H
def uIn (K : PySem.W.Frag) : R2 := fun x y H Q => rInS x y H Q ∨ rIn K false x y H Q ∨ rInR x y H Q
def uNi (K : PySem.W.Frag) : R2 := fun x y H Q => rNiS x y H Q ∨ rIn K true x y H Q
def uIs : R2 := fun x y H Q => y = .non ∧ Q (.bl (decide (x = .non))) H
def uIsnt : R2 := fun x y H Q => y = .non ∧ Q (.bl (!decide (x = .non))) H
section
variable {X : Cx}
theorem op_uEq (hu : X.A.units + 130 < cLine) : OpR X (compareOp .Eq) (uEq X.K) := op_eq.or (op_eqD (by omega))
theorem op_uNe (hu : X.A.units + 130 < cLine) : OpR X (compareOp .NotEq) (uNe X.K) := op_ne.or (op_neD (by omega))
theorem op_uLt (hu : X.A.units + 130 < cLine) : OpR X (compareOp .Lt) (uLt X.K) := op_lt.or (op_lt_str.or (op_ltT (by omega)))
theorem op_uLe : OpR X (compareOp .LtE) uLe := op_le
theorem op_uIn : OpR X (compareOp .In) (uIn X.K) := op_in_sign.or (op_in_seq.or op_in_rng)
theorem op_uNi : OpR X (compareOp .NotIn) (uNi X.K) := op_notIn_sign.or op_notIn_seq
theorem op_uIs : OpR X (compareOp .Is) uIs := op_isN
theorem op_uIn0 : OpR X (compareOp .IsNot) uIsnt := op_notN
end
def uIx (K : PySem.W.Frag) : R2 := rIx K
theorem ix_u {X : Cx} : IxR X (uIx X.K) := ix_seq
def uSl (K : PySem.W.Frag) : V → Option Int → Option Int → Hp → VK → Prop := fun x lo hi H Q => rSlS x lo hi H Q ∨ rSlL K x lo hi H Q ∨ rSlA K x lo hi H Q
theorem sl_u {X : Cx} : SlR X (uSl X.K) := sl_str.or (sl_list.or sl_tupA)
/-- what is walked -/
theorem PI.or {X : Cx} {tg it : Expr} {w1 w2 : TI} (h1 : PI X tg it w1) (h2 : PI X tg it w2) : PI X tg it (fun σ H R => w1 σ H R ∨ w2 σ H R) :=
  ⟨fun pins s σ H R I h => h.elim (h1.run pins s σ H R I) (h2.run pins s σ H R I)⟩
def iU (K : PySem.W.Frag) (t : TE) : TI := fun σ H R => iList K t σ H R ∨ (iTup K t σ H R ∨ iStr t σ H R)
theorem pi_u {X : Cx} {tg e : Expr} {t : TE} (h : PE X e t) : PI X tg e (iU X.K t) := PI.or (pi_list h) (PI.or (pi_tup h) (pi_str h))
/-- a test by the value's truth -/
def tTruK (K : PySem.W.Frag) (t : TE) : TT := fun σ H Q => t σ H fun x H' => ∃ k, TruV K x H' k ∧ Q k H'
theorem pt_tru {X : Cx} {a : Expr} {t : TE} (h : PE X a t) (he : ∀ whole, isTrue a X.env whole = (do let v ← whole; standAt a.pos; holding [v] (truthy v))) : PT X a (tTruK X.K t) := pt_truth h he

/-! ### built-ins -/
def uLen (K : PySem.W.Frag) : List V → Hp → VK → Prop := fun xs H Q => (∃ p ys, xs = [.ref p] ∧ (SqL K H p ys ∨ SqT K H p ys) ∧ Q (.int ys.length) H) ∨ (∃ x n, xs = [x] ∧ LenV K x H n ∧ Q (.int n) H)
theorem call_uLen {X : Cx} : CallR X (.builtin "len") (uLen X.K) := call_len_seq.or call_len
def rMax2 : List V → Hp → VK → Prop := fun xs H Q => ∃ i j, xs = [.int i, .int j] ∧ Q (.int (if j > i then j else i)) H
def rMin2 : List V → Hp → VK → Prop := fun xs H Q => ∃ i j, xs = [.int i, .int j] ∧ Q (.int (if j < i then j else i)) H
abbrev rMaxL := L2.rMax
abbrev rMinL := L2.rMin
abbrev rAllL := L2.rAll
abbrev rAnyL := L2.rAny
abbrev rSumL := L2.rSum
def uIsi (K : PySem.W.Frag) : List V → Hp → VK → Prop := fun xs H Q => rIsi K xs H Q ∨ rIsiT K xs H Q
theorem call_uIsi {X : Cx} : CallR X (.builtin "isinstance") (uIsi X.K) := call_isi.or call_isiT
def uStr (K : PySem.W.Frag) : List V → Hp → VK → Prop := fun xs H Q => (∃ i, xs = [.int i] ∧ i.natAbs.log2 < 1920 ∧ Q (.str (toString i)) H) ∨ (∃ a, xs = [.str a] ∧ Q (.str a) H)
theorem call_uStr {X : Cx} : CallR X (.type "str") (uStr X.K) := call_str_int.or SkE.call_str_str
def uList (K : PySem.W.Frag) : List V → Hp → VK → Prop := fun xs H Q => ∃ p ys, xs = [.ref p] ∧ (SqL K H p ys ∨ SqT K H p ys) ∧ ∀ l, H l = none → Q (.ref l) (upd H l (.lst ys))
theorem call_list_u {X : Cx} : CallR X (.type "list") (uList X.K) := call_list_of
def uTuple (K : PySem.W.Frag) : List V → Hp → VK → Prop := fun xs H Q => ∃ p ys, xs = [.ref p] ∧ ((SqL K H p ys ∧ ∀ l, H l = none → Q (.ref l) (upd H l (.tup ys))) ∨ (SqT K H p ys ∧ Q (.ref p) H))
theorem call_tuple_u {X : Cx} : CallR X (.type "tuple") (uTuple X.K) := call_tuple_of
def uInt : List V → Hp → VK → Prop := fun xs H Q => (∃ i, xs = [.int i] ∧ Q (.int i) H) ∨ ∃ k, xs = [.bl k] ∧ Q (.int (if k then 1 else 0)) H
theorem call_int_u {X : Cx} : CallR X (.type "int") uInt := call_int1
def rRangeV2 : List V → Hp → VK → Prop := fun vs H Q => ∃ i j, vs = [V.int i, V.int j] ∧ ∀ p, H p = none → Q (.ref p) (upd H p (.rng i j))
theorem call_rangeV2 {X : Cx} : CallR X (.type "range") rRangeV2 := cr_range2
def rJoin (K : PySem.W.Frag) : V → List V → Hp → VK → Prop := fun x xs H Q => ∃ a p, ∃ ys : List Str, x = .str a ∧ xs = [.ref p] ∧ (SqL K H p (ys.map V.str) ∨ SqT K H p (ys.map V.str)) ∧ (ys.map (·.length)).sum + ys.length * a.length ≤ 16777216 ∧ Q (.str (Txt.join a ys)) H
theorem mt_uJoin {X : Cx} : MtR X "str.join" (rJoin X.K) := mt_join

/-! ### keywords: where each value goes -/
inductive Pm where
  | pos (i : Nat)
  | key (i : Nat)
def Pm.v (vs zs : List V) : Pm → V
  | .pos i => vs.getD i .non
  | .key i => zs.getD i .non
def Pm.u (us ws : List Value) : Pm → Value
  | .pos i => us.getD i .none
  | .key i => ws.getD i .none
theorem getD_rel : ∀ {vs : List V} {us : List Value}, Vals vs us → ∀ i, RelV (vs.getD i .non) (us.getD i .none)
  | _, _, .nil, i => by
    cases i <;> rfl
  | _, _, .cons r t, 0 => r
  | _, _, .cons r t, i + 1 => by
    have := getD_rel t i
    simpa using this
theorem Pm.rel {vs zs : List V} {us ws : List Value} (r : Vals vs us) (q : Vals zs ws) : ∀ ps : List Pm, Vals (ps.map (Pm.v vs zs)) (ps.map (Pm.u us ws))
  | [] => .nil
  | .pos i :: ps => .cons (getD_rel r i) (Pm.rel r q ps)
  | .key i :: ps => .cons (getD_rel q i) (Pm.rel r q ps)
abbrev KB (K : PySem.W.Frag) (fd : FuncData) (ps : List Str) (n : Nat) (ks : List Str) (pm : List Pm) : Prop := KBn K fd ps n ks (fun us ws => pm.map (Pm.u us ws)) (fun vs zs => pm.map (Pm.v vs zs))
theorem kb_of {K : PySem.W.Frag} {fd : FuncData} {ps : List Str} {n : Nat} {ks : List Str} {pm : List Pm}
    (h : ∀ (us ws : List Value), us.length = n → ws.length = ks.length → bindArgs fd ⟨us, ks.zip ws⟩ = pure (ps.zip (pm.map (Pm.u us ws)))) : KB K fd ps n ks pm :=
  ⟨fun s us ws _ h1 h2 => .of_eq (h us ws h1 h2), fun r q => Pm.rel r q pm⟩
def tKw (sp : Sp) (pm : List Pm) (n m : Nat) (t tk : TA) : TE := tCallN n m sp (fun vs zs => pm.map (Pm.v vs zs)) E0 t tk
section
variable {X : Cx} {CX : CXT} {k n : Nat} {f : Addr} {fd : FuncData} {ps ks : List Str} {sp : Sp} {x : Str} {p pos : Pos} {e : Expr} {es : List Expr} {kws : List Keyword} {t tk : TA} {pm : List Pm}
theorem pe_k1 (F : FnOk X.prog X.w X.K X.mg X.base CX k f fd ps sp) (hr : Room k X.A) (hg : Gl X x) (hm : X.mg x = some (.ref f)) (hk : PySem.W.keepIn X.K (.ref f) = true) (hb : KB X.K fd ps n ks pm) (hx : Passes CX X E0)
    (ha : PA X (e :: es) t) (hkw : PK X kws tk) (hall : (backToKw pos (keywordEach kws X.env)).all (·.1.isSome) = true := by rfl) (hks : (backToKw pos (keywordEach kws X.env)).filterMap (·.1) = ks := by rfl)
    (hdb : (x == ("__debug__" : Str)) = false := by decide) (he : starEach (e :: es) X.env = (false, eval e X.env) :: starEach es X.env := by rfl)
    (hpl : ((backTo pos (starEach (e :: es) X.env)).any (·.1) || (backToKw pos (keywordEach kws X.env)).any (·.1.isNone)) = false := by rfl) :
    PE X (.Call (.Name x p) (e :: es) kws pos) (tKw sp pm n ks.length t tk) := pe_callN F hr hg hm hk hb hx ha hkw hall hks hdb he hpl
end
end SL

/-! SL2: frames, what stands, repr, steps. -/
namespace SL
open PySem PySem.Spec PyProof.Rows L2

/-! ### frames: all that is tracked outside M stands -/
def Ex (M : List Addr) (H H' : Hp) : Prop := ∀ a o, a ∉ M → H a = some o → H' a = some o
section
variable {M M' : List Addr} {K : PySem.W.Frag} {H H' H1 H2 : Hp} {p q b : Addr} {o : HO} {xs : List V}
theorem Ex.refl : Ex M H H := fun _ _ _ h => h
theorem Ex.trans (a : Ex M H H1) (c : Ex M H1 H2) : Ex M H H2 := fun x o m h => c x o m (a x o m h)
theorem Ex.mono (h : ∀ x ∈ M, x ∈ M') (e : Ex M H H') : Ex M' H H' := fun x o m z => e x o (fun y => m (h x y)) z
theorem Ex.nil (e : Ex [] H H') : Ex M H H' := Ex.mono (fun x z => absurd z (List.not_mem_nil)) e
theorem Ex.new (h : H p = none) : Ex M H (upd H p o) := fun a u _ z => by
  rw [upd_ne (ne_of_none z h)]
  exact z
theorem Ex.mut (h : p ∈ M) : Ex M H (upd H p o) := fun a u m z => by
  rw [upd_ne (fun e => m (by rw [e]; exact h))]
  exact z
theorem Ex.free (e : Ex M H H') (h : H' p = none) (hm : p ∉ M) : H p = none := by
  cases z : H p with
  | none => rfl
  | some u =>
    rw [e p u hm z] at h
    cases h
/-- freshness is kept back over a new object -/
theorem free_new (h : (upd H q o) p = none) : H p = none ∧ p ≠ q := by
  by_cases e : p = q
  · rw [e, upd_same] at h
    cases h
  · rw [upd_ne e] at h
    exact ⟨h, e⟩

/-! ### what stands -/
structure Lt (M : List Addr) (K : PySem.W.Frag) (H : Hp) (p : Addr) (xs : List V) : Prop where
  sq : SqL K H p xs
  off : p ∉ M
structure Tp (M : List Addr) (K : PySem.W.Frag) (H : Hp) (p : Addr) (xs : List V) : Prop where
  sq : SqT K H p xs
  off : p ∉ M
structure At (M : List Addr) (H : Hp) (p : Addr) (o : HO) : Prop where
  at_ : H p = some o
  off : p ∉ M
theorem rd_ex {u : HO} (e : Ex M H H') (off : p ∉ M) (h : Rd H p u) : Rd H' p u := by
  rcases h with h | ⟨o, h⟩
  · exact Or.inl (e p _ off h)
  · exact Or.inr ⟨o, e p _ off h⟩
theorem Lt.ex (h : Lt M K H p xs) (e : Ex M H H') : Lt M K H' p xs := ⟨h.sq.imp (rd_ex e h.off) id, h.off⟩
theorem Tp.ex (h : Tp M K H p xs) (e : Ex M H H') : Tp M K H' p xs := ⟨h.sq.imp (rd_ex e h.off) id, h.off⟩
theorem At.ex (h : At M H p o) (e : Ex M H H') : At M H' p o := ⟨e p o h.off h.at_, h.off⟩
theorem At.lt (h : At M H p (.lst xs)) : Lt M K H p xs := ⟨Or.inl (Or.inl h.at_), h.off⟩
theorem At.tp (h : At M H p (.tup xs)) : Tp M K H p xs := ⟨Or.inl (Or.inl h.at_), h.off⟩
theorem Lt.mono (hm : ∀ x ∈ M', x ∈ M) (h : Lt M K H p xs) : Lt M' K H p xs := ⟨h.sq, fun z => h.off (hm p z)⟩
theorem Tp.mono (hm : ∀ x ∈ M', x ∈ M) (h : Tp M K H p xs) : Tp M' K H p xs := ⟨h.sq, fun z => h.off (hm p z)⟩
theorem At.mono (hm : ∀ x ∈ M', x ∈ M) (h : At M H p o) : At M' H p o := ⟨h.at_, fun z => h.off (hm p z)⟩

/-! ### the law's box -/
def Box (b : Addr) (n : Nat) (H : Hp) : Prop := ∃ a s c : Int, H b = some (.lst [.int a, .int s, .int c]) ∧ 0 ≤ a ∧ 0 ≤ s ∧ s < 2147483648 ∧ 0 ≤ c ∧ c ≤ (n : Int)
theorem Box.ex {n : Nat} (h : Box b n H) (e : Ex M H H') (off : b ∉ M) : Box b n H' := by
  obtain ⟨a, s, c, h1, h2⟩ := h
  exact ⟨a, s, c, e b _ off h1, h2⟩
theorem Box.mono {n m : Nat} (h : Box b n H) (hn : n ≤ m) : Box b m H := by
  obtain ⟨a, s, c, h1, h2, h3, h4, h5, h6⟩ := h
  exact ⟨a, s, c, h1, h2, h3, h4, h5, by omega⟩
theorem Box.new {n : Nat} (h : Box b n H) (hp : H p = none) : Box b n (upd H p o) := h.ex (M := []) (Ex.new hp) (List.not_mem_nil)
theorem Box.ne {n : Nat} (h : Box b n H) (hp : H p = none) : p ≠ b := by
  obtain ⟨a, s, c, h1, _⟩ := h
  intro e
  rw [e, h1] at hp
  cases hp
theorem Box.off {n : Nat} (h : Box b n H) (hp : H p = none) : p ∉ [b] := fun z => h.ne hp (List.mem_singleton.mp z)
end

/-! ### data -/
mutual
inductive Rp (M : List Addr) (K : PySem.W.Frag) (H : Hp) : V → PyData → Prop
  | non : Rp M K H .non .none
  | bl (b : Bool) : Rp M K H (.bl b) (.bool b)
  | int (i : Int) : Rp M K H (.int i) (.int i)
  | str (x : Str) : Rp M K H (.str x) (.str x)
  | lst {a : Addr} {xs : List V} {ds : List PyData} : Lt M K H a xs → RpA M K H xs ds → Rp M K H (.ref a) (.list ds)
  | tup {a : Addr} {xs : List V} {ds : List PyData} : Tp M K H a xs → RpA M K H xs ds → Rp M K H (.ref a) (.tuple ds)
inductive RpA (M : List Addr) (K : PySem.W.Frag) (H : Hp) : List V → List PyData → Prop
  | nil : RpA M K H [] []
  | cons {v : V} {vs : List V} {d : PyData} {ds : List PyData} : Rp M K H v d → RpA M K H vs ds → RpA M K H (v :: vs) (d :: ds)
end
section
variable {M M' : List Addr} {K : PySem.W.Frag} {H H' : Hp}
mutual
theorem Rp.ex (e : Ex M H H') : ∀ {v : V} {d : PyData}, Rp M K H v d → Rp M K H' v d
  | _, _, .non => .non
  | _, _, .bl b => .bl b
  | _, _, .int i => .int i
  | _, _, .str x => .str x
  | _, _, .lst h a => .lst (h.ex e) (RpA.ex e a)
  | _, _, .tup h a => .tup (h.ex e) (RpA.ex e a)
theorem RpA.ex (e : Ex M H H') : ∀ {vs : List V} {ds : List PyData}, RpA M K H vs ds → RpA M K H' vs ds
  | _, _, .nil => .nil
  | _, _, .cons h a => .cons (Rp.ex e h) (RpA.ex e a)
end
mutual
theorem Rp.mono (hm : ∀ x ∈ M', x ∈ M) : ∀ {v : V} {d : PyData}, Rp M K H v d → Rp M' K H v d
  | _, _, .non => .non
  | _, _, .bl b => .bl b
  | _, _, .int i => .int i
  | _, _, .str x => .str x
  | _, _, .lst h a => .lst (h.mono hm) (RpA.mono hm a)
  | _, _, .tup h a => .tup (h.mono hm) (RpA.mono hm a)
theorem RpA.mono (hm : ∀ x ∈ M', x ∈ M) : ∀ {vs : List V} {ds : List PyData}, RpA M K H vs ds → RpA M' K H vs ds
  | _, _, .nil => .nil
  | _, _, .cons h a => .cons (Rp.mono hm h) (RpA.mono hm a)
end
mutual
theorem Rp.dp : ∀ {v : V} {d : PyData}, Rp M K H v d → Dp K H v d
  | _, _, .non => .non
  | _, _, .bl b => .bl b
  | _, _, .int i => .int i
  | _, _, .str x => .str x
  | _, _, .lst h a => .lst h.sq (RpA.dp a)
  | _, _, .tup h a => .tup h.sq (RpA.dp a)
theorem RpA.dp : ∀ {vs : List V} {ds : List PyData}, RpA M K H vs ds → DpAll K H vs ds
  | _, _, .nil => .nil
  | _, _, .cons h a => .cons (Rp.dp h) (RpA.dp a)
end
mutual
theorem dp_noDict : ∀ {v : V} {d : PyData}, Dp K H v d → d.hasDict = false
  | _, _, .non => by simp only [PyData.hasDict]
  | _, _, .bl b => by simp only [PyData.hasDict]
  | _, _, .int i => by simp only [PyData.hasDict]
  | _, _, .str x => by simp only [PyData.hasDict]
  | _, _, .lst _ a => by
    simp only [PyData.hasDict]
    exact dpA_noDict a
  | _, _, .tup _ a => by
    simp only [PyData.hasDict]
    exact dpA_noDict a
theorem dpA_noDict : ∀ {vs : List V} {ds : List PyData}, DpAll K H vs ds → PyData.hasDictAll ds = false
  | _, _, .nil => by simp only [PyData.hasDictAll]
  | _, _, .cons h a => by
    simp only [PyData.hasDictAll, Bool.or_eq_false_iff]
    exact ⟨dp_noDict h, dpA_noDict a⟩
end
theorem RpA.bools : ∀ bs : List Bool, RpA M K H (bs.map V.bl) (bs.map PyData.bool)
  | [] => .nil
  | b :: bs => .cons (.bl b) (RpA.bools bs)
theorem RpA.append : ∀ {vs ws : List V} {ds es : List PyData}, RpA M K H vs ds → RpA M K H ws es → RpA M K H (vs ++ ws) (ds ++ es)
  | _, _, _, _, .nil, b => b
  | _, _, _, _, .cons h a, b => .cons h (RpA.append a b)
theorem RpA.strs : ∀ zs : List Str, RpA M K H (zs.map V.str) (zs.map PyData.str)
  | [] => .nil
  | z :: zs => .cons (.str z) (RpA.strs zs)
theorem RpA.ints : ∀ zs : List Int, RpA M K H (zs.map V.int) (zs.map PyData.int)
  | [] => .nil
  | z :: zs => .cons (.int z) (RpA.ints zs)
end

/-! ### repr -/
/-- data whose repr fits -/
structure Shows (d : PyData) : Prop where
  sh : d.showable = true
  ex : ∃ B, 8 ≤ B ∧ d.leavesShort B = true ∧ (B + 2) * d.bulk + B ≤ 16777216
  dp : d.depth ≤ 60
theorem Shows.fits {d : PyData} (h : Shows d) : d.shown.length ≤ sizeLine := by
  obtain ⟨B, h1, h2, h3⟩ := h.ex
  rw [sizeLine_eq]
  exact Nat.le_trans (PyData.shown_le_bulk B h1 d h2) h3
def uRepr (K : PySem.W.Frag) : List V → Hp → VK → Prop := fun xs H Q => ∃ v d, xs = [v] ∧ Dp K H v d ∧ Shows d ∧ Q (.str d.shown) H
theorem call_uRepr {X : Cx} (hg : X.A.guards = some []) (hu : X.A.units + 130 < cLine) : CallR X (.builtin "repr") (uRepr X.K) := by
  intro pins s σ H xs us Q I r h
  obtain ⟨v, d, rfl, hd, sh, q⟩ := h
  obtain ⟨u, rfl, ru⟩ := vals1 r
  obtain ⟨as, rd⟩ := Dp.reads I d v u hd ru
  have nd := dp_noDict hd
  cases hd with
  | non =>
    cases (show u = Value.none from ru)
    rw [PyData.shown_none] at q
    exact PySem.P.repr_of_none ⟨.str _, H, I.tok _, ⟨_, rfl⟩, q⟩
  | bl b =>
    cases (show u = Value.bool b from ru)
    rw [PyData.shown_bool] at q
    refine PySem.P.repr_of_bool ⟨.str _, H, I.tok _, ⟨_, rfl⟩, ?_⟩
    cases b
    · exact q
    · exact q
  | int i =>
    obtain ⟨t, rfl⟩ := ru
    rw [PyData.shown_int] at q
    refine PySem.P.repr_of_int ?_ ⟨.str _, H, I.tok _, ⟨_, rfl⟩, q⟩
    have z := sh.sh
    simp only [PyData.showable, decide_eq_true_eq] at z
    exact z
  | str x =>
    obtain ⟨t, rfl⟩ := ru
    have z := sh.fits
    rw [PyData.shown_str] at q z
    exact PySem.P.repr_of_str ⟨.str _, H, I.tok _, ⟨_, rfl⟩, q⟩ z
  | lst _ _ =>
    cases (show u = Value.ref _ from ru)
    refine repr_of_reads' rd sh.sh (PyData.noDict_hsm nd) hg (by have := sh.dp; omega) (fun _ _ e => e) (fun h' t tk k => ⟨.str _, H, I.kept k, ⟨_, rfl⟩, q⟩) sh.fits
  | tup _ _ =>
    cases (show u = Value.ref _ from ru)
    refine repr_of_reads' rd sh.sh (PyData.noDict_hsm nd) hg (by have := sh.dp; omega) (fun _ _ e => e) (fun h' t tk k => ⟨.str _, H, I.kept k, ⟨_, rfl⟩, q⟩) sh.fits

/-! ### a call by keywords alone -/
section
variable {X : Cx} {CX : CXT} {k n : Nat} {f : Addr} {fd : FuncData} {ps ks : List Str} {sp : Sp} {x : Str} {p pos : Pos} {kws : List Keyword} {tk : TA} {pm : List Pm}
theorem pe_k0 (F : FnOk X.prog X.w X.K X.mg X.base CX k f fd ps sp) (hr : Room k X.A) (hg : Gl X x) (hm : X.mg x = some (.ref f)) (hk : PySem.W.keepIn X.K (.ref f) = true) (hb : KB X.K fd ps 0 ks pm) (hx : Passes CX X E0)
    (hkw : PK X kws tk) (hall : (backToKw pos (keywordEach kws X.env)).all (·.1.isSome) = true := by rfl) (hks : (backToKw pos (keywordEach kws X.env)).filterMap (·.1) = ks := by rfl)
    (hdb : (x == ("__debug__" : Str)) = false := by decide)
    (hpl : ((backTo pos (starEach [] X.env)).any (·.1) || (backToKw pos (keywordEach kws X.env)).any (·.1.isNone)) = false := by rfl) :
    PE X (.Call (.Name x p) [] kws pos) (tKw sp pm 0 ks.length tNil tk) := by
  constructor
  intro pins s σ H Q I h
  refine wpAny_Call_Name_kw (ld_glob I hg hm ?_ hdb)
  refine PySem.W.callWith_KW0 (h₀ := X.base) I.ok.mod.kin hk hall ?_ hpl
  have h : tk σ H fun zs H2 => ([] : List V).length = 0 ∧ zs.length = ks.length ∧ sp (pm.map (Pm.v [] zs)) H2 Q E0 := h
  refine thn (hkw.run pos pins s σ H _ I h) ?_
  rintro ws s2 ⟨zs, H2, I2, rz, l1, l2, q2⟩
  refine ⟨I2.kIn, ?_⟩
  rw [hks]
  exact run_fnN (us := []) (vs := []) F hr hb hx I2 .nil rz rfl l2 q2
end
end SL

/-! SL3: the readings step by step. -/
namespace SL
open PySem PySem.Spec PyProof.Rows L2

section
variable {K : PySem.W.Frag} {σ : L2.St} {H : Hp} {D : Ends} {i j : Nat} {v x y : V} {Q : VK} {ta tb tc te : TE} {t u : TS} {c : TT} {QB : Bool → Hp → Prop} {r r' : R2} {g : TG} {QS : L2.St → Hp → Prop} {tr tk : TA} {QA : List V → Hp → Prop} {R : List V → Hp → VK → Prop}
theorem st_seq (h : t { D with nx := u D } σ H) : tSeq t u D σ H := h
theorem st_asg (h : te σ H fun x H1 => g x σ H1 D.nx) : tAsg te g D σ H := h
theorem st_gn (h : QS (σ.set i (some v)) H) : gName i v σ H QS := h
theorem st_ret (h : te σ H D.rt) : tRet te D σ H := h
theorem st_retN (h : D.rt .non H) : tRetN D σ H := h
theorem st_ifs (h : c σ H fun b H1 => if b = true then t D σ H1 else u D σ H1) : tIfS c t u D σ H := h
theorem st_drop (h : te σ H fun _ H1 => D.nx σ H1) : tDrop te D σ H := h
theorem st_nx (h : D.nx σ H) : tNext D σ H := h
theorem st_par (h : tr σ H fun vs H1 => ∃ v w, vs = [v, w] ∧ D.nx ((σ.set i (some v)).set j (some w)) H1) : tPar i j tr D σ H := h
theorem st_par2 {P : V → V → Prop} {a b : V} (h : P a b) : ∃ v w, [a, b] = [v, w] ∧ P v w := ⟨a, b, rfl, h⟩
theorem st_var (h : σ[i]? = some (some v)) (q : Q v H) : tVar i σ H Q := ⟨v, h, q⟩
theorem st_c (q : Q v H) : tC v σ H Q := q
theorem st_op (h : ta σ H fun x H1 => tb σ H1 fun y H2 => r x y H2 Q) : tOp r ta tb σ H Q := h
theorem st_un {r : V → Hp → VK → Prop} (h : ta σ H fun x H1 => r x H1 Q) : tUn r ta σ H Q := h
theorem st_chain (h : ta σ H fun x H1 => tb σ H1 fun y H2 => r x y H2 fun z H3 => ∃ k, z = .bl k ∧ (if k = true then tc σ H3 fun w' H4 => r' y w' H4 Q else Q (.bl false) H3)) : tChain r r' ta tb tc σ H Q := h
theorem st_test (h : te σ H fun x H' => ∃ k, x = .bl k ∧ QB k H') : tTest te σ H QB := h
theorem st_tB (h : te σ H fun x H' => ∃ k, x = .bl k ∧ QB k H') : tB te σ H QB := h
theorem st_tru (h : te σ H fun x H' => ∃ k, TruV K x H' k ∧ QB k H') : tTruK K te σ H QB := h
theorem st_bl {b : Bool} {P : Bool → Prop} (h : P b) : ∃ k, V.bl b = .bl k ∧ P k := ⟨b, rfl, h⟩
theorem st_trb {b : Bool} {P : Bool → Prop} (h : P b) : ∃ k, TruV K (.bl b) H k ∧ P k := ⟨b, rfl, h⟩
theorem st_tri {z : Int} {P : Bool → Prop} (h : P (z != 0)) : ∃ k, TruV K (.int z) H k ∧ P k := ⟨_, rfl, h⟩
theorem st_trn {P : Bool → Prop} (h : P false) : ∃ k, TruV K .non H k ∧ P k := ⟨_, rfl, h⟩
variable {tt tu : TT}
theorem st_and (h : tt σ H fun c H1 => if c = true then tu σ H1 QB else QB false H1) : tAnd tt tu σ H QB := h
theorem st_or (h : tt σ H fun c H1 => if c = true then QB true H1 else tu σ H1 QB) : tOr tt tu σ H QB := h
theorem st_not (h : tt σ H fun c H1 => QB (!c) H1) : tNot tt σ H QB := h
theorem st_notV (h : ta σ H fun x H1 => ∃ c, x = .bl c ∧ Q (.bl (!c)) H1) : tNotV ta σ H Q := h
theorem st_andV (h : ta σ H fun x H1 => ∃ c, x = .bl c ∧ if c = true then tb σ H1 Q else Q (.bl false) H1) : tAndV ta tb σ H Q := h
theorem st_orV (h : ta σ H fun x H1 => ∃ c, x = .bl c ∧ if c = true then Q (.bl true) H1 else tb σ H1 Q) : tOrV ta tb σ H Q := h
theorem st_if (h : tt σ H fun c H1 => if c = true then ta σ H1 Q else tb σ H1 Q) : tIf tt ta tb σ H Q := h
theorem st_yes (h : QB true H) : tYes σ H QB := h
theorem st_call {sp : Sp} {dvs : List V} {E : XK} (h : tr σ H fun vs H1 => sp (vs ++ dvs) H1 Q E) : tCall sp dvs E tr σ H Q := h
theorem st_kw {sp : Sp} {pm : List Pm} {n m : Nat} (h : tr σ H fun vs H1 => tk σ H1 fun zs H2 => vs.length = n ∧ zs.length = m ∧ sp (pm.map (Pm.v vs zs)) H2 Q E0) : tKw sp pm n m tr tk σ H Q := h
theorem st_cb (h : tr σ H fun vs H1 => R vs H1 Q) : tCB R tr σ H Q := h
theorem st_cons (h : ta σ H fun x H1 => tr σ H1 fun xs H2 => QA (x :: xs) H2) : tCons ta tr σ H QA := h
theorem st_nil (h : QA [] H) : tNil σ H QA := h
theorem st_lst (h : tr σ H fun xs H1 => xs.length ≤ sizeLine ∧ ∀ p, H1 p = none → Q (.ref p) (upd H1 p (.lst xs))) : tLst tr σ H Q := h
theorem st_tup (h : tr σ H fun xs H1 => xs.length ≤ sizeLine ∧ ∀ p, H1 p = none → Q (.ref p) (upd H1 p (.tup xs))) : tTup tr σ H Q := h
theorem st_bm {T : String} {rm : V → List V → Hp → VK → Prop} (h : te σ H fun x H1 => tyV K T x H1 ∧ tr σ H1 fun xs H2 => rm x xs H2 Q) : tBM K T rm te tr σ H Q := h
theorem st_bm0 {T : String} {rm : V → List V → Hp → VK → Prop} (h : te σ H fun x H1 => tyV K T x H1 ∧ rm x [] H1 Q) : tBM0 K T rm te σ H Q := h
theorem st_sl {rs : V → Option Int → Option Int → Hp → VK → Prop} {tl th : TO} (h : te σ H fun x H1 => tl σ H1 fun l H2 => th σ H2 fun u H3 => rs x l u H3 Q) : tSl rs te tl th σ H Q := h
theorem st_part {QO : Option Int → Hp → Prop} (h : te σ H fun x H1 => ∃ i, x = .int i ∧ QO (some i) H1) : tPart te σ H QO := h
theorem st_parti {z : Int} {P : Int → Prop} (h : P z) : ∃ i, V.int z = .int i ∧ P i := ⟨z, rfl, h⟩
theorem st_nopart {QO : Option Int → Hp → Prop} (h : QO none H) : tNoPart σ H QO := h
/-! values -/
variable {m n : Int} {w z : Str} {a b : Addr} {xs ys : List V}
theorem u_add_i (q : Q (.int (m + n)) H) : uAdd K (.int m) (.int n) H Q := Or.inl ⟨m, n, rfl, rfl, q⟩
theorem u_add_s (hl : w.length + z.length ≤ sizeLine) (q : Q (.str (w ++ z)) H) : uAdd K (.str w) (.str z) H Q := Or.inr (Or.inl ⟨w, z, rfl, rfl, hl, q⟩)
theorem u_add_l (h1 : H a = some (.lst xs)) (h2 : H b = some (.lst ys)) (hl : xs.length + ys.length ≤ sizeLine) (q : ∀ p, H p = none → Q (.ref p) (upd H p (.lst (xs ++ ys)))) : uAdd K (.ref a) (.ref b) H Q :=
  Or.inr (Or.inr (Or.inl ⟨a, b, xs, ys, rfl, rfl, h1, h2, hl, q⟩))
theorem u_add_t (h1 : SqT K H a xs) (h2 : SqT K H b ys) (hl : xs.length + ys.length ≤ sizeLine) (q0 : xs = [] → Q (.ref b) H) (q1 : xs ≠ [] → ys = [] → Q (.ref a) H) (q : xs ≠ [] → ys ≠ [] → ∀ p, H p = none → Q (.ref p) (upd H p (.tup (xs ++ ys)))) : uAdd K (.ref a) (.ref b) H Q :=
  Or.inr (Or.inr (Or.inr ⟨a, b, xs, ys, rfl, rfl, h1, h2, hl, q0, q1, q⟩))
theorem u_sub (q : Q (.int (m - n)) H) : rSub (.int m) (.int n) H Q := ⟨m, n, rfl, rfl, q⟩
theorem u_mul (h : CMulW m n) (q : Q (.int (m * n)) H) : uMul K (.int m) (.int n) H Q := Or.inl ⟨m, n, rfl, rfl, h, q⟩
theorem u_mul_l (h1 : H a = some (.lst xs)) (hn : 0 ≤ n) (hn2 : n < 2 ^ 63) (hl : xs.length * n.toNat ≤ sizeLine) (q : ∀ p, H p = none → Q (.ref p) (upd H p (.lst (List.replicate n.toNat xs).flatten))) : uMul K (.ref a) (.int n) H Q :=
  Or.inr (Or.inl ⟨a, n, xs, rfl, rfl, h1, by omega, hn2, hl, q⟩)
theorem u_mod (h : n ≠ 0) (q : Q (.int (m.fmod n)) H) : rMod (.int m) (.int n) H Q := ⟨m, n, rfl, rfl, h, q⟩
theorem u_modp (h : 0 < n) (q : Q (.int (m % n)) H) : rMod (.int m) (.int n) H Q := ⟨m, n, rfl, rfl, by omega, by
  show Q (.int (m.fmod n)) H
  rw [Int.fmod_eq_emod_of_nonneg m (by omega)]
  exact q⟩
theorem u_div (h : CDivW m n) (q : Q (.int (m / n)) H) : rDiv (.int m) (.int n) H Q := ⟨m, n, rfl, rfl, h, q⟩
theorem u_pow (h : CPow m n) (q : Q (.int (m ^ n.toNat)) H) : rPow (.int m) (.int n) H Q := ⟨m, n, rfl, rfl, h, q⟩
theorem u_neg (q : Q (.int (-m)) H) : rNeg (.int m) H Q := ⟨m, rfl, q⟩
theorem u_eq_i (q : Q (.bl (decide (m = n))) H) : uEq K (.int m) (.int n) H Q := Or.inl ⟨rfl, by
  have e : decide (V.int m = V.int n) = decide (m = n) := by simp
  rw [e]
  exact q⟩
theorem u_ne_i (q : Q (.bl (!decide (m = n))) H) : uNe K (.int m) (.int n) H Q := Or.inl ⟨rfl, by
  have e : decide (V.int m = V.int n) = decide (m = n) := by simp
  rw [e]
  exact q⟩
theorem u_eq_s (q : Q (.bl (decide (w = z))) H) : uEq K (.str w) (.str z) H Q := Or.inl ⟨rfl, by
  have e : decide (V.str w = V.str z) = decide (w = z) := by simp
  rw [e]
  exact q⟩
theorem u_ne_s (q : Q (.bl (!decide (w = z))) H) : uNe K (.str w) (.str z) H Q := Or.inl ⟨rfl, by
  have e : decide (V.str w = V.str z) = decide (w = z) := by simp
  rw [e]
  exact q⟩
theorem u_eq_d {d e : PyData} (h1 : Dp K H x d) (h2 : Dp K H y e) (s1 : SeqAt.shaped d = true) (s2 : SeqAt.shaped e = true) (q : Q (.bl (PyData.eqv d e)) H) : uEq K x y H Q := Or.inr ⟨d, e, h1, h2, s1, s2, q⟩
theorem u_ne_d {d e : PyData} (h1 : Dp K H x d) (h2 : Dp K H y e) (s1 : SeqAt.shaped d = true) (s2 : SeqAt.shaped e = true) (q : Q (.bl (!PyData.eqv d e)) H) : uNe K x y H Q := Or.inr ⟨d, e, h1, h2, s1, s2, q⟩
theorem u_lt_i (q : Q (.bl (decide (m < n))) H) : uLt K (.int m) (.int n) H Q := Or.inl ⟨m, n, rfl, rfl, q⟩
theorem u_lt_s (q : Q (.bl (decide (w.cps.toList < z.cps.toList))) H) : uLt K (.str w) (.str z) H Q := Or.inr (Or.inl ⟨w, z, rfl, rfl, q⟩)
theorem u_le_i (q : Q (.bl (decide (m ≤ n))) H) : uLe (.int m) (.int n) H Q := ⟨m, n, rfl, rfl, q⟩
theorem u_gt_i (q : Q (.bl (decide (n < m))) H) : rGt (.int m) (.int n) H Q := ⟨m, n, rfl, rfl, q⟩
theorem u_ge_i (q : Q (.bl (decide (n ≤ m))) H) : rGe (.int m) (.int n) H Q := ⟨m, n, rfl, rfl, q⟩
theorem u_is (q : Q (.bl (decide (x = .non))) H) : uIs x .non H Q := ⟨rfl, q⟩
theorem u_isnt (q : Q (.bl (!decide (x = .non))) H) : uIsnt x .non H Q := ⟨rfl, q⟩
theorem u_in_s {c : Nat} (q : Q (.bl (decide (c ∈ z.cps.toList))) H) : uIn K (.str ⟨#[c]⟩) (.str z) H Q := Or.inl ⟨c, z, rfl, rfl, q⟩
theorem u_ni_s {c : Nat} (q : Q (.bl (!decide (c ∈ z.cps.toList))) H) : uNi K (.str ⟨#[c]⟩) (.str z) H Q := Or.inl ⟨c, z, rfl, rfl, q⟩
theorem u_in_l (h : SqL K H b ys ∨ SqT K H b ys) (fx : flatV x = true) (fy : ys.all flatV = true) (q : Q (.bl (inV x ys)) H) : uIn K x (.ref b) H Q := Or.inr (Or.inl ⟨b, ys, rfl, h, fx, fy, q⟩)
theorem u_ni_l (h : SqL K H b ys ∨ SqT K H b ys) (fx : flatV x = true) (fy : ys.all flatV = true) (q : Q (.bl (!inV x ys)) H) : uNi K x (.ref b) H Q := Or.inr ⟨b, ys, rfl, h, fx, fy, q⟩
theorem u_in_r {lo hi : Int} (h : H b = some (.rng lo hi)) (q : Q (.bl (decide (lo ≤ m ∧ m < hi))) H) : uIn K (.int m) (.ref b) H Q := Or.inr (Or.inr ⟨m, b, lo, hi, rfl, rfl, h, q⟩)
theorem u_ix_l (h : SqL K H a xs) (e : atI xs n = some v) (q : Q v H) : uIx K (.ref a) (.int n) H Q := Or.inl ⟨a, xs, n, v, rfl, rfl, h, e, q⟩
theorem u_ix_t (h : SqT K H a xs) (e : atI xs n = some v) (q : Q v H) : uIx K (.ref a) (.int n) H Q := Or.inr (Or.inl ⟨a, xs, n, v, rfl, rfl, h, e, q⟩)
theorem u_ix_s {c : Nat} (hl : w.length ≤ sizeLine) (e : atI w.cps.toList n = some c) (q : Q (.str ⟨#[c]⟩) H) : uIx K (.str w) (.int n) H Q := Or.inr (Or.inr ⟨w, n, c, rfl, rfl, hl, e, q⟩)
theorem u_sl_s {lo hi : Option Int} (hl : w.length ≤ sizeLine) (q : Q (.str (cutS w lo hi)) H) : uSl K (.str w) lo hi H Q := Or.inl ⟨w, rfl, hl, q⟩
theorem u_sl_l {lo hi : Option Int} (h : SqL K H a xs) (q : ∀ p, H p = none → Q (.ref p) (upd H p (.lst (cutV xs lo hi)))) : uSl K (.ref a) lo hi H Q := Or.inr (Or.inl ⟨a, xs, rfl, h, q⟩)
theorem u_len_q (h : SqL K H a xs ∨ SqT K H a xs) (q : Q (.int xs.length) H) : uLen K [.ref a] H Q := Or.inl ⟨a, xs, rfl, h, q⟩
theorem u_len_s (hl : w.length ≤ sizeLine) (q : Q (.int w.length) H) : uLen K [.str w] H Q := Or.inr ⟨.str w, w.length, rfl, ⟨hl, rfl⟩, q⟩
theorem u_max2 (q : Q (.int (if n > m then n else m)) H) : rMax2 [.int m, .int n] H Q := ⟨m, n, rfl, q⟩
theorem u_min2 (q : Q (.int (if n < m then n else m)) H) : rMin2 [.int m, .int n] H Q := ⟨m, n, rfl, q⟩
theorem u_all {bs : List Bool} (h : SqL K H a (bs.map V.bl)) (q : Q (.bl (bs.all id)) H) : rAllL K [.ref a] H Q := ⟨a, bs, rfl, h, q⟩
theorem u_any {bs : List Bool} (h : SqL K H a (bs.map V.bl)) (q : Q (.bl (bs.any id)) H) : rAnyL K [.ref a] H Q := ⟨a, bs, rfl, h, q⟩
theorem u_repr {d : PyData} (h : Dp K H x d) (s : Shows d) (q : Q (.str d.shown) H) : uRepr K [x] H Q := ⟨x, d, rfl, h, s, q⟩
theorem u_str_i (h : m.natAbs.log2 < 1920) (q : Q (.str (toString m)) H) : uStr K [.int m] H Q := Or.inl ⟨m, rfl, h, q⟩
theorem u_str_s (q : Q (.str w) H) : uStr K [.str w] H Q := Or.inr ⟨w, rfl, q⟩
theorem u_list (h : SqL K H a xs ∨ SqT K H a xs) (q : ∀ p, H p = none → Q (.ref p) (upd H p (.lst xs))) : uList K [.ref a] H Q := ⟨a, xs, rfl, h, q⟩
theorem u_tuple (h : SqL K H a xs) (q : ∀ p, H p = none → Q (.ref p) (upd H p (.tup xs))) : uTuple K [.ref a] H Q := ⟨a, xs, rfl, Or.inl ⟨h, q⟩⟩
theorem u_rng (q : ∀ p, H p = none → Q (.ref p) (upd H p (.rng m n))) : rRangeV2 [.int m, .int n] H Q := ⟨m, n, rfl, q⟩
theorem u_isi {c : V} {t u : Value} {k : Bool} (hc : ClsV c u) (ht : TyX K H x t) (e : PySem.W.kitOne K t u = some k) (q : Q (.bl k) H) : uIsi K [x, c] H Q := Or.inl ⟨x, c, t, u, k, rfl, hc, ht, e, q⟩
end
/-- a test's two ways -/
theorem ite_d {p : Prop} [Decidable p] {A B : Prop} (h1 : p → A) (h2 : ¬ p → B) : if decide p = true then A else B := by
  by_cases h : p
  · rw [decide_eq_true h, if_pos rfl]
    exact h1 h
  · rw [decide_eq_false h, if_neg Bool.false_ne_true]
    exact h2 h
theorem ite_nd {p : Prop} [Decidable p] {A B : Prop} (h1 : ¬ p → A) (h2 : p → B) : if (!decide p) = true then A else B := by
  by_cases h : p
  · rw [decide_eq_true h]
    show if false = true then A else B
    rw [if_neg Bool.false_ne_true]
    exact h2 h
  · rw [decide_eq_false h]
    show if true = true then A else B
    rw [if_pos rfl]
    exact h1 h
theorem ite_b {b : Bool} {A B : Prop} (h1 : b = true → A) (h2 : b = false → B) : if b = true then A else B := by
  cases b
  · rw [if_neg Bool.false_ne_true]
    exact h2 rfl
  · rw [if_pos rfl]
    exact h1 rfl
theorem ite_nb {b : Bool} {A B : Prop} (h1 : b = false → A) (h2 : b = true → B) : if (!b) = true then A else B := by
  cases b
  · show if true = true then A else B
    rw [if_pos rfl]
    exact h1 rfl
  · show if false = true then A else B
    rw [if_neg Bool.false_ne_true]
    exact h2 rfl
end SL

/-! SL4: isinstance of defs and of exceptions; exceptions made as values. -/
namespace SL
open PySem PySem.Spec PyProof.Rows L2
/-- a kind whose things are looked at by object's own `__getattribute__`, and whose class is told by object's `__class__` -/
structure Tells (T : String) : Prop where
  ga : Slot T "__getattribute__" "object.__getattribute__"
  cls : typeLookup (.type T) "__class__" = pure (some (.builtin "object.__class__"))
  other : (Value.type T == Value.type "builtin_function_or_method") = false
  low : isSubtype (.type T) (.type (".".intercalate ("object.__class__".cutAt '.').dropLast)) = pure true
theorem ga_entry : entryFor table "object.__getattribute__" = some Builtin.«object.__getattribute__» := entryFor_of_tree (by kernel_rfl)
theorem ga_args (a b : Value) : argsOk "object.__getattribute__" ⟨[a, b], []⟩ := by unfold argsOk; kernel_rfl
section
variable {prog : Program} {w : World} {A : Around} {E : Value → Shared → Prop} {s : Shared} {a : Addr} {T : String}
/-- object's `__class__` tells the type -/
theorem Tells.descr (W : Tells T) {R : Result → Shared → Prop} (ty : s.TypeIs (.ref a) T) (q : R (.ok (.ret (.type T))) s) : codeAny (model prog w) A (.call (.builtin "getset_descriptor.__get__") ⟨[.builtin "object.__class__", .ref a, .type T], []⟩) R s := by
  have kind : s.TypeIs (.builtin "object.__class__") "getset_descriptor" := PySem.F.typeOf_object_class
  have low := W.low
  obtain ⟨o, at_, cl⟩ := id ty
  rcases s with ⟨o1, o2, o3, o4, o5⟩
  refine codeAny_call_builtin PySem.F.slot_gs_get.plain PySem.F.entry_gs_get (PySem.F.slot_gs_get.check _ _ _ _ _ _ _ _ kind (PySem.F.args_gs_get _ _ _) ?_)
  repeat (any_goals (first | assumption | wp_step))
  refine ⟨Code.quiet_builtin _ (by decide +kernel), codeAny_builtin PySem.F.entry_object_class ?_⟩
  repeat (any_goals (first | assumption | wp_step))
  rw [W.other]
  repeat (any_goals (first | assumption | wp_step))
/-- so x.__class__ is the type -/
theorem Tells.attr (W : Tells T) {Q : Option Value → Shared → Prop} (ty : s.TypeIs (.ref a) T) (q : Q (some (.type T)) { s with toks := s.toks + 1 }) : wpAny (model prog w) A (getAttr? (.ref a) "__class__") Q E s := by
  have ga := W.ga.lookup
  have bd := W.ga.bind (.ref a)
  have cls := W.cls
  have kind := PySem.F.typeOf_object_class
  have g1 := PySem.F.slot_gs_get.lookup
  have g2 := PySem.F.slot_gs_set.lookup
  have read : ∀ {A' : Around} {tk : Tok} {R : Result → Shared → Prop} {s' : Shared}, s'.TypeIs (.ref a) T → R (.ok (.ret (.type T))) s' → codeAny (model prog w) A' (.call (.builtin "object.__getattribute__") ⟨[.ref a, .str "__class__" tk], []⟩) R s' := by
    intro A' tk R s' ty q
    refine codeAny_call_builtin W.ga.plain ga_entry (W.ga.check _ _ _ _ _ _ _ _ ty (ga_args _ _) ?_)
    obtain ⟨o, at_, cl⟩ := id ty
    rcases s' with ⟨o1, o2, o3, o4, o5⟩
    repeat (any_goals (first | assumption | wp_step))
    refine W.descr ty ?_
    repeat (any_goals (first | assumption | wp_step))
  rcases s with ⟨o1, o2, o3, o4, o5⟩
  have by_ : ∀ {tk : Tok} {Q : Value → Shared → Prop} {E : Value → Shared → Prop}, Q (.type T) ⟨o1, o2, o3, o4 + 1, o5⟩ → wpAny (model prog w) A (getAttrBy (.ref a) (.str "__class__" tk) false) Q E ⟨o1, o2, o3, o4 + 1, o5⟩ := by
    intro tk Q E q
    have ty' : (⟨o1, o2, o3, o4 + 1, o5⟩ : Shared).TypeIs (.ref a) T := ty
    repeat (any_goals (first | assumption | wp_step))
    refine read ty ?_
    repeat (any_goals (first | assumption | wp_step))
  unfold getAttr? getAttrBy?
  repeat (any_goals (first | assumption | with_reducible apply by_ | wp_step))
end
theorem fn_tells : Tells "function" where
  ga := .of (owner := "object") (n := "__getattribute__") (by rw [typeLookup_type, builtinLookup_eq_fast]; kernel_rfl) (by decide +kernel) (by decide +kernel) (by decide +kernel) (by first | exact .inl (by decide +kernel) | exact .inr (by decide +kernel)) (by rw [isSubtype_type]; kernel_rfl)
  cls := by rw [typeLookup_type, builtinLookup_eq_fast]; kernel_rfl
  other := rfl
  low := by rw [PySem.F.owner_object_class, isSubtype_type]; kernel_rfl
theorem kit_fn {K : PySem.W.Frag} {a : Addr} : PySem.W.KitX K (.ref a) (.type "function") (PySem.W.KitAt a "function") :=
  PySem.W.kitx_of PySem.W.kitAt_ty (fun {_ _ _ _ _ s} p k => fn_tells.attr p k)
end SL

namespace SL
open PySem PySem.Spec PyProof.Rows L2
/-! ### kinds for isinstance -/
/-- what the written part says of an own exception class, for isinstance -/
def isiB (K : PySem.W.Frag) (C : Addr) : Bool := (PySem.W.clsIn K C).isSome && (decide (PySem.W.findIn K (.ref C) "__getattribute__" = some (some (.builtin "BaseException.__getattribute__"))) && ((PySem.W.findIn K (.ref C) "__getattr__").isSome &&
  (decide (PySem.W.subIn K (.ref C) (.type "BaseException") = some true) && (decide (PySem.W.findIn K (.ref C) "__class__" = some (some (.builtin "object.__class__"))) && (decide (PySem.W.specialIn K (.builtin "object.__class__") "__get__" = some (some (.builtin "getset_descriptor.__get__"))) &&
  (decide (PySem.W.takesIn K (.builtin "object.__class__") = some true) && decide (PySem.W.mroIn K C (.type "object") = some true)))))))
inductive TyY (K : PySem.W.Frag) (H : Hp) : V → Value → Prop where
  | base {x : V} {t : Value} (h : TyX K H x t) : TyY K H x t
  | fn {a : Addr} {o : Obj} (e : K.lookup a = some o) (c : o.cls = .type "function") : TyY K H (.ref a) (.type "function")
  | exc {a C dx : Addr} (e : H a = some (exo a C (some dx))) (fs : List (Str × V)) (d : H dx = some (exd dx fs)) (b : isiB K C = true) : TyY K H (.ref a) (.ref C)
theorem kit_y {X : Cx} {pins : List (Addr × Obj)} {σ : L2.St} {H : Hp} {s : Shared} {x : V} {u t : Value} (I : Inv X pins σ H s) (rx : RelV x u) (ty : TyY X.K H x t) :
    ∃ P : Heap → Prop, PySem.W.KitX X.K u t P ∧ P s.heap ∧ u ≠ .builtin "__main__.__loader__#opaque" := by
  cases ty with
  | base h => exact kit_of I rx h
  | @fn a o e c =>
    cases (show u = Value.ref a from rx)
    exact ⟨_, kit_fn, ⟨o, I.kIn _ _ e, c⟩, fun z => nomatch z⟩
  | @exc a C dx e fs hd b =>
    cases (show u = Value.ref a from rx)
    simp only [isiB, Bool.and_eq_true, decide_eq_true_eq] at b
    obtain ⟨b1, b2, b3, b4, b5, b6, b7, b8⟩ := b
    obtain ⟨gt, b3⟩ := Option.isSome_iff_exists.mp b3
    obtain ⟨t1, ho⟩ := exo_at I.hok e
    obtain ⟨mA, ⟨oD, es, ep, hD, _⟩, _⟩ := exd_at I.hok hd
    refine ⟨_, PySem.W.kitx_exc (od := some oD) b1 b2 b3 b4 b5 b6 b7 b8, (show PySem.W.InstAt s.heap a { cls := .ref C, dict := some dx, data := .fields #[.ref t1, .none, .none, .none, .bool false, .none] } C (some oD) from ⟨ho, rfl, rfl, hD⟩), fun z => nomatch z⟩
def rIsiY (K : PySem.W.Frag) : List V → Hp → VK → Prop := fun xs H Q => ∃ (x c : V) (t u : Value) (b : Bool), xs = [x, c] ∧ ClsV c u ∧ TyY K H x t ∧ PySem.W.kitOne K t u = some b ∧ Q (.bl b) H
def rIsiYT (K : PySem.W.Frag) : List V → Hp → VK → Prop := fun xs H Q => ∃ (x : V) (tp : Addr) (cs : List V) (t : Value) (us : List Value) (b : Bool), xs = [x, .ref tp] ∧ H tp = some (.tup cs) ∧ Paired ClsV cs us ∧ TyY K H x t ∧ PySem.W.kitAny K t us = some b ∧ Q (.bl b) H
section
variable {X : Cx}
theorem call_isiY : CallR X (.builtin "isinstance") (rIsiY X.K) := by
  rintro pins s σ H _ us Q I r ⟨x, c, t, u, b, rfl, k, ty, told, q⟩
  obtain ⟨v, w, rfl, rv, rw⟩ := vals2 r
  obtain rfl := k.eq rw
  obtain ⟨P, Z, p, far⟩ := kit_y I rv ty
  exact PySem.W.kia_one Z I.kIn p told far fun tk => ⟨.bl b, H, I.tok tk, rfl, q⟩
theorem call_isiYT : CallR X (.builtin "isinstance") (rIsiYT X.K) := by
  rintro pins s σ H _ us Q I r ⟨x, tp, cs, t, ws, b, rfl, tup, k, ty, told, q⟩
  obtain ⟨v, w, rfl, rv, rw⟩ := vals2 r
  obtain rfl : w = .ref tp := rw
  obtain ⟨P, Z, p, far⟩ := kit_y I rv ty
  obtain ⟨_, its, rs, ⟨oc, od, dt, sl⟩, at_, cl, ep, seq⟩ := (show ObjOk X.prog X.w H s.heap tp (.tup cs) from I.hok tp _ tup)
  obtain rfl : oc = .type "tuple" := cl
  obtain rfl : dt = .seq its.toArray ep := seq
  obtain rfl := ClsV.all k rs
  exact PySem.W.kia_tup Z I.kIn p at_ told far fun tk => ⟨.bl b, H, I.tok tk, rfl, q⟩
def vIsi (K : PySem.W.Frag) : List V → Hp → VK → Prop := fun xs H Q => rIsiY K xs H Q ∨ rIsiYT K xs H Q
theorem call_vIsi : CallR X (.builtin "isinstance") (vIsi X.K) := call_isiY.or call_isiYT
end
section
variable {K : PySem.W.Frag} {H : Hp} {x c : V} {t u : Value} {k : Bool} {Q : VK}
theorem v_isi (hc : ClsV c u) (ht : TyY K H x t) (e : PySem.W.kitOne K t u = some k) (q : Q (.bl k) H) : vIsi K [x, c] H Q := Or.inl ⟨x, c, t, u, k, rfl, hc, ht, e, q⟩
theorem v_isiT {tp : Addr} {cs : List V} {us : List Value} (h : H tp = some (.tup cs)) (hc : Paired ClsV cs us) (ht : TyY K H x t) (e : PySem.W.kitAny K t us = some k) (q : Q (.bl k) H) : vIsi K [x, .ref tp] H Q := Or.inr ⟨x, tp, cs, t, us, k, rfl, h, hc, ht, e, q⟩
end
end SL

/-! SL5: the package's exceptions: how they are made, their fields. -/
namespace SL
open PySem PySem.Spec PyProof.Rows L2
/-! ### looks -/
/-- the class object at C is one of an exception above ValueError, in own classes and ValueError's -/
def clsVE (K : PySem.W.Frag) (C : Addr) : Bool := match K.lookup C with
  | some ⟨.type "type", _, .cls ⟨_, _, .ref C' :: bm, _, _, true, _, _, _, _, false⟩, ⟨[_, _, _, _, some (.builtin n), _]⟩⟩ => (C' == C && n == "ValueError.__new__") && PySem.HandSPX.refsVE bm
  | _ => false
theorem clsVE_ok {K : PySem.W.Frag} {C : Addr} (h : clsVE K C = true) : ∃ nm q N bs bm sn sub ab col dd k0 k1 k2 k3 k5, K.lookup C = some (excClassObj nm q C N bs bm true sn sub ab col dd k0 k1 k2 k3 k5 "ValueError.__new__") ∧ PySem.HandSPX.refsVE bm = true := by
  unfold clsVE at h
  split at h
  · next e =>
    simp only [Bool.and_eq_true, beq_iff_eq] at h
    obtain ⟨⟨rfl, rfl⟩, low⟩ := h
    exact ⟨_, _, _, _, _, _, _, _, _, _, _, _, _, _, _, e, low⟩
  · cases h
def oexB (K : PySem.W.Frag) (C : Addr) : Bool := clsVE K C && (decide (PySem.W.findIn K (.ref C) "__setattr__" = some (some (.builtin "object.__setattr__"))) && (decide (PySem.W.subIn K (.ref C) (.type "BaseException") = some true) &&
  (decide (PySem.W.typeIn K (.ref C) = some (.type "type")) && PySem.W.keepIn K (.ref C))))
theorem oexB_ok {K : PySem.W.Frag} {C : Addr} (h : oexB K C = true) : OexC K C := by
  simp only [oexB, Bool.and_eq_true, decide_eq_true_eq] at h
  exact ⟨clsVE_ok h.1, h.2.1, h.2.2.1, h.2.2.2.1, h.2.2.2.2⟩
/-- reading __init__ off the own base class at S -/
def baseB (K : PySem.W.Frag) (S : Addr) : Bool := PySem.W.readsIn K S (.type "type") && ((match PySem.W.findCls K (.ref S) (.type "type") "__init__" with
  | some (.val (.builtin n)) => decide (n = "ValueError.__init__")
  | _ => false) && decide (PySem.W.specialIn K (.ref S) "__getattribute__" = some (some (.builtin "type.__getattribute__"))))
/-- how C's own __init__ is found -/
def initB (K : PySem.W.Frag) (C : Addr) : Bool := decide (PySem.W.findIn K (.ref C) "__init__" = some (some (.ref (He.ma K C "__init__")))) && decide (PySem.W.typeIn K (.ref (He.ma K C "__init__")) = some (.type "function"))

theorem baseB_ok {K : PySem.W.Frag} {S : Addr} (b : baseB K S = true) : PySem.W.readsIn K S (.type "type") = true ∧ PySem.W.findCls K (.ref S) (.type "type") "__init__" = some (.val (.builtin "ValueError.__init__")) ∧ PySem.W.specialIn K (.ref S) "__getattribute__" = some (some (.builtin "type.__getattribute__")) := by
  unfold baseB at b
  rcases e : PySem.W.findCls K (.ref S) (.type "type") "__init__" with _ | y
  · rw [e] at b; simp at b
  · rw [e] at b
    split at b
    · next n q => cases q; simp only [Bool.and_eq_true, decide_eq_true_eq] at b; exact ⟨b.1, by rw [b.2.1], b.2.2⟩
    · simp at b
theorem initB_ok {K : PySem.W.Frag} {C : Addr} (b : initB K C = true) : PySem.W.findIn K (.ref C) "__init__" = some (some (.ref (He.ma K C "__init__"))) ∧ PySem.W.typeIn K (.ref (He.ma K C "__init__")) = some (.type "function") := by
  simpa only [initB, Bool.and_eq_true, decide_eq_true_eq] using b

/-! ### SearchError.__init__(self, ..) -/
section
variable {X : Cx} {e : Expr} {es : List Expr} {ta : TA} {x : Str} {S : Addr} {p1 p2 pos : Pos}
theorem pe_sinit {pl : Sem Bool} (hg : Gl X x) (hm : X.mg x = some (.ref S)) (b : baseB X.K S = true) (ha : PA X (e :: es) ta) (hdb : (x == ("__debug__" : Str)) = false := by decide)
    (hc : eval (.Call (.Attribute (.Name x p1) "__init__" p2) (e :: es) [] pos) X.env = (do
      let ov ← eval (.Name x p1) X.env
      standAt p2.atName
      let (f, first) ← holding [ov] (getMethod ov "__init__" pl)
      callWith pos f first (backTo pos (starEach (e :: es) X.env)) (backToKw pos (keywordEach [] X.env))) := by rfl)
    (he : starEach (e :: es) X.env = (false, eval e X.env) :: starEach es X.env := by rfl) (hpl : (backTo pos (starEach es X.env)).any (·.1) = false := by rfl) :
    PE X (.Call (.Attribute (.Name x p1) "__init__" p2) (e :: es) [] pos) (tVeI X.K ta) := by
  obtain ⟨b1, b2, b3⟩ := baseB_ok b
  refine ⟨fun pins s σ H Q I h => PySem.W.methodCall_KW (ld_glob I hg hm (PySem.W.method_cls I.kIn b3 (PySem.W.cls_value I.kIn b1 b2 (by decide +kernel) ?_)) hdb) hc⟩
  refine PyProof.Rows.callWith_method1 (id := "ValueError.__init__") (thn (ha.run pos pins _ σ H _ (I.tok _) h) ?_) he hpl
  rintro _ s1 ⟨_, H1, I1, rs, a, C, ws, rfl, few, T, raw, q⟩
  cases rs with
  | cons ra rw =>
    cases ra
    exact oinit_ok T I1 raw (rw.length ▸ Nat.le_trans few (by decide)) fun s' J => ⟨.non, H1, J, rfl, q⟩
end
/-! ### C(e, ..) as a value -/
/-- what __init__ of a one-field exception promises -/
def spX (K : PySem.W.Frag) (C : Addr) (f : Str) : Sp := fun vs H Q _ => ∃ (a : Addr) (v : V), vs = [.ref a, v] ∧ H a = some (exo a C none) ∧ ∀ dx, H dx = none → dx ≠ a → Q .non (upd (upd H dx (exd dx [(f, v)])) a (exo a C (some dx)))
def tExcV (C : Addr) (sp : Sp) (ta : TA) : TE := fun σ H Q => ta σ H fun vs H1 => vs.length ≤ 1000 ∧ ∀ a, H1 a = none → sp (.ref a :: vs) (upd H1 a (exo a C none)) (fun v H2 => v = .non ∧ Q (.ref a) H2) E0
/-- the heap with a new error of the class C: what it was given, and the error -/
def newErr (C : Addr) (us : List Value) (s : Shared) : Shared := { s with heap := (s.heap.push (PySem.W.kdv_tup us)).push (PySem.HandSPX.excO C s.heap.objs.size) }
theorem newErr_grown {C : Addr} {us : List Value} {s : Shared} (b : Addr) (o : Obj) (at_ : s.heap.get? b = some o) : (newErr C us s).heap.get? b = some o := Heap.get?_push_of_some _ (Heap.get?_push_of_some _ at_)
section
variable {X : Cx} {pins : List (Addr × Obj)} {σ : L2.St} {H : Hp} {s : Shared} {C fI : Addr} {us : List Value} {vs : List V}
theorem newErr_free (I : Inv X pins σ H s) : H (s.heap.objs.size + 1) = none := I.hok.fresh (Nat.le_succ _)
theorem newErr_inv (I : Inv X pins σ H s) : Inv X pins σ (upd H (s.heap.objs.size + 1) (exo (s.heap.objs.size + 1) C none)) (newErr C us s) :=
  I.laid (t' := s.toks) newErr_grown (Nat.le_succ _) (exo_ok (by show Heap.get? _ _ = _; heap_get))
/-- the class's own __init__ runs on the new error -/
theorem newErr_init {CX : CXT} {k : Nat} {sp : Sp} {Q : VK} {E : XK} {R : Result → Shared → Prop} (I : Inv X pins σ H s) (r : Vals vs us) (F : FnR X.prog X.w X.K X.mg X.base CX k fI sp) (room : Room (k + 1) X.A)
    (q : sp (.ref (s.heap.objs.size + 1) :: vs) (upd H (s.heap.objs.size + 1) (exo (s.heap.objs.size + 1) C none)) Q E)
    (to : ∀ r s', CR CX X.stack X.prog X.w (upd H (s.heap.objs.size + 1) (exo (s.heap.objs.size + 1) C none)) (newErr C us s) Q E r s' → R r s') :
    codeAny (model X.prog X.w) (X.A.under (.builtin "type.__call__" ⟨.ref C :: us, []⟩)) (.call (.ref fI) ⟨.ref (s.heap.objs.size + 1) :: us, []⟩) R (newErr C us s) :=
  codeAny_mono (F _ X.stack _ _ (.ref (s.heap.objs.size + 1) :: us) (.ref (s.heap.objs.size + 1) :: vs) Q E (room.make C us []) ((newErr_inv I).env0.make C us []) (.cons rfl r) q) to
theorem few_args (r : Vals vs us) (few : vs.length ≤ 1000) : us.length ≤ sizeLine := r.length ▸ Nat.le_trans few (by decide)
end
section
variable {X : Cx} {CX : CXT} {x : Str} {C fI : Addr} {k : Nat} {fd : FuncData} {ps : List Str} {sp : Sp} {p pos : Pos} {e : Expr} {es : List Expr} {ta : TA}
theorem pe_excV (T : OexC X.K C) (ib : initB X.K C = true) (F1 : FnOk X.prog X.w X.K X.mg X.base CX0 k (He.ma X.K C "__init__") fd ps sp) (hr : Room (k + 1) X.A) (hb : Binds X.K fd ps []) (hg : Gl X x) (hm : X.mg x = some (.ref C)) (ha : PA X (e :: es) ta)
    (hdb : (x == ("__debug__" : Str)) = false := by decide) (he : starEach (e :: es) X.env = (false, eval e X.env) :: starEach es X.env := by rfl) (hpl : (backTo pos (starEach es X.env)).any (·.1) = false := by rfl) :
    PE X (.Call (.Name x p) (e :: es) [] pos) (tExcV C sp ta) := by
  obtain ⟨found, fn⟩ := initB_ok ib
  obtain ⟨nm, q, N, bs, bm, sn, sub, ab, col, dd, k0, k1, k2, k3, k5, cls, low⟩ := T.cls
  refine ⟨fun pins s σ H Q I h => wpAny_Call_Name_kw (ld_glob I hg hm (PySem.W.callWith_K (h₀ := X.base) I.ok.mod.kin T.kC (thn (ha.run pos pins s σ H _ I h) ?_) he hpl) hdb)⟩
  rintro us s1 ⟨vs, H1, I1, r, few, q⟩
  refine ⟨I1.kIn, wpAny_call (PySem.HandSPX.call_own F.excBase_ValueError (fun Y => PySem.HandSPX.refsVE_contains Y bm low) (I1.kIn _ _ cls) (PySem.W.looks_findIn I1.kIn found) (fun self => PySem.W.bind_fn I1.kIn self fn) (few_args r few)
    (newErr_init I1 r (F1.raw hb .nil) hr (by rw [List.append_nil]; exact q _ (newErr_free I1)) ?_))⟩
  rintro (e | _ | _ | _ | u) s' z
  case ok.ret =>
    obtain ⟨v, H', J, rv, rfl, q'⟩ := (newErr_inv I1).after z
    exact ⟨rv, .ref (s1.heap.objs.size + 1), H', J, rfl, q'⟩
  all_goals exact z.elim
end
/-- the end of C(v) as a value -/
theorem st_excV {K : PySem.W.Frag} {C : Addr} {f : Str} {σ : L2.St} {H : Hp} {Q : VK} {ta : TA} (h : ta σ H fun vs H1 => ∃ v, vs = [v] ∧ ∀ a dx, H1 a = none → H1 dx = none → dx ≠ a → Q (.ref a) (upd (upd (upd H1 a (exo a C none)) dx (exd dx [(f, v)])) a (exo a C (some dx))))
    (mono : ∀ {P P' : List V → Hp → Prop}, (∀ vs H, P vs H → P' vs H) → ta σ H P → ta σ H P') : tExcV C (spX K C f) ta σ H Q := by
  refine mono ?_ h
  rintro _ H1 ⟨v, rfl, q⟩
  exact ⟨(by show 1 ≤ 1000; decide), fun a free => ⟨a, v, rfl, upd_same, fun dx free2 ne => ⟨rfl, q a dx free ((upd_ne ne).symm.trans free2) ne⟩⟩⟩
end SL

/-! SL6: comprehensions by their items; helpers of the laws. -/
namespace SL
open PySem PySem.Spec PyProof.Rows L2

theorem sz_le {n : Nat} (h : n ≤ 100000) : n ≤ sizeLine := Nat.le_trans h (by decide)
theorem sz_lt {n : Nat} (h : n < 100000) : n < sizeLine := Nat.lt_of_lt_of_le h (by decide)

/-- what a comprehension needs of its source, and gives -/
theorem lc_u {J : It} {n : Nat} {G : Hp → Prop} {Y : Nat → Hp → V → Hp → Prop} (w : Walk J n G Y) {g : TG} {te : TE} {vs : List Nat} {σ : L2.St} {H1 : Hp} {D : Addr} {Qd : Hp → Prop} (M : List Addr) (S : Nat → Hp → Prop) (F : Nat → V → Hp → Prop)
    (hD : H1 D = none) (hM : D ∉ M) (hlen : n ≤ 90000) (S0 : ∀ H, Ex [] H1 H → S 0 H) (hS : ∀ i H acc, H D = some (.lst acc) → S i H → ∀ acc', S i (upd H D (.lst acc'))) (hG : ∀ i H, Ex (D :: M) H1 H → S i H → G H)
    (hF : ∀ j y H H', Ex (D :: M) H H' → F j y H → F j y H')
    (step : ∀ i x H H', i < n → Ex M H1 H → (∃ acc, H D = some (.lst acc)) → S i H → Y i H x H' → ∀ P : VK, (∀ y H4, Ex M H H4 → F i y H4 → S (i + 1) H4 → P y H4) → g x (wipe σ vs) H' fun σ2 H2 => wipe σ2 vs = wipe σ vs ∧ te σ2 H2 P)
    (hd : ∀ H acc, H D = some (.lst acc) → acc.length = n → Ex M H1 H → (∀ j y, acc[j]? = some y → F j y H) → S n H → Qd H) :
    ∃ W : Nat → Nat → Hp → Prop, (∃ m, W 0 m (upd H1 D (.lst []))) ∧ ∀ i m H, W i m H →
      (J.stop i H ∧ Qd H) ∨ (J.go i H ∧ ∃ Nx : Hp → Prop, (∀ H', Nx H' → ∃ m', m' < m ∧ W (i + 1) m' H') ∧ ∀ x H', J.yld i H x H' → g x (wipe σ vs) H' fun σ2 H2 => wipe σ2 vs = wipe σ vs ∧ tYes σ2 H2 fun b H3 =>
        if b = true then te σ2 H3 fun y H4 => ∃ acc, H4 D = some (.lst acc) ∧ acc.length < sizeLine ∧ Nx (upd H4 D (.lst (acc ++ [y]))) else Nx H3) := by
  have back : ∀ H, Ex (D :: M) H1 H → Ex M H1 H := fun H e a o m z => e a o (by
    intro q
    rcases List.mem_cons.mp q with q | q
    · rw [q, hD] at z
      cases z
    · exact m q) z
  refine lc_it w (fun i H => ∃ acc, H D = some (.lst acc) ∧ acc.length = i ∧ Ex (D :: M) H1 H ∧ (∀ j y, acc[j]? = some y → F j y H) ∧ S i H) ?_ ?_ ?_ ?_
  · refine ⟨[], upd_same, rfl, Ex.nil (Ex.new hD), fun j y z => by simp at z, S0 _ (Ex.new hD)⟩
  · rintro i H hi ⟨acc, h1, h2, h3, h4, h5⟩
    exact hG i H h3 h5
  · rintro i x H H' hi ⟨acc, h1, h2, h3, h4, h5⟩ y
    refine step i x H H' hi (back H h3) ⟨acc, h1⟩ h5 y _ ?_
    intro v H4 e3 e4 e5
    have hD4 : H4 D = some (.lst acc) := e3 D _ hM h1
    have up : Ex (D :: M) H4 (upd H4 D (.lst (acc ++ [v]))) := Ex.mut (List.mem_cons_self ..)
    have e6 : Ex (D :: M) H H4 := Ex.mono (fun x z => List.mem_cons_of_mem _ z) e3
    refine ⟨acc, hD4, sz_lt (by omega), acc ++ [v], upd_same, by simp [h2], h3.trans (e6.trans up), fun j z hj => ?_, hS _ _ _ hD4 e5 _⟩
    by_cases q : j < acc.length
    · rw [List.getElem?_append_left q] at hj
      exact hF _ _ _ _ (e6.trans up) (h4 j z hj)
    · have q2 : j = acc.length := by
        have := (List.getElem?_eq_some_iff.mp hj).1
        simp at this
        omega
      subst q2
      simp at hj
      subst hj
      rw [h2]
      exact hF _ _ _ _ up e4
  · rintro H ⟨acc, h1, h2, h3, h4, h5⟩
    exact hd H acc h1 h2 (back H h3) h4 h5
end SL

namespace SL
theorem iteNT {A B : Prop} (h : B) : if (!true) = true then A else B := by
  show if false = true then A else B
  rw [if_neg Bool.false_ne_true]
  exact h
theorem iteNF {A B : Prop} (h : A) : if (!false) = true then A else B := by
  show if true = true then A else B
  rw [if_pos rfl]
  exact h
end SL

namespace SL
open PySem PySem.Spec PyProof.Rows L2
section
variable {K : PySem.W.Frag} {σ : L2.St} {H : Hp} {t : TE} {ta : TA} {R : It → Hp → Prop} {D : Ends} {wi : TI} {g : TG} {tb : TS} {tt : TT} {te : TE} {vs : List Nat} {Q : VK}
theorem st_iU_s (h : t σ H fun v H1 => ∃ x, v = .str x ∧ R (Its x) H1) : iU K t σ H R := Or.inr (Or.inr h)
theorem st_iU_l (h : t σ H fun x H1 => ∃ a, x = .ref a ∧ (∃ xs, SqL K H1 a xs) ∧ R (Itl K a) H1) : iU K t σ H R := Or.inl h
theorem st_iU_t (h : t σ H fun x H1 => ∃ a, x = .ref a ∧ (∃ xs, SqT K H1 a xs) ∧ R (Itt K a) H1) : iU K t σ H R := Or.inr (Or.inl h)
theorem st_rng1 (h : ta σ H fun vs H1 => ∃ j : Int, vs = [.int j] ∧ -(2 ^ 62) ≤ j ∧ j < 2 ^ 62 ∧ R (Itr 0 j.toNat) H1) : iRng1 ta σ H R := h
theorem st_rng2 (h : ta σ H fun vs H1 => ∃ i j : Int, vs = [.int i, .int j] ∧ (-(2 ^ 62) ≤ i ∧ i < 2 ^ 62 ∧ -(2 ^ 62) ≤ j ∧ j < 2 ^ 62) ∧ R (Itr i (j - i).toNat) H1) : iRng2 ta σ H R := h
theorem st_lc (h : wi σ H fun J H1 => ∀ D, H1 D = none → ∃ W : Nat → Nat → Hp → Prop, (∃ m, W 0 m (upd H1 D (.lst []))) ∧ ∀ i m H, W i m H →
  (J.stop i H ∧ Q (.ref D) H) ∨ (J.go i H ∧ ∃ Nx : Hp → Prop, (∀ H', Nx H' → ∃ m', m' < m ∧ W (i + 1) m' H') ∧ ∀ x H', J.yld i H x H' → g x (wipe σ vs) H' fun σ2 H2 => wipe σ2 vs = wipe σ vs ∧ tt σ2 H2 fun b H3 =>
    if b = true then te σ2 H3 fun y H4 => ∃ acc, H4 D = some (.lst acc) ∧ acc.length < sizeLine ∧ Nx (upd H4 D (.lst (acc ++ [y]))) else Nx H3)) : tLc wi g tt te vs σ H Q := h
theorem st_for (h : wi σ H fun J H1 => ∃ W : Nat → Nat → L2.St → Hp → Prop, (∃ m, W 0 m σ H1) ∧ ∀ i m σ H, W i m σ H →
  (J.stop i H ∧ D.nx σ H) ∨ (J.go i H ∧ ∃ N : L2.St → Hp → Prop, (∀ σ' H', N σ' H' → ∃ m', m' < m ∧ W (i + 1) m' σ' H') ∧ ∀ x H', J.yld i H x H' → g x σ H' fun σ2 H2 => tb { D with nx := N, ct := N, bk := D.nx } σ2 H2)) : tFor wi g tb D σ H := h
theorem st_itl {a : Addr} {xs : List V} {P : It → Prop} (h : SqL K H a xs) (q : P (Itl K a)) : ∃ b, V.ref a = .ref b ∧ (∃ ys, SqL K H b ys) ∧ P (Itl K b) := ⟨a, rfl, ⟨xs, h⟩, q⟩
theorem st_itt {a : Addr} {xs : List V} {P : It → Prop} (h : SqT K H a xs) (q : P (Itt K a)) : ∃ b, V.ref a = .ref b ∧ (∃ ys, SqT K H b ys) ∧ P (Itt K b) := ⟨a, rfl, ⟨xs, h⟩, q⟩
theorem st_its {z : Str} {P : It → Prop} (q : P (Its z)) : ∃ x, V.str z = .str x ∧ P (Its x) := ⟨z, rfl, q⟩
theorem st_itr {n : Int} {P : It → Prop} (h1 : -(2 ^ 62) ≤ n) (h2 : n < 2 ^ 62) (q : P (Itr 0 n.toNat)) : ∃ j : Int, [V.int n] = [.int j] ∧ -(2 ^ 62) ≤ j ∧ j < 2 ^ 62 ∧ P (Itr 0 j.toNat) := ⟨n, rfl, h1, h2, q⟩
end
/-- a list by its items -/
theorem map_of {α : Type} {acc : List V} {xs : List α} {f : α → V} (hl : acc.length = xs.length) (h : ∀ (j : Nat) (y : V) (x : α), acc[j]? = some y → xs[j]? = some x → y = f x) : acc = xs.map f := by
  apply List.ext_getElem (by simpa using hl)
  intro j h1 h2
  rw [List.getElem_map]
  exact h j _ _ (List.getElem?_eq_getElem h1) (List.getElem?_eq_getElem (by simpa using h2))
end SL

namespace SL
open PySem PySem.Spec PyProof.Rows L2
section
variable {K : PySem.W.Frag} {H H' : Hp} {p a dx C : Addr} {xs : List V} {o : HO} {M : List Addr} {v x : V} {t : Value}
theorem sqL (h : H p = some (.lst xs)) : SqL K H p xs := Or.inl (Or.inl h)
theorem sqT (h : H p = some (.tup xs)) : SqT K H p xs := Or.inl (Or.inl h)
/-- a value's type, whatever comes outside M -/
def Ky (M : List Addr) (K : PySem.W.Frag) (H : Hp) (v : V) (t : Value) : Prop := ∀ H', Ex M H H' → TyY K H' v t
theorem Ky.ex (h : Ky M K H v t) (e : Ex M H H') : Ky M K H' v t := fun H2 e2 => h H2 (e.trans e2)
theorem Ky.ty (h : Ky M K H v t) : TyY K H v t := h H Ex.refl
theorem Ky.nil (h : Ky M K H v t) : Ky [] K H v t := fun H2 e => h H2 e.nil
theorem Ky.mono {M' : List Addr} (hm : ∀ x ∈ M', x ∈ M) (h : Ky M K H v t) : Ky M' K H v t := fun H2 e => h H2 (e.mono hm)
theorem ky_non : Ky M K H .non (.type "NoneType") := fun _ _ => .base (.base .non)
theorem ky_bl {b : Bool} : Ky M K H (.bl b) (.type "bool") := fun _ _ => .base (.base (.bl b))
theorem ky_int {i : Int} : Ky M K H (.int i) (.type "int") := fun _ _ => .base (.base (.int i))
theorem ky_str {z : Str} : Ky M K H (.str z) (.type "str") := fun _ _ => .base (.base (.str z))
theorem ky_lst (h : At M H a (.lst xs)) : Ky M K H (.ref a) (.type "list") := fun _ e => .base (.base (.lst (h.ex e).at_))
theorem ky_tup (h : At M H a (.tup xs)) : Ky M K H (.ref a) (.type "tuple") := fun _ e => .base (.base (.tup (h.ex e).at_))
theorem ky_dK {kvs : List (Key × V)} (h : At M H a (.dK kvs)) : Ky M K H (.ref a) (.type "dict") := fun _ e => .base (.base (.dK (h.ex e).at_))
theorem ky_fn {ob : Obj} (e : K.lookup a = some ob) (c : ob.cls = .type "function") : Ky M K H (.ref a) (.type "function") := fun _ _ => .fn e c
theorem ky_exc {fs : List (Str × V)} (h : At M H a (exo a C (some dx))) (d : At M H dx (exd dx fs)) (b : isiB K C = true) : Ky M K H (.ref a) (.ref C) := fun _ e => .exc (h.ex e).at_ fs (d.ex e).at_ b
variable {σ : L2.St} {Q : L2.St → Hp → Prop} {to ti : TE} {ts : TSet} {i : V} {n : Int} {j : Nat} {QH : Hp → Prop} {QV : VK}
theorem st_gsub (h : to σ H fun o H1 => ti σ H1 fun i H2 => ts o i v H2 fun H3 => Q σ H3) : gSub to ti ts v σ H Q := h
theorem u_setL (h : H p = some (.lst xs)) (e : ixN xs.length n = some j) (q : QH (upd H p (.lst (xs.set j v)))) : rSetL (.ref p) (.int n) v H QH := ⟨p, xs, n, j, rfl, rfl, h, e, q⟩
theorem u_append (h : H p = some (.lst xs)) (hl : xs.length < sizeLine) (q : QV .non (upd H p (.lst (xs ++ [v])))) : rAppend (.ref p) [v] H QV := ⟨p, xs, v, rfl, rfl, h, hl, q⟩
theorem ty_l (h : SqL K H p xs) : tyV K "list" (.ref p) H := Or.inl ⟨rfl, xs, h⟩
theorem ty_s {z : Str} : tyV K "str" (.str z) H := rfl
theorem u_join {z : Str} {ys : List Str} (h : SqL K H p (ys.map V.str) ∨ SqT K H p (ys.map V.str)) (hl : (ys.map (·.length)).sum + ys.length * z.length ≤ 16777216) (q : QV (.str (Txt.join z ys)) H) : rJoin K (.str z) [.ref p] H QV := ⟨z, p, ys, rfl, rfl, h, hl, q⟩
end
/-! ### what the laws' helpers promise -/
/-- a cell of the script, or a number made of its place -/
def spCell (K : PySem.W.Frag) : Sp := fun vs H Q _ => ∃ (a : Addr) (ns : List Int) (k : Int), vs = [.ref a, .int k] ∧ SqL K H a (ns.map V.int) ∧ 0 ≤ k ∧ k ≤ 100 ∧ ∀ i : Int, Q (.int i) H
def spBox : Sp := fun vs H Q _ => ∃ n : Int, vs = [.int n] ∧ ∀ b H', H b = none → Ex [] H H' → Box b 0 H' → Q (.ref b) H'
/-- a drawn number below m -/
def spTake : Sp := fun vs H Q _ => ∃ (b : Addr) (m : Int) (n : Nat), vs = [.ref b, .int m] ∧ Box b n H ∧ n ≤ 1000000 ∧ 0 < m ∧ m < 10 ^ 40 ∧ ∀ (r : Int) H', 0 ≤ r → r < m → Ex [b] H H' → Box b (n + 1) H' → Q (.int r) H'
end SL

namespace SL
open PySem PySem.Spec PyProof.Rows L2
/-! ### texts -/
theorem str_ext {a b : Str} (h : a.cps.toList = b.cps.toList) : a = b := by
  cases a with
  | mk x => cases b with
    | mk y =>
      have : x = y := Array.toList_inj.mp h
      rw [this]
theorem len_str (a : Str) : a.length = a.cps.toList.length := by simp [Str.length]
theorem cps_add (a b : Str) : (a ++ b).cps.toList = a.cps.toList ++ b.cps.toList := by
  rw [PySem.Str.cps_append]
  simp
theorem len_add (a b : Str) : (a ++ b).length = a.length + b.length := PySem.Str.length_append a b
end SL

namespace SL
open PySem PySem.Spec PyProof.Rows L2
theorem Box.upd {b p : Addr} {n : Nat} {H : Hp} {o : HO} (h : Box b n H) (ne : p ≠ b) : Box b n (upd H p o) := h.ex (M := [p]) (Ex.mut (List.mem_singleton.mpr rfl)) (fun z => ne (List.mem_singleton.mp z).symm)
theorem use_take {b : Addr} {m : Int} {n : Nat} {H : Hp} {Q : VK} {E : XK} (hb : Box b n H) (hn : n ≤ 1000000) (hm : 0 < m) (hm2 : m < 10 ^ 40) (q : ∀ (r : Int) H', 0 ≤ r → r < m → Ex [b] H H' → Box b (n + 1) H' → Q (.int r) H') : spTake [.ref b, .int m] H Q E :=
  ⟨b, m, n, rfl, hb, hn, hm, hm2, q⟩
/-- a comprehension with a test, its values known by their turns -/
theorem lc_f {J : It} {n : Nat} {G : Hp → Prop} {Y : Nat → Hp → V → Hp → Prop} (w : Walk J n G Y) {g : TG} {tt : TT} {te : TE} {vs : List Nat} {σ : L2.St} {H1 : Hp} {D : Addr} {Qd : Hp → Prop} (M : List Addr) (S : Nat → Hp → Prop) (keep : Nat → Bool) (val : Nat → V)
    (hD : H1 D = none) (hM : D ∉ M) (hlen : n ≤ 90000) (S0 : ∀ H, Ex [] H1 H → S 0 H) (hS : ∀ i H acc, H D = some (.lst acc) → S i H → ∀ acc', S i (upd H D (.lst acc'))) (hG : ∀ i H, Ex (D :: M) H1 H → S i H → G H)
    (step : ∀ i x H H', i < n → Ex M H1 H → (∃ acc, H D = some (.lst acc)) → S i H → Y i H x H' → ∀ (PN : Hp → Prop) (PV : VK), (keep i = false → ∀ H4, Ex M H H4 → S (i + 1) H4 → PN H4) → (keep i = true → ∀ H4, Ex M H H4 → S (i + 1) H4 → PV (val i) H4) →
      g x (wipe σ vs) H' fun σ2 H2 => wipe σ2 vs = wipe σ vs ∧ tt σ2 H2 fun b H3 => if b = true then te σ2 H3 PV else PN H3)
    (hd : ∀ H, H D = some (.lst (((List.range n).filter keep).map val)) → Ex M H1 H → S n H → Qd H) :
    ∃ W : Nat → Nat → Hp → Prop, (∃ m, W 0 m (upd H1 D (.lst []))) ∧ ∀ i m H, W i m H →
      (J.stop i H ∧ Qd H) ∨ (J.go i H ∧ ∃ Nx : Hp → Prop, (∀ H', Nx H' → ∃ m', m' < m ∧ W (i + 1) m' H') ∧ ∀ x H', J.yld i H x H' → g x (wipe σ vs) H' fun σ2 H2 => wipe σ2 vs = wipe σ vs ∧ tt σ2 H2 fun b H3 =>
        if b = true then te σ2 H3 fun y H4 => ∃ acc, H4 D = some (.lst acc) ∧ acc.length < sizeLine ∧ Nx (upd H4 D (.lst (acc ++ [y]))) else Nx H3) := by
  have back : ∀ H, Ex (D :: M) H1 H → Ex M H1 H := fun H e a o m z => e a o (by
    intro q
    rcases List.mem_cons.mp q with q | q
    · rw [q, hD] at z
      cases z
    · exact m q) z
  refine lc_it w (fun i H => H D = some (.lst (((List.range i).filter keep).map val)) ∧ Ex (D :: M) H1 H ∧ S i H) ?_ ?_ ?_ ?_
  · exact ⟨upd_same, Ex.nil (Ex.new hD), S0 _ (Ex.new hD)⟩
  · rintro i H hi ⟨h1, h3, h5⟩
    exact hG i H h3 h5
  · rintro i x H H' hi ⟨h1, h3, h5⟩ y
    refine step i x H H' hi (back H h3) ⟨_, h1⟩ h5 y _ _ ?_ ?_
    · intro k H4 e3 e5
      have hD4 := e3 D _ hM h1
      refine ⟨?_, h3.trans (Ex.mono (fun x z => List.mem_cons_of_mem _ z) e3), e5⟩
      rw [List.range_succ, List.filter_append]
      simp only [List.filter_cons, k, List.filter_nil, List.append_nil, Bool.false_eq_true, if_false]
      exact hD4
    · intro k H4 e3 e5
      have hD4 := e3 D _ hM h1
      have hl : (((List.range i).filter keep).map val).length ≤ i := by
        rw [List.length_map]
        exact Nat.le_trans (List.length_filter_le _ _) (by rw [List.length_range]; exact Nat.le_refl _)
      refine ⟨_, hD4, sz_lt (by omega), ?_, (h3.trans (Ex.mono (fun x z => List.mem_cons_of_mem _ z) e3)).trans (Ex.mut (List.mem_cons_self ..)), hS _ _ _ hD4 e5 _⟩
      rw [upd_same, List.range_succ, List.filter_append, List.map_append]
      simp only [List.filter_cons, k, List.filter_nil, if_true, List.map_cons, List.map_nil]
  · rintro H ⟨h1, h3, h5⟩
    exact hd H h1 (back H h3) h5
theorem strs_of {acc : List V} {P : Str → Prop} (h : ∀ (j : Nat) (y : V), acc[j]? = some y → ∃ z, y = .str z ∧ P z) : ∃ ys : List Str, acc = ys.map V.str ∧ ∀ z ∈ ys, P z := by
  induction acc with
  | nil => exact ⟨[], rfl, fun _ z => absurd z (List.not_mem_nil)⟩
  | cons a r ih =>
    obtain ⟨z, rfl, hz⟩ := h 0 a rfl
    obtain ⟨ys, rfl, hy⟩ := ih (fun j y q => h (j + 1) y (by simpa using q))
    refine ⟨z :: ys, rfl, fun x hx => ?_⟩
    rcases List.mem_cons.mp hx with rfl | hx
    · exact hz
    · exact hy x hx
theorem joinL_nil : ∀ l : List (List Nat), TL.joinL [] l = l.flatten
  | [] => rfl
  | [p] => by simp [TL.joinL]
  | p :: q :: r => by
    have ih := joinL_nil (q :: r)
    simp only [TL.joinL, List.nil_append, ih, List.flatten_cons]
theorem join_len {ys : List Str} (h : ∀ z ∈ ys, z.length = 1) : (Txt.join "" ys).length = ys.length := by
  rw [len_str, TL.join_eq]
  have e := TL.tl_join "" ys
  have e2 : TL.tl ("" : Str) = [] := by decide +kernel
  rw [e2, joinL_nil] at e
  have e3 : (Str.join "" ys).cps.toList = (ys.map TL.tl).flatten := e
  rw [e3]
  clear e e2 e3
  induction ys with
  | nil => rfl
  | cons a r ih =>
    rw [List.map_cons, List.flatten_cons, List.length_append, ih (fun z hz => h z (List.mem_cons_of_mem _ hz))]
    have := h a (List.mem_cons_self ..)
    rw [len_str] at this
    show a.cps.toList.length + r.length = r.length + 1
    omega
theorem sum_ones {ys : List Str} (h : ∀ z ∈ ys, z.length = 1) : (ys.map (·.length)).sum = ys.length := by
  induction ys with
  | nil => rfl
  | cons a r ih =>
    rw [List.map_cons, List.sum_cons, ih (fun z hz => h z (List.mem_cons_of_mem _ hz)), h a (List.mem_cons_self ..), List.length_cons]
    omega
theorem cutS_le (z : Str) (lo hi : Option Int) : (cutS z lo hi).length ≤ z.length := by
  rw [len_str, len_str]
  unfold cutS
  simp only [List.length_take, List.length_drop]
  omega
/-- an item at a place in bounds -/
theorem at_in {xs : List V} {r : Int} {P : V → Prop} (h0 : 0 ≤ r) (h1 : r < xs.length) (hP : ∀ x ∈ xs, P x) : ∃ v, atI xs r = some v ∧ P v ∧ v ∈ xs := by
  have h : r.toNat < xs.length := by omega
  exact ⟨xs[r.toNat], at_of (j := r.toNat) (by omega) (List.getElem?_eq_getElem h), hP _ (List.getElem_mem h), List.getElem_mem h⟩
theorem atc_in {xs : List Nat} {r : Int} (h0 : 0 ≤ r) (h1 : r < xs.length) : ∃ c, atI xs r = some c ∧ c ∈ xs := by
  have h : r.toNat < xs.length := by omega
  have e : ((r.toNat : Nat) : Int) = r := by omega
  have z := atI_nat (List.getElem?_eq_getElem h)
  rw [e] at z
  exact ⟨xs[r.toNat], z, List.getElem_mem h⟩
end SL

namespace SL
open PySem PySem.Spec PyProof.Rows L2
/-- plain signs alone -/
def Asc (z : Str) : Prop := ∀ c ∈ z.cps.toList, c < 128
theorem Asc.add {a b : Str} (h : Asc a) (k : Asc b) : Asc (a ++ b) := fun c hc => by
  rw [cps_add] at hc
  rcases List.mem_append.mp hc with q | q
  · exact h c q
  · exact k c q
theorem Asc.cut {a : Str} (h : Asc a) (lo hi : Option Int) : Asc (cutS a lo hi) := fun c hc => by
  unfold cutS at hc
  exact h c (List.mem_of_mem_drop (List.mem_of_mem_take (by simpa using hc)))
theorem Asc.one {c : Nat} (h : c < 128) : Asc ⟨#[c]⟩ := fun d hd => by
  have : d = c := by simpa using hd
  omega
theorem Asc.ok {z : Str} (h : Asc z) : (PyData.str z).canLay0 = true := by
  simp only [PyData.canLay0, PyData.strOk, Array.all_eq_true, decide_eq_true_eq]
  intro i hi
  have := h z.cps[i] (Array.mem_toList_iff.mpr (Array.getElem_mem hi))
  omega
theorem canLay_strs : ∀ {ys : List Str}, (∀ z ∈ ys, Asc z) → PyData.canLayAll0 (ys.map PyData.str) = true
  | [], _ => by simp [PyData.canLayAll0]
  | z :: r, h => by
    rw [List.map_cons, PyData.canLayAll0, (h z (List.mem_cons_self ..)).ok, canLay_strs (fun x q => h x (List.mem_cons_of_mem _ q))]
    rfl
theorem depth_strs : ∀ ys : List Str, PyData.depthAll (ys.map PyData.str) = 0
  | [] => by simp [PyData.depthAll]
  | z :: r => by
    rw [List.map_cons, PyData.depthAll, depth_strs r]
    simp [PyData.depth]
theorem shaped_strs {ys : List Str} (h : ∀ z ∈ ys, Asc z) : SeqAt.shaped (.list (ys.map PyData.str)) = true := by
  simp only [SeqAt.shaped, PyData.canLay0, PyData.depth, canLay_strs h, depth_strs]
  decide
theorem shaped_nil : SeqAt.shaped (.list []) = true := by
  simp [SeqAt.shaped, PyData.canLay0, PyData.depth, PyData.canLayAll0, PyData.depthAll]
theorem eqv_nil_l {xs : List PyData} : PyData.eqv (.list xs) (.list []) = xs.isEmpty := by
  cases xs <;> simp [PyData.eqv, PyData.eqvAll]
/-- an item whose repr is short -/
structure Short (B : Nat) (d : PyData) : Prop where
  sh : d.showable = true
  lf : d.leavesShort B = true
  dp : d.depth ≤ 50
theorem short_bool (B : Nat) (b : Bool) : Short B (.bool b) := ⟨by simp [PyData.showable], by simp [PyData.leavesShort], by simp [PyData.depth]⟩
theorem short_none (B : Nat) : Short B .none := ⟨by simp [PyData.showable], by simp [PyData.leavesShort], by simp [PyData.depth]⟩
theorem short_str (B : Nat) {z : Str} (h : Asc z) : Short B (.str z) := ⟨by simp [PyData.showable], by
  simp only [PyData.leavesShort, List.all_eq_true, decide_eq_true_eq]
  intro c hc
  have := h c hc
  exact Nat.lt_trans this (by decide), by simp [PyData.depth]⟩
theorem shows_list {B N : Nat} {xs : List PyData} (hB : 8 ≤ B) (h : ∀ x ∈ xs, Short B x) (hN : PyData.bulkAll xs ≤ N) (hs : (B + 2) * N + B ≤ 16777216) : Shows (.list xs) := by
  refine ⟨?_, ⟨B, hB, ?_, ?_⟩, ?_⟩
  · simp only [PyData.showable]
    clear hN
    induction xs with
    | nil => simp [PyData.showableAll]
    | cons a r ih =>
      simp only [PyData.showableAll, (h a (List.mem_cons_self ..)).sh, Bool.true_and]
      exact ih (fun x q => h x (List.mem_cons_of_mem _ q))
  · simp only [PyData.leavesShort]
    clear hN
    induction xs with
    | nil => simp [PyData.leavesShortAll]
    | cons a r ih =>
      simp only [PyData.leavesShortAll, (h a (List.mem_cons_self ..)).lf, Bool.true_and]
      exact ih (fun x q => h x (List.mem_cons_of_mem _ q))
  · simp only [PyData.bulk]
    exact Nat.le_trans (Nat.add_le_add_right (Nat.mul_le_mul_left _ hN) _) hs
  · simp only [PyData.depth]
    have z : PyData.depthAll xs ≤ 50 := by
      clear hN
      induction xs with
      | nil => simp [PyData.depthAll]
      | cons a r ih =>
        simp only [PyData.depthAll]
        have h1 := (h a (List.mem_cons_self ..)).dp
        have h2 := ih (fun x q => h x (List.mem_cons_of_mem _ q))
        omega
    omega
theorem bulk_bools : ∀ bs : List Bool, PyData.bulkAll (bs.map PyData.bool) = bs.length
  | [] => by simp [PyData.bulkAll]
  | b :: r => by
    rw [List.map_cons, PyData.bulkAll, bulk_bools r]
    simp [PyData.bulk]
    omega
theorem shows_bools {bs : List Bool} (h : bs.length ≤ 1000000) : Shows (.list (bs.map PyData.bool)) :=
  shows_list (B := 8) (N := 1000000) (Nat.le_refl _) (fun x hx => by
    obtain ⟨b, _, rfl⟩ := List.mem_map.mp hx
    exact short_bool 8 b) (by rw [bulk_bools]; exact h) (by decide)
end SL

/-! SL7: displays, exceptions as values, short rows of facts. -/
namespace SL
open PySem PySem.Spec PyProof.Rows L2
section
variable {K : PySem.W.Frag} {σ : L2.St} {H H' H2 : Hp} {Q : VK} {QP : List (V × V) → Hp → Prop} {tk tv : TE} {ta : TA} {r : List (TE × TE)} {xs ys : List V} {o : HO} {v x y : V} {C p : Addr} {f : Str} {M : List Addr} {sp : Sp}
/-- a new list, a new tuple -/
abbrev Dis (xs : List V) (H : Hp) (Q : VK) : Prop := xs.length ≤ sizeLine ∧ ∀ p, H p = none → Q (.ref p) (upd H p (.lst xs))
abbrev DisT (xs : List V) (H : Hp) (Q : VK) : Prop := xs.length ≤ sizeLine ∧ ∀ p, H p = none → Q (.ref p) (upd H p (.tup xs))
theorem st_lstN (h : ta σ H fun xs H1 => Dis xs H1 Q) : tLst ta σ H Q := h
theorem st_tupN (h : ta σ H fun xs H1 => DisT xs H1 Q) : tTup ta σ H Q := h
theorem nw (q : ∀ p H', H p = none → Ex [] H H' → H' p = some o → Q (.ref p) H') : ∀ p, H p = none → Q (.ref p) (upd H p o) := fun p hp => q p _ hp (Ex.new hp) upd_same
theorem nw_l (hl : xs.length ≤ 100000) (q : ∀ p H', H p = none → Ex [] H H' → H' p = some (.lst xs) → Q (.ref p) H') : Dis xs H Q := ⟨sz_le hl, nw q⟩
theorem nw_t (hl : xs.length ≤ 100000) (q : ∀ p H', H p = none → Ex [] H H' → H' p = some (.tup xs) → Q (.ref p) H') : DisT xs H Q := ⟨sz_le hl, nw q⟩
/-- the same for {k: v} and for an own exception -/
abbrev Dis1 (p : Addr) (ps : List (V × V)) (H2 : Hp) (Q : VK) : Prop := H2 p = some (.dK []) ∧ ∃ kvs : List (L2.Key × V), ps = kvs.map (fun kv => (kV kv.1, kv.2)) ∧ kvs.length ≤ 15 ∧ Q (.ref p) (upd H2 p (.dK (mergeK [] kvs)))
abbrev DisE (C : Addr) (sp : Sp) (vs : List V) (H1 : Hp) (Q : VK) : Prop := vs.length ≤ 1000 ∧ ∀ a, H1 a = none → sp (.ref a :: vs) (upd H1 a (exo a C none)) (fun v H2 => v = .non ∧ Q (.ref a) H2) E0
theorem st_disp (h : ∀ p, H p = none → tPairs r σ (upd H p (.dK [])) fun ps H2 => Dis1 p ps H2 Q) : tDisp r σ H Q := h
theorem st_pc (h : tk σ H fun x H1 => tv σ H1 fun y H2 => tPairs r σ H2 fun ps H3 => QP ((x, y) :: ps) H3) : tPairs ((tk, tv) :: r) σ H QP := h
theorem st_pn (h : QP [] H) : tPairs [] σ H QP := h
theorem u_disp1 {k : L2.Key} (hp : H p = none) (hx : x = kV k) (q : ∀ H', Ex [] H H' → H' p = some (.dK [(k, y)]) → Q (.ref p) H') : Dis1 p [(x, y)] (upd H p (.dK [])) Q :=
  ⟨upd_same, [(k, y)], (by rw [hx]; rfl), (by show 1 ≤ 15; decide), q _ (fun a u m z => by
    have hne : a ≠ p := ne_of_none z hp
    rw [upd_ne hne, upd_ne hne]
    exact z) upd_same⟩
abbrev DisD (H : Hp) (Q : VK) : Prop := ∀ p, H p = none → Q (.ref p) (upd H p (.dK []))
theorem st_dnew (h : DisD H Q) : tDNewK σ H Q := h
theorem nw_d (q : ∀ p H', H p = none → Ex [] H H' → H' p = some (.dK []) → Q (.ref p) H') : DisD H Q := nw q
theorem st_exc (h : ta σ H fun vs H1 => DisE C sp vs H1 Q) : tExcV C sp ta σ H Q := h
/-- an exception made as a value: its object and its fields -/
theorem u_exc (q : ∀ a dx H2, H a = none → H dx = none → Ex [] H H2 → H2 a = some (exo a C (some dx)) → H2 dx = some (exd dx [(f, v)]) → Q (.ref a) H2) :
    DisE C (spX K C f) [v] H Q :=
  ⟨(by show 1 ≤ 1000; decide), fun a ha => ⟨a, v, rfl, upd_same, fun dx hd hne => by
    have hd2 : H dx = none := by
      rw [upd_ne hne] at hd
      exact hd
    refine ⟨rfl, q a dx _ ha hd2 (fun b u m z => ?_) upd_same ?_⟩
    · have h1 : b ≠ a := ne_of_none z ha
      have h2 : b ≠ dx := ne_of_none z hd2
      rw [upd_ne h1, upd_ne h2, upd_ne h1]
      exact z
    · rw [upd_ne hne, upd_same]⟩⟩
/-- the values' kinds, a row at a time -/
def KyN (M : List Addr) (K : PySem.W.Frag) (H : Hp) (T : String) (v : V) : Prop := ∃ t, Ky M K H v t ∧ PySem.W.kitOne K t (.type T) = some false
theorem KyN.ex {T : String} (e : Ex M H H') (h : KyN M K H T v) : KyN M K H' T v := let ⟨t, a, b⟩ := h; ⟨t, a.ex e, b⟩
theorem all_cons {α : Type} {P : α → Prop} {a : α} {l : List α} (h : P a) (t : ∀ x ∈ l, P x) : ∀ x ∈ a :: l, P x := fun x z => by
  rcases List.mem_cons.mp z with rfl | z
  · exact h
  · exact t x z
theorem all_nil {α : Type} {P : α → Prop} : ∀ x ∈ ([] : List α), P x := fun _ z => absurd z (List.not_mem_nil)
theorem u_mul_f {n : Int} {a : Addr} (h1 : H a = some (.lst xs)) (hn : (decide (0 ≤ n) && (decide (n < 2 ^ 63) && decide (xs.length * n.toNat ≤ 100000))) = true) (e : (List.replicate n.toNat xs).flatten = ys) (q : ∀ p H', H p = none → Ex [] H H' → H' p = some (.lst ys) → Q (.ref p) H') : uMul K (.ref a) (.int n) H Q := by
  simp only [Bool.and_eq_true, decide_eq_true_eq] at hn
  subst e
  exact u_mul_l h1 hn.1 hn.2.1 (sz_le hn.2.2) (nw q)
theorem u_add_f {a b : Addr} (h1 : H a = some (.lst xs)) (h2 : H b = some (.lst ys)) (hl : xs.length + ys.length ≤ 100000) (q : ∀ p H', H p = none → Ex [] H H' → H' p = some (.lst (xs ++ ys)) → Q (.ref p) H') : uAdd K (.ref a) (.ref b) H Q := u_add_l h1 h2 (sz_le hl) (nw q)
theorem u_sl_f {a : Addr} {lo hi : Option Int} (h : SqL K H a xs) (q : ∀ p H', H p = none → Ex [] H H' → H' p = some (.lst (cutV xs lo hi)) → Q (.ref p) H') : uSl K (.ref a) lo hi H Q := u_sl_l h (nw q)
theorem u_tuple_f {a : Addr} (h : SqL K H a xs) (q : ∀ p H', H p = none → Ex [] H H' → H' p = some (.tup xs) → Q (.ref p) H') : uTuple K [.ref a] H Q := u_tuple h (nw q)
theorem u_list_f {a : Addr} (h : SqL K H a xs ∨ SqT K H a xs) (q : ∀ p H', H p = none → Ex [] H H' → H' p = some (.lst xs) → Q (.ref p) H') : uList K [.ref a] H Q := u_list h (nw q)
/-- repr of a list of truths -/
theorem u_repr_b {a : Addr} {bs : List Bool} (h : H a = some (.lst (bs.map V.bl))) (hl : bs.length ≤ 1000000) (q : Q (.str (PyData.list (bs.map PyData.bool)).shown) H) : uRepr K [.ref a] H Q :=
  u_repr (d := .list (bs.map PyData.bool)) (Rp.lst (M := []) (At.lt ⟨h, List.not_mem_nil⟩) (RpA.bools bs)).dp (shows_bools hl) q
def fnB (K : PySem.W.Frag) (a : Addr) : Bool := match K.lookup a with
  | some ob => decide (ob.cls = .type "function")
  | none => false
theorem ky_fnB {a : Addr} (h : fnB K a = true) : Ky M K H (.ref a) (.type "function") := by
  unfold fnB at h
  split at h
  · rename_i ob e
    exact ky_fn e (of_decide_eq_true h)
  · cases h
/-- no value of the type T is an exception of the class C -/
def noB (K : PySem.W.Frag) (C : Addr) (T : String) : Bool := isiB K C && decide (PySem.W.kitOne K (.ref C) (.type T) = some false)
theorem noB_ok {T : String} (h : noB K C T = true) : isiB K C = true ∧ PySem.W.kitOne K (.ref C) (.type T) = some false := by
  simpa only [noB, Bool.and_eq_true, decide_eq_true_eq] using h
end
/-- a comprehension whose items change nothing that stands -/
theorem lc_p {J : It} {n : Nat} {G : Hp → Prop} {Y : Nat → Hp → V → Hp → Prop} (w : Walk J n G Y) {g : TG} {te : TE} {vs : List Nat} {σ : L2.St} {H1 : Hp} {D : Addr} {Qd : Hp → Prop} (val : Nat → V)
    (hD : H1 D = none) (hlen : n ≤ 90000) (hG : ∀ H, Ex [D] H1 H → G H)
    (step : ∀ i x H H', i < n → Ex [] H1 H → Y i H x H' → ∀ P : VK, (∀ H4, Ex [] H H4 → P (val i) H4) → g x (wipe σ vs) H' fun σ2 H2 => wipe σ2 vs = wipe σ vs ∧ te σ2 H2 P)
    (hd : ∀ H, H D = some (.lst ((List.range n).map val)) → Ex [] H1 H → Qd H) :
    ∃ W : Nat → Nat → Hp → Prop, (∃ m, W 0 m (upd H1 D (.lst []))) ∧ ∀ i m H, W i m H →
      (J.stop i H ∧ Qd H) ∨ (J.go i H ∧ ∃ Nx : Hp → Prop, (∀ H', Nx H' → ∃ m', m' < m ∧ W (i + 1) m' H') ∧ ∀ x H', J.yld i H x H' → g x (wipe σ vs) H' fun σ2 H2 => wipe σ2 vs = wipe σ vs ∧ tYes σ2 H2 fun b H3 =>
        if b = true then te σ2 H3 fun y H4 => ∃ acc, H4 D = some (.lst acc) ∧ acc.length < sizeLine ∧ Nx (upd H4 D (.lst (acc ++ [y]))) else Nx H3) := by
  refine lc_u w (M := []) (S := fun _ _ => True) (F := fun j y _ => y = val j) hD (List.not_mem_nil) hlen (fun _ _ => trivial) (fun _ _ _ _ _ _ => trivial) (fun _ H e _ => hG H e) (fun _ _ _ _ _ z => z) ?_ ?_
  · intro i x H H' hi e1 _ _ y P hP
    exact step i x H H' hi e1 y P (fun H4 e => hP _ _ e rfl trivial)
  · intro H acc ha hl e hF _
    have ea : acc = (List.range n).map val := by
      apply List.ext_getElem (by simp [hl])
      intro j h1 h2
      rw [List.getElem_map, List.getElem_range]
      exact hF j _ (List.getElem?_eq_getElem h1)
    rw [ea] at ha
    exact hd H ha e
theorem range_const {n : Nat} {v : V} : (List.range n).map (fun _ => v) = List.replicate n v := by
  rw [List.map_const', List.length_range]
section
variable {K : PySem.W.Frag} {σ : L2.St} {H : Hp} {Q : VK} {ta tb tc : TE} {a b c : Int}
/-- a reading that gives a value at once -/
def Pv (t : TE) (σ : L2.St) (H : Hp) (v : V) : Prop := ∀ Q : VK, Q v H → t σ H Q
theorem pv_var {i : Nat} {v : V} (h : σ[i]? = some (some v)) : Pv (tVar i) σ H v := fun _ q => ⟨v, h, q⟩
theorem pv_c {v : V} : Pv (tC v) σ H v := fun _ q => q
theorem chain_le (h1 : Pv ta σ H (.int a)) (h2 : Pv tb σ H (.int b)) (h3 : Pv tc σ H (.int c)) (q : Q (.bl (decide (a ≤ b) && decide (b ≤ c))) H) : tChain uLe uLe ta tb tc σ H Q :=
  h1 _ (h2 _ ⟨a, b, rfl, rfl, _, rfl, by
    by_cases h : a ≤ b
    · rw [decide_eq_true h, if_pos rfl]
      rw [decide_eq_true h, Bool.true_and] at q
      exact h3 _ ⟨b, c, rfl, rfl, q⟩
    · rw [decide_eq_false h, if_neg Bool.false_ne_true]
      rw [decide_eq_false h, Bool.false_and] at q
      exact q⟩)
end
theorem mem_cutV {xs : List V} {lo hi : Option Int} {x : V} (h : x ∈ cutV xs lo hi) : x ∈ xs := List.mem_of_mem_drop (List.mem_of_mem_take h)
theorem all2_cons {α β : Type} {R : α → β → Prop} {a : α} {b d : β} {l : List α} {m : List β} (h : R a b) (t : ∀ (i : Nat) x, l[i]? = some x → R x (m.getD i d)) : ∀ (i : Nat) x, (a :: l)[i]? = some x → R x ((b :: m).getD i d)
  | 0, x, e => by
    have : a = x := by simpa using e
    subst this
    exact h
  | i + 1, x, e => t i x (by simpa using e)
theorem all2_nil {α β : Type} {R : α → β → Prop} {d : β} : ∀ (i : Nat) x, ([] : List α)[i]? = some x → R x (([] : List β).getD i d) := fun i x e => by simp at e
theorem Ex.drop {b : Addr} {H H' : Hp} (hb : H b = none) (e : Ex [b] H H') : Ex [] H H' := fun a o _ z => e a o (fun q => by
  have q := List.mem_singleton.mp q
  rw [q, hb] at z
  cases z) z
/-! ### what binds -/
section
variable {K : PySem.W.Frag} {x qual : Str} {params : Arguments} {body : List Stmt} {scope : Scope} {kws : List (Str × V)} {f : Addr} {fd : FuncData} {ps ks : List Str} {n : Nat} {pm : List Pm}
/-- a call by keywords, no defaults -/
theorem kb_fun (F : FunD K x qual params body scope [] kws f fd)
    (h : ∀ (kV doc pm' : Value) (an : Option Addr) (cdv ct : Value) (us ws : List Value), us.length = n → ws.length = ks.length → bindArgs (PySem.W.fnOf x qual params body scope .none kV doc pm' an cdv ct) ⟨us, ks.zip ws⟩ = pure (ps.zip (pm.map (Pm.u us ws)))) : KB K fd ps n ks pm := by
  obtain ⟨oc, od, dV, kV, doc, pm', an, cdv, ct, osl, rfl, lk, hcd, hD, hK⟩ := F.ex
  rcases hD with ⟨_, rfl⟩ | ⟨e, _⟩
  · exact kb_of (h kV doc pm' an cdv ct)
  · exact absurd rfl e
end
/-- the body of an own exception of one field -/
theorem exc_init {K : PySem.W.Frag} {C a : Addr} {f m : Str} {v : V} {H : Hp} {D : Ends} (T : OexC K C) (hno : PySem.W.findIn K (.ref C) f = some none) (ha : H a = some (exo a C none))
    (q : ∀ dx, H dx = none → dx ≠ a → D.nx [some (.ref a), some v] (upd (upd H dx (exd dx [(f, v)])) a (exo a C (some dx)))) :
    tSeq (tDrop (tVeI K (tCons (tVar 0) (tCons (tC (.str m)) tNil)))) (tOst K f (tVar 0) (tVar 1)) D [some (.ref a), some v] H :=
  ⟨_, rfl, a, C, [.str m], rfl, (by show 1 ≤ 1000; decide), T, ha, _, rfl, _, rfl, a, C, rfl, T, hno, Or.inl ⟨ha, q⟩⟩
/-- a name of the module by its value -/
theorem pe_gc {X : Cx} {x : Str} {pos : Pos} {v : V} (hg : Gl X x) (h : ∃ u, X.mg x = some u ∧ RelV v u) (hd : (x == ("__debug__" : Str)) = false := by decide) : PE X (.Name x pos) (tC v) :=
  let ⟨_, hm, r⟩ := h
  pe_glob hg hm r hd
section
variable {X : Cx} {CX : CXT} {k n m : Nat} {f : Addr} {fd : FuncData} {ps ks : List Str} {sp : Sp} {x : Str} {p pos : Pos} {e : Expr} {es : List Expr} {kws : List Keyword} {t tk : TA} {pm : List Pm}
theorem pe_kw0 (F : FnOk X.prog X.w X.K X.mg X.base CX k f fd ps sp) (hr : Room k X.A) (hg : Gl X x) (hm : X.mg x = some (.ref f)) (hk : PySem.W.keepIn X.K (.ref f) = true) (hb : KB X.K fd ps 0 ks pm) (hx : Passes CX X E0)
    (hkw : PK X kws tk) (hl : ks.length = m) (hall : (backToKw pos (keywordEach kws X.env)).all (·.1.isSome) = true := by rfl) (hks : (backToKw pos (keywordEach kws X.env)).filterMap (·.1) = ks := by rfl)
    (hdb : (x == ("__debug__" : Str)) = false := by decide)
    (hpl : ((backTo pos (starEach [] X.env)).any (·.1) || (backToKw pos (keywordEach kws X.env)).any (·.1.isNone)) = false := by rfl) :
    PE X (.Call (.Name x p) [] kws pos) (tKw sp pm 0 m tNil tk) := by
  subst hl
  exact pe_k0 F hr hg hm hk hb hx hkw hall hks hdb hpl
theorem pe_kw1 (F : FnOk X.prog X.w X.K X.mg X.base CX k f fd ps sp) (hr : Room k X.A) (hg : Gl X x) (hm : X.mg x = some (.ref f)) (hk : PySem.W.keepIn X.K (.ref f) = true) (hb : KB X.K fd ps n ks pm) (hx : Passes CX X E0)
    (ha : PA X (e :: es) t) (hkw : PK X kws tk) (hl : ks.length = m) (hall : (backToKw pos (keywordEach kws X.env)).all (·.1.isSome) = true := by rfl) (hks : (backToKw pos (keywordEach kws X.env)).filterMap (·.1) = ks := by rfl)
    (hdb : (x == ("__debug__" : Str)) = false := by decide) (he : starEach (e :: es) X.env = (false, eval e X.env) :: starEach es X.env := by rfl)
    (hpl : ((backTo pos (starEach (e :: es) X.env)).any (·.1) || (backToKw pos (keywordEach kws X.env)).any (·.1.isNone)) = false := by rfl) :
    PE X (.Call (.Name x p) (e :: es) kws pos) (tKw sp pm n m t tk) := by
  subst hl
  exact pe_k1 F hr hg hm hk hb hx ha hkw hall hks hdb he hpl
end
end SL

/-! SL8: texts: repeated, split, int of a text, index; keyword-only defaults. -/
namespace SL
open PySem PySem.Spec PyProof.Rows L2
/-! ### a text so many times -/
def repS (z : Str) (n : Nat) : Str := ⟨(List.replicate n z.cps.toList).flatten.toArray⟩
theorem repS_cps {z : Str} {n : Nat} : (repS z n).cps.toList = (List.replicate n z.cps.toList).flatten := by simp [repS]
theorem repS_len {z : Str} {n : Nat} : (repS z n).length = n * z.length := by
  rw [SL.len_str, SL.len_str, repS_cps]
  induction n with
  | zero => simp
  | succ n ih =>
    rw [List.replicate_succ, List.flatten_cons, List.length_append, ih, Nat.succ_mul]
    omega
theorem repS_one {z : Str} : repS z 1 = z := str_ext (by rw [repS_cps]; simp)
theorem repS_zero {z : Str} : repS z 0 = "" := str_ext (by
  rw [repS_cps, List.replicate_zero, List.flatten_nil]
  decide +kernel)
theorem repS_nil {z : Str} {n : Nat} (h : z.length = 0) : repS z n = z := by
  have e : z.cps.toList = [] := List.eq_nil_of_length_eq_zero (by rw [← SL.len_str]; exact h)
  refine str_ext ?_
  rw [repS_cps, e]
  induction n with
  | zero => rfl
  | succ n ih => rw [List.replicate_succ, List.flatten_cons, ih]; rfl
theorem fold_cat (c : Array Nat) : ∀ (k : Nat) (acc : Array Nat), ((List.replicate k c).foldl (· ++ ·) acc).toList = acc.toList ++ (List.replicate k c.toList).flatten
  | 0, acc => by simp
  | k + 1, acc => by
    rw [List.replicate_succ, List.foldl_cons, fold_cat c k, Array.toList_append, List.replicate_succ, List.flatten_cons, List.append_assoc]
def rRepS : R2 := fun x y H Q => ∃ (z : Str) (n : Int), x = .str z ∧ y = .int n ∧ 0 ≤ n ∧ n ≤ 1000000 ∧ z.length * n.toNat ≤ 16777216 ∧ Q (.str (repS z n.toNat)) H
theorem op_repS {X : Cx} : OpR X (binaryOp .Mult) rRepS := by
  intro pins s σ H x y v u Q I rx ry h
  obtain ⟨z, n, rfl, rfl, h0, h1, h2, q⟩ := h
  obtain ⟨t, rfl⟩ := rx
  obtain ⟨t2, rfl⟩ := ry
  have tl : PySem.Builtin.Str.tooLong (z.length * n.toNat) = false := by
    unfold PySem.Builtin.Str.tooLong
    rw [sizeLine_eq]
    exact decide_eq_false (by omega)
  refine PySem.P.mul_str ?_ ?_ (fun _ _ => tl) ?_
  · rw [decide_eq_false (show ¬ n < -(2 ^ 63 : Int) by omega), decide_eq_false (show ¬ n ≥ 2 ^ 63 by omega)]
    rfl
  · intro hn _ hgt
    have e1 : (n : Int) ≤ 1000000 := h1
    have e2 : ((2 : Int) ^ 63 - 1) / n ≥ 9223372036854 := by
      refine Int.le_ediv_of_mul_le (by omega) ?_
      have : 9223372036854 * n ≤ 9223372036854 * 1000000 := Int.mul_le_mul_of_nonneg_left h1 (by decide)
      have e3 : (2 : Int) ^ 63 - 1 = 9223372036854775807 := by decide
      omega
    have e4 : z.length ≤ 16777216 := by
      have : 1 ≤ n.toNat := by omega
      exact Nat.le_trans (Nat.le_mul_of_pos_right _ this) h2
    omega
  · by_cases hn : n < 1
    · rw [if_pos hn]
      have e : n.toNat = 0 := by omega
      rw [e, repS_zero] at q
      exact ⟨by decide, ⟨.str "", H, I.tok _, ⟨_, rfl⟩, q⟩⟩
    · rw [if_neg hn]
      by_cases h3 : (n == 1 || z.length == 0) = true
      · rw [if_pos h3]
        have e : repS z n.toNat = z := by
          rw [Bool.or_eq_true, beq_iff_eq, beq_iff_eq] at h3
          rcases h3 with h3 | h3
          · subst h3
            exact repS_one
          · exact repS_nil h3
        rw [e] at q
        exact ⟨.str z, H, I, ⟨_, rfl⟩, q⟩
      · rw [if_neg h3]
        have e : (⟨(List.replicate n.toNat z.cps).foldl (· ++ ·) #[]⟩ : Str) = repS z n.toNat := str_ext (by
          rw [repS_cps]
          show ((List.replicate n.toNat z.cps).foldl (· ++ ·) #[]).toList = _
          rw [fold_cat]
          simp)
        rw [e]
        exact ⟨by rw [repS_len, sizeLine_eq, Nat.mul_comm]; exact h2, ⟨.str _, H, I.tok _, ⟨_, rfl⟩, q⟩⟩
def wMul (K : PySem.W.Frag) : R2 := fun x y H Q => rRepS x y H Q ∨ uMul K x y H Q
theorem op_wMul {X : Cx} : OpR X (binaryOp .Mult) (wMul X.K) := op_repS.or op_uMul
/-! ### split -/
def rSplit : V → List V → Hp → VK → Prop := fun x xs H Q => ∃ a b, x = .str a ∧ xs = [.str b] ∧ (b.length == 0) = false ∧ a.length + 2 ≤ sizeLine ∧ rNewStrs (Txt.split a b) H Q
theorem mt_uSplit {X : Cx} : MtR X "str.split" rSplit := mt_split
/-! ### int of a text -/
def wInt : List V → Hp → VK → Prop := fun xs H Q => (∃ a n, xs = [.str a] ∧ PySem.intText? a = some n ∧ a.length ≤ 640 ∧ Q (.int n) H) ∨ uInt xs H Q
theorem call_wInt {X : Cx} : CallR X (.type "int") wInt := call_int_str.or call_int_u
/-! ### the place of a sign that is there -/
def rIndexS : V → List V → Hp → VK → Prop := fun x xs H Q => ∃ (a b : Str) (k : Nat), x = .str a ∧ xs = [.str b] ∧ Txt.index0 a b = some k ∧ Q (.int (k : Nat)) H
theorem mt_indexS {X : Cx} : MtR X "str.index" rIndexS := by
  intro pins s σ H x xs v us Q I rx rs h
  obtain ⟨a, b, k, rfl, rfl, e, q⟩ := h
  obtain ⟨t, rfl⟩ := rx
  cases rs with
  | cons r1 rs =>
    cases rs
    obtain ⟨u, rfl⟩ := r1
    cases ho : Builtin.Str.occurrences a b 0 a.length 1 with
    | nil =>
      unfold Txt.index0 at e
      rw [ho] at e
      cases e
    | cons k2 rest =>
      unfold Txt.index0 at e
      rw [ho] at e
      cases e
      exact PySem.SC.index ho ⟨.int (k : Nat), H, I.tok _, ⟨_, rfl⟩, q⟩
end SL

namespace SL
open PySem PySem.Spec PyProof.Rows L2
/-! ### keyword-only defaults -/
inductive Pl where
  | pos (i : Nat)
  | key (i : Nat)
  | low (i : Nat)
def Pl.v (vs ms zs : List V) : Pl → V
  | .pos i => vs.getD i .non
  | .key i => zs.getD i .non
  | .low i => ms.getD i .non
def Pl.u (us ms ws : List Value) : Pl → Value
  | .pos i => us.getD i .none
  | .key i => ws.getD i .none
  | .low i => ms.getD i .none
theorem Pl.rel {vs ms zs : List V} {us mv ws : List Value} (r : Vals vs us) (m : Vals ms mv) (q : Vals zs ws) : ∀ ps : List Pl, Vals (ps.map (Pl.v vs ms zs)) (ps.map (Pl.u us mv ws))
  | [] => .nil
  | .pos i :: ps => .cons (getD_rel r i) (Pl.rel r m q ps)
  | .key i :: ps => .cons (getD_rel q i) (Pl.rel r m q ps)
  | .low i :: ps => .cons (getD_rel m i) (Pl.rel r m q ps)
section
variable {K : PySem.W.Frag} {x qual : Str} {params : Arguments} {body : List Stmt} {scope : Scope} {kws : List (Str × V)} {f : Addr} {fd : FuncData} {ps : List Str}
abbrev KBl (K : PySem.W.Frag) (fd : FuncData) (ps : List Str) (n : Nat) (ks : List Str) (pm : List Pl) (ms : List V) : Prop := ∃ mv : List Value, KBn K fd ps n ks (fun us ws => pm.map (Pl.u us mv ws)) (fun vs zs => pm.map (Pl.v vs ms zs))
theorem kb_low (F : FunD K x qual params body scope [] kws f fd) {n : Nat} {ks : List Str} (ms : List (Str × V)) {pm : List Pl} (hk : kws ≠ []) (hms : ∀ q ∈ ms, q ∈ kws)
    (h : ∀ (D : Addr) (doc pm' : Value) (an : Option Addr) (cdv ct : Value) (us mv ws : List Value), us.length = n → mv.length = ms.length → ws.length = ks.length →
      KwChain D ((ms.map (·.1)).zip mv) (bindArgs (PySem.W.fnOf x qual params body scope .none (.ref D) doc pm' an cdv ct) ⟨us, ks.zip ws⟩) (ps.zip (pm.map (Pl.u us mv ws)))) : KBl K fd ps n ks pm (ms.map (·.2)) := by
  obtain ⟨oc, od, dV, kV, doc, pm', an, cdv, ct, osl, rfl, lk, hcd, hD, hK⟩ := F.ex
  rcases hD with ⟨_, rfl⟩ | ⟨e, _⟩
  · rcases hK with e | ⟨D, rfl, hq⟩
    · exact absurd e hk
    · obtain ⟨mv, l, rk, look⟩ := kwd_vals (ms := ms) fun q hm => hq q (hms q hm)
      exact ⟨mv, fun s us ws X l1 l2 => L2.BindsTo.of_looks fun M => (h D doc pm' an cdv ct us mv ws l1 l l2 |> KwChain.looks X look), fun r1 r2 => Pl.rel r1 rk r2 pm⟩
  · exact absurd rfl e
end
def tKl (sp : Sp) (pm : List Pl) (ms : List V) (n m : Nat) (t tk : TA) : TE := tCallN n m sp (fun vs zs => pm.map (Pl.v vs ms zs)) E0 t tk
theorem st_kl {σ : L2.St} {H : Hp} {Q : VK} {tr tk : TA} {sp : Sp} {pm : List Pl} {ms : List V} {n m : Nat} (h : tr σ H fun vs H1 => tk σ H1 fun zs H2 => vs.length = n ∧ zs.length = m ∧ sp (pm.map (Pl.v vs ms zs)) H2 Q E0) : tKl sp pm ms n m tr tk σ H Q := h
section
variable {X : Cx} {CX : CXT} {k n m : Nat} {f : Addr} {fd : FuncData} {ps ks : List Str} {sp : Sp} {x : Str} {p pos : Pos} {e : Expr} {es : List Expr} {kws : List Keyword} {t tk : TA} {pm : List Pl} {ms : List V}
/-- f(k = v, ..), some keyword-only ones lack -/
theorem pe_kl0 (F : FnOk X.prog X.w X.K X.mg X.base CX k f fd ps sp) (hr : Room k X.A) (hg : Gl X x) (hm : X.mg x = some (.ref f)) (hk : PySem.W.keepIn X.K (.ref f) = true) (hb : KBl X.K fd ps 0 ks pm ms) (hx : Passes CX X E0)
    (hkw : PK X kws tk) (hl : ks.length = m) (hall : (backToKw pos (keywordEach kws X.env)).all (·.1.isSome) = true := by rfl) (hks : (backToKw pos (keywordEach kws X.env)).filterMap (·.1) = ks := by rfl)
    (hdb : (x == ("__debug__" : Str)) = false := by decide)
    (hpl : ((backTo pos (starEach [] X.env)).any (·.1) || (backToKw pos (keywordEach kws X.env)).any (·.1.isNone)) = false := by rfl) :
    PE X (.Call (.Name x p) [] kws pos) (tKl sp pm ms 0 m tNil tk) := by
  obtain ⟨mv, hb⟩ := hb
  subst hl
  constructor
  intro pins s σ H Q I h
  refine wpAny_Call_Name_kw (ld_glob I hg hm ?_ hdb)
  refine PySem.W.callWith_KW0 (h₀ := X.base) I.ok.mod.kin hk hall ?_ hpl
  have h : tk σ H fun zs H2 => ([] : List V).length = 0 ∧ zs.length = ks.length ∧ sp (pm.map (Pl.v [] ms zs)) H2 Q E0 := h
  refine thn (hkw.run pos pins s σ H _ I h) ?_
  rintro ws s2 ⟨zs, H2, I2, rz, l1, l2, q2⟩
  refine ⟨I2.kIn, ?_⟩
  rw [hks]
  exact run_fnN (us := []) (vs := []) F hr hb hx I2 .nil rz rfl l2 q2
theorem pe_kl1 (F : FnOk X.prog X.w X.K X.mg X.base CX k f fd ps sp) (hr : Room k X.A) (hg : Gl X x) (hm : X.mg x = some (.ref f)) (hk : PySem.W.keepIn X.K (.ref f) = true) (hb : KBl X.K fd ps n ks pm ms) (hx : Passes CX X E0)
    (ha : PA X (e :: es) t) (hkw : PK X kws tk) (hl : ks.length = m) (hall : (backToKw pos (keywordEach kws X.env)).all (·.1.isSome) = true := by rfl) (hks : (backToKw pos (keywordEach kws X.env)).filterMap (·.1) = ks := by rfl)
    (hdb : (x == ("__debug__" : Str)) = false := by decide) (he : starEach (e :: es) X.env = (false, eval e X.env) :: starEach es X.env := by rfl)
    (hpl : ((backTo pos (starEach (e :: es) X.env)).any (·.1) || (backToKw pos (keywordEach kws X.env)).any (·.1.isNone)) = false := by rfl) :
    PE X (.Call (.Name x p) (e :: es) kws pos) (tKl sp pm ms n m t tk) := by
  obtain ⟨mv, hb⟩ := hb
  subst hl
  exact pe_callN F hr hg hm hk hb hx ha hkw hall hks hdb he hpl
end
end SL

namespace SL
open PySem PySem.Spec PyProof.Rows L2
/-! ### repr of whole numbers, None and lists of data -/
theorem shown_len {i : Int} {k : Nat} (hk : 0 < k) (h : i.natAbs < 10 ^ k) : (PyData.int i).shown.length ≤ k + 1 := by
  rw [PyData.shown_int]
  show (Str.ofString (toString i)).length ≤ k + 1
  rw [PySem.ofString_length]
  exact int_text_length_le10 hk h
theorem log_10 {i : Int} (h : i.natAbs < 10 ^ 50) : i.natAbs.log2 < 1920 := Nat.lt_trans (PySem.Flt.log2_lt_of (k := 180) (by decide) (Nat.lt_of_lt_of_le h (by decide))) (by decide)
theorem short_int {i : Int} (h : i.natAbs < 10 ^ 50) : Short 60 (.int i) := ⟨by
  simp only [PyData.showable]
  exact decide_eq_true (log_10 h), by
  simp only [PyData.leavesShort]
  exact decide_eq_true (Nat.le_trans (shown_len (by decide) h) (by decide)), by simp [PyData.depth]⟩
theorem Short.shows {d : PyData} (h : Short 60 d) (hb : d.bulk ≤ 200000) : Shows d := ⟨h.sh, ⟨60, by decide, h.lf, by omega⟩, by
  have := h.dp
  omega⟩
section
variable {K : PySem.W.Frag} {H : Hp} {Q : VK} {M : List Addr}
theorem u_repr_l {a : Addr} {xs : List V} {ds : List PyData} (h : SqL K H a xs) (r : RpA [] K H xs ds) (s : ∀ d ∈ ds, Short 60 d) (hN : PyData.bulkAll ds ≤ 200000) (q : Q (.str (PyData.list ds).shown) H) : uRepr K [.ref a] H Q :=
  u_repr (d := .list ds) (Rp.lst (M := []) ⟨h, List.not_mem_nil⟩ r).dp (shows_list (B := 60) (N := 200000) (by decide) s hN (by decide)) q
/-- a number or None -/
def vO : Option Int → V
  | none => .non
  | some n => .int n
def dO : Option Int → PyData
  | none => .none
  | some n => .int n
theorem rp_o : ∀ o : Option Int, Rp M K H (vO o) (dO o)
  | none => .non
  | some n => .int n
theorem RpA.opts : ∀ os : List (Option Int), RpA M K H (os.map vO) (os.map dO)
  | [] => .nil
  | o :: os => .cons (rp_o o) (RpA.opts os)
def OkO (o : Option Int) : Prop := ∀ n, o = some n → n.natAbs < 10 ^ 50
theorem short_o : ∀ {o : Option Int}, OkO o → Short 60 (dO o)
  | none, _ => short_none 60
  | some n, h => short_int (h n rfl)
theorem bulk_o : ∀ o : Option Int, (dO o).bulk = 0
  | none => by simp [dO, PyData.bulk]
  | some n => by simp [dO, PyData.bulk]
theorem bulk_os : ∀ os : List (Option Int), PyData.bulkAll (os.map dO) = os.length
  | [] => by simp [PyData.bulkAll]
  | o :: os => by
    rw [List.map_cons, PyData.bulkAll, bulk_os os, bulk_o]
    simp
    omega
theorem u_repr_o {o : Option Int} (h : OkO o) (q : Q (.str (dO o).shown) H) : uRepr K [vO o] H Q := u_repr (rp_o (M := []) o).dp ((short_o h).shows (by rw [bulk_o]; decide)) q
theorem u_repr_os {a : Addr} {os : List (Option Int)} (h : H a = some (.lst (os.map vO))) (s : ∀ o ∈ os, OkO o) (hl : os.length ≤ 100000) (q : Q (.str (PyData.list (os.map dO)).shown) H) : uRepr K [.ref a] H Q :=
  u_repr_l (sqL h) (RpA.opts os) (fun d hd => by
    obtain ⟨o, ho, rfl⟩ := List.mem_map.mp hd
    exact short_o (s o ho)) (by rw [bulk_os]; omega) q
end
/-! ### small texts -/
theorem asc_of {z : Str} (h : (z.cps.toList.all fun c => decide (c < 128)) = true) : Asc z := fun c hc => of_decide_eq_true (List.all_eq_true.mp h c hc)
theorem digit_text {r : Int} (h0 : 0 ≤ r) (h1 : r < 10) : (Str.ofString (toString r)).length = 1 ∧ Asc (Str.ofString (toString r)) := by
  obtain ⟨n, rfl⟩ := Int.eq_ofNat_of_zero_le h0
  have hn : n < 10 := by omega
  have e := TL.tl_num n
  rw [TL.numL_lt hn] at e
  have e2 : (Str.ofString (toString ((n : Nat) : Int))).cps.toList = [48 + n] := e
  refine ⟨by rw [SL.len_str, e2]; rfl, fun c hc => ?_⟩
  rw [e2] at hc
  have := List.mem_singleton.mp hc
  omega
theorem asc_join {ys : List Str} (h : ∀ z ∈ ys, Asc z) : Asc (Txt.join "" ys) := by
  intro c hc
  rw [TL.join_eq] at hc
  have e : (Str.join "" ys).cps.toList = (ys.map TL.tl).flatten := by
    have e := TL.tl_join "" ys
    have e2 : TL.tl ("" : Str) = [] := by decide +kernel
    rw [e2, joinL_nil] at e
    exact e
  rw [e] at hc
  obtain ⟨l, hl, hcl⟩ := List.mem_flatten.mp hc
  obtain ⟨z, hz, rfl⟩ := List.mem_map.mp hl
  exact h z hz c hcl
theorem asc_rep {z : Str} {n : Nat} (h : Asc z) : Asc (repS z n) := fun c hc => by
  rw [repS_cps] at hc
  obtain ⟨l, hl, hcl⟩ := List.mem_flatten.mp hc
  rw [List.eq_of_mem_replicate hl] at hcl
  exact h c hcl
end SL

/-! SL9: own instances: len, repr, str by the class's own defs. -/
namespace SL
open PySem PySem.Spec PyProof.Rows L2
section
variable {prog : Program} {w : World} {A : Around} {E : Value → Shared → Prop} {s : Shared}
/-- two values compared where neither's class stands ahead of the other's: the left one is asked, and the right one where the left one declines -/
theorem asked_left {op : CmpOp} {a b ta tb : Value} {Q : Value → Shared → Prop} (room : A.units < cLine) (two : oneThing? op a b = none) (la : PySem.W.Looks (model prog w) s.heap (typeOf a) ta) (lb : PySem.W.Looks (model prog w) s.heap (typeOf b) tb)
    (keep : (ta != tb) = true → PySem.W.Looks (model prog w) s.heap (isSubtype tb ta) false)
    (h : wpAny (model prog w) A (tryCompare a (cmpInfo op).2.1 b) (fun r s1 => match r with | some v => Q v s1 | none => wpAny (model prog w) A (tryCompare b (cmpInfo op).2.2 a) (fun r2 s2 => ∃ v, r2 = some v ∧ Q v s2) E s1) E s) :
    wpAny (model prog w) A (richCompare op a b) Q E s := by
  have go : ∀ {k : Bool → Sem Value}, wpAny (model prog w) A (k false) Q E s → wpAny (model prog w) A (if (ta != tb) = true then isSubtype tb ta >>= k else pure false >>= k) Q E s := by
    intro k q
    by_cases e : (ta != tb) = true
    · rw [if_pos e]; exact wpAny_bind ((keep e).here q)
    · rw [if_neg e]; exact wpAny_bind (wpAny_pure q)
  unfold richCompare
  rw [two]
  refine wpAny_holding (wpAny_bind (wpAny_cRoomFor room (wpAny_bind (la.here (wpAny_bind (lb.here (go ?_)))))))
  refine wpAny_bind (wpAny_mono h ?_ fun _ _ e => e)
  rintro (_ | v) s1 q
  · refine wpAny_bind (wpAny_mono q ?_ fun _ _ e => e)
    rintro _ s2 ⟨v, rfl, q2⟩
    exact wpAny_pure q2
  · exact wpAny_pure q
end
section
variable {X : Cx} {CX : CXT} {C g : Addr} {n : Nat} {sp : Sp} {E : XK}
/-- an own instance stands -/
def Ins (H : Hp) (a C dx : Addr) (fs : List (Str × V)) : Prop := H a = some (.ins C dx fs)
section
variable {pins : List (Addr × Obj)} {s : Shared} {σ : L2.St} {H : Hp} {a dx : Addr} {fs : List (Str × V)}
/-- an own instance as the class's rules want it -/
theorem Ins.at_ (hi : Ins H a C dx fs) (I : Inv X pins σ H s) : ∃ ox od, PySem.W.InstAt s.heap a ox C od :=
  let ⟨_, J, _⟩ := ins_get I.hok hi
  let ⟨od, J', _⟩ := J.look
  ⟨_, od, J'⟩
/-- the own def, run anywhere below, answers as it promises -/
theorem own_says {A : Around} {us : List Value} {xs : List V} {P : VK} {Q : Value → Shared → Prop} (F : FnR X.prog X.w X.K X.mg X.base CX n g sp) (room : Room n A) (e0 : Env0 X.prog X.w X.K X.mg X.base A X.stack s H) (hx : Passes CX X E) (I : Inv X pins σ H s) (rs : Vals xs us) (q : sp xs H P E)
    (to : ∀ z H' u s', Inv X pins σ H' s' → RelV z u → P z H' → Q u s') : wpAny (model X.prog X.w) A (call (.ref g) us) Q X.xe s :=
  wpAny_mono (wpAny_call (SlX.run_at F room e0 hx I rs q)) (fun u s' ⟨z, H', J, rz, p⟩ => to z H' u s' J rz p) fun _ _ e => e
/-- the only argument is the instance -/
theorem only_ref {us : List Value} (r : Vals [V.ref a] us) : us = [.ref a] := Vals.ref1 r
end
def rLenO (C : Addr) (sp : Sp) (E : XK) : List V → Hp → VK → Prop := fun xs H Q => ∃ (a dx : Addr) (fs : List (Str × V)), xs = [V.ref a] ∧ Ins H a C dx fs ∧ sp [.ref a] H (fun z H' => ∃ i : Int, z = .int i ∧ 0 ≤ i ∧ i < 2 ^ 63 ∧ Q z H') E
theorem call_lenO (hs : PySem.W.findIn X.K (.ref C) "__len__" = some (some (.ref g))) (hf : PySem.W.isFn X.K (.ref g) = true) (F : FnR X.prog X.w X.K X.mg X.base CX n g sp) (hr : Room (n + 1) X.A) (hx : Passes CX X E) : CallR X (.builtin "len") (rLenO C sp E) := by
  rintro pins s σ H _ us Q I r ⟨a, dx, fs, rfl, hi, q⟩
  obtain rfl := only_ref r
  obtain ⟨ox, od, J⟩ := hi.at_ I
  refine PySem.W.len_K I.fr.choose_spec I.ok.mod.kin J hs hf (own_says (xs := [.ref a]) F (Room.in1 hr) I.env0.in1 hx I (.cons rfl .nil) q ?_)
  rintro _ H' u s' J' rz ⟨i, rfl, lo, hi, q'⟩
  obtain ⟨t, rfl⟩ := rz
  exact ⟨⟨lo, hi⟩, .int i, H', J'.tok _, ⟨_, rfl⟩, q'⟩
def rReprO (C : Addr) (sp : Sp) (E : XK) : List V → Hp → VK → Prop := fun xs H Q => ∃ (a dx : Addr) (fs : List (Str × V)), xs = [V.ref a] ∧ Ins H a C dx fs ∧ sp [.ref a] H (fun z H' => ∃ y : Str, z = .str y ∧ Q z H') E
theorem call_reprO (hs : PySem.W.findIn X.K (.ref C) "__repr__" = some (some (.ref g))) (hf : PySem.W.isFn X.K (.ref g) = true) (F : FnR X.prog X.w X.K X.mg X.base CX n g sp) (hr : Room (n + 1) X.A) (hx : Passes CX X E) : CallR X (.builtin "repr") (rReprO C sp E) := by
  rintro pins s σ H _ us Q I r ⟨a, dx, fs, rfl, hi, q⟩
  obtain rfl := only_ref r
  obtain ⟨ox, od, J⟩ := hi.at_ I
  refine PySem.W.repr_K (Room.in1 hr).units0 I.fr.choose_spec I.ok.mod.kin J hs hf (own_says (xs := [.ref a]) F (Room.in1 hr) I.env0.in1 hx I (.cons rfl .nil) q ?_)
  rintro _ H' u s' J' rz ⟨y, rfl, q'⟩
  obtain ⟨t, rfl⟩ := rz
  exact ⟨.str y, H', J', ⟨_, rfl⟩, q'⟩
def rStrO (C : Addr) (sp : Sp) (E : XK) : List V → Hp → VK → Prop := fun xs H Q => ∃ (a dx : Addr) (fs : List (Str × V)), xs = [V.ref a] ∧ Ins H a C dx fs ∧ sp [.ref a] H (fun z H' => ∃ y : Str, z = .str y ∧ Q z H') E
theorem call_strO (hs : PySem.W.findIn X.K (.ref C) "__str__" = some (some (.ref g))) (hf : PySem.W.isFn X.K (.ref g) = true) (F : FnR X.prog X.w X.K X.mg X.base CX n g sp) (hr : Room (n + 2) X.A) (hx : Passes CX X E) : CallR X (.type "str") (rStrO C sp E) := by
  rintro pins s σ H _ us Q I r ⟨a, dx, fs, rfl, hi, q⟩
  obtain rfl := only_ref r
  obtain ⟨ox, od, J⟩ := hi.at_ I
  have room : Room n X.A.in1.in1 := (Room.in1 (k := n + 1) hr).in1
  refine PySem.W.kso_call room.units0 I.kIn J hs hf (own_says (xs := [.ref a]) F room I.env0.in1.in1 hx I (.cons rfl .nil) q ?_)
  rintro _ H' u s' J' rz ⟨y, rfl, q'⟩
  obtain ⟨t, rfl⟩ := rz
  exact ⟨.str y, H', J', ⟨_, rfl⟩, q'⟩
/-- own == anything (a value of the type t, which is not below C) -/
def rEqO (K : PySem.W.Frag) (C : Addr) (sp : Sp) (E : XK) : R2 := fun x y H Q => ∃ (a dx : Addr) (fs : List (Str × V)) (t : Value), x = .ref a ∧ Ins H a C dx fs ∧ TyY K H y t ∧ PySem.W.notFirst K C t = true ∧ sp [x, y] H (fun z H' => ∃ b, z = .bl b ∧ Q z H') E
theorem op_eqO (hs : PySem.W.findIn X.K (.ref C) "__eq__" = some (some (.ref g))) (hf : PySem.W.isFn X.K (.ref g) = true) (F : FnR X.prog X.w X.K X.mg X.base CX n g sp) (hr : Room n X.A) (hx : Passes CX X E) : OpR X (compareOp .Eq) (rEqO X.K C sp E) := by
  rintro pins s σ H _ y v u Q I rx ry ⟨a, dx, fs, t, rfl, hi, ty, below, q⟩
  obtain rfl : v = .ref a := rx
  obtain ⟨ox, od, J⟩ := hi.at_ I
  obtain ⟨P, Z, p, _⟩ := kit_y I ry ty
  refine PySem.W.cmp_K (op := .Eq) (tb := t) hr.units0 I.fr.choose_spec I.ok.mod.kin J (Z.ty _ _ I.kIn p) below hs hf (own_says (xs := [.ref a, y]) F hr I.env0 hx I (.cons rfl (.cons ry .nil)) q ?_)
  rintro _ H' v s' J' rz ⟨b, rfl, q'⟩
  obtain rfl : v = .bool b := rz
  exact ⟨.bl b, H', J', rfl, q'⟩
end
section
variable {prog : Program} {w : World} {A : Around} {E : Value → Shared → Prop} {s : Shared} {K : PySem.W.Frag} {x C f : Addr} {ox : Obj} {od : Option Obj} {b : Value}
/-- what stands in the class under a name, bound to the instance -/
theorem bound_as {M : Model} {name : Str} {v : Value} {as : Value × List Value} {Q : Option (Value × List Value) → Shared → Prop} (X : K.In s.heap) (I : PySem.W.InstAt s.heap x ox C od) (hs : PySem.W.findIn K (.ref C) name = some (some v)) (bd : PySem.W.Looks M s.heap (bindSpecial v (.ref x)) as) (q : Q (some as) s) :
    wpAny M A (bindSpecialIfBound? (.ref x) name) Q E s := by
  have fin : ∀ E, wpAny M A (do return some (← bindSpecial v (.ref x))) Q E s := fun _ => wpAny_bind (bd.here (wpAny_pure q))
  refine wpAny_bind (wpAny_bind (I.type.here ((PySem.W.looks_findIn X hs).here ?_)))
  refine wpAny_bind (wpAny_askSetting (wpAny_ite ?_))
  split
  · exact fin E
  · exact wpAny_tryCatch (fin _)
/-- object's `__ne__` turns the own == round -/
theorem object_ne {Q : Value → Shared → Prop} (hu : A.in1.units < cLine) (X : K.In s.heap) (I : PySem.W.InstAt s.heap x ox C od) (hm : PySem.W.mroIn K C (.type "object") = some true) (hs : PySem.W.findIn K (.ref C) "__eq__" = some (some (.ref f))) (hf : PySem.W.isFn K (.ref f) = true)
    (h : wpAny (model prog w) A.in1 (call (.ref f) [.ref x, b]) (fun v s' => ∃ k, v = .bool k ∧ Q (.bool (!k)) s') E s) : wpAny (model prog w) A (call (.builtin "object.__ne__") [.ref x, b]) Q E s := by
  refine wpAny_call (codeAny_call_builtin F.cmp_object.ne.plain F.cmpEntry_ne (PySem.W.check_slot F.cmpKind_ne F.cmpSplit_ne (I.type.andThen (PySem.W.looks_mroIn X hm)) (F.cmpArgs_ne _ _) ?_))
  refine wpAny_bind (m := slotArgs "__ne__" 1 _) (wpAny_pure (wpAny_bind (wpAny_cRoomFor hu (wpAny_bind (PySem.W.ifBound_K X I hs hf (wpAny_mono h ?_ fun _ _ e => e))))))
  rintro _ s' ⟨k, rfl, q⟩
  exact wpAny_bind (wpAny_truthy_bool (wpAny_pure q))
theorem cmp_ne {tb : Value} {Q : Value → Shared → Prop} (hu : A.units < cLine) (hu1 : A.in1.units < cLine) (X : K.In s.heap) (I : PySem.W.InstAt s.heap x ox C od) (hm : PySem.W.mroIn K C (.type "object") = some true) (hb : PySem.W.Looks (model prog w) s.heap (typeOf b) tb) (hn : PySem.W.notFirst K C tb = true)
    (hne : PySem.W.findIn K (.ref C) "__ne__" = some (some (.builtin "object.__ne__"))) (hs : PySem.W.findIn K (.ref C) "__eq__" = some (some (.ref f))) (hf : PySem.W.isFn K (.ref f) = true)
    (h : wpAny (model prog w) A.in1 (call (.ref f) [.ref x, b]) (fun v s' => ∃ k, v = .bool k ∧ Q (.bool (!k)) s') E s) : wpAny (model prog w) A (richCompare .NotEq (.ref x) b) Q E s := by
  refine asked_left hu (oneThing_ref ..) I.type hb (fun d => ?_) ?_
  · refine PySem.W.looks_subIn X ((Bool.or_eq_true_iff.1 hn).elim (fun e => ?_) beq_iff_eq.1)
    rw [beq_iff_eq.1 e] at d
    simp at d
  · refine wpAny_bind (wpAny_holding (wpAny_bind (bound_as X I hne (.of_pure (F.cmp_object.ne.bind _)) (wpAny_bind (object_ne hu1 X I hm hs hf (wpAny_mono h ?_ fun _ _ e => e))))))
    rintro _ s' ⟨k, rfl, q⟩
    exact ⟨k, rfl, wpAny_pure (wpAny_pure q)⟩
end
section
variable {X : Cx} {CX : CXT} {C g : Addr} {n : Nat} {sp : Sp} {E : XK}
/-- own != anything, by the own == -/
def rNeO (K : PySem.W.Frag) (C : Addr) (sp : Sp) (E : XK) : R2 := fun x y H Q => ∃ (a dx : Addr) (fs : List (Str × V)) (t : Value), x = .ref a ∧ Ins H a C dx fs ∧ TyY K H y t ∧ PySem.W.notFirst K C t = true ∧ sp [x, y] H (fun z H' => ∃ b, z = .bl b ∧ Q (.bl (!b)) H') E
theorem op_neO (hm : PySem.W.mroIn X.K C (.type "object") = some true) (hne : PySem.W.findIn X.K (.ref C) "__ne__" = some (some (.builtin "object.__ne__"))) (hs : PySem.W.findIn X.K (.ref C) "__eq__" = some (some (.ref g))) (hf : PySem.W.isFn X.K (.ref g) = true) (F : FnR X.prog X.w X.K X.mg X.base CX n g sp) (hr : Room (n + 1) X.A) (hx : Passes CX X E) : OpR X (compareOp .NotEq) (rNeO X.K C sp E) := by
  rintro pins s σ H _ y v u Q I rx ry ⟨a, dx, fs, t, rfl, hi, ty, below, q⟩
  obtain rfl : v = .ref a := rx
  obtain ⟨ox, od, J⟩ := hi.at_ I
  obtain ⟨P, Z, p, _⟩ := kit_y I ry ty
  have room : Room n X.A.in1 := Room.in1 hr
  refine cmp_ne hr.units0 room.units0 I.kIn J hm (Z.ty _ _ I.kIn p) below hne hs hf (own_says (xs := [.ref a, y]) F room I.env0.in1 hx I (.cons rfl (.cons ry .nil)) q ?_)
  rintro _ H' v s' J' rz ⟨b, rfl, q'⟩
  obtain rfl : v = .bool b := rz
  exact ⟨b, rfl, .bl (!b), H', J', rfl, q'⟩
end
end SL

/-! ### a built-in value's == declines an own instance -/
namespace SL
open PySem PySem.Spec PyProof.Rows L2
open AutoSeq1 (wpAny_loadPart')
open MeetsSeq MeetsSeq2 MeetsSeq3 SeqRoads2
theorem int_declines {K : PySem.W.Frag} (b : Int) (u : Tok) (l C dx : Addr) (e : PySem.W.subIn K (.ref C) (.type "int") = some false) :
    Meets (Builtin.«int.__eq__» ⟨[.int b u, .ref l], []⟩) (fun _ R s => K.In s.heap ∧ s.heap.get? l = some (PySem.W.instObj C dx) ∧ R (.ok (.ret .notImplemented)) s) :=
  .of_wp fun prog w A R s h => by
    obtain ⟨hp, g, d, tk, os⟩ := s
    obtain ⟨X, hl, h⟩ := h
    wp_walk using wpAny_loadPart' hl, wpAny_load hl
    first
      | exact ⟨_, rfl, h⟩
      | (refine (PySem.W.looks_subIn X e).here ?_
         first
           | exact ⟨_, rfl, h⟩
           | (wp_walk using wpAny_loadPart' hl, wpAny_load hl
              exact ⟨_, rfl, h⟩))
theorem bool_declines {K : PySem.W.Frag} (b : Bool) (l C dx : Addr) (e : PySem.W.subIn K (.ref C) (.type "int") = some false) :
    Meets (Builtin.«int.__eq__» ⟨[.bool b, .ref l], []⟩) (fun _ R s => K.In s.heap ∧ s.heap.get? l = some (PySem.W.instObj C dx) ∧ R (.ok (.ret .notImplemented)) s) :=
  .of_wp fun prog w A R s h => by
    obtain ⟨hp, g, d, tk, os⟩ := s
    obtain ⟨X, hl, h⟩ := h
    wp_walk using wpAny_loadPart' hl, wpAny_load hl
    first
      | exact ⟨_, rfl, h⟩
      | (refine (PySem.W.looks_subIn X e).here ?_
         first
           | exact ⟨_, rfl, h⟩
           | (wp_walk using wpAny_loadPart' hl, wpAny_load hl
              exact ⟨_, rfl, h⟩))
theorem str_declines {K : PySem.W.Frag} (b : Str) (u : Tok) (l C dx : Addr) (e : PySem.W.subIn K (.ref C) (.type "str") = some false) :
    Meets (Builtin.«str.__eq__» ⟨[.str b u, .ref l], []⟩) (fun _ R s => K.In s.heap ∧ s.heap.get? l = some (PySem.W.instObj C dx) ∧ R (.ok (.ret .notImplemented)) s) :=
  .of_wp fun prog w A R s h => by
    obtain ⟨hp, g, d, tk, os⟩ := s
    obtain ⟨X, hl, h⟩ := h
    wp_walk using wpAny_loadPart' hl, wpAny_load hl
    first
      | exact ⟨_, rfl, h⟩
      | (refine (PySem.W.looks_subIn X e).here ?_
         first
           | exact ⟨_, rfl, h⟩
           | (wp_walk using wpAny_loadPart' hl, wpAny_load hl
              exact ⟨_, rfl, h⟩))
theorem list_declines {K : PySem.W.Frag} (a : Addr) (items : Array Value) (n : Nat) (dd : Option Addr) (sl : Array (Option Value)) (l C dx : Addr) (e : PySem.W.subIn K (.ref C) (.type "list") = some false) :
    Meets (Builtin.«list.__eq__» ⟨[.ref a, .ref l], []⟩) (fun _ R s => s.heap.get? a = some { cls := .type "list", dict := dd, data := .seq items n, slots := sl } ∧ K.In s.heap ∧ s.heap.get? l = some (PySem.W.instObj C dx) ∧ R (.ok (.ret .notImplemented)) s) :=
  .of_wp fun prog w A R s h => by
    obtain ⟨hp, g, d, tk, os⟩ := s
    obtain ⟨ha, X, hl, h⟩ := h
    wp_walk using wpAny_loadPart' ha, wpAny_load ha, wpAny_loadPart' hl, wpAny_load hl
    first
      | exact ⟨_, rfl, h⟩
      | (refine (PySem.W.looks_subIn X e).here ?_
         first
           | exact ⟨_, rfl, h⟩
           | (wp_walk using wpAny_loadPart' ha, wpAny_load ha, wpAny_loadPart' hl, wpAny_load hl
              exact ⟨_, rfl, h⟩))
theorem tuple_declines {K : PySem.W.Frag} (a : Addr) (items : Array Value) (n : Nat) (dd : Option Addr) (sl : Array (Option Value)) (l C dx : Addr) (e : PySem.W.subIn K (.ref C) (.type "tuple") = some false) :
    Meets (Builtin.«tuple.__eq__» ⟨[.ref a, .ref l], []⟩) (fun _ R s => s.heap.get? a = some { cls := .type "tuple", dict := dd, data := .seq items n, slots := sl } ∧ K.In s.heap ∧ s.heap.get? l = some (PySem.W.instObj C dx) ∧ R (.ok (.ret .notImplemented)) s) :=
  .of_wp fun prog w A R s h => by
    obtain ⟨hp, g, d, tk, os⟩ := s
    obtain ⟨ha, X, hl, h⟩ := h
    wp_walk using wpAny_loadPart' ha, wpAny_load ha, wpAny_loadPart' hl, wpAny_load hl
    first
      | exact ⟨_, rfl, h⟩
      | (refine (PySem.W.looks_subIn X e).here ?_
         first
           | exact ⟨_, rfl, h⟩
           | (wp_walk using wpAny_loadPart' ha, wpAny_load ha, wpAny_loadPart' hl, wpAny_load hl
              exact ⟨_, rfl, h⟩))
end SL

namespace SL
open PySem PySem.Spec PyProof.Rows L2
section
variable {prog : Program} {w : World} {A : Around} {E : Value → Shared → Prop} {s : Shared} {K : PySem.W.Frag} {x C f : Addr} {ox : Obj} {od : Option Obj} {b : Value}
/-- a built-in value == an own instance: the built-in one declines, the own one answers -/
theorem cmp_rev {ta : Value} {Q : Value → Shared → Prop} (hu : A.units < cLine) (X : K.In s.heap) (I : PySem.W.InstAt s.heap x ox C od) (ho : oneThing? .Eq b (.ref x) = none) (hb : PySem.W.Looks (model prog w) s.heap (typeOf b) ta) (hne : (ta == .ref C) = false) (hn : PySem.W.subIn K (.ref C) ta = some false)
    (hs : PySem.W.findIn K (.ref C) "__eq__" = some (some (.ref f))) (hf : PySem.W.isFn K (.ref f) = true)
    (dec : ∀ Q' : Option Value → Shared → Prop, Q' none s → wpAny (model prog w) A (tryCompare b "__eq__" (.ref x)) Q' E s)
    (h : wpAny (model prog w) A (call (.ref f) [.ref x, b]) (PySem.W.CmpBack Q) E s) : wpAny (model prog w) A (richCompare .Eq b (.ref x)) Q E s := by
  refine asked_left hu ho hb I.type (fun _ => PySem.W.looks_subIn X hn) (dec _ (wpAny_bind (PySem.W.ifBound_K X I hs hf (wpAny_mono h (fun v s' told => ?_) fun _ _ e => e))))
  cases v
  case notImplemented => exact told.elim
  all_goals exact wpAny_pure ⟨_, rfl, told⟩
end
end SL

namespace SL
open PySem PySem.Spec PyProof.Rows L2
section
variable {prog : Program} {w : World} {A : Around} {E : Value → Shared → Prop} {s : Shared} {K : PySem.W.Frag} {x C dx : Addr} {Q' : Option Value → Shared → Prop}
theorem dec_int {b : Int} {u : Tok} (X : K.In s.heap) (hl : s.heap.get? x = some (PySem.W.instObj C dx)) (e : PySem.W.subIn K (.ref C) (.type "int") = some false) (q : Q' none s) : wpAny (model prog w) A (tryCompare (.int b u) "__eq__" (.ref x)) Q' E s :=
  wpAny_tryCompare_declines (T := "int") (typeIs_int s b u) F.slot_int_eq (call_meets F.slot_int_eq (typeIs_int s b u) F.entry_int_eq (F.args_int_eq_2 _ _) (int_declines b u x C dx e) ⟨X, hl, rfl, q⟩)
theorem dec_str {b : Str} {u : Tok} (X : K.In s.heap) (hl : s.heap.get? x = some (PySem.W.instObj C dx)) (e : PySem.W.subIn K (.ref C) (.type "str") = some false) (q : Q' none s) : wpAny (model prog w) A (tryCompare (.str b u) "__eq__" (.ref x)) Q' E s :=
  wpAny_tryCompare_declines (T := "str") (typeIs_str s b u) F.slot_str_eq (call_meets F.slot_str_eq (typeIs_str s b u) F.entry_str_eq (F.args_str_eq_2 _ _) (str_declines b u x C dx e) ⟨X, hl, rfl, q⟩)
theorem dec_none (q : Q' none s) : wpAny (model prog w) A (tryCompare .none "__eq__" (.ref x)) Q' E s :=
  wpAny_tryCompare_declines (show s.TypeIs .none "NoneType" from rfl) F.slot_NoneType_eq (call_gives F.slot_NoneType_eq rfl F.entry_NoneType_eq (F.args_NoneType_eq_2 _ _) (SeqAt.NoneType___eq___none_ref_0 x) ⟨rfl, q⟩)
theorem dec_list {a : Addr} {items : Array Value} {n : Nat} {dd : Option Addr} {sl : Array (Option Value)} (ha : s.heap.get? a = some { cls := .type "list", dict := dd, data := .seq items n, slots := sl }) (X : K.In s.heap) (hl : s.heap.get? x = some (PySem.W.instObj C dx)) (e : PySem.W.subIn K (.ref C) (.type "list") = some false) (q : Q' none s) : wpAny (model prog w) A (tryCompare (.ref a) "__eq__" (.ref x)) Q' E s :=
  wpAny_tryCompare_declines (T := "list") ⟨_, ha, rfl⟩ F.slot_list_eq (call_meets F.slot_list_eq ⟨_, ha, rfl⟩ F.entry_list_eq (F.args_list_eq_2 _ _) (list_declines a items n dd sl x C dx e) ⟨ha, X, hl, rfl, q⟩)
theorem dec_tuple {a : Addr} {items : Array Value} {n : Nat} {dd : Option Addr} {sl : Array (Option Value)} (ha : s.heap.get? a = some { cls := .type "tuple", dict := dd, data := .seq items n, slots := sl }) (X : K.In s.heap) (hl : s.heap.get? x = some (PySem.W.instObj C dx)) (e : PySem.W.subIn K (.ref C) (.type "tuple") = some false) (q : Q' none s) : wpAny (model prog w) A (tryCompare (.ref a) "__eq__" (.ref x)) Q' E s :=
  wpAny_tryCompare_declines (T := "tuple") ⟨_, ha, rfl⟩ F.slot_tuple_eq (call_meets F.slot_tuple_eq ⟨_, ha, rfl⟩ F.entry_tuple_eq (F.args_tuple_eq_2 _ _) (tuple_declines a items n dd sl x C dx e) ⟨ha, X, hl, rfl, q⟩)
end
end SL

/-! ### l != b where the items at each place are equal -/
namespace SL
open PySem PySem.SeqAt GQ AutoSeq1 MeetsSeq MeetsSeq2 MeetsSeq3 SeqRoads2
section
variable {M : Model} {prog : Program} {w : World} {A : Around} {R : Result → Shared → Prop} {E : Value → Shared → Prop}
/-- a builtin hands on to a plain builtin -/
theorem hand_on {s : Shared} {id : String} {B : Builtin} {args : Args} (p : plainId id = true) (e : entryFor table id = some B) (h : wpAny (model prog w) A.in1 (B args) (FinOf prog w A R) (fun x s' => R (.error x) s') s) : (Code.builtin id args).quiet = true ∧ codeAny (model prog w) A (.builtin id args) R s := by
  refine ⟨plainId_quiet p args, codeAny_builtin e ?_⟩
  rw [Around.under_plainId p args]
  exact h
/-- a truth is asked, and both answers go on -/
theorem ask_on {α : Type} {t : Sem Bool} {k : Bool → Sem α} {Y N : Shared → Prop} {Q : α → Shared → Prop} {s : Shared} (ht : wpAny M A t (fun r s' => (r = true → Y s') ∧ (r = false → N s')) E s)
    (hy : ∀ s', Y s' → wpAny M A (k true) Q E s') (hn : ∀ s', N s' → wpAny M A (k false) Q E s') : wpAny M A (t >>= k) Q E s := by
  refine wpAny_bind (wpAny_mono ht (fun r s' q => ?_) fun _ _ z => z)
  cases r with
  | true => exact hy s' (q.1 rfl)
  | false => exact hn s' (q.2 rfl)
theorem past_end {xs : Array Value} {i : Nat} (h : xs.size = i) : xs[((i : Nat) : Int).toNat]? = none := by simp [h]
theorem at_place {xs : Array Value} {i : Nat} (h : i < xs.size) : xs[((i : Nat) : Int).toNat]? = some xs[i] := by simp [h]
/-- the items still to be compared, counted down -/
theorem ne_rest {l b : Addr} {N : Nat} {I : Nat → Shared → Prop} (each : ListI prog w A (fun e s' => R (.error e) s') l b N I) (fin : ∀ s, I N s → R (.ok (.ret (.bool false))) s) :
    ∀ (rest i : Nat), i + rest = N → ∀ s, I i s → wpAny (model prog w) A.in1 (Builtin.«list.__eq__.loop» ⟨[.ref l, .ref b, rawInt i, rawInt 3], []⟩) (FinOf prog w A R) (fun e s' => R (.error e) s') s
  | 0, i, here, s, st => by
    obtain ⟨xs, ys, _, _, g1, g2, z1, z2, _⟩ := each i s st
    obtain rfl : i = N := here
    have done := fin s st
    rcases s with ⟨o1, o2, o3, o4, o5⟩
    wp_walk using wpAny_loadPart' g1, wpAny_loadPart' g2
    rw [past_end z1, past_end z2]
    wp_walk using wpAny_loadPart' g1, wpAny_loadPart' g2
    show R (.ok (.ret (.bool (xs.size != ys.size)))) _
    rw [z1, z2, bne_self_eq_false]
    exact done
  | rest + 1, i, here, s, st => by
    obtain ⟨xs, ys, _, _, g1, g2, z1, z2, turn⟩ := each i s st
    have in1 : i < xs.size := by omega
    have in2 : i < ys.size := by omega
    have asked := turn in1 in2
    rcases s with ⟨o1, o2, o3, o4, o5⟩
    wp_walk using wpAny_loadPart' g1, wpAny_loadPart' g2
    rw [at_place in1, at_place in2]
    refine ask_on (Y := I (i + 1)) (N := fun _ => False) (wpAny_mono asked (fun r s2 q => ⟨fun _ => q.2, fun z => ?_⟩) fun _ _ e => e) (fun s2 st2 => ?_) fun _ no => no.elim
    · cases q.1.symm.trans z
    · have go := ne_rest each fin rest (i + 1) (by omega) s2 st2
      rcases s2 with ⟨o1, o2, o3, o4, o5⟩
      wp_walk
      rw [show (i : Int) + 1 = ((i + 1 : Nat) : Int) from rfl]
      exact hand_on plain_eq_loop entry_eq_loop go
theorem rc_listN {s : Shared} {l b : Addr} {N : Nat} {Q : Value → Shared → Prop} (hu : A.units < cLine) (I : Nat → Shared → Prop) (each : ListI prog w A E l b N I)
    (fin : ∀ s, I N s → Q (.bool false) s) (h : I 0 s) : wpAny (model prog w) A (richCompare .NotEq (.ref l) (.ref b)) Q E s := by
  obtain ⟨xs, ys, _, _, g1, g2, z1, z2, _⟩ := each 0 s h
  refine wpAny_richCompare_same_room (op := .NotEq) ⟨_, g1, rfl⟩ ⟨_, g2, rfl⟩ F.slot_list_ne (call_here F.slot_list_ne ⟨_, g1, rfl⟩ F.entry_list_ne (F.args_list_ne_2 _ _) ?_) hu
  have go := ne_rest (R := wants (fun v s' => v ≠ .notImplemented ∧ Q v s') E) each (fun s' q => ⟨nofun, fin s' q⟩) N 0 (Nat.zero_add N) s h
  have same : ¬ (xs.size != ys.size) = true := by rw [z1, z2, bne_self_eq_false]; decide
  have sub := sub_list_list
  rcases s with ⟨o1, o2, o3, o4, o5⟩
  wp_walk using wpAny_loadPart' g1, wpAny_loadPart' g2
  exact hand_on plain_eq_loop entry_eq_loop go
end
end SL

/-! SLA: sorted(tuple), enumerate(tuple). -/
namespace SL
open PySem PySem.Spec PyProof.Rows L2
section
variable {prog : Program} {w : World} {A : Around} {E : Value → Shared → Prop} {s : Shared}
/-- sorted(t) of a tuple: whatever list.sort makes of its items; h1 = the heap in which the new list is laid -/
theorem sorted_tup {l : Addr} {vs : List Value} {Good : Array Value → Prop} {Q : Value → Shared → Prop} (hl : s.heap.IsTuple l vs.toArray) (few : vs.length < 64)
    (srt : ∀ (s2 : Shared) (p : Addr) (P : PySem.Fin → Shared → Prop) (A2 : Around) (E2 : Value → Shared → Prop), s2.heap.get? p = some (seqObj "list" vs.toArray 0) → (∀ out, Good out → P (.done (.ret .none)) { s2 with heap := sortedHeap s2.heap p vs out }) → wpAny (model prog w) A2 (Builtin.«list.sort» ⟨[.ref p], []⟩) P E2 s2)
    (h : ∀ (h1 h2 : Heap) (c : Nat) out, (∀ b o, s.heap.get? b = some o → h1.get? b = some o) → (∀ b o, s.heap.get? b = some o → h2.get? b = some o) → h2.get? h1.objs.size = some (seqObj "list" out c) → Good out → Q (.ref h1.objs.size) { s with heap := h2 }) : wpAny (model prog w) A (call (.builtin "sorted") [.ref l]) Q E s := by
  obtain ⟨ob, at_, cl, ep, its⟩ := hl
  have room : vs.toArray.size ≤ sizeLine := small64 few
  refine Calls.call_function_entry kind_sorted plain_sorted entry_sorted (args_sorted1 _) ?_
  show wpAny _ _ (checkCount "sorted" 1 1 _ >>= _) _ _ _
  refine wpAny_bind (wpAny_pure (wpAny_bind (wpAny_collect_seq l (.inr rfl) at_ cl its (fun h1 grown => wpAny_bind (wpAny_newList ?_)) room)))
  have new : (h1.push (seqObj "list" vs.toArray 0)).get? h1.objs.size = some (seqObj "list" vs.toArray 0) := Heap.get?_push_size _ rfl
  refine wpAny_bind (wpAny_holding (wpAny_call_entry slot_list_sort ⟨_, new, rfl⟩ entry_list_sort (srt _ _ _ _ _ new fun out good => ⟨_, rfl, ?_⟩) (args_list_sort _)))
  obtain ⟨c, there⟩ := sortedHeap_at (vs := vs) (out := out) new
  refine wpAny_pure ⟨_, rfl, h h1 _ c out grown (fun b o e => ?_) there good⟩
  have lt : b < h1.objs.size := Heap.lt_size (grown b o e)
  exact (sortedHeap_old (Nat.ne_of_lt lt) (by rw [size_push']; exact Nat.lt_succ_of_lt lt)).trans (Heap.get?_push_of_some _ (grown b o e))
end
section
variable {X : Cx}
def rSortedIT (K : PySem.W.Frag) : List V → Hp → VK → Prop := fun vs H Q => ∃ (a : Addr) (ns : List Int), vs = [V.ref a] ∧ SqT K H a (ns.map V.int) ∧ ns.length < 64 ∧
  ∀ (ns' : List Int) (p : Addr), ns'.Perm ns → ns'.Pairwise (· ≤ ·) → H p = none → Q (.ref p) (upd H p (.lst (ns'.map V.int)))
def rSortedST (K : PySem.W.Frag) : List V → Hp → VK → Prop := fun vs H Q => ∃ (a : Addr) (xs : List Str), vs = [V.ref a] ∧ SqT K H a (xs.map V.str) ∧ xs.length < 64 ∧
  ∀ (ys : List Str) (p : Addr), ys.Perm xs → sortedS ys = true → H p = none → Q (.ref p) (upd H p (.lst (ys.map V.str)))
/-- a sorted list is laid and tracked -/
theorem laid_sorted {pins : List (Addr × Obj)} {s : Shared} {σ : L2.St} {H : Hp} {zs : List V} {out : List Value} {h1 h2 : Heap} {c : Nat} (I : Inv X pins σ H s) (g1 : ∀ b o, s.heap.get? b = some o → h1.get? b = some o) (g2 : ∀ b o, s.heap.get? b = some o → h2.get? b = some o)
    (there : h2.get? h1.objs.size = some (seqObj "list" out.toArray c)) (r : Vals zs out) (few : zs.length < 64) : H h1.objs.size = none ∧ Inv X pins σ (upd H h1.objs.size (.lst zs)) { s with heap := h2 } := by
  have off : H h1.objs.size = none := (I.hok.kept g1).fresh (Nat.le_refl _)
  have free : s.heap.get? h1.objs.size = none := by
    cases q : s.heap.get? h1.objs.size with
    | none => rfl
    | some o => exact absurd (Heap.lt_size (g1 _ o q)) (Nat.lt_irrefl _)
  exact ⟨off, I.laidN (t' := s.toks) g2 free off ⟨small64 few, out, c, r, there⟩⟩
theorem cr_sortedIT : CallR X (.builtin "sorted") (rSortedIT X.K) := by
  rintro pins s σ H vs us Q I r ⟨a, ns, rfl, hs, few, q⟩
  obtain ⟨its, rv, tup, _⟩ := I.tuple hs
  have areI := rv.ints
  have len : its.length = ns.length := areI.length
  rw [Vals.ref1 r]
  refine sorted_tup (Good := fun out => ∃ ns', IntsAre out.toList ns' ∧ ns'.Perm ns ∧ ns'.Pairwise (· ≤ ·)) tup (len ▸ few) (fun s2 p P A2 E2 new fin => list_sort_tree new areI (len ▸ few) fun out ns' a1 a2 a3 => fin out ⟨ns', a1, a2, a3⟩) ?_
  rintro h1 h2 c out g1 g2 there ⟨ns', a1, a2, a3⟩
  obtain ⟨off, J⟩ := laid_sorted (zs := ns'.map V.int) (out := out.toList) I g1 g2 there (vals_of_ints a1) (by rw [List.length_map, a2.length_eq]; exact few)
  exact ⟨.ref _, _, J, rfl, q ns' _ a2 a3 off⟩
theorem cr_sortedST : CallR X (.builtin "sorted") (rSortedST X.K) := by
  rintro pins s σ H vs us Q I r ⟨a, xs, rfl, hs, few, q⟩
  obtain ⟨its, rv, tup, _⟩ := I.tuple hs
  have areS := rv.strs
  have len : its.length < 64 := by rw [← rv.length, List.length_map]; exact few
  rw [Vals.ref1 r]
  refine sorted_tup (Good := fun out => ∃ ys, StrsAre out.toList ys ∧ ys.Perm xs ∧ sortedS ys = true) tup len (fun s2 p P A2 E2 new fin => ?_) ?_
  · refine list_sort_treeK strKind_oneLt new areS.keysOf (fun v₁ v₂ rest e => keyKind_strs (e ▸ areS)) len fun st' hp hs' => fin _ ?_
    obtain ⟨ys, a1, a2, a3⟩ := sorted_out_str areS hp hs'
    exact ⟨ys, a1, a2, a3⟩
  · rintro h1 h2 c out g1 g2 there ⟨ys, a1, a2, a3⟩
    obtain ⟨off, J⟩ := laid_sorted (zs := ys.map V.str) (out := out.toList) I g1 g2 there (vals_of_strs a1) (by rw [List.length_map, a2.length_eq]; exact few)
    exact ⟨.ref _, _, J, rfl, q ys _ a2 a3 off⟩
end
/-! enumerate(tuple) -/
/-- enumerate(t): the iterator of the tuple, and what counts over it -/
theorem tup_counted (t : Addr) (items : Array Value) :
    Meets (Builtin.«enumerate.__new__» ⟨[.type "enumerate", .ref t], []⟩) (fun _ R s => s.heap.IsTuple t items ∧
      ∀ h' e it, (∀ b o, s.heap.get? b = some o → h'.get? b = some o) → s.heap.objs.size ≤ e → s.heap.objs.size ≤ it → e ≠ it → IsEnum h' e it 0 .none → h'.IsTupleIter it t 0 → R (.ok (.ret (.ref e))) { s with heap := h' }) := by
  refine .of_wp fun prog w A R s ⟨tup, to⟩ => ?_
  obtain ⟨hp, g, d, tk, os⟩ := s
  have sub := sub_enumerate
  have start : ∀ {A' : Around} {E : Value → Shared → Prop} {Q : Value → Shared → Prop}, Q (.ref hp.objs.size) _ → wpAny (model prog w) A' (pyIter (.ref t)) Q E ⟨hp, g, d, tk, os⟩ := fun q => wpAny_pyIter_tuple tup q
  let ti : Obj := { cls := .type "tuple_iterator", data := .fields #[.ref t, .int 0 0] }
  let en : Obj := { cls := .type "enumerate", data := .fields #[.none, .bool false, .ref hp.objs.size, rawInt 0, .none, .none] }
  have end_ : R (.ok (.ret (.ref (hp.push ti).objs.size))) ⟨(hp.push ti).push en, g, d, tk, os⟩ :=
    to _ (hp.push ti).objs.size hp.objs.size (fun b o at_ => Heap.get?_push_of_some _ (Heap.get?_push_of_some _ at_)) (by rw [Heap.size_push]; exact Nat.le_succ _) (Nat.le_refl _) (by rw [Heap.size_push]; exact Nat.succ_ne_self _) (Heap.get?_push_size _ rfl)
      ⟨ti, Heap.get?_push_of_some _ (Heap.get?_push_size _ rfl), rfl, rfl⟩
  wp_walk using start
  refine wpAny_stack_any fun _ => wpAny_pure ?_
  split
  case h_1 => rename_i c _ _ _ _ _; cases (c == Value.type "enumerate") <;> (wp_walk using start; exact ⟨_, rfl, end_⟩)
  all_goals (wp_walk using start; exact ⟨_, rfl, end_⟩)
/-- what enumerate draws from a tuple -/
theorem tup_walk {prog : Program} {w : World} {A : Around} (calm : A.handled = none) {a e it : Addr} (d1 : e ≠ it) (d2 : a ≠ it) (d3 : a ≠ e) (items : Array Value) :
    ∃ Mid, WalksT prog w A e [e, it, a] [e, it] items.size (fun i vals => ∃ t x, items[i]? = some x ∧ vals = #[.int i t, x]) (fun i h => (∃ old, IsEnum h e it i old) ∧ h.IsTupleIter it a i ∧ h.IsTuple a items) Mid :=
  ⟨_, WalksT.enumerateD (Draws.tuple (A := A.in1) calm it a d2 items) e d1 (by simp [d1, Ne.symm d3]) (by simp)⟩
/-- an iterator that stands behind the last item -/
theorem tup_spent {prog : Program} {w : World} {A : Around} (calm : A.handled = none) {a it : Addr} {i : Nat} {items : Array Value} (out : items[i]? = none) :
    Draws prog w A it [it, a] i (fun _ _ => False) (fun j h => j = i ∧ h.IsTupleIter it a i ∧ h.IsTuple a items) where
  live := fun _ _ ⟨_, ⟨o, at_, _⟩, _⟩ => ⟨o, at_⟩
  frame := fun _ _ _ ⟨ej, it_, tup⟩ k => ⟨ej, it_.at (k it (List.mem_cons_self ..)), tup.at (k a (List.mem_cons_of_mem _ (List.mem_cons_self ..)))⟩
  item := fun j _ _ _ lt ⟨ej, _⟩ _ => absurd ej (Nat.ne_of_lt lt)
  done := fun _ _ _ ⟨_, it_, tup⟩ to => wpAny_nextOf_tuple_end calm it_ tup out to
/-- the tuple at a, each item in a new pair -/
def IteT (K : PySem.W.Frag) (a : Addr) : It :=
  ⟨fun i H => ∃ (xs : List V) (x : V), SqT K H a xs ∧ xs[i]? = some x, fun i H v H' => ∃ (T : Addr) (x : V), v = .ref T ∧ H T = none ∧ H' = upd H T (.tup [.int i, x]) ∧ ∀ xs, SqT K H a xs → xs[i]? = some x, fun i H => ∃ xs : List V, SqT K H a xs ∧ xs.length ≤ i⟩
theorem turn_enumT {P : Program} {w : World} {K : PySem.W.Frag} {elts : List Expr} {kk : Nat} {tpos : Pos} {a e it : Addr} (d1 : e ≠ it) (d2 : a ≠ it) (d3 : a ≠ e) :
    Turn P w K (.Tuple elts kk tpos) (IteT K a) [e, it] e (fun i h => (∃ old, IsEnum h e it i old) ∧ h.IsTupleIter it a i) where
  mem := List.mem_cons_self ..
  obj := by
    rintro i h ⟨⟨old, is⟩, ⟨o, at_, _, dt⟩⟩ b hb
    rcases List.mem_cons.1 hb with rfl | hb
    · exact ⟨_, is, nofun⟩
    · cases List.mem_singleton.1 hb
      exact ⟨o, at_, fun v q => by cases dt.symm.trans q⟩
  keep := fun i h h' ⟨⟨old, is⟩, at_⟩ k => ⟨⟨old, k e (List.mem_cons_self ..) _ is⟩, at_.at fun o q => k it (List.mem_cons_of_mem _ (List.mem_cons_self ..)) o q⟩
  item := by
    rintro X rfl rfl rfl calm i pins s σ H E I away ⟨is, at_⟩ ⟨xs, x, held, nth⟩
    obtain ⟨its, rv, tup, _⟩ := I.tuple held
    obtain ⟨u, nth', ru⟩ := rv.get nth
    have few : i < its.toArray.size := by rw [List.size_toArray]; exact (List.getElem?_eq_some_iff.1 nth').1
    obtain ⟨Mid, W⟩ := tup_walk (prog := X.prog) (w := X.w) (I.ok.hd calm) d1 d2 d3 its.toArray
    refine W.item i s _ _ few ⟨is, at_, tup⟩ fun T vals h1 tk ⟨t, y, nth2, ev⟩ new pair mid same => ⟨_, rfl, W.go elts kk tpos i T _ _ _ mid fun h2 st same2 => ?_⟩
    obtain rfl : u = y := by rw [List.getElem?_toArray, nth'] at nth2; exact Option.some.inj nth2
    subst ev
    have pair2 : h2.IsTuple T #[.int i t, u] := pair.at fun o q => same2 T o (W.apart i T h1 mid) q
    have off : H T = none := I.hok.fresh new
    refine ⟨.ref T, upd H T (.tup [.int i, x]), ?_, rfl, ⟨T, x, rfl, off, rfl, fun ys hy => I.tuple_inj hy held ▸ nth⟩, ⟨st.1, st.2.1⟩, fun b hb => ?_⟩
    · exact I.turnedNew (t' := tk) (ch := [e, it]) (fun b o out q => same2 b o out (same b o out q)) away new ⟨by show 2 ≤ sizeLine; decide, [.int i t, u], .cons ⟨_, rfl⟩ (.cons ru .nil), pair2⟩
    · rw [upd_ne (fun z : b = T => W.apart i T h1 mid (z ▸ hb))]
      exact (away b hb).1
  done := by
    rintro X rfl rfl rfl calm i pins s σ H E I away ⟨⟨old, is⟩, at_⟩ ⟨xs, held, out⟩
    obtain ⟨its, rv, tup, _⟩ := I.tuple held
    obtain ⟨f0, f1, f2, f3, f4, f5⟩ := away it (List.mem_cons_of_mem _ (List.mem_cons_self ..))
    exact wpAny_pyNext_enum_endD (tup_spent (A := X.A.in1) (I.ok.hd calm) (items := its.toArray) (by rw [List.getElem?_toArray, List.getElem?_eq_none_iff, ← rv.length]; exact out)) is ⟨rfl, at_, tup⟩ fun h' same => ⟨rfl, I.turned (t' := s.toks) same f0 f1 f3 f4 f5⟩
  self := fun A i s Q E ⟨⟨_, is⟩, _⟩ h => wpAny_pyIter_enum is h
theorem call_enumT {prog : Program} {w : World} {A : Around} {E : Value → Shared → Prop} {s : Shared} {a : Addr} {items : Array Value} {Q : Value → Shared → Prop} (tup : s.heap.IsTuple a items)
    (to : ∀ h' e it, (∀ b o, s.heap.get? b = some o → h'.get? b = some o) → s.heap.objs.size ≤ e → s.heap.objs.size ≤ it → e ≠ it → IsEnum h' e it 0 .none → h'.IsTupleIter it a 0 → Q (.ref e) { s with heap := h' }) :
    wpAny (model prog w) A (call (.type "enumerate") [.ref a]) Q E s :=
  callType_new F.called_enumerate (by decide) (F.typeCall_enumerate_1 _) (F.newCall_enumerate_1 _) (fun obj => F.args_object_init_2 obj _) F.entry_enumerate_new (tup_counted a items)
    ⟨tup, fun h' e it grown le1 le2 ne is at_ => ⟨⟨_, is, rfl⟩, to h' e it grown le1 le2 ne is at_⟩⟩
/-- enumerate of a list or of a tuple -/
def iEnumB (K : PySem.W.Frag) (ta : TA) : TI := fun σ H R => ta σ H fun vs H1 => ∃ a xs, vs = [.ref a] ∧ ((SqL K H1 a xs ∧ R (Ite K a) H1) ∨ (SqT K H1 a xs ∧ R (IteT K a) H1))
section
variable {X : Cx} {pins : List (Addr × Obj)} {σ : L2.St} {H : Hp} {s : Shared} {R : It → Hp → Prop} {elts : List Expr} {kk : Nat} {tpos : Pos}
/-- two new cells that the heap does not know -/
theorem new_two {h' : Heap} {J : It} {e it : Addr} {tn : Nat → Heap → Prop} (I : Inv X pins σ H s) (grown : ∀ b o, s.heap.get? b = some o → h'.get? b = some o) (le1 : s.heap.objs.size ≤ e) (le2 : s.heap.objs.size ≤ it)
    (T : Turn X.prog X.w X.K (.Tuple elts kk tpos) J [e, it] e tn) (st : tn 0 h') (q : R J H) : PIE X pins σ (.Tuple elts kk tpos) R (.ref e) { s with heap := h' } :=
  ⟨e, [e, it], tn, J, H, rfl, I.kept (t' := s.toks) grown, T, st, List.forall_mem_cons.2 ⟨I.fpOk le1 (I.hok.fresh le1), List.forall_mem_cons.2 ⟨I.fpOk le2 (I.hok.fresh le2), nofun⟩⟩, q⟩
theorem counts_list {a : Addr} {xs : List V} (I : Inv X pins σ H s) (held : SqL X.K H a xs) (q : R (Ite X.K a) H) :
    wpAny (model X.prog X.w) X.A (call (.type "enumerate") [.ref a]) (fun v s1 => wpAny (model X.prog X.w) X.A (pyIter v) (PIE X pins σ (.Tuple elts kk tpos) R) X.xe s1) X.xe s := by
  obtain ⟨its, _, lst, _⟩ := I.list held
  exact call_enumerate_list lst.isList fun h' is at_ _ grown => wpAny_pyIter_enum is (new_two I grown (Nat.le_succ _) (Nat.le_refl _) (turn_enum ..) ⟨⟨.none, is⟩, at_, Nat.succ_ne_self _⟩ q)
theorem counts_tuple {a : Addr} {xs : List V} (I : Inv X pins σ H s) (held : SqT X.K H a xs) (q : R (IteT X.K a) H) :
    wpAny (model X.prog X.w) X.A (call (.type "enumerate") [.ref a]) (fun v s1 => wpAny (model X.prog X.w) X.A (pyIter v) (PIE X pins σ (.Tuple elts kk tpos) R) X.xe s1) X.xe s := by
  obtain ⟨its, _, tup, _⟩ := I.tuple held
  have lt : a < s.heap.objs.size := Heap.lt_size tup.choose_spec.1
  exact call_enumT tup fun h' e it grown le1 le2 ne is at_ => wpAny_pyIter_enum is (new_two I grown le1 le2 (turn_enumT ne (Nat.ne_of_lt (Nat.lt_of_lt_of_le lt le2)) (Nat.ne_of_lt (Nat.lt_of_lt_of_le lt le1))) ⟨⟨.none, is⟩, at_⟩ q)
theorem pi_enumB {e : Expr} {ta : TA} {p pos : Pos} (hg : Gl X "enumerate") (hm : X.mg "enumerate" = none) (ha : PA X [e] ta) (hs : starEach [e] X.env = [(false, eval e X.env)] := by rfl) :
    PI X (.Tuple elts kk tpos) (.Call (.Name "enumerate" p) [e] [] pos) (iEnumB X.K ta) where
  run pins s σ H R I h := by
    refine Call_ (ld_blt I hg hm boot_enumerate (PyProof.Rows.callWith_type1 (thn (ha.run pos pins s σ H _ I h) ?_) hs rfl))
    rintro us s1 ⟨_, H1, I1, rs, a, xs, rfl, q⟩
    obtain rfl := Vals.ref1 rs
    rcases q with ⟨held, q⟩ | ⟨held, q⟩
    · exact counts_list I1 held q
    · exact counts_tuple I1 held q
end
end SL

/-! CM0: values as trees with cells; what stands for a tree in the heap. A cell is a thing that may change: its place is told by a number. -/
namespace CM
open PySem PySem.Spec PyProof.Rows L2 SL

/-- the written part, and where the cells stand -/
structure Kx where
  fr : PySem.W.Frag
  ka : List Addr
instance : CoeOut Kx PySem.W.Frag := ⟨Kx.fr⟩
def Kx.up (K : Kx) (l : List Addr) : Kx := ⟨K.fr, K.ka ++ l⟩
inductive D where
  | non | bl (b : Bool) | int (i : Int) | str (z : Str) | ty (n : String) | glo (x : Str)
  | lst (xs : List D) | scr (ns : List Int) | tup (xs : List D) | dK (kvs : List (L2.Key × D)) | rng (lo hi : Int)
  | ins (C : Str) (fs : List (Str × D)) | ce (n : Nat) | exc (C : Str) (fs : List (Str × D)) | tg (v : V) (d : D) | bo (v : V) (d e : D)
def D.u : D → D
  | .tg _ d => d.u
  | d => d

/-- a list, a tuple to be read, off M -/
def LtR (M : List Addr) (K : Kx) (H : Hp) (a : Addr) (xs : List V) : Prop := (Rd H a (.lst xs) ∧ a ∉ M) ∨
  ∃ (o : Obj) (its : Array Value) (n : Nat), K.fr.lookup a = some o ∧ o.cls = .type "list" ∧ o.dict = none ∧ o.data = .seq its n ∧ its.size ≤ sizeLine ∧ Vals xs its.toList
def TpR (M : List Addr) (H : Hp) (a : Addr) (xs : List V) : Prop := H a = some (.tup xs) ∧ a ∉ M
section
variable {M M' : List Addr} {K : Kx} {H H' : Hp} {a p : Addr} {xs : List V} {o : HO}
theorem LtR.sq (h : LtR M K H a xs) : SqL K H a xs := h.imp (·.1) id
theorem TpR.sq {f : PySem.W.Frag} (h : TpR M H a xs) : SqT f H a xs := .inl (.inl h.1)
theorem LtR.ex (h : LtR M K H a xs) (e : Ex M H H') : LtR M K H' a xs := h.imp (fun z => ⟨rd_ex e z.2 z.1, z.2⟩) id
theorem TpR.ex (h : TpR M H a xs) (e : Ex M H H') : TpR M H' a xs := ⟨e _ _ h.2 h.1, h.2⟩
theorem LtR.mono (hm : ∀ x ∈ M', x ∈ M) (h : LtR M K H a xs) : LtR M' K H a xs := h.imp (fun z => ⟨z.1, fun q => z.2 (hm _ q)⟩) id
theorem TpR.mono (hm : ∀ x ∈ M', x ∈ M) (h : TpR M H a xs) : TpR M' H a xs := ⟨h.1, fun q => h.2 (hm _ q)⟩
theorem rd_ne {u : HO} (h : Rd H a u) (hp : H p = none) : a ≠ p := by
  intro e
  subst e
  rcases h with h | ⟨o, h⟩ <;> (rw [hp] at h; cases h)
theorem LtR.fresh (hp : H p = none) (hm : ∀ x ∈ M', x ∈ M ∨ x = p) (h : LtR M K H a xs) : LtR M' K H a xs := h.imp (fun z => ⟨z.1, fun q => (hm _ q).elim z.2 (rd_ne z.1 hp)⟩) id
theorem TpR.fresh (hp : H p = none) (hm : ∀ x ∈ M', x ∈ M ∨ x = p) (h : TpR M H a xs) : TpR M' H a xs := ⟨h.1, fun q => (hm _ q).elim h.2 (ne_of_none h.1 hp)⟩
theorem At.fresh (hp : H p = none) (hm : ∀ x ∈ M', x ∈ M ∨ x = p) (h : At M H a o) : At M' H a o := ⟨h.at_, fun q => (hm _ q).elim h.off (ne_of_none h.at_ hp)⟩
end
mutual
inductive Rep (M : List Addr) (K : Kx) (H : Hp) : V → D → Prop
  | non : Rep M K H .non .non
  | bl (b : Bool) : Rep M K H (.bl b) (.bl b)
  | int (i : Int) : Rep M K H (.int i) (.int i)
  | str (z : Str) : Rep M K H (.str z) (.str z)
  | ty (n : String) : Rep M K H (.ty n) (.ty n)
  | glo (x : Str) : Rep M K H (.ref (He.ga K x)) (.glo x)
  | lst {a : Addr} {xs : List V} {ds : List D} : At M H a (.lst xs) → RepA M K H xs ds → Rep M K H (.ref a) (.lst ds)
  | scr {a : Addr} {ns : List Int} : LtR M K H a (ns.map V.int) → Rep M K H (.ref a) (.scr ns)
  | tup {a : Addr} {xs : List V} {ds : List D} : TpR M H a xs → RepA M K H xs ds → Rep M K H (.ref a) (.tup ds)
  | dK {a : Addr} {kvs : List (L2.Key × V)} {ds : List (L2.Key × D)} : At M H a (.dK kvs) → kvs.map (·.1) = ds.map (·.1) → RepA M K H (kvs.map (·.2)) (ds.map (·.2)) → Rep M K H (.ref a) (.dK ds)
  | rng {a : Addr} {lo hi : Int} : At M H a (.rng lo hi) → Rep M K H (.ref a) (.rng lo hi)
  | ins {a dx : Addr} {C : Str} {vs : List (Str × V)} {ds : List (Str × D)} : At M H a (.ins (He.ga K C) dx vs) → vs.map (·.1) = ds.map (·.1) → RepA M K H (vs.map (·.2)) (ds.map (·.2)) → Rep M K H (.ref a) (.ins C ds)
  | exc {a dx : Addr} {C : Str} {vs : List (Str × V)} {ds : List (Str × D)} : At M H a (exo a (He.ga K C) (some dx)) → At M H dx (exd dx vs) → vs.map (·.1) = ds.map (·.1) → RepA M K H (vs.map (·.2)) (ds.map (·.2)) → Rep M K H (.ref a) (.exc C ds)
  | ce {a : Addr} {n : Nat} : K.ka[n]? = some a → Rep M K H (.ref a) (.ce n)
  | tg {v : V} {d : D} : Rep M K H v d → Rep M K H v (.tg v d)
  | bo {a : Addr} {w : V} {d e : D} : Rep M K H (.ref a) d → Rep M K H w e → Rep M K H (.ref a) (.bo w d e)
inductive RepA (M : List Addr) (K : Kx) (H : Hp) : List V → List D → Prop
  | nil : RepA M K H [] []
  | cons {v : V} {vs : List V} {d : D} {ds : List D} : Rep M K H v d → RepA M K H vs ds → RepA M K H (v :: vs) (d :: ds)
end
section
variable {M M' : List Addr} {K : Kx} {H H' : Hp} {p : Addr} {o : HO}
mutual
theorem Rep.ex (e : Ex M H H') : ∀ {v : V} {d : D}, Rep M K H v d → Rep M K H' v d
  | _, _, .non => .non
  | _, _, .bl b => .bl b
  | _, _, .int i => .int i
  | _, _, .str x => .str x
  | _, _, .ty n => .ty n
  | _, _, .glo x => .glo x
  | _, _, .lst h a => .lst (h.ex e) (RepA.ex e a)
  | _, _, .scr h => .scr (h.ex e)
  | _, _, .tup h a => .tup (h.ex e) (RepA.ex e a)
  | _, _, .dK h n a => .dK (h.ex e) n (RepA.ex e a)
  | _, _, .rng h => .rng (h.ex e)
  | _, _, .ins h n a => .ins (h.ex e) n (RepA.ex e a)
  | _, _, .exc h h2 n a => .exc (h.ex e) (h2.ex e) n (RepA.ex e a)
  | _, _, .ce h => .ce h
  | _, _, .tg h => .tg (Rep.ex e h)
  | _, _, .bo h h2 => .bo (Rep.ex e h) (Rep.ex e h2)
theorem RepA.ex (e : Ex M H H') : ∀ {vs : List V} {ds : List D}, RepA M K H vs ds → RepA M K H' vs ds
  | _, _, .nil => .nil
  | _, _, .cons h a => .cons (Rep.ex e h) (RepA.ex e a)
end
mutual
theorem Rep.mono (hm : ∀ x ∈ M', x ∈ M) : ∀ {v : V} {d : D}, Rep M K H v d → Rep M' K H v d
  | _, _, .non => .non
  | _, _, .bl b => .bl b
  | _, _, .int i => .int i
  | _, _, .str x => .str x
  | _, _, .ty n => .ty n
  | _, _, .glo x => .glo x
  | _, _, .lst h a => .lst (h.mono hm) (RepA.mono hm a)
  | _, _, .scr h => .scr (h.mono hm)
  | _, _, .tup h a => .tup (h.mono hm) (RepA.mono hm a)
  | _, _, .dK h n a => .dK (h.mono hm) n (RepA.mono hm a)
  | _, _, .rng h => .rng (h.mono hm)
  | _, _, .ins h n a => .ins (h.mono hm) n (RepA.mono hm a)
  | _, _, .exc h h2 n a => .exc (h.mono hm) (h2.mono hm) n (RepA.mono hm a)
  | _, _, .ce h => .ce h
  | _, _, .tg h => .tg (Rep.mono hm h)
  | _, _, .bo h h2 => .bo (Rep.mono hm h) (Rep.mono hm h2)
theorem RepA.mono (hm : ∀ x ∈ M', x ∈ M) : ∀ {vs : List V} {ds : List D}, RepA M K H vs ds → RepA M' K H vs ds
  | _, _, .nil => .nil
  | _, _, .cons h a => .cons (Rep.mono hm h) (RepA.mono hm a)
end
mutual
theorem Rep.fresh (hp : H p = none) (hm : ∀ x ∈ M', x ∈ M ∨ x = p) : ∀ {v : V} {d : D}, Rep M K H v d → Rep M' K H v d
  | _, _, .non => .non
  | _, _, .bl b => .bl b
  | _, _, .int i => .int i
  | _, _, .str x => .str x
  | _, _, .ty n => .ty n
  | _, _, .glo x => .glo x
  | _, _, .lst h a => .lst (At.fresh hp hm h) (RepA.fresh hp hm a)
  | _, _, .scr h => .scr (h.fresh hp hm)
  | _, _, .tup h a => .tup (h.fresh hp hm) (RepA.fresh hp hm a)
  | _, _, .dK h n a => .dK (At.fresh hp hm h) n (RepA.fresh hp hm a)
  | _, _, .rng h => .rng (At.fresh hp hm h)
  | _, _, .ins h n a => .ins (At.fresh hp hm h) n (RepA.fresh hp hm a)
  | _, _, .exc h h2 n a => .exc (At.fresh hp hm h) (At.fresh hp hm h2) n (RepA.fresh hp hm a)
  | _, _, .ce h => .ce h
  | _, _, .tg h => .tg (Rep.fresh hp hm h)
  | _, _, .bo h h2 => .bo (Rep.fresh hp hm h) (Rep.fresh hp hm h2)
theorem RepA.fresh (hp : H p = none) (hm : ∀ x ∈ M', x ∈ M ∨ x = p) : ∀ {vs : List V} {ds : List D}, RepA M K H vs ds → RepA M' K H vs ds
  | _, _, .nil => .nil
  | _, _, .cons h a => .cons (Rep.fresh hp hm h) (RepA.fresh hp hm a)
end
theorem Rep.u : ∀ {v : V} {d : D}, Rep M K H v d → Rep M K H v d.u
  | _, _, .non => .non
  | _, _, .bl b => .bl b
  | _, _, .int i => .int i
  | _, _, .str x => .str x
  | _, _, .ty n => .ty n
  | _, _, .glo x => .glo x
  | _, _, .lst h a => .lst h a
  | _, _, .scr h => .scr h
  | _, _, .tup h a => .tup h a
  | _, _, .dK h n a => .dK h n a
  | _, _, .rng h => .rng h
  | _, _, .ins h n a => .ins h n a
  | _, _, .exc h h2 n a => .exc h h2 n a
  | _, _, .bo h h2 => .bo h h2
  | _, _, .ce h => .ce h
  | _, _, .tg (d := d) h => (Rep.u (d := d) h : Rep M K H _ d.u)
theorem RepA.append : ∀ {vs ws : List V} {ds es : List D}, RepA M K H vs ds → RepA M K H ws es → RepA M K H (vs ++ ws) (ds ++ es)
  | _, _, _, _, .nil, b => b
  | _, _, _, _, .cons h a, b => .cons h (RepA.append a b)
theorem RepA.len : ∀ {vs : List V} {ds : List D}, RepA M K H vs ds → vs.length = ds.length
  | _, _, .nil => rfl
  | _, _, .cons _ a => congrArg (· + 1) (RepA.len a)
theorem RepA.get : ∀ {vs : List V} {ds : List D} {i : Nat} {d : D}, RepA M K H vs ds → ds[i]? = some d → ∃ v, vs[i]? = some v ∧ Rep M K H v d
  | _, _, i, d, .nil, e => by simp at e
  | _, _, 0, d, .cons h _, e => by simp at e; subst e; exact ⟨_, rfl, h⟩
  | _, _, i + 1, d, .cons _ a, e => by
    obtain ⟨v, h1, h2⟩ := RepA.get (i := i) a (by simpa using e)
    exact ⟨v, by simpa using h1, h2⟩
theorem RepA.getV {vs : List V} {ds : List D} {i : Nat} {v : V} (h : RepA M K H vs ds) (e : vs[i]? = some v) : ∃ d, ds[i]? = some d ∧ Rep M K H v d := by
  have hi : i < ds.length := by
    rw [← h.len]
    exact (List.getElem?_eq_some_iff.mp e).1
  obtain ⟨v', h1, h2⟩ := h.get (List.getElem?_eq_getElem hi)
  rw [e] at h1
  cases h1
  exact ⟨_, List.getElem?_eq_getElem hi, h2⟩
theorem RepA.take : ∀ {vs : List V} {ds : List D} (n : Nat), RepA M K H vs ds → RepA M K H (vs.take n) (ds.take n)
  | _, _, 0, _ => .nil
  | _, _, _ + 1, .nil => .nil
  | _, _, n + 1, .cons h a => .cons h (RepA.take n a)
theorem RepA.drop : ∀ {vs : List V} {ds : List D} (n : Nat), RepA M K H vs ds → RepA M K H (vs.drop n) (ds.drop n)
  | _, _, 0, h => h
  | _, _, _ + 1, .nil => .nil
  | _, _, n + 1, .cons _ a => RepA.drop n a
theorem RepA.set : ∀ {vs : List V} {ds : List D} {v : V} {d : D} (n : Nat), RepA M K H vs ds → Rep M K H v d → RepA M K H (vs.set n v) (ds.set n d)
  | _, _, _, _, _, .nil, _ => .nil
  | _, _, _, _, 0, .cons _ a, r => .cons r a
  | _, _, _, _, n + 1, .cons h a, r => .cons h (RepA.set n a r)
theorem RepA.ints : ∀ ns : List Int, RepA M K H (ns.map V.int) (ns.map D.int)
  | [] => .nil
  | n :: r => .cons (.int n) (RepA.ints r)
theorem RepA.strs : ∀ ns : List Str, RepA M K H (ns.map V.str) (ns.map D.str)
  | [] => .nil
  | n :: r => .cons (.str n) (RepA.strs r)
theorem RepA.bls : ∀ ns : List Bool, RepA M K H (ns.map V.bl) (ns.map D.bl)
  | [] => .nil
  | n :: r => .cons (.bl n) (RepA.bls r)
end
section
variable {M M' : List Addr} {K : Kx} {H : Hp} {a : Addr} {xs : List V} {o : HO}
theorem LtR.frs (hm : ∀ x ∈ M', x ∈ M ∨ H x = none) (h : LtR M K H a xs) : LtR M' K H a xs := h.imp (fun z => ⟨z.1, fun q => (hm _ q).elim z.2 fun e => rd_ne z.1 e rfl⟩) id
theorem TpR.frs (hm : ∀ x ∈ M', x ∈ M ∨ H x = none) (h : TpR M H a xs) : TpR M' H a xs := ⟨h.1, fun q => (hm _ q).elim h.2 fun e => by rw [h.1] at e; cases e⟩
theorem At.frs (hm : ∀ x ∈ M', x ∈ M ∨ H x = none) (h : At M H a o) : At M' H a o := ⟨h.at_, fun q => (hm _ q).elim h.off fun e => by rw [h.at_] at e; cases e⟩
mutual
theorem Rep.frs (hm : ∀ x ∈ M', x ∈ M ∨ H x = none) : ∀ {v : V} {d : D}, Rep M K H v d → Rep M' K H v d
  | _, _, .non => .non
  | _, _, .bl b => .bl b
  | _, _, .int i => .int i
  | _, _, .str x => .str x
  | _, _, .ty n => .ty n
  | _, _, .glo x => .glo x
  | _, _, .lst h a => .lst (At.frs hm h) (RepA.frs hm a)
  | _, _, .scr h => .scr (h.frs hm)
  | _, _, .tup h a => .tup (h.frs hm) (RepA.frs hm a)
  | _, _, .dK h n a => .dK (At.frs hm h) n (RepA.frs hm a)
  | _, _, .rng h => .rng (At.frs hm h)
  | _, _, .ins h n a => .ins (At.frs hm h) n (RepA.frs hm a)
  | _, _, .exc h h2 n a => .exc (At.frs hm h) (At.frs hm h2) n (RepA.frs hm a)
  | _, _, .ce h => .ce h
  | _, _, .tg h => .tg (Rep.frs hm h)
  | _, _, .bo h h2 => .bo (Rep.frs hm h) (Rep.frs hm h2)
theorem RepA.frs (hm : ∀ x ∈ M', x ∈ M ∨ H x = none) : ∀ {vs : List V} {ds : List D}, RepA M K H vs ds → RepA M' K H vs ds
  | _, _, .nil => .nil
  | _, _, .cons h a => .cons (Rep.frs hm h) (RepA.frs hm a)
end
end
/-! ### more cells, fewer cells -/
section
variable {M : List Addr} {K : Kx} {l : List Addr} {H : Hp}
theorem up_at {K : Kx} {l : List Addr} {n : Nat} {a : Addr} (h : K.ka[n]? = some a) : (K.up l).ka[n]? = some a := by
  show (K.ka ++ l)[n]? = some a
  rw [List.getElem?_append_left (List.getElem?_eq_some_iff.mp h).1]
  exact h
mutual
theorem Rep.up : ∀ {v : V} {d : D}, Rep M K H v d → Rep M (K.up l) H v d
  | _, _, .non => .non
  | _, _, .bl b => .bl b
  | _, _, .int i => .int i
  | _, _, .str x => .str x
  | _, _, .ty n => .ty n
  | _, _, .glo x => .glo x
  | _, _, .lst h a => .lst h (RepA.up a)
  | _, _, .scr h => .scr h
  | _, _, .tup h a => .tup h (RepA.up a)
  | _, _, .dK h n a => .dK h n (RepA.up a)
  | _, _, .rng h => .rng h
  | _, _, .ins h n a => .ins h n (RepA.up a)
  | _, _, .exc h h2 n a => .exc h h2 n (RepA.up a)
  | _, _, .ce h => .ce (up_at h)
  | _, _, .tg h => .tg (Rep.up h)
  | _, _, .bo h h2 => .bo (Rep.up h) (Rep.up h2)
theorem RepA.up : ∀ {vs : List V} {ds : List D}, RepA M K H vs ds → RepA M (K.up l) H vs ds
  | _, _, .nil => .nil
  | _, _, .cons h a => .cons (Rep.up h) (RepA.up a)
end
end
mutual
/-- no cell from k on is told of -/
def below (k : Nat) : D → Bool
  | .lst xs => belows k xs
  | .tup xs => belows k xs
  | .dK kvs => belowK k kvs
  | .ins _ fs => belowF k fs
  | .exc _ fs => belowF k fs
  | .ce n => decide (n < k)
  | .tg _ d => below k d
  | .bo _ d e => below k d && below k e
  | _ => true
def belows (k : Nat) : List D → Bool
  | [] => true
  | d :: ds => below k d && belows k ds
def belowF (k : Nat) : List (Str × D) → Bool
  | [] => true
  | (_, d) :: ds => below k d && belowF k ds
def belowK (k : Nat) : List (L2.Key × D) → Bool
  | [] => true
  | (_, d) :: ds => below k d && belowK k ds
end
theorem belows_eq {k : Nat} : ∀ ds : List D, belows k ds = ds.all (below k)
  | [] => by simp only [belows, List.all_nil]
  | d :: ds => by simp only [belows, List.all_cons, belows_eq ds]
theorem belowF_eq {k : Nat} : ∀ ds : List (Str × D), belowF k ds = belows k (ds.map (·.2))
  | [] => by simp only [belows, belowF, List.map_nil]
  | (a, d) :: ds => by simp only [belows, belowF, List.map_cons, belowF_eq ds]
theorem belowK_eq {k : Nat} : ∀ ds : List (L2.Key × D), belowK k ds = belows k (ds.map (·.2))
  | [] => by simp only [belows, belowK, List.map_nil]
  | (a, d) :: ds => by simp only [belows, belowK, List.map_cons, belowK_eq ds]
section
variable {M : List Addr} {f : PySem.W.Frag} {κ l : List Addr} {H : Hp}
mutual
theorem Rep.dn : ∀ {v : V} {d : D}, Rep M ⟨f, κ ++ l⟩ H v d → below κ.length d = true → Rep M ⟨f, κ⟩ H v d
  | _, _, .non, _ => .non
  | _, _, .bl b, _ => .bl b
  | _, _, .int i, _ => .int i
  | _, _, .str x, _ => .str x
  | _, _, .ty n, _ => .ty n
  | _, _, .glo x, _ => .glo x
  | _, _, .lst h a, e => .lst h (RepA.dn a (by simpa only [below] using e))
  | _, _, .scr h, _ => .scr h
  | _, _, .tup h a, e => .tup h (RepA.dn a (by simpa only [below] using e))
  | _, _, .dK h n a, e => .dK h n (RepA.dn a (by
      simp only [below] at e
      rw [belowK_eq] at e
      exact e))
  | _, _, .rng h, _ => .rng h
  | _, _, .ins h n a, e => .ins h n (RepA.dn a (by
      simp only [below] at e
      rw [belowF_eq] at e
      exact e))
  | _, _, .exc h h2 n a, e => .exc h h2 n (RepA.dn a (by
      simp only [below] at e
      rw [belowF_eq] at e
      exact e))
  | _, _, .ce h, e => .ce (by
      simp only [below, decide_eq_true_eq] at e
      have h : (κ ++ l)[_]? = some _ := h
      rwa [List.getElem?_append_left e] at h)
  | _, _, .tg h, e => .tg (Rep.dn h (by simpa only [below] using e))
  | _, _, .bo h h2, e => .bo (Rep.dn h (by
      simp only [below, Bool.and_eq_true] at e
      exact e.1)) (Rep.dn h2 (by
      simp only [below, Bool.and_eq_true] at e
      exact e.2))
theorem RepA.dn : ∀ {vs : List V} {ds : List D}, RepA M ⟨f, κ ++ l⟩ H vs ds → belows κ.length ds = true → RepA M ⟨f, κ⟩ H vs ds
  | _, _, .nil, _ => .nil
  | _, _, .cons h a, e => .cons (Rep.dn h (by
      simp only [belows, Bool.and_eq_true] at e
      exact e.1)) (RepA.dn a (by
      simp only [belows, Bool.and_eq_true] at e
      exact e.2))
end
mutual
/-- what is told of stands -/
theorem Rep.wf : ∀ {v : V} {d : D}, Rep M ⟨f, κ⟩ H v d → below κ.length d = true
  | _, _, .non => by simp only [below]
  | _, _, .bl b => by simp only [below]
  | _, _, .int i => by simp only [below]
  | _, _, .str x => by simp only [below]
  | _, _, .ty n => by simp only [below]
  | _, _, .glo x => by simp only [below]
  | _, _, .lst h a => by simp only [below]; exact RepA.wf a
  | _, _, .scr h => by simp only [below]
  | _, _, .tup h a => by simp only [below]; exact RepA.wf a
  | _, _, .dK h n a => by simp only [below]; rw [belowK_eq]; exact RepA.wf a
  | _, _, .rng h => by simp only [below]
  | _, _, .ins h n a => by simp only [below]; rw [belowF_eq]; exact RepA.wf a
  | _, _, .exc h h2 n a => by simp only [below]; rw [belowF_eq]; exact RepA.wf a
  | _, _, .ce h => by
    simp only [below, decide_eq_true_eq]
    exact (List.getElem?_eq_some_iff.mp h).1
  | _, _, .tg h => by simp only [below]; exact Rep.wf h
  | _, _, .bo h h2 => by simp only [below, Rep.wf h, Rep.wf h2, Bool.and_self]
theorem RepA.wf : ∀ {vs : List V} {ds : List D}, RepA M ⟨f, κ⟩ H vs ds → belows κ.length ds = true
  | _, _, .nil => by simp only [belows]
  | _, _, .cons h a => by simp only [belows, Rep.wf h, RepA.wf a, Bool.and_self]
end
end
end CM

/-! CM1: a frame's slots, the table of cells, held values; how they change. -/
namespace CM
open PySem PySem.Spec PyProof.Rows L2 SL

inductive Sl where
  | un | cl (d : D)
/-- a held value: one that may be kept; a new thing of which nobody else knows -/
inductive W where
  | cl (d : D) | nw (c : D)
abbrev W.fr (ds : List D) : W := .nw (.lst ds)
abbrev Tb := List D
structure Fm where
  A : List Addr
  Io : List Addr
  H0 : Hp
structure Fm.Ok (F : Fm) : Prop where
  tr : ∀ a ∈ F.A, F.H0 a ≠ none
  io : ∀ a ∈ F.Io, a ∈ F.A
def rootW : V × W → Option Addr
  | (.ref p, .nw _) => some p
  | _ => none
abbrev rootsW (st : List (V × W)) : List Addr := st.filterMap rootW
/-- a thing that may change: what it holds -/
inductive Own (M : List Addr) (K : Kx) (H : Hp) (p : Addr) : D → Prop
  | lst {xs : List V} {ds : List D} : H p = some (.lst xs) → RepA M K H xs ds → Own M K H p (.lst ds)
  | dK {kvs : List (L2.Key × V)} {ds : List (L2.Key × D)} : H p = some (.dK kvs) → kvs.map (·.1) = ds.map (·.1) → RepA M K H (kvs.map (·.2)) (ds.map (·.2)) → Own M K H p (.dK ds)
  | ins {C : Str} {dx : Addr} {vs : List (Str × V)} {ds : List (Str × D)} : H p = some (.ins (He.ga K C) dx vs) → vs.map (·.1) = ds.map (·.1) → RepA M K H (vs.map (·.2)) (ds.map (·.2)) → Own M K H p (.ins C ds)
inductive SlR (M : List Addr) (K : Kx) (H : Hp) : Option V → Sl → Prop
  | un {o : Option V} : SlR M K H o .un
  | cl {v : V} {d : D} : Rep M K H v d → SlR M K H (some v) (.cl d)
inductive WR (F : Fm) (M : List Addr) (K : Kx) (H : Hp) : V → W → Prop
  | cl {v : V} {d : D} : Rep M K H v d → WR F M K H v (.cl d)
  | nw {p : Addr} {c : D} : F.H0 p = none → Own M K H p c → WR F M K H (.ref p) (.nw c)
/-- what must be kept off by what stays -/
abbrev av (F : Fm) (κ : List Addr) (st : List (V × W)) : List Addr := F.A ++ (κ ++ rootsW st)
structure EnvK (f : PySem.W.Frag) (κ : List Addr) (F : Fm) (σ : L2.St) (H : Hp) (ρ : List Sl) (h : Tb) (st : List (V × W)) : Prop where
  ok : F.Ok
  len : σ.length = ρ.length
  kl : κ.length = h.length
  io : ∃ l, κ = F.Io ++ l ∧ ∀ p ∈ l, F.H0 p = none
  ex : Ex F.Io F.H0 H
  tr : ∀ a, F.H0 a ≠ none → H a ≠ none
  nd : (κ ++ rootsW st).Nodup
  sl : ∀ (i : Nat) (o : Option V) (s : Sl), σ[i]? = some o → ρ[i]? = some s → SlR (av F κ st) ⟨f, κ⟩ H o s
  ce : ∀ (n : Nat) (p : Addr) (c : D), κ[n]? = some p → h[n]? = some c → Own (av F κ st) ⟨f, κ⟩ H p c
  wv : ∀ x ∈ st, WR F (av F κ st) ⟨f, κ⟩ H x.1 x.2
def EnvR (f : PySem.W.Frag) (F : Fm) (σ : L2.St) (H : Hp) (ρ : List Sl) (h : Tb) (st : List (V × W)) : Prop := ∃ κ, EnvK f κ F σ H ρ h st
section
variable {f : PySem.W.Frag} {κ : List Addr} {F : Fm} {M M' : List Addr} {K : Kx} {H H' : Hp} {p r : Addr} {o : Option V} {s s' : Sl} {σ : L2.St} {ρ ρ' : List Sl} {h h' : Tb} {st st' l : List (V × W)} {v : V} {w : W} {i n : Nat} {d c c' : D} {ds es : List D} {xs ys : List V}
theorem rootW_cl : rootW (v, .cl d) = none := by cases v <;> rfl
theorem Own.mono (hm : ∀ x ∈ M', x ∈ M) {d : D} (h : Own M K H p d) : Own M' K H p d := by
  cases h with
  | lst a b => exact .lst a (b.mono hm)
  | dK a n b => exact .dK a n (b.mono hm)
  | ins a n b => exact .ins a n (b.mono hm)
theorem SlR.mono (hm : ∀ x ∈ M', x ∈ M) (h : SlR M K H o s) : SlR M' K H o s := by
  cases h with
  | un => exact .un
  | cl r => exact .cl (r.mono hm)
theorem WR.mono (hm : ∀ x ∈ M', x ∈ M) (h : WR F M K H v w) : WR F M' K H v w := by
  cases h with
  | cl r => exact .cl (r.mono hm)
  | nw e r => exact .nw e (r.mono hm)
theorem Own.fresh (hp : H p = none) (hm : ∀ x ∈ M', x ∈ M ∨ x = p) {q : Addr} {d : D} (h : Own M K H q d) : Own M' K H q d := by
  cases h with
  | lst a b => exact .lst a (b.fresh hp hm)
  | dK a n b => exact .dK a n (b.fresh hp hm)
  | ins a n b => exact .ins a n (b.fresh hp hm)
theorem SlR.fresh (hp : H p = none) (hm : ∀ x ∈ M', x ∈ M ∨ x = p) (h : SlR M K H o s) : SlR M' K H o s := by
  cases h with
  | un => exact .un
  | cl r => exact .cl (r.fresh hp hm)
theorem WR.fresh (hp : H p = none) (hm : ∀ x ∈ M', x ∈ M ∨ x = p) (h : WR F M K H v w) : WR F M' K H v w := by
  cases h with
  | cl r => exact .cl (r.fresh hp hm)
  | nw n a => exact .nw n (a.fresh hp hm)
theorem Own.ex (e : Ex M H H') (hq : H' p = H p) {d : D} (h : Own M K H p d) : Own M K H' p d := by
  cases h with
  | lst a b => exact .lst (hq.trans a) (b.ex e)
  | dK a n b => exact .dK (hq.trans a) n (b.ex e)
  | ins a n b => exact .ins (hq.trans a) n (b.ex e)
theorem Own.up {l : List Addr} {d : D} (h : Own M K H p d) : Own M (K.up l) H p d := by
  cases h with
  | lst a b => exact .lst a b.up
  | dK a n b => exact .dK a n b.up
  | ins a n b => exact .ins a n b.up
theorem Own.some {d : D} (h : Own M K H p d) : H p ≠ none := by
  cases h with
  | lst a b => rw [a]; exact fun z => by cases z
  | dK a n b => rw [a]; exact fun z => by cases z
  | ins a n b => rw [a]; exact fun z => by cases z
theorem SlR.ex (e : Ex M H H') (h : SlR M K H o s) : SlR M K H' o s := by
  cases h with
  | un => exact .un
  | cl r => exact .cl (r.ex e)
theorem SlR.up {l : List Addr} (h : SlR M K H o s) : SlR M (K.up l) H o s := by
  cases h with
  | un => exact .un
  | cl r => exact .cl r.up
theorem WR.ex (e : Ex M H H') (hq : ∀ p c, v = .ref p → w = .nw c → H p ≠ none → H' p = H p) (h : WR F M K H v w) : WR F M K H' v w := by
  cases h with
  | cl r => exact .cl (r.ex e)
  | nw n r => exact .nw n (r.ex e (hq _ _ rfl rfl r.some))
theorem WR.up {l : List Addr} (h : WR F M K H v w) : WR F M (K.up l) H v w := by
  cases h with
  | cl r => exact .cl r.up
  | nw n r => exact .nw n r.up
theorem ex_same (e : Ex [] H H') (h : H p ≠ none) : H' p = H p := by
  cases q : H p with
  | none => exact absurd q h
  | some u => exact e p u (List.not_mem_nil) q

/-! ### frames -/
theorem mem_rootsW : r ∈ rootsW st ↔ ∃ x ∈ st, rootW x = some r := List.mem_filterMap
theorem EnvK.root_some (E : EnvK f κ F σ H ρ h st) (hr : r ∈ rootsW st) : H r ≠ none ∧ F.H0 r = none := by
  obtain ⟨⟨v, w⟩, hx, e⟩ := mem_rootsW.mp hr
  have q := E.wv _ hx
  dsimp only at q
  generalize av F κ st = M at q
  cases q with
  | cl r => rw [rootW_cl] at e; cases e
  | nw n a => cases e; exact ⟨a.some, n⟩
theorem EnvK.at_cell (E : EnvK f κ F σ H ρ h st) {n : Nat} (hn : κ[n]? = some p) : ∃ c, h[n]? = some c ∧ Own (av F κ st) ⟨f, κ⟩ H p c := by
  have hl : n < h.length := by
    rw [← E.kl]
    exact (List.getElem?_eq_some_iff.mp hn).1
  exact ⟨_, List.getElem?_eq_getElem hl, E.ce n p _ hn (List.getElem?_eq_getElem hl)⟩
theorem EnvK.ka_some (E : EnvK f κ F σ H ρ h st) (hr : r ∈ κ) : H r ≠ none := by
  obtain ⟨n, hn⟩ := List.mem_iff_getElem?.mp hr
  obtain ⟨c, _, q⟩ := E.at_cell hn
  exact q.some
theorem EnvK.av_some (E : EnvK f κ F σ H ρ h st) (hr : r ∈ av F κ st) : H r ≠ none := by
  rcases List.mem_append.mp hr with h | h
  · exact E.tr r (E.ok.tr r h)
  · rcases List.mem_append.mp h with h | h
    · exact E.ka_some h
    · exact (E.root_some h).1
theorem av_new (E : EnvK f κ F σ H ρ h st) (hp : H p = none) : p ∉ av F κ st := fun h => E.av_some h hp
theorem av_ka (h : r ∈ κ) : r ∈ av F κ st := List.mem_append.mpr (.inr (List.mem_append.mpr (.inl h)))
theorem av_st (h : r ∈ rootsW st) : r ∈ av F κ st := List.mem_append.mpr (.inr (List.mem_append.mpr (.inr h)))
theorem av_sub (hm : ∀ x ∈ st', x ∈ st) : ∀ x ∈ av F κ st', x ∈ av F κ st := fun x hx => by
  rcases List.mem_append.mp hx with h | h
  · exact List.mem_append.mpr (.inl h)
  · rcases List.mem_append.mp h with h | h
    · exact av_ka h
    · obtain ⟨y, hy, e⟩ := mem_rootsW.mp h
      exact av_st (mem_rootsW.mpr ⟨y, hm y hy, e⟩)
theorem slot_at (E : EnvK f κ F σ H ρ h st) (h2 : ρ[i]? = some s) : ∃ o, σ[i]? = some o ∧ SlR (av F κ st) ⟨f, κ⟩ H o s := by
  have hi : i < σ.length := by
    rw [E.len]
    exact (List.getElem?_eq_some_iff.mp h2).1
  exact ⟨_, List.getElem?_eq_getElem hi, E.sl i _ s (List.getElem?_eq_getElem hi) h2⟩
/-- new things alone -/
theorem EnvK.grow (E : EnvK f κ F σ H ρ h st) (e : Ex [] H H') : EnvK f κ F σ H' ρ h st where
  ok := E.ok
  len := E.len
  kl := E.kl
  io := E.io
  ex := E.ex.trans e.nil
  tr := fun a h => by
    have q := E.tr a h
    rw [ex_same e q]
    exact q
  nd := E.nd
  sl := fun i o s h1 h2 => (E.sl i o s h1 h2).ex e.nil
  ce := fun n p c h1 h2 => (E.ce n p c h1 h2).ex e.nil (ex_same e (E.ce n p c h1 h2).some)
  wv := fun x hx => (E.wv x hx).ex e.nil fun p c _ _ h => ex_same e h
theorem EnvK.st_sub (E : EnvK f κ F σ H ρ h st) (hm : ∀ x ∈ st', x ∈ st) (hn : (κ ++ rootsW st').Nodup) : EnvK f κ F σ H ρ h st' := by
  have ha := av_sub (F := F) (κ := κ) hm
  exact ⟨E.ok, E.len, E.kl, E.io, E.ex, E.tr, hn, fun i o s h1 h2 => (E.sl i o s h1 h2).mono ha, fun n p c h1 h2 => (E.ce n p c h1 h2).mono ha, fun x hx => (E.wv x (hm x hx)).mono ha⟩
theorem EnvK.perm (E : EnvK f κ F σ H ρ h st) (q : st.Perm st') : EnvK f κ F σ H ρ h st' :=
  E.st_sub (fun x hx => q.mem_iff.mpr hx) (((List.Perm.append_left κ (q.filterMap rootW)).nodup_iff).mp E.nd)
theorem EnvK.sub (E : EnvK f κ F σ H ρ h st) (q : List.Sublist st' st) : EnvK f κ F σ H ρ h st' :=
  E.st_sub (fun x hx => q.subset hx) (E.nd.sublist (List.Sublist.append_left (q.filterMap _) _))
theorem EnvK.pop {x : V × W} (E : EnvK f κ F σ H ρ h (x :: st)) : EnvK f κ F σ H ρ h st := E.sub (List.sublist_cons_self x st)
theorem EnvK.popL {l : List (V × W)} (E : EnvK f κ F σ H ρ h (l ++ st)) : EnvK f κ F σ H ρ h st := E.sub (List.sublist_append_right l st)
theorem roots_cl : rootsW ((v, .cl d) :: st) = rootsW st := by
  unfold rootsW
  rw [List.filterMap_cons, rootW_cl]
theorem roots_nw : rootsW ((.ref p, .nw c) :: st) = p :: rootsW st := rfl
theorem EnvK.pushC (E : EnvK f κ F σ H ρ h st) (r : Rep (av F κ st) ⟨f, κ⟩ H v d) : EnvK f κ F σ H ρ h ((v, .cl d) :: st) := by
  have er : av F κ ((v, .cl d) :: st) = av F κ st := by
    show F.A ++ (κ ++ rootsW _) = _
    rw [roots_cl]
  refine ⟨E.ok, E.len, E.kl, E.io, E.ex, E.tr, by rw [roots_cl]; exact E.nd, by rw [er]; exact E.sl, by rw [er]; exact E.ce, fun x hx => ?_⟩
  rw [er]
  rcases List.mem_cons.mp hx with rfl | hx
  · exact .cl r
  · exact E.wv x hx
theorem av_nw {x : Addr} (hx : x ∈ av F κ ((.ref p, .nw c) :: st)) : x = p ∨ x ∈ av F κ st := by
  rcases List.mem_append.mp hx with h | h
  · exact .inr (List.mem_append.mpr (.inl h))
  · rcases List.mem_append.mp h with h | h
    · exact .inr (av_ka h)
    · rw [roots_nw] at h
      rcases List.mem_cons.mp h with h | h
      · exact .inl h
      · exact .inr (av_st h)
/-- a new thing is held -/
theorem EnvK.pushN (E : EnvK f κ F σ H ρ h st) (hp : H p = none) (e : Ex [] H H') (r : Own (p :: av F κ st) ⟨f, κ⟩ H' p c) : EnvK f κ F σ H' ρ h ((.ref p, .nw c) :: st) := by
  have hf : ∀ x ∈ av F κ ((V.ref p, W.nw c) :: st), x ∈ av F κ st ∨ x = p := fun x hx => (av_nw hx).symm
  have h0 : F.H0 p = none := by
    cases q : F.H0 p with
    | none => rfl
    | some u => exact absurd hp (E.tr p (by rw [q]; exact fun z => by cases z))
  refine ⟨E.ok, E.len, E.kl, E.io, E.ex.trans e.nil, fun a h => ?_, ?_, fun i o s h1 h2 => ?_, fun n q c h1 h2 => ?_, fun x hx => ?_⟩
  · have q := E.tr a h
    rw [ex_same e q]
    exact q
  · rw [roots_nw]
    refine (List.perm_middle.nodup_iff).mpr (List.nodup_cons.mpr ⟨fun h => ?_, E.nd⟩)
    rcases List.mem_append.mp h with h | h
    · exact E.ka_some h hp
    · exact (E.root_some h).1 hp
  · exact ((E.sl i o s h1 h2).fresh hp hf).ex e.nil
  · exact ((E.ce n q c h1 h2).fresh hp hf).ex e.nil (ex_same e (E.ce n q c h1 h2).some)
  · rcases List.mem_cons.mp hx with rfl | hx
    · refine .nw h0 (r.mono fun x hx => ?_)
      rcases hf x hx with h | h
      · exact List.mem_cons_of_mem _ h
      · rw [h]
        exact List.mem_cons_self ..
    · exact ((E.wv x hx).fresh hp hf).ex e.nil fun p _ _ _ h => ex_same e h
theorem EnvK.held (E : EnvK f κ F σ H ρ h ((v, .nw c) :: st)) : ∃ p, v = .ref p ∧ F.H0 p = none ∧ Own (av F κ ((v, .nw c) :: st)) ⟨f, κ⟩ H p c ∧ p ∉ av F κ st := by
  have q := E.wv _ (List.mem_cons_self ..)
  have nd := E.nd
  have ok := E.ok
  dsimp only at q
  generalize hM : av F κ ((v, W.nw c) :: st) = M at q
  cases q with
  | @nw p _ n a =>
    refine ⟨p, rfl, n, hM ▸ a, fun z => ?_⟩
    rw [roots_nw] at nd
    have nd := (List.nodup_cons.mp ((List.perm_middle.nodup_iff).mp nd)).1
    rcases List.mem_append.mp z with h | h
    · exact ok.tr p h n
    · exact nd h
theorem Own.tree (hp : p ∉ M) (r : Own M K H p c) : Rep M K H (.ref p) c := by
  cases r with
  | lst a b => exact .lst ⟨a, hp⟩ b
  | dK a n b => exact .dK ⟨a, hp⟩ n b
  | ins a n b => exact .ins ⟨a, hp⟩ n b
/-- a held new thing is held as a tree that stays -/
theorem EnvK.freeze (E : EnvK f κ F σ H ρ h ((v, .nw c) :: st)) : EnvK f κ F σ H ρ h ((v, .cl c) :: st) := by
  obtain ⟨p, rfl, h0, own, hn⟩ := E.held
  exact E.pop.pushC ((own.mono (av_sub fun x hx => List.mem_cons_of_mem _ hx)).tree hn)
/-- a held new thing becomes a cell -/
theorem EnvK.cell (E : EnvK f κ F σ H ρ h ((v, .nw c) :: st)) : ∃ p, v = .ref p ∧ EnvK f (κ ++ [p]) F σ H ρ (h ++ [c]) ((v, .cl (.ce h.length)) :: st) := by
  obtain ⟨p, rfl, h0, own, hn⟩ := E.held
  refine ⟨p, rfl, ?_⟩
  have hm : ∀ x, x ∈ av F (κ ++ [p]) ((V.ref p, W.cl (D.ce h.length)) :: st) → x ∈ av F κ ((V.ref p, W.nw c) :: st) := fun x hx => by
    rcases List.mem_append.mp hx with h | h
    · exact List.mem_append.mpr (.inl h)
    · rw [roots_cl] at h
      refine List.mem_append.mpr (.inr ?_)
      rw [roots_nw]
      simp only [List.mem_append, List.mem_cons, List.not_mem_nil, or_false] at h ⊢
      rcases h with (h | h) | h
      · exact .inl h
      · exact .inr (.inl h)
      · exact .inr (.inr h)
  obtain ⟨l, e1, e2⟩ := E.io
  refine ⟨E.ok, E.len, by simp [E.kl], ⟨l ++ [p], by rw [e1, List.append_assoc], fun q hq => ?_⟩, E.ex, E.tr, ?_, fun i o s h1 h2 => ((E.sl i o s h1 h2).mono hm).up, fun n q d h1 h2 => ?_, fun x hx => ?_⟩
  · rcases List.mem_append.mp hq with hq | hq
    · exact e2 q hq
    · rw [List.mem_singleton.mp hq]
      exact h0
  · rw [roots_cl, List.append_assoc]
    exact E.nd
  · by_cases hk : n < κ.length
    · rw [List.getElem?_append_left hk] at h1
      rw [List.getElem?_append_left (by rw [← E.kl]; exact hk)] at h2
      exact ((E.ce n q d h1 h2).mono hm).up
    · rw [List.getElem?_append_right (by omega)] at h1
      rw [List.getElem?_append_right (by rw [← E.kl]; omega)] at h2
      have hz : n - κ.length = 0 := by
        have := (List.getElem?_eq_some_iff.mp h1).1
        simp at this
        omega
      have hz2 : n - h.length = 0 := by rw [← E.kl]; exact hz
      rw [hz] at h1
      rw [hz2] at h2
      simp at h1 h2
      subst h1 h2
      exact (own.mono hm).up
  · rcases List.mem_cons.mp hx with rfl | hx
    · refine .cl (.ce ?_)
      show (κ ++ [p])[h.length]? = some p
      rw [← E.kl]
      simp
    · exact ((E.wv x (List.mem_cons_of_mem _ hx)).mono hm).up
theorem set_self {α : Type} {l : List α} {i : Nat} {a : α} (h : l[i]? = some a) : l.set i a = l := by
  apply List.ext_getElem?
  intro k
  by_cases hk : i = k
  · subst hk
    rw [List.getElem?_set_self (List.getElem?_eq_some_iff.mp h).1, h]
  · rw [List.getElem?_set_ne hk]
theorem EnvK.slot (E : EnvK f κ F σ H ρ h st) {o' : Option V} (r : SlR (av F κ st) ⟨f, κ⟩ H o' s') : EnvK f κ F (σ.set i o') H (ρ.set i s') h st := by
  refine ⟨E.ok, by rw [List.length_set, List.length_set]; exact E.len, E.kl, E.io, E.ex, E.tr, E.nd, fun j oj sj g1 g2 => ?_, E.ce, E.wv⟩
  by_cases hj : i = j
  · subst hj
    have l1 : i < σ.length := by
      have := (List.getElem?_eq_some_iff.mp g1).1
      rwa [List.length_set] at this
    have l2 : i < ρ.length := by rw [← E.len]; exact l1
    rw [List.getElem?_set_self l1] at g1
    rw [List.getElem?_set_self l2] at g2
    cases g1
    cases g2
    exact r
  · rw [List.getElem?_set_ne hj] at g1 g2
    exact E.sl j oj sj g1 g2
/-- x = a value -/
theorem EnvK.setC (E : EnvK f κ F σ H ρ h ((v, .cl d) :: st)) : EnvK f κ F (σ.set i (some v)) H (ρ.set i (.cl d)) h st := by
  refine E.pop.slot ?_
  have q := E.wv _ (List.mem_cons_self ..)
  dsimp only at q
  cases q with
  | cl r => exact .cl (r.mono (av_sub fun x hx => List.mem_cons_of_mem _ hx))
theorem EnvK.forget (E : EnvK f κ F σ H ρ h st) (o' : Option V) : EnvK f κ F (σ.set i o') H (ρ.set i .un) h st := E.slot .un

/-! ### what can be read now -/
inductive Nr (M : List Addr) (K : Kx) (H : Hp) : V → D → Prop
  | cl {v : V} {d : D} : Rep M K H v d → Nr M K H v d
  | own {p : Addr} {d : D} : Own M K H p d → Nr M K H (.ref p) d
/-- a value with what its cell holds -/
def top (h : Tb) : D → Option D
  | .ce n => h[n]?
  | d => some d
def deref (h : Tb) : W → Option D
  | .cl d => top h d
  | .nw c => some c
theorem top_ne (hd : ∀ n, d ≠ .ce n) : top h d = some d := by
  cases d <;> first | rfl | exact absurd rfl (hd _)
theorem EnvK.topR (E : EnvK f κ F σ H ρ h st) (r : Rep (av F κ st) ⟨f, κ⟩ H v d) (e : top h d = some c) : Nr (av F κ st) ⟨f, κ⟩ H v c := by
  by_cases hd : ∃ n, d = .ce n
  · obtain ⟨n, rfl⟩ := hd
    generalize hM : av F κ st = M at r
    cases r with
    | ce q =>
      subst hM
      exact .own (E.ce n _ c q e)
  · rw [top_ne fun n z => hd ⟨n, z⟩] at e
    cases e
    exact .cl r
theorem EnvK.near (E : EnvK f κ F σ H ρ h st) (hx : (v, w) ∈ st) (e : deref h w = some d) : Nr (av F κ st) ⟨f, κ⟩ H v d := by
  have q := E.wv _ hx
  dsimp only at q
  generalize hM : av F κ st = M at q
  cases q with
  | cl r => subst hM; exact E.topR r e
  | nw n r => cases e; exact .own r
theorem Nr.mono (hm : ∀ x ∈ M', x ∈ M) (h : Nr M K H v d) : Nr M' K H v d := by
  cases h with
  | cl r => exact .cl (r.mono hm)
  | own r => exact .own (r.mono hm)
theorem Own.rep0 (h : Own M K H p d) : Rep [] K H (.ref p) d := (h.mono (M' := []) fun _ z => absurd z (List.not_mem_nil)).tree List.not_mem_nil
theorem Nr.rep0 (h : Nr M K H v d) : Rep [] K H v d := by
  cases h with
  | cl r => exact r.mono fun _ z => absurd z (List.not_mem_nil)
  | own r => exact r.rep0
theorem Own.u (h : Own M K H p d) : d.u = d := by cases h <;> rfl
theorem Nr.u (h : Nr M K H v d) : Nr M K H v d.u := by
  cases h with
  | cl r => exact .cl r.u
  | own r =>
    rw [r.u]
    exact .own r
/-- what an operation hands back -/
inductive Nw (M : List Addr) (K : Kx) (H H' : Hp) : V → W → Prop
  | cl {v : V} {d : D} : Rep M K H' v d → Nw M K H H' v (.cl d)
  | nw {p : Addr} {c : D} : H p = none → Own (p :: M) K H' p c → Nw M K H H' (.ref p) (.nw c)
theorem RepA.freshN (hp : H p = none) (r : RepA M K H xs ds) {u : HO} : RepA (p :: M) K (upd H p u) xs ds := (r.fresh hp fun x hx => (List.mem_cons.mp hx).symm).ex (Ex.nil (Ex.new hp))
theorem Nw.new (hp : H p = none) (r : RepA M K H xs ds) : Nw M K H (upd H p (.lst xs)) (.ref p) (.fr ds) := .nw hp (.lst upd_same (r.freshN hp))
theorem Nw.tup (hp : H p = none) (hM : p ∉ M) (r : RepA M K H xs ds) : Nw M K H (upd H p (.tup xs)) (.ref p) (.cl (.tup ds)) :=
  .cl (.tup ⟨upd_same, hM⟩ (r.ex (Ex.nil (Ex.new hp))))
theorem EnvK.land (E : EnvK f κ F σ H ρ h (l ++ st)) (e : Ex [] H H') (n : Nw (av F κ (l ++ st)) ⟨f, κ⟩ H H' v w) : EnvK f κ F σ H' ρ h ((v, w) :: st) := by
  have hs : ∀ x ∈ av F κ st, x ∈ av F κ (l ++ st) := av_sub fun x hx => List.mem_append.mpr (.inr hx)
  cases n with
  | cl r => exact (E.popL.grow e).pushC (r.mono hs)
  | nw hp a =>
    refine E.popL.pushN hp e (a.mono fun x hx => ?_)
    rcases List.mem_cons.mp hx with h | h
    · rw [h]
      exact List.mem_cons_self ..
    · exact List.mem_cons_of_mem _ (hs x h)
/-- a cell is changed -/
theorem EnvK.mut {u : HO} (E : EnvK f κ F σ H ρ h st) (h1 : κ[n]? = some p) (r : Own (av F κ st) ⟨f, κ⟩ (upd H p u) p c') : EnvK f κ F σ (upd H p u) ρ (h.set n c') st := by
  have hk : p ∈ κ := List.mem_of_getElem? h1
  have hM : p ∈ av F κ st := av_ka hk
  have eM : Ex (av F κ st) H (upd H p u) := Ex.mut hM
  obtain ⟨l, e1, e2⟩ := E.io
  have h0 : F.H0 p = none ∨ p ∈ F.Io := by
    rw [e1] at hk
    rcases List.mem_append.mp hk with z | z
    · exact .inr z
    · exact .inl (e2 p z)
  refine ⟨E.ok, E.len, by rw [List.length_set]; exact E.kl, E.io, fun a o hn z => ?_, fun a z => ?_, E.nd, fun j oj sj g1 g2 => (E.sl j oj sj g1 g2).ex eM, fun m q c g1 g2 => ?_, fun x hx => (E.wv x hx).ex eM fun q c e ew _ => ?_⟩
  · have hne : a ≠ p := by
      rintro rfl
      rcases h0 with h | h
      · rw [h] at z
        cases z
      · exact hn h
    rw [upd_ne hne]
    exact E.ex a o hn z
  · by_cases hne : a = p
    · rw [hne, upd_same]
      exact fun z => by cases z
    · rw [upd_ne hne]
      exact E.tr a z
  · by_cases hm : n = m
    · subst hm
      rw [h1] at g1
      cases g1
      have hl : n < h.length := by rw [← E.kl]; exact (List.getElem?_eq_some_iff.mp h1).1
      rw [List.getElem?_set_self hl] at g2
      cases g2
      exact r
    · rw [List.getElem?_set_ne hm] at g2
      have hne : q ≠ p := fun z => hm (by
        subst z
        have nd := (List.nodup_append.mp E.nd).1
        exact (List.getElem?_inj (List.getElem?_eq_some_iff.mp h1).1 nd).mp (h1.trans g1.symm))
      exact (E.ce m q c g1 g2).ex eM (upd_ne hne)
  · refine upd_ne fun z => ?_
    subst z
    have hr : q ∈ rootsW st := mem_rootsW.mpr ⟨x, hx, by
      obtain ⟨a, b⟩ := x
      cases e
      cases ew
      rfl⟩
    exact (List.nodup_append.mp E.nd).2.2 q hk q hr rfl
/-- a held new thing is changed -/
theorem EnvK.app {u : HO} (E : EnvK f κ F σ H ρ h ((.ref p, .nw c) :: st)) (r : Own (av F κ ((.ref p, .nw c) :: st)) ⟨f, κ⟩ (upd H p u) p c') : EnvK f κ F σ (upd H p u) ρ h ((.ref p, .nw c') :: st) := by
  obtain ⟨p', e, h0, own, hn⟩ := E.held
  cases e
  have hM : p ∈ av F κ ((V.ref p, W.nw c) :: st) := av_st (by rw [roots_nw]; exact List.mem_cons_self ..)
  have eM : Ex (av F κ ((V.ref p, W.nw c) :: st)) H (upd H p u) := Ex.mut hM
  refine ⟨E.ok, E.len, E.kl, E.io, fun a o hn z => ?_, fun a z => ?_, E.nd, fun j oj sj g1 g2 => (E.sl j oj sj g1 g2).ex eM, fun m q c g1 g2 => (E.ce m q c g1 g2).ex eM (upd_ne fun z => ?_), fun x hx => ?_⟩
  · have hne : a ≠ p := by
      rintro rfl
      rw [h0] at z
      cases z
    rw [upd_ne hne]
    exact E.ex a o hn z
  · by_cases hne : a = p
    · rw [hne, upd_same]
      exact fun z => by cases z
    · rw [upd_ne hne]
      exact E.tr a z
  · subst z
    exact hn (av_ka (List.mem_of_getElem? g1))
  · rcases List.mem_cons.mp hx with rfl | hx2
    · exact .nw h0 r
    · refine (E.wv x (List.mem_cons_of_mem _ hx2)).ex eM fun q c e ew _ => upd_ne fun z => ?_
      subst z
      refine hn (av_st (mem_rootsW.mpr ⟨x, hx2, ?_⟩))
      obtain ⟨a, b⟩ := x
      cases e
      cases ew
      rfl
theorem EnvK.rep (E : EnvK f κ F σ H ρ h st) (hx : (v, W.cl d) ∈ st) : Rep (av F κ st) ⟨f, κ⟩ H v d := by
  have q := E.wv _ hx
  dsimp only at q
  cases q with | cl r => exact r
end
end CM

/-! CM2: the plain reading of expressions, and that it is what the layer's reading asks. -/
namespace CM
open PySem PySem.Spec PyProof.Rows L2 SL

inductive R (α : Type) where
  | ok (a : α) (ρ : List Sl) (h : Tb)
  | ex (C : Str) (fs : List (Str × D)) (ρ : List Sl) (h : Tb)
abbrev Mo (α : Type) := List Sl → Tb → Option (R α)
def bindR {α β : Type} (x : Option (R α)) (f : α → List Sl → Tb → Option (R β)) : Option (R β) := match x with
  | some (.ok a ρ h) => f a ρ h
  | some (.ex C fs ρ h) => some (.ex C fs ρ h)
  | none => none
theorem bindR_some {α β : Type} {x : Option (R α)} {f : α → List Sl → Tb → Option (R β)} {r : R β} (q : bindR x f = some r) : (∃ a ρ h, x = some (.ok a ρ h) ∧ f a ρ h = some r) ∨ ∃ C fs ρ h, x = some (.ex C fs ρ h) ∧ r = .ex C fs ρ h := by
  match x, q with
  | some (.ok a ρ h), q => exact .inl ⟨a, ρ, h, rfl, q⟩
  | some (.ex C fs ρ h), q => exact .inr ⟨C, fs, ρ, h, rfl, (Option.some.inj q).symm⟩
/-- a value that may be kept: a new thing is kept as a tree -/
def fzW : W → D
  | .cl d => d
  | .nw c => c
def derefs (h : Tb) : List W → Option (List D)
  | [] => some []
  | w :: ws => (deref h w).bind fun d => (derefs h ws).bind fun ds => some (d :: ds)
section
variable {f : PySem.W.Frag} {κ : List Addr} {K : Kx} {F : Fm} {M : List Addr} {H H' : Hp} {σ : L2.St} {ρ ρ' : List Sl} {h h' : Tb} {st l : List (V × W)} {v : V} {w : W} {d : D} {ds : List D} {vs : List V} {ws : List W}
theorem EnvK.fz (E : EnvK f κ F σ H ρ h ((v, w) :: st)) : EnvK f κ F σ H ρ h ((v, .cl (fzW w)) :: st) := by
  cases w with
  | cl d => exact E
  | nw c => exact E.freeze
theorem EnvK.fzs : ∀ {ws : List W} {vs : List V} {st : List (V × W)}, vs.length = ws.length → EnvK f κ F σ H ρ h (vs.zip ws ++ st) → EnvK f κ F σ H ρ h (vs.zip ((ws.map fzW).map W.cl) ++ st)
  | [], [], st, hl, E => E
  | [], _ :: _, st, hl, E => by cases hl
  | w :: ws, [], st, hl, E => by cases hl
  | w :: ws, v :: vs, st, hl, E => by
    have E1 : EnvK f κ F σ H ρ h ((v, .cl (fzW w)) :: (vs.zip ws ++ st)) := EnvK.fz E
    have E2 : EnvK f κ F σ H ρ h (vs.zip ws ++ ((v, .cl (fzW w)) :: st)) := E1.perm List.perm_middle.symm
    exact (EnvK.fzs (by simpa using hl) E2).perm List.perm_middle
theorem EnvK.repA : ∀ {vs : List V} {ds : List D}, EnvK f κ F σ H ρ h st → vs.length = ds.length → (∀ x ∈ vs.zip (ds.map W.cl), x ∈ st) → RepA (av F κ st) ⟨f, κ⟩ H vs ds
  | [], [], _, _, _ => .nil
  | [], _ :: _, _, h, _ => by cases h
  | _ :: _, [], _, h, _ => by cases h
  | v :: vs, d :: ds, E, hl, hm => .cons (E.rep (hm _ (List.mem_cons_self ..))) (EnvK.repA E (by simpa using hl) fun x hx => hm x (List.mem_cons_of_mem _ hx))
/-- values that can be read now -/
inductive NrA (M : List Addr) (K : Kx) (H : Hp) : List V → List D → Prop
  | nil : NrA M K H [] []
  | cons {v : V} {vs : List V} {d : D} {ds : List D} : Nr M K H v d → NrA M K H vs ds → NrA M K H (v :: vs) (d :: ds)
theorem EnvK.nears : ∀ {ws : List W} {vs : List V} {ds : List D}, EnvK f κ F σ H ρ h st → vs.length = ws.length → (∀ x ∈ vs.zip ws, x ∈ st) → derefs h ws = some ds → NrA (av F κ st) ⟨f, κ⟩ H vs ds
  | [], [], ds, E, _, _, e => by cases e; exact .nil
  | [], _ :: _, _, _, e, _, _ => by cases e
  | _ :: _, [], _, _, e, _, _ => by cases e
  | w :: ws, v :: vs, ds, E, hl, hm, e => by
    unfold derefs at e
    cases h1 : deref h w with
    | none => rw [h1] at e; cases e
    | some d =>
      rw [h1] at e
      dsimp only [Option.bind_some] at e
      cases h2 : derefs h ws with
      | none => rw [h2] at e; cases e
      | some ds' =>
        rw [h2] at e
        cases e
        exact .cons (E.near (hm _ (List.mem_cons_self ..)) h1) (EnvK.nears E (by simpa using hl) (fun x hx => hm x (List.mem_cons_of_mem _ hx)) h2)
end
/-- an own exception's dict -/
inductive XdR (M : List Addr) (K : Kx) (H : Hp) (dx : Addr) (fs : List (Str × D)) : Prop
  | mk {vs : List (Str × V)} : (H dx = some (.xd vs) ∨ H dx = some (exd dx vs)) → vs.map (·.1) = fs.map (·.1) → RepA M K H (vs.map (·.2)) (fs.map (·.2)) → XdR M K H dx fs
def ExR (f : PySem.W.Frag) (F : Fm) (WW : WX) (st : List (V × W)) (C : Str) (fs : List (Str × D)) (ρ : List Sl) (h : Tb) : Prop :=
  ∀ κ σ H dx, EnvK f κ F σ H ρ h st → XdR (av F κ st) ⟨f, κ⟩ H dx fs → WW (.ref (He.ga f C)) (some dx) σ H
def PostE (f : PySem.W.Frag) (F : Fm) (WW : WX) (σ : L2.St) (st : List (V × W)) (Q : VK) : R W → Prop
  | .ok w ρ h => ∀ v H, EnvR f F σ H ρ h ((v, w) :: st) → Q v H
  | .ex C fs ρ h => ExR f F WW st C fs ρ h
def PostA (f : PySem.W.Frag) (F : Fm) (WW : WX) (σ : L2.St) (st : List (V × W)) (Q : List V → Hp → Prop) : R (List W) → Prop
  | .ok ws ρ h => ∀ vs H, vs.length = ws.length → EnvR f F σ H ρ h (vs.zip ws ++ st) → Q vs H
  | .ex C fs ρ h => ExR f F WW st C fs ρ h
def PostT (f : PySem.W.Frag) (F : Fm) (WW : WX) (σ : L2.St) (st : List (V × W)) (Q : Bool → Hp → Prop) : R Bool → Prop
  | .ok b ρ h => ∀ H, EnvR f F σ H ρ h st → Q b H
  | .ex C fs ρ h => ExR f F WW st C fs ρ h
def SimE (f : PySem.W.Frag) (WW : WX) (t : TE) (m : Mo W) : Prop := ∀ (F : Fm) (σ : L2.St) (H : Hp) (ρ : List Sl) (h : Tb) (st : List (V × W)) (r : R W) (Q : VK), EnvR f F σ H ρ h st → m ρ h = some r → PostE f F WW σ st Q r → t σ H Q
def SimA (f : PySem.W.Frag) (WW : WX) (t : TA) (m : Mo (List W)) : Prop := ∀ (F : Fm) (σ : L2.St) (H : Hp) (ρ : List Sl) (h : Tb) (st : List (V × W)) (r : R (List W)) (Q : List V → Hp → Prop), EnvR f F σ H ρ h st → m ρ h = some r → PostA f F WW σ st Q r → t σ H Q
def SimT (f : PySem.W.Frag) (WW : WX) (t : TT) (m : Mo Bool) : Prop := ∀ (F : Fm) (σ : L2.St) (H : Hp) (ρ : List Sl) (h : Tb) (st : List (V × W)) (r : R Bool) (Q : Bool → Hp → Prop), EnvR f F σ H ρ h st → m ρ h = some r → PostT f F WW σ st Q r → t σ H Q
theorem ExR.up {f : PySem.W.Frag} {F : Fm} {WW : WX} {st : List (V × W)} {x : V × W} {C : Str} {fs : List (Str × D)} {ρ : List Sl} {h : Tb} (q : ExR f F WW st C fs ρ h) : ExR f F WW (x :: st) C fs ρ h := fun κ σ H dx E z => q κ σ H dx E.pop (by
  obtain ⟨a, b, c⟩ := z
  exact .mk a b (c.mono (av_sub fun x hx => List.mem_cons_of_mem _ hx)))
theorem ExR.upL {f : PySem.W.Frag} {F : Fm} {WW : WX} {st l : List (V × W)} {C : Str} {fs : List (Str × D)} {ρ : List Sl} {h : Tb} (q : ExR f F WW st C fs ρ h) : ExR f F WW (l ++ st) C fs ρ h := fun κ σ H dx E z => q κ σ H dx E.popL (by
  obtain ⟨a, b, c⟩ := z
  exact .mk a b (c.mono (av_sub fun x hx => List.mem_append.mpr (.inr hx))))

/-! ### expressions -/
def mC (d : D) : Mo W := fun ρ h => some (.ok (.cl d) ρ h)
def mVar (i : Nat) : Mo W := fun ρ h => match ρ[i]? with
  | some (.cl d) => some (.ok (.cl d) ρ h)
  | _ => none
def mOp (g : D → D → Option W) (a b : Mo W) : Mo W := fun ρ h => bindR (a ρ h) fun x ρ h => bindR (b ρ h) fun y ρ h => (deref h x).bind fun dx => (deref h y).bind fun dy => (g dx dy).map fun w => .ok w ρ h
def mUn (g : D → Option W) (a : Mo W) : Mo W := fun ρ h => bindR (a ρ h) fun x ρ h => (deref h x).bind fun dx => (g dx).map fun w => .ok w ρ h
def mNil : Mo (List W) := fun ρ h => some (.ok [] ρ h)
def mCons (a : Mo W) (b : Mo (List W)) : Mo (List W) := fun ρ h => bindR (a ρ h) fun x ρ h => bindR (b ρ h) fun xs ρ h => some (.ok (x :: xs) ρ h)
def mCB (g : List D → Option W) (a : Mo (List W)) : Mo W := fun ρ h => bindR (a ρ h) fun xs ρ h => (derefs h xs).bind fun ds => (g ds).map fun w => .ok w ρ h
def mLst (a : Mo (List W)) : Mo W := fun ρ h => bindR (a ρ h) fun xs ρ h => if xs.length ≤ 100000 then some (.ok (.fr (xs.map fzW)) ρ h) else none
def mTup (a : Mo (List W)) : Mo W := fun ρ h => bindR (a ρ h) fun xs ρ h => if xs.length ≤ 100000 then some (.ok (.cl (.tup (xs.map fzW))) ρ h) else none
/-- a new thing becomes a cell -/
def mCe (a : Mo W) : Mo W := fun ρ h => bindR (a ρ h) fun w ρ h => match w with
  | .nw c => some (.ok (.cl (.ce h.length)) ρ (h ++ [c]))
  | .cl d => some (.ok (.cl d) ρ h)
/-- a new thing is kept as a tree -/
def mFr (a : Mo W) : Mo W := fun ρ h => bindR (a ρ h) fun w ρ h => some (.ok (.cl (fzW w)) ρ h)
def mTest (a : Mo W) : Mo Bool := fun ρ h => bindR (a ρ h) fun x ρ h => match (deref h x).map D.u with
  | some (.bl b) => some (.ok b ρ h)
  | _ => none
def mNotV (a : Mo W) : Mo W := fun ρ h => bindR (mTest a ρ h) fun b ρ h => some (.ok (.cl (.bl (!b))) ρ h)
def mAndV (a b : Mo W) : Mo W := fun ρ h => bindR (mTest a ρ h) fun c ρ h => if c = true then b ρ h else some (.ok (.cl (.bl false)) ρ h)
def mOrV (a b : Mo W) : Mo W := fun ρ h => bindR (mTest a ρ h) fun c ρ h => if c = true then some (.ok (.cl (.bl true)) ρ h) else b ρ h
def mIf (c : Mo Bool) (a b : Mo W) : Mo W := fun ρ h => bindR (c ρ h) fun k ρ h => if k = true then a ρ h else b ρ h
def mAnd (a b : Mo Bool) : Mo Bool := fun ρ h => bindR (a ρ h) fun c ρ h => if c = true then b ρ h else some (.ok false ρ h)
def mOr (a b : Mo Bool) : Mo Bool := fun ρ h => bindR (a ρ h) fun c ρ h => if c = true then some (.ok true ρ h) else b ρ h
def mNot (a : Mo Bool) : Mo Bool := fun ρ h => bindR (a ρ h) fun c ρ h => some (.ok (!c) ρ h)
def mYes : Mo Bool := fun ρ h => some (.ok true ρ h)
/-- a value's truth -/
def dTru : D → Option Bool
  | .non => some false
  | .bl b => some b
  | .int i => some (i != 0)
  | .str z => if z.length ≤ 100000 then some ((z.length : Int) != 0) else none
  | .lst ds => some (!ds.isEmpty)
  | .tup ds => some (!ds.isEmpty)
  | .dK ds => some (!ds.isEmpty)
  | _ => none
def mTru (a : Mo W) : Mo Bool := fun ρ h => bindR (a ρ h) fun x ρ h => ((deref h x).bind fun d => dTru d.u).map fun b => .ok b ρ h

/-- an operator by values -/
def Op2 (f : PySem.W.Frag) (r : R2) (g : D → D → Option W) : Prop := ∀ (κ : List Addr) (M : List Addr) (H : Hp) (x y : V) (dx dy : D) (w : W) (Q : VK), (∀ p, H p = none → p ∉ M) → Nr M ⟨f, κ⟩ H x dx → Nr M ⟨f, κ⟩ H y dy → g dx dy = some w →
  (∀ v H', Ex [] H H' → Nw M ⟨f, κ⟩ H H' v w → Q v H') → r x y H Q
def Op1 (f : PySem.W.Frag) (r : V → Hp → VK → Prop) (g : D → Option W) : Prop := ∀ (κ : List Addr) (M : List Addr) (H : Hp) (x : V) (dx : D) (w : W) (Q : VK), (∀ p, H p = none → p ∉ M) → Nr M ⟨f, κ⟩ H x dx → g dx = some w →
  (∀ v H', Ex [] H H' → Nw M ⟨f, κ⟩ H H' v w → Q v H') → r x H Q
def OpN (f : PySem.W.Frag) (r : List V → Hp → VK → Prop) (g : List D → Option W) : Prop := ∀ (κ : List Addr) (M : List Addr) (H : Hp) (xs : List V) (ds : List D) (w : W) (Q : VK), (∀ p, H p = none → p ∉ M) → NrA M ⟨f, κ⟩ H xs ds → g ds = some w →
  (∀ v H', Ex [] H H' → Nw M ⟨f, κ⟩ H H' v w → Q v H') → r xs H Q

section
variable {f : PySem.W.Frag} {WW : WX} {ta tb tc te : TE} {ma mb mc me : Mo W} {tr tk : TA} {mr mk : Mo (List W)} {tt tu : TT} {mt mu : Mo Bool} {d : D} {i : Nat}
theorem sim_c {v : V} (hr : ∀ M κ H, Rep M ⟨f, κ⟩ H v d) : SimE f WW (tC v) (mC d) := fun F σ H ρ h st r Q ⟨κ, E⟩ e p => by
  cases e
  exact p v H ⟨κ, E.pushC (hr _ _ _)⟩
theorem sim_var : SimE f WW (tVar i) (mVar i) := fun F σ H ρ h st r Q ⟨κ, E⟩ e p => by
  unfold mVar at e
  split at e
  · rename_i d hd
    cases e
    obtain ⟨o, ho, q⟩ := slot_at E hd
    generalize hM : av F κ st = M at q
    cases q with
    | cl a => subst hM; exact ⟨_, ho, p _ H ⟨κ, E.pushC a⟩⟩
  · cases e
theorem sim_op {r : R2} {g : D → D → Option W} (o : Op2 f r g) (ha : SimE f WW ta ma) (hb : SimE f WW tb mb) : SimE f WW (tOp r ta tb) (mOp g ma mb) := fun F σ H ρ h st x Q E e p => by
  rcases bindR_some e with ⟨w1, ρ1, h1, e1, e⟩ | ⟨C, fs, ρ1, h1, e1, rfl⟩
  · refine ha F σ H ρ h st _ _ E e1 fun v1 H1 E1 => ?_
    rcases bindR_some e with ⟨w2, ρ2, h2, e2, e⟩ | ⟨C, fs, ρ2, h2, e2, rfl⟩
    · refine hb F σ H1 ρ1 h1 _ _ _ E1 e2 fun v2 H2 ⟨κ, E2⟩ => ?_
      cases g1 : deref h2 w1 with
      | none => rw [g1] at e; cases e
      | some d1 =>
        rw [g1] at e
        dsimp only [Option.bind_some] at e
        cases g2 : deref h2 w2 with
        | none => rw [g2] at e; cases e
        | some d2 =>
          rw [g2] at e
          dsimp only [Option.bind_some] at e
          cases g3 : g d1 d2 with
          | none => rw [g3] at e; cases e
          | some w =>
            rw [g3] at e
            cases e
            exact o κ _ H2 v1 v2 d1 d2 w Q (fun q hq => av_new E2 hq) (E2.near (List.mem_cons_of_mem _ (List.mem_cons_self ..)) g1) (E2.near (List.mem_cons_self ..) g2) g3
              fun v H' ex nw => p v H' ⟨κ, EnvK.land (l := [(v2, w2), (v1, w1)]) E2 ex nw⟩
    · exact hb F σ H1 ρ1 h1 _ _ _ E1 e2 (ExR.up p)
  · exact ha F σ H ρ h st _ _ E e1 p
theorem sim_un {r : V → Hp → VK → Prop} {g : D → Option W} (o : Op1 f r g) (ha : SimE f WW ta ma) : SimE f WW (tUn r ta) (mUn g ma) := fun F σ H ρ h st x Q E e p => by
  rcases bindR_some e with ⟨w1, ρ1, h1, e1, e⟩ | ⟨C, fs, ρ1, h1, e1, rfl⟩
  · refine ha F σ H ρ h st _ _ E e1 fun v1 H1 ⟨κ, E1⟩ => ?_
    cases g1 : deref h1 w1 with
    | none => rw [g1] at e; cases e
    | some d1 =>
      rw [g1] at e
      dsimp only [Option.bind_some] at e
      cases g3 : g d1 with
      | none => rw [g3] at e; cases e
      | some w =>
        rw [g3] at e
        cases e
        exact o κ _ H1 v1 d1 w Q (fun q hq => av_new E1 hq) (E1.near (List.mem_cons_self ..) g1) g3 fun v H' ex nw => p v H' ⟨κ, EnvK.land (l := [(v1, w1)]) E1 ex nw⟩
  · exact ha F σ H ρ h st _ _ E e1 p
theorem sim_nil : SimA f WW tNil mNil := fun F σ H ρ h st x Q E e p => by
  cases e
  exact p [] H rfl E
theorem sim_cons (ha : SimE f WW ta ma) (hb : SimA f WW tr mr) : SimA f WW (tCons ta tr) (mCons ma mr) := fun F σ H ρ h st x Q E e p => by
  rcases bindR_some e with ⟨w1, ρ1, h1, e1, e⟩ | ⟨C, fs, ρ1, h1, e1, rfl⟩
  · refine ha F σ H ρ h st _ _ E e1 fun v1 H1 E1 => ?_
    rcases bindR_some e with ⟨ws, ρ2, h2, e2, e⟩ | ⟨C, fs, ρ2, h2, e2, rfl⟩
    · refine hb F σ H1 ρ1 h1 _ _ _ E1 e2 fun vs H2 hl ⟨κ, E2⟩ => ?_
      cases e
      exact p (v1 :: vs) H2 (by simp [hl]) ⟨κ, E2.perm List.perm_middle⟩
    · exact hb F σ H1 ρ1 h1 _ _ _ E1 e2 (ExR.up p)
  · exact ha F σ H ρ h st _ _ E e1 p
theorem sim_cb {r : List V → Hp → VK → Prop} {g : List D → Option W} (o : OpN f r g) (ha : SimA f WW tr mr) : SimE f WW (tCB r tr) (mCB g mr) := fun F σ H ρ h st x Q E e p => by
  rcases bindR_some e with ⟨ws, ρ1, h1, e1, e⟩ | ⟨C, fs, ρ1, h1, e1, rfl⟩
  · refine ha F σ H ρ h st _ _ E e1 fun vs H1 hl ⟨κ, E1⟩ => ?_
    cases g1 : derefs h1 ws with
    | none => rw [g1] at e; cases e
    | some ds =>
      rw [g1] at e
      dsimp only [Option.bind_some] at e
      cases g3 : g ds with
      | none => rw [g3] at e; cases e
      | some w =>
        rw [g3] at e
        cases e
        exact o κ _ H1 vs ds w Q (fun q hq => av_new E1 hq) (E1.nears hl (fun x hx => List.mem_append.mpr (.inl hx)) g1) g3 fun v H' ex nw => p v H' ⟨κ, EnvK.land (l := vs.zip ws) E1 ex nw⟩
  · exact ha F σ H ρ h st _ _ E e1 p
theorem sim_lst (ha : SimA f WW tr mr) : SimE f WW (tLst tr) (mLst mr) := fun F σ H ρ h st x Q E e p => by
  rcases bindR_some e with ⟨ws, ρ1, h1, e1, e⟩ | ⟨C, fs, ρ1, h1, e1, rfl⟩
  · refine ha F σ H ρ h st _ _ E e1 fun vs H1 hl ⟨κ, E1⟩ => ?_
    split at e
    · rename_i g3
      cases e
      have E2 := E1.fzs hl
      refine ⟨sz_le (by omega), fun q hq => p _ _ ⟨κ, ?_⟩⟩
      have ra := E2.repA (by simpa using hl) fun x hx => List.mem_append.mpr (.inl hx)
      exact EnvK.land (l := vs.zip ((ws.map fzW).map W.cl)) E2 (Ex.new hq) (Nw.new hq ra)
    · cases e
  · exact ha F σ H ρ h st _ _ E e1 p
theorem sim_tup (ha : SimA f WW tr mr) : SimE f WW (tTup tr) (mTup mr) := fun F σ H ρ h st x Q E e p => by
  rcases bindR_some e with ⟨ws, ρ1, h1, e1, e⟩ | ⟨C, fs, ρ1, h1, e1, rfl⟩
  · refine ha F σ H ρ h st _ _ E e1 fun vs H1 hl ⟨κ, E1⟩ => ?_
    split at e
    · rename_i g3
      cases e
      have E2 := E1.fzs hl
      refine ⟨sz_le (by omega), fun q hq => p _ _ ⟨κ, ?_⟩⟩
      have ra := E2.repA (by simpa using hl) fun x hx => List.mem_append.mpr (.inl hx)
      exact EnvK.land (l := vs.zip ((ws.map fzW).map W.cl)) E2 (Ex.new hq) (Nw.tup hq (av_new E2 hq) ra)
    · cases e
  · exact ha F σ H ρ h st _ _ E e1 p
theorem sim_ce (ha : SimE f WW te me) : SimE f WW te (mCe me) := fun F σ H ρ h st x Q E e p => by
  rcases bindR_some e with ⟨w, ρ1, h1, e1, e⟩ | ⟨C, fs, ρ1, h1, e1, rfl⟩
  · refine ha F σ H ρ h st _ _ E e1 fun v H1 ⟨κ, E1⟩ => ?_
    cases w with
    | nw c =>
      cases e
      obtain ⟨q, _, E2⟩ := E1.cell
      exact p v H1 ⟨_, E2⟩
    | cl d => cases e; exact p v H1 ⟨κ, E1⟩
  · exact ha F σ H ρ h st _ _ E e1 p
theorem sim_fr (ha : SimE f WW te me) : SimE f WW te (mFr me) := fun F σ H ρ h st x Q E e p => by
  rcases bindR_some e with ⟨w, ρ1, h1, e1, e⟩ | ⟨C, fs, ρ1, h1, e1, rfl⟩
  · refine ha F σ H ρ h st _ _ E e1 fun v H1 ⟨κ, E1⟩ => ?_
    cases e
    exact p v H1 ⟨κ, E1.fz⟩
  · exact ha F σ H ρ h st _ _ E e1 p
theorem rep_bl {M : List Addr} {K : Kx} {H : Hp} {v : V} {b : Bool} (h : Rep M K H v (.bl b)) : v = .bl b := by cases h; rfl
theorem rep_int {M : List Addr} {K : Kx} {H : Hp} {v : V} {b : Int} (h : Rep M K H v (.int b)) : v = .int b := by cases h; rfl
theorem rep_str {M : List Addr} {K : Kx} {H : Hp} {v : V} {b : Str} (h : Rep M K H v (.str b)) : v = .str b := by cases h; rfl
theorem rep_non {M : List Addr} {K : Kx} {H : Hp} {v : V} (h : Rep M K H v .non) : v = .non := by cases h; rfl
theorem sim_bB (ha : SimE f WW ta ma) : ∀ (F : Fm) (σ : L2.St) (H : Hp) (ρ : List Sl) (h : Tb) (st : List (V × W)) (r : R Bool) (Q : VK), EnvR f F σ H ρ h st → mTest ma ρ h = some r → PostT f F WW σ st (fun b H => Q (.bl b) H) r → ta σ H Q := fun F σ H ρ h st x Q E e p => by
  rcases bindR_some e with ⟨w1, ρ1, h1, e1, e⟩ | ⟨C, fs, ρ1, h1, e1, rfl⟩
  · refine ha F σ H ρ h st _ _ E e1 fun v1 H1 ⟨κ, E1⟩ => ?_
    cases g1 : deref h1 w1 with
    | none => rw [g1] at e; cases e
    | some d1 =>
      rw [g1] at e
      dsimp only [Option.map_some] at e
      have nr := (E1.near (List.mem_cons_self ..) g1).u.rep0
      split at e
      · rename_i b hb
        rw [Option.some.inj hb] at nr
        cases rep_bl nr
        cases e
        exact p H1 ⟨κ, E1.pop⟩
      · cases e
  · exact ha F σ H ρ h st _ _ E e1 p
theorem sim_test (ha : SimE f WW ta ma) : SimT f WW (tTest ta) (mTest ma) := fun F σ H ρ h st x Q E e p =>
  sim_bB ha F σ H ρ h st x (fun v H' => ∃ k, v = .bl k ∧ Q k H') E e (by
    cases x with
    | ok b ρ' h' => exact fun H E => ⟨b, rfl, p H E⟩
    | ex C fs ρ' h' => exact p)
theorem EnvR.pushC0 {F : Fm} {σ : L2.St} {H : Hp} {ρ : List Sl} {h : Tb} {st : List (V × W)} {v : V} {d : D} (E : EnvR f F σ H ρ h st) (r : ∀ M κ, Rep M ⟨f, κ⟩ H v d) : EnvR f F σ H ρ h ((v, .cl d) :: st) := E.elim fun κ E => ⟨κ, E.pushC (r _ _)⟩
theorem EnvR.pop {F : Fm} {σ : L2.St} {H : Hp} {ρ : List Sl} {h : Tb} {st : List (V × W)} {x : V × W} (E : EnvR f F σ H ρ h (x :: st)) : EnvR f F σ H ρ h st := E.elim fun κ E => ⟨κ, E.pop⟩
theorem sim_notV (ha : SimE f WW ta ma) : SimE f WW (tNotV ta) (mNotV ma) := fun F σ H ρ h st x Q E e p => by
  rcases bindR_some e with ⟨b, ρ1, h1, e1, e⟩ | ⟨C, fs, ρ1, h1, e1, rfl⟩
  · refine sim_bB ha F σ H ρ h st _ (fun v H' => ∃ k, v = .bl k ∧ Q (.bl (!k)) H') E e1 fun H1 E1 => ?_
    cases e
    exact ⟨b, rfl, p _ _ (E1.pushC0 fun _ _ => .bl _)⟩
  · exact sim_bB ha F σ H ρ h st _ _ E e1 p
theorem sim_andV (ha : SimE f WW ta ma) (hb : SimE f WW tb mb) : SimE f WW (tAndV ta tb) (mAndV ma mb) := fun F σ H ρ h st x Q E e p => by
  rcases bindR_some e with ⟨b, ρ1, h1, e1, e⟩ | ⟨C, fs, ρ1, h1, e1, rfl⟩
  · refine sim_bB ha F σ H ρ h st _ (fun v H' => ∃ k, v = .bl k ∧ if k = true then tb σ H' Q else Q (.bl false) H') E e1 fun H1 E1 => ⟨b, rfl, ?_⟩
    by_cases hk : b = true
    · rw [if_pos hk] at e ⊢
      exact hb F σ H1 ρ1 h1 st x Q E1 e p
    · rw [if_neg hk] at e ⊢
      cases e
      exact p _ _ (E1.pushC0 fun _ _ => .bl _)
  · exact sim_bB ha F σ H ρ h st _ _ E e1 p
theorem sim_orV (ha : SimE f WW ta ma) (hb : SimE f WW tb mb) : SimE f WW (tOrV ta tb) (mOrV ma mb) := fun F σ H ρ h st x Q E e p => by
  rcases bindR_some e with ⟨b, ρ1, h1, e1, e⟩ | ⟨C, fs, ρ1, h1, e1, rfl⟩
  · refine sim_bB ha F σ H ρ h st _ (fun v H' => ∃ k, v = .bl k ∧ if k = true then Q (.bl true) H' else tb σ H' Q) E e1 fun H1 E1 => ⟨b, rfl, ?_⟩
    by_cases hk : b = true
    · rw [if_pos hk] at e ⊢
      cases e
      exact p _ _ (E1.pushC0 fun _ _ => .bl _)
    · rw [if_neg hk] at e ⊢
      exact hb F σ H1 ρ1 h1 st x Q E1 e p
  · exact sim_bB ha F σ H ρ h st _ _ E e1 p
theorem sim_if (hc : SimT f WW tt mt) (ha : SimE f WW ta ma) (hb : SimE f WW tb mb) : SimE f WW (tIf tt ta tb) (mIf mt ma mb) := fun F σ H ρ h st x Q E e p => by
  rcases bindR_some e with ⟨b, ρ1, h1, e1, e⟩ | ⟨C, fs, ρ1, h1, e1, rfl⟩
  · refine hc F σ H ρ h st _ _ E e1 fun H1 E1 => ?_
    by_cases hk : b = true
    · rw [if_pos hk] at e ⊢
      exact ha F σ H1 ρ1 h1 st x Q E1 e p
    · rw [if_neg hk] at e ⊢
      exact hb F σ H1 ρ1 h1 st x Q E1 e p
  · exact hc F σ H ρ h st _ _ E e1 p
theorem sim_and (hc : SimT f WW tt mt) (hd : SimT f WW tu mu) : SimT f WW (tAnd tt tu) (mAnd mt mu) := fun F σ H ρ h st x Q E e p => by
  rcases bindR_some e with ⟨b, ρ1, h1, e1, e⟩ | ⟨C, fs, ρ1, h1, e1, rfl⟩
  · refine hc F σ H ρ h st _ _ E e1 fun H1 E1 => ?_
    by_cases hk : b = true
    · rw [if_pos hk] at e ⊢
      exact hd F σ H1 ρ1 h1 st x Q E1 e p
    · rw [if_neg hk] at e ⊢
      cases e
      exact p H1 E1
  · exact hc F σ H ρ h st _ _ E e1 p
theorem sim_or (hc : SimT f WW tt mt) (hd : SimT f WW tu mu) : SimT f WW (tOr tt tu) (mOr mt mu) := fun F σ H ρ h st x Q E e p => by
  rcases bindR_some e with ⟨b, ρ1, h1, e1, e⟩ | ⟨C, fs, ρ1, h1, e1, rfl⟩
  · refine hc F σ H ρ h st _ _ E e1 fun H1 E1 => ?_
    by_cases hk : b = true
    · rw [if_pos hk] at e ⊢
      cases e
      exact p H1 E1
    · rw [if_neg hk] at e ⊢
      exact hd F σ H1 ρ1 h1 st x Q E1 e p
  · exact hc F σ H ρ h st _ _ E e1 p
theorem sim_not (hc : SimT f WW tt mt) : SimT f WW (tNot tt) (mNot mt) := fun F σ H ρ h st x Q E e p => by
  rcases bindR_some e with ⟨b, ρ1, h1, e1, e⟩ | ⟨C, fs, ρ1, h1, e1, rfl⟩
  · refine hc F σ H ρ h st _ _ E e1 fun H1 E1 => ?_
    cases e
    exact p H1 E1
  · exact hc F σ H ρ h st _ _ E e1 p
theorem sim_yes : SimT f WW tYes mYes := fun F σ H ρ h st x Q E e p => by
  cases e
  exact p H E
theorem tru_of {M : List Addr} {K : Kx} {H : Hp} {v : V} {d : D} {b : Bool} (r : Rep M K H v d) (e : dTru d = some b) : TruV K v H b := by
  cases r with
  | non => cases e; rfl
  | bl c => cases e; rfl
  | int i => cases e; rfl
  | str z =>
    have e : (if z.length ≤ 100000 then some ((z.length : Int) != 0) else none) = some b := e
    by_cases hz : z.length ≤ 100000
    · rw [if_pos hz] at e
      cases e
      exact ⟨sz_le hz, rfl⟩
    · rw [if_neg hz] at e
      cases e
  | lst h a =>
    cases e
    refine .inl ⟨_, .inl (.inl h.at_), ?_⟩
    cases a <;> rfl
  | scr h => cases e
  | tup h a =>
    cases e
    refine .inr (.inl ⟨_, h.sq, ?_⟩)
    cases a <;> rfl
  | @dK a kvs ds h n _ =>
    cases e
    refine .inr (.inr ⟨_, h.at_, ?_⟩)
    cases kvs with
    | nil => cases ds with
      | nil => rfl
      | cons _ _ => cases n
    | cons _ _ => cases ds with
      | nil => cases n
      | cons _ _ => rfl
  | ty n => cases e
  | glo x => cases e
  | rng h => cases e
  | ins h n a => cases e
  | exc h h2 n a => cases e
  | ce h => cases e
  | tg h => cases e
  | bo h h2 => cases e
theorem sim_tru (ha : SimE f WW ta ma) : SimT f WW (tTruK f ta) (mTru ma) := fun F σ H ρ h st x Q E e p => by
  rcases bindR_some e with ⟨w1, ρ1, h1, e1, e⟩ | ⟨C, fs, ρ1, h1, e1, rfl⟩
  · refine ha F σ H ρ h st _ _ E e1 fun v1 H1 ⟨κ, E1⟩ => ?_
    cases g1 : deref h1 w1 with
    | none => rw [g1] at e; cases e
    | some d1 =>
      rw [g1] at e
      dsimp only [Option.bind_some] at e
      cases g2 : dTru d1.u with
      | none => rw [g2] at e; cases e
      | some b =>
        rw [g2] at e
        cases e
        exact ⟨b, tru_of (K := ⟨f, κ⟩) (E1.near (List.mem_cons_self ..) g1).u.rep0 g2, p H1 ⟨κ, E1.pop⟩⟩
  · exact ha F σ H ρ h st _ _ E e1 p
end

/-! ### trees with what their cells hold -/
mutual
def snapW (g : Nat → Option D) : D → Option D
  | .lst xs => (snapWs g xs).map .lst
  | .tup xs => (snapWs g xs).map .tup
  | .dK kvs => (snapWK g kvs).map .dK
  | .ins C fs => (snapWF g fs).map (.ins C)
  | .exc C fs => (snapWF g fs).map (.exc C)
  | .ce n => g n
  | .tg v d => (snapW g d).map (.tg v)
  | .bo _ _ _ => none
  | d => some d
def snapWs (g : Nat → Option D) : List D → Option (List D)
  | [] => some []
  | d :: ds => (snapW g d).bind fun x => (snapWs g ds).map (x :: ·)
def snapWF (g : Nat → Option D) : List (Str × D) → Option (List (Str × D))
  | [] => some []
  | (a, d) :: ds => (snapW g d).bind fun x => (snapWF g ds).map ((a, x) :: ·)
def snapWK (g : Nat → Option D) : List (L2.Key × D) → Option (List (L2.Key × D))
  | [] => some []
  | (a, d) :: ds => (snapW g d).bind fun x => (snapWK g ds).map ((a, x) :: ·)
end
theorem snapWF_map {g : Nat → Option D} : ∀ {fs ds : List (Str × D)}, snapWF g fs = some ds → fs.map (·.1) = ds.map (·.1) ∧ snapWs g (fs.map (·.2)) = some (ds.map (·.2))
  | [], ds, e => by simp only [snapWF] at e; cases e; exact ⟨rfl, by simp only [List.map_nil, snapWs]⟩
  | (a, d) :: fs, ds, e => by
    simp only [snapWF] at e
    cases h1 : snapW g d with
    | none => rw [h1] at e; cases e
    | some x =>
      rw [h1] at e
      dsimp only [Option.bind_some] at e
      cases h2 : snapWF g fs with
      | none => rw [h2] at e; cases e
      | some ys =>
        rw [h2] at e
        cases e
        obtain ⟨i1, i2⟩ := snapWF_map h2
        exact ⟨by simp [i1], by simp only [List.map_cons, snapWs, h1, i2, Option.bind_some, Option.map_some]⟩
theorem snapWK_map {g : Nat → Option D} : ∀ {fs ds : List (L2.Key × D)}, snapWK g fs = some ds → fs.map (·.1) = ds.map (·.1) ∧ snapWs g (fs.map (·.2)) = some (ds.map (·.2))
  | [], ds, e => by simp only [snapWK] at e; cases e; exact ⟨rfl, by simp only [List.map_nil, snapWs]⟩
  | (a, d) :: fs, ds, e => by
    simp only [snapWK] at e
    cases h1 : snapW g d with
    | none => rw [h1] at e; cases e
    | some x =>
      rw [h1] at e
      dsimp only [Option.bind_some] at e
      cases h2 : snapWK g fs with
      | none => rw [h2] at e; cases e
      | some ys =>
        rw [h2] at e
        cases e
        obtain ⟨i1, i2⟩ := snapWK_map h2
        exact ⟨by simp [i1], by simp only [List.map_cons, snapWs, h1, i2, Option.bind_some, Option.map_some]⟩
section
variable {M : List Addr} {K : Kx} {H : Hp} {g : Nat → Option D}
mutual
theorem Rep.snap (hg : ∀ n p d, K.ka[n]? = some p → g n = some d → Rep [] K H (.ref p) d) : ∀ {v : V} {d d' : D}, Rep M K H v d → snapW g d = some d' → Rep [] K H v d'
  | _, _, _, .non, e => by simp only [snapW] at e; cases e; exact .non
  | _, _, _, .bl b, e => by simp only [snapW] at e; cases e; exact .bl b
  | _, _, _, .int b, e => by simp only [snapW] at e; cases e; exact .int b
  | _, _, _, .str b, e => by simp only [snapW] at e; cases e; exact .str b
  | _, _, _, .ty b, e => by simp only [snapW] at e; cases e; exact .ty b
  | _, _, _, .glo b, e => by simp only [snapW] at e; cases e; exact .glo b
  | _, _, _, .lst (ds := ds) h a, e => by
    simp only [snapW] at e
    cases h1 : snapWs g ds with
    | none => rw [h1] at e; cases e
    | some ys =>
      rw [h1] at e
      cases e
      exact .lst (h.mono fun _ z => absurd z List.not_mem_nil) (RepA.snap hg a h1)
  | _, _, _, .scr h, e => by simp only [snapW] at e; cases e; exact .scr (h.mono fun _ z => absurd z List.not_mem_nil)
  | _, _, _, .tup (ds := ds) h a, e => by
    simp only [snapW] at e
    cases h1 : snapWs g ds with
    | none => rw [h1] at e; cases e
    | some ys =>
      rw [h1] at e
      cases e
      exact .tup (h.mono fun _ z => absurd z List.not_mem_nil) (RepA.snap hg a h1)
  | _, _, _, .dK (ds := ds) h n a, e => by
    simp only [snapW] at e
    cases h1 : snapWK g ds with
    | none => rw [h1] at e; cases e
    | some ys =>
      rw [h1] at e
      cases e
      obtain ⟨i1, i2⟩ := snapWK_map h1
      exact .dK (h.mono fun _ z => absurd z List.not_mem_nil) (n.trans i1) (RepA.snap hg a i2)
  | _, _, _, .rng h, e => by simp only [snapW] at e; cases e; exact .rng (h.mono fun _ z => absurd z List.not_mem_nil)
  | _, _, _, .ins (ds := ds) h n a, e => by
    simp only [snapW] at e
    cases h1 : snapWF g ds with
    | none => rw [h1] at e; cases e
    | some ys =>
      rw [h1] at e
      cases e
      obtain ⟨i1, i2⟩ := snapWF_map h1
      exact .ins (h.mono fun _ z => absurd z List.not_mem_nil) (n.trans i1) (RepA.snap hg a i2)
  | _, _, _, .exc (ds := ds) h h2 n a, e => by
    simp only [snapW] at e
    cases h1 : snapWF g ds with
    | none => rw [h1] at e; cases e
    | some ys =>
      rw [h1] at e
      cases e
      obtain ⟨i1, i2⟩ := snapWF_map h1
      exact .exc (h.mono fun _ z => absurd z List.not_mem_nil) (h2.mono fun _ z => absurd z List.not_mem_nil) (n.trans i1) (RepA.snap hg a i2)
  | _, _, _, .ce h, e => by simp only [snapW] at e; exact hg _ _ _ h e
  | _, _, _, .tg (d := d) h, e => by
    simp only [snapW] at e
    cases h1 : snapW g d with
    | none => rw [h1] at e; cases e
    | some y =>
      rw [h1] at e
      cases e
      exact .tg (Rep.snap hg h h1)
  | _, _, _, .bo h h2, e => by simp only [snapW] at e; cases e
theorem RepA.snap (hg : ∀ n p d, K.ka[n]? = some p → g n = some d → Rep [] K H (.ref p) d) : ∀ {vs : List V} {ds es : List D}, RepA M K H vs ds → snapWs g ds = some es → RepA [] K H vs es
  | _, _, _, .nil, e => by simp only [snapWs] at e; cases e; exact .nil
  | _, _, _, .cons (d := d) (ds := ds) h a, e => by
    simp only [snapWs] at e
    cases h1 : snapW g d with
    | none => rw [h1] at e; cases e
    | some x =>
      rw [h1] at e
      dsimp only [Option.bind_some] at e
      cases h2 : snapWs g ds with
      | none => rw [h2] at e; cases e
      | some ys =>
        rw [h2] at e
        cases e
        exact .cons (Rep.snap hg h h1) (RepA.snap hg a h2)
end
end
/-- a value, what its cells hold put in their places (not deeper than n cells) -/
def snapN (h : Tb) : Nat → D → Option D
  | 0 => snapW fun _ => none
  | n + 1 => snapW fun k => (h[k]?).bind (snapN h n)
def snap (h : Tb) (d : D) : Option D := snapN h 6 d
def snapV (h : Tb) (w : W) : Option D := snap h (fzW w)
def snaps (h : Tb) : List W → Option (List D)
  | [] => some []
  | w :: ws => (snapV h w).bind fun d => (snaps h ws).bind fun ds => some (d :: ds)
/-- a value without parts -/
def scl : W → Bool
  | .cl .non => true
  | .cl (.bl _) => true
  | .cl (.int _) => true
  | .cl (.str _) => true
  | _ => false
def mOpS (g : D → D → Option W) (a b : Mo W) : Mo W := fun ρ h => bindR (a ρ h) fun x ρ h => bindR (b ρ h) fun y ρ h => (snapV h x).bind fun dx => (snapV h y).bind fun dy => (g dx dy).bind fun w => if scl w = true then some (.ok w ρ h) else none
def mCBS (g : List D → Option W) (a : Mo (List W)) : Mo W := fun ρ h => bindR (a ρ h) fun xs ρ h => (snaps h xs).bind fun ds => (g ds).bind fun w => if scl w = true then some (.ok w ρ h) else none
section
variable {f : PySem.W.Frag} {κ : List Addr} {WW : WX} {F : Fm} {M : List Addr} {H H' : Hp} {σ : L2.St} {ρ : List Sl} {h : Tb} {st l : List (V × W)} {v : V} {w : W} {d : D} {ta tb tc te : TE} {ma mb mc me : Mo W} {tr tk : TA} {mr mk : Mo (List W)}
theorem EnvK.snapN (E : EnvK f κ F σ H ρ h st) : ∀ (n : Nat) {M : List Addr} {v : V} {d d' : D}, Rep M ⟨f, κ⟩ H v d → CM.snapN h n d = some d' → Rep [] ⟨f, κ⟩ H v d'
  | 0, M, v, d, d', r, e => Rep.snap (fun n p d _ z => by cases z) r e
  | n + 1, M, v, d, d', r, e => by
    refine Rep.snap (g := fun k => (h[k]?).bind (CM.snapN h n)) (fun k p d hk z => ?_) r e
    cases h1 : h[k]? with
    | none => rw [h1] at z; cases z
    | some c =>
      rw [h1] at z
      exact EnvK.snapN E n (E.ce k p c hk h1).rep0 z
theorem EnvK.snapV (E : EnvK f κ F σ H ρ h st) (hx : (v, w) ∈ st) (e : CM.snapV h w = some d) : Rep [] ⟨f, κ⟩ H v d := by
  have q := E.wv _ hx
  dsimp only at q
  generalize hM : av F κ st = M at q
  cases q with
  | cl r => exact E.snapN 6 r e
  | nw n r => exact E.snapN 6 r.rep0 e
theorem scl_nw {K : Kx} (hs : scl w = true) (n : Nw [] K H H' v w) : Nw M K H H' v w := by
  cases n with
  | nw a b => cases hs
  | @cl v d r =>
    cases d <;> first
      | (cases hs; done)
      | (cases r; exact .cl .non)
      | (cases r; exact .cl (.bl _))
      | (cases r; exact .cl (.int _))
      | (cases r; exact .cl (.str _))
theorem sim_opS {r : R2} {g : D → D → Option W} (o : Op2 f r g) (ha : SimE f WW ta ma) (hb : SimE f WW tb mb) : SimE f WW (tOp r ta tb) (mOpS g ma mb) := fun F σ H ρ h st x Q E e p => by
  rcases bindR_some e with ⟨w1, ρ1, h1, e1, e⟩ | ⟨C, fs, ρ1, h1, e1, rfl⟩
  · refine ha F σ H ρ h st _ _ E e1 fun v1 H1 E1 => ?_
    rcases bindR_some e with ⟨w2, ρ2, h2, e2, e⟩ | ⟨C, fs, ρ2, h2, e2, rfl⟩
    · refine hb F σ H1 ρ1 h1 _ _ _ E1 e2 fun v2 H2 ⟨κ, E2⟩ => ?_
      cases g1 : CM.snapV h2 w1 with
      | none => rw [g1] at e; cases e
      | some d1 =>
        rw [g1] at e
        dsimp only [Option.bind_some] at e
        cases g2 : CM.snapV h2 w2 with
        | none => rw [g2] at e; cases e
        | some d2 =>
          rw [g2] at e
          dsimp only [Option.bind_some] at e
          cases g3 : g d1 d2 with
          | none => rw [g3] at e; cases e
          | some w =>
            rw [g3] at e
            dsimp only [Option.bind_some] at e
            split at e
            · rename_i hs
              cases e
              exact o κ [] H2 v1 v2 d1 d2 w Q (fun q hq => List.not_mem_nil) (.cl (E2.snapV (List.mem_cons_of_mem _ (List.mem_cons_self ..)) g1)) (.cl (E2.snapV (List.mem_cons_self ..) g2)) g3
                fun v H' ex nw => p v H' ⟨κ, EnvK.land (l := [(v2, w2), (v1, w1)]) E2 ex (scl_nw hs nw)⟩
            · cases e
    · exact hb F σ H1 ρ1 h1 _ _ _ E1 e2 (ExR.up p)
  · exact ha F σ H ρ h st _ _ E e1 p
theorem EnvK.snaps : ∀ {ws : List W} {vs : List V} {ds : List D}, EnvK f κ F σ H ρ h st → vs.length = ws.length → (∀ x ∈ vs.zip ws, x ∈ st) → CM.snaps h ws = some ds → NrA [] ⟨f, κ⟩ H vs ds
  | [], [], ds, E, _, _, e => by cases e; exact .nil
  | [], _ :: _, _, _, e, _, _ => by cases e
  | _ :: _, [], _, _, e, _, _ => by cases e
  | w :: ws, v :: vs, ds, E, hl, hm, e => by
    unfold CM.snaps at e
    cases h1 : CM.snapV h w with
    | none => rw [h1] at e; cases e
    | some d =>
      rw [h1] at e
      dsimp only [Option.bind_some] at e
      cases h2 : CM.snaps h ws with
      | none => rw [h2] at e; cases e
      | some ds' =>
        rw [h2] at e
        cases e
        exact .cons (.cl (E.snapV (hm _ (List.mem_cons_self ..)) h1)) (EnvK.snaps E (by simpa using hl) (fun x hx => hm x (List.mem_cons_of_mem _ hx)) h2)
theorem sim_cbS {r : List V → Hp → VK → Prop} {g : List D → Option W} (o : OpN f r g) (ha : SimA f WW tr mr) : SimE f WW (tCB r tr) (mCBS g mr) := fun F σ H ρ h st x Q E e p => by
  rcases bindR_some e with ⟨ws, ρ1, h1, e1, e⟩ | ⟨C, fs, ρ1, h1, e1, rfl⟩
  · refine ha F σ H ρ h st _ _ E e1 fun vs H1 hl ⟨κ, E1⟩ => ?_
    cases g1 : CM.snaps h1 ws with
    | none => rw [g1] at e; cases e
    | some ds =>
      rw [g1] at e
      dsimp only [Option.bind_some] at e
      cases g3 : g ds with
      | none => rw [g3] at e; cases e
      | some w =>
        rw [g3] at e
        dsimp only [Option.bind_some] at e
        split at e
        · rename_i hs
          cases e
          exact o κ [] H1 vs ds w Q (fun q hq => List.not_mem_nil) (E1.snaps hl (fun x hx => List.mem_append.mpr (.inl hx)) g1) g3 fun v H' ex nw => p v H' ⟨κ, EnvK.land (l := vs.zip ws) E1 ex (scl_nw hs nw)⟩
        · cases e
  · exact ha F σ H ρ h st _ _ E e1 p
end
end CM

/-! CM3: statements. -/
namespace CM
open PySem PySem.Spec PyProof.Rows L2 SL

inductive Out where
  | nx (ρ : List Sl) (h : Tb) | rt (w : W) (ρ : List Sl) (h : Tb) | bk (ρ : List Sl) (h : Tb) | ct (ρ : List Sl) (h : Tb) | ex (C : Str) (fs : List (Str × D)) (ρ : List Sl) (h : Tb)
abbrev MS := List Sl → Tb → Option Out
def PostS (f : PySem.W.Frag) (F : Fm) (WW : WX) (st : List (V × W)) (D : Ends) : Out → Prop
  | .nx ρ h => ∀ σ H, EnvR f F σ H ρ h st → D.nx σ H
  | .rt w ρ h => ∀ σ v H, EnvR f F σ H ρ h ((v, w) :: st) → D.rt v H
  | .bk ρ h => ∀ σ H, EnvR f F σ H ρ h st → D.bk σ H
  | .ct ρ h => ∀ σ H, EnvR f F σ H ρ h st → D.ct σ H
  | .ex C fs ρ h => ExR f F WW st C fs ρ h
def SimS (f : PySem.W.Frag) (WW : WX) (t : TS) (m : MS) : Prop := ∀ (F : Fm) (σ : L2.St) (H : Hp) (ρ : List Sl) (h : Tb) (st : List (V × W)) (o : Out) (D : Ends), EnvR f F σ H ρ h st → m ρ h = some o → PostS f F WW st D o → t D σ H
/-- an expression's run, then what follows; what it raises goes on -/
def bindS {α : Type} (x : Option (R α)) (f : α → List Sl → Tb → Option Out) : Option Out := match x with
  | some (.ok a ρ h) => f a ρ h
  | some (.ex C fs ρ h) => some (.ex C fs ρ h)
  | none => none
theorem bindS_some {α : Type} {x : Option (R α)} {f : α → List Sl → Tb → Option Out} {r : Out} (q : bindS x f = some r) : (∃ a ρ h, x = some (.ok a ρ h) ∧ f a ρ h = some r) ∨ ∃ C fs ρ h, x = some (.ex C fs ρ h) ∧ r = .ex C fs ρ h := by
  match x, q with
  | some (.ok a ρ h), q => exact .inl ⟨a, ρ, h, rfl, q⟩
  | some (.ex C fs ρ h), q => exact .inr ⟨C, fs, ρ, h, rfl, (Option.some.inj q).symm⟩
/-- a target -/
abbrev Fr2 := List Sl × Tb
abbrev Tg := W → List Sl → Tb → Option Fr2
def SimG (f : PySem.W.Frag) (g : TG) (m : Tg) : Prop := ∀ (F : Fm) (σ : L2.St) (H : Hp) (ρ : List Sl) (h : Tb) (x : Fr2) (st : List (V × W)) (v : V) (w : W) (Q : L2.St → Hp → Prop), EnvR f F σ H ρ h ((v, w) :: st) → m w ρ h = some x →
  (∀ σ' H', EnvR f F σ' H' x.1 x.2 st → Q σ' H') → g v σ H Q
/-- x = e; a new thing becomes a cell -/
def gSet (i : Nat) : Tg := fun w ρ h => match w with
  | .nw c => some (ρ.set i (.cl (.ce h.length)), h ++ [c])
  | .cl d => some (ρ.set i (.cl d), h)
/-- x = e; a new thing is a tree that stays -/
def gSetC (i : Nat) : Tg := fun w ρ h => some (ρ.set i (.cl (fzW w)), h)
section
variable {f : PySem.W.Frag} {i : Nat}
theorem sim_gname : SimG f (gName i) (gSet i) := fun F σ H ρ h x st v w Q ⟨κ, E⟩ e q => by
  cases w with
  | nw c =>
    cases e
    obtain ⟨p, rfl, E2⟩ := E.cell
    exact q _ _ ⟨_, E2.setC⟩
  | cl d => cases e; exact q _ _ ⟨_, E.setC⟩
theorem sim_gnameC : SimG f (gName i) (gSetC i) := fun F σ H ρ h x st v w Q ⟨κ, E⟩ e q => by
  cases e
  exact q _ _ ⟨_, E.fz.setC⟩
end
/-! ### targets in a tuple -/
abbrev Tgs := List D → List Sl → Tb → Option Fr2
def gsNil : Tgs
  | [], ρ, h => some (ρ, h)
  | _, _, _ => none
def gsCons (g : Tg) (gs : Tgs) : Tgs
  | d :: ds, ρ, h => (g (.cl d) ρ h).bind fun x => gs ds x.1 x.2
  | [], _, _ => none
def gTupM (n : Nat) (gs : Tgs) : Tg := fun w ρ h => match w with
  | .cl d => match d.u with
    | .tup ds => if ds.length = n then gs ds ρ h else none
    | _ => none
  | _ => none
def SimGs (f : PySem.W.Frag) (g : TGs) (m : Tgs) : Prop := ∀ (F : Fm) (σ : L2.St) (H : Hp) (ρ : List Sl) (h : Tb) (x : Fr2) (st : List (V × W)) (vs : List V) (ds : List D) (Q : L2.St → Hp → Prop), vs.length = ds.length → EnvR f F σ H ρ h (vs.zip (ds.map W.cl) ++ st) → m ds ρ h = some x →
  (∀ σ' H', EnvR f F σ' H' x.1 x.2 st → Q σ' H') → g vs σ H Q
section
variable {f : PySem.W.Frag} {κ : List Addr} {F : Fm} {g : TG} {gs : TGs} {m : Tg} {ms : Tgs} {n : Nat} {H : Hp} {σ : L2.St} {ρ : List Sl} {h : Tb} {st : List (V × W)}
theorem sim_gnil : SimGs f gNil gsNil := fun F σ H ρ h x st vs ds Q hl E e q => by
  cases ds with
  | nil =>
    cases vs with
    | nil => cases e; exact ⟨rfl, q _ _ E⟩
    | cons _ _ => cases hl
  | cons _ _ => cases e
theorem sim_gcons (hg : SimG f g m) (hs : SimGs f gs ms) : SimGs f (gCons g gs) (gsCons m ms) := fun F σ H ρ h x st vs ds Q hl E e q => by
  cases ds with
  | nil => cases e
  | cons d ds =>
    cases vs with
    | nil => cases hl
    | cons v vs =>
      have e : ((m (.cl d) ρ h).bind fun x => ms ds x.1 x.2) = some x := e
      cases h1 : m (.cl d) ρ h with
      | none => rw [h1] at e; cases e
      | some y =>
        rw [h1] at e
        exact ⟨v, vs, rfl, hg F σ H ρ h y _ v (.cl d) _ E h1 fun σ1 H1 E1 => hs F σ1 H1 y.1 y.2 x st vs ds Q (by simpa using hl) E1 e q⟩
/-- the items of a tuple that stays are held -/
theorem EnvK.pushAll : ∀ {vs : List V} {ds : List D}, EnvK f κ F σ H ρ h st → RepA (av F κ st) ⟨f, κ⟩ H vs ds → EnvK f κ F σ H ρ h (vs.zip (ds.map W.cl) ++ st)
  | _, _, E, .nil => E
  | _, _, E, .cons (v := v) (vs := vs) (d := d) (ds := ds) r a => by
    have E1 := EnvK.pushAll E a
    have er : av F κ (vs.zip (ds.map W.cl) ++ st) = av F κ st := by
      show F.A ++ (κ ++ rootsW _) = _
      unfold rootsW
      rw [List.filterMap_append]
      have e0 : (vs.zip (ds.map W.cl)).filterMap rootW = [] := by
        rw [List.filterMap_eq_nil_iff]
        rintro ⟨v, w⟩ h
        obtain ⟨d, _, e⟩ := List.mem_map.mp (List.of_mem_zip h).2
        subst e
        exact rootW_cl
      rw [e0]
      rfl
    exact E1.pushC (by rw [er]; exact r)
theorem sim_gtup (hs : SimGs f gs ms) : SimG f (gTup f n gs) (gTupM n ms) := fun F σ H ρ h x st v w Q ⟨κ, E⟩ e q => by
  cases w with
  | cl d =>
    have e : (match d.u with
      | .tup ds => if ds.length = n then ms ds ρ h else none
      | _ => none) = some x := e
    have r := (E.rep (List.mem_cons_self ..)).u
    split at e
    · rename_i ds hd
      rw [hd] at r
      split at e
      · rename_i hn
        generalize hM : av F κ ((v, W.cl d) :: st) = M at r
        cases r with
        | tup a b =>
          subst hM
          refine ⟨_, _, rfl, a.sq, b.len.trans hn, hs F σ H ρ h x st _ ds Q b.len ⟨κ, ?_⟩ e q⟩
          exact (E.pop).pushAll (b.mono (av_sub fun x hx => List.mem_cons_of_mem _ hx))
      · cases e
    · cases e
  | nw c => cases e
end

/-! ### statements -/
def sSeq (a b : MS) : MS := fun ρ h => match a ρ h with
  | some (.nx ρ' h') => b ρ' h'
  | x => x
def sNext : MS := fun ρ h => some (.nx ρ h)
def sNever : MS := fun _ _ => none
def sAsg (e : Mo W) (g : Tg) : MS := fun ρ h => bindS (e ρ h) fun w ρ h => (g w ρ h).map fun x => .nx x.1 x.2
def sRet (e : Mo W) : MS := fun ρ h => bindS (e ρ h) fun w ρ h => some (.rt w ρ h)
def sRetN : MS := fun ρ h => some (.rt (.cl .non) ρ h)
def sIf (c : Mo Bool) (a b : MS) : MS := fun ρ h => bindS (c ρ h) fun k ρ h => if k = true then a ρ h else b ρ h
def sDrop (e : Mo W) : MS := fun ρ h => bindS (e ρ h) fun _ ρ h => some (.nx ρ h)
def sBrk : MS := fun ρ h => some (.bk ρ h)
def sCnt : MS := fun ρ h => some (.ct ρ h)
def sAug (g : D → D → Option W) (i : Nat) (e : Mo W) : MS := fun ρ h => bindS (mVar i ρ h) fun x ρ h => bindS (e ρ h) fun y ρ h => (deref h x).bind fun dx => (deref h y).bind fun dy => (g dx dy).bind fun w => some (.nx (ρ.set i (.cl (fzW w))) h)
def sWhile (c : Mo Bool) (b : MS) : Nat → MS
  | 0, _, _ => none
  | n + 1, ρ, h => bindS (c ρ h) fun k ρ h => if k = true then (match b ρ h with
    | some (.nx ρ' h') => sWhile c b n ρ' h'
    | some (.ct ρ' h') => sWhile c b n ρ' h'
    | some (.bk ρ' h') => some (.nx ρ' h')
    | x => x) else some (.nx ρ h)
/-- slots that are forgotten ahead of a statement -/
def wipeS (vs : List Nat) (ρ : List Sl) : List Sl := vs.foldr (fun i ρ => ρ.set i .un) ρ
def sFg (is : List Nat) (m : MS) : MS := fun ρ h => m (wipeS is ρ) h
section
variable {f : PySem.W.Frag} {WW : WX} {te : TE} {me : Mo W} {t u : TS} {m m' : MS} {g : TG} {mg : Tg} {tt : TT} {mt : Mo Bool} {tr : TA} {mr : Mo (List W)} {i j : Nat}
theorem sim_seq (ha : SimS f WW t m) (hb : SimS f WW u m') : SimS f WW (tSeq t u) (sSeq m m') := fun F σ H ρ h st o D E e p => by
  unfold sSeq at e
  split at e
  · rename_i ρ1 h1 q1
    exact ha F σ H ρ h st _ _ E q1 fun σ1 H1 E1 => hb F σ1 H1 ρ1 h1 st o D E1 e p
  · rename_i x hx
    refine ha F σ H ρ h st o _ E e ?_
    cases o with
    | nx ρ1 h1 => exact absurd e (fun z => hx ρ1 h1 z)
    | rt w ρ1 h1 => exact p
    | bk ρ1 h1 => exact p
    | ct ρ1 h1 => exact p
    | ex C fs ρ1 h1 => exact p
theorem sim_next : SimS f WW tNext sNext := fun F σ H ρ h st o D E e p => by
  cases e
  exact p _ _ E
theorem sim_never : SimS f WW t sNever := fun F σ H ρ h st x D E e p => by cases e
theorem sim_asg (he : SimE f WW te me) (hg : SimG f g mg) : SimS f WW (tAsg te g) (sAsg me mg) := fun F σ H ρ h st o D E e p => by
  rcases bindS_some e with ⟨w1, ρ1, h1, e1, e⟩ | ⟨C, fs, ρ1, h1, e1, rfl⟩
  · refine he F σ H ρ h st _ _ E e1 fun v1 H1 E1 => ?_
    cases q : mg w1 ρ1 h1 with
    | none => rw [q] at e; cases e
    | some x =>
      rw [q] at e
      cases e
      exact hg F σ H1 ρ1 h1 x st v1 w1 _ E1 q p
  · exact he F σ H ρ h st _ _ E e1 p
theorem sim_ret (he : SimE f WW te me) : SimS f WW (tRet te) (sRet me) := fun F σ H ρ h st o D E e p => by
  rcases bindS_some e with ⟨w1, ρ1, h1, e1, e⟩ | ⟨C, fs, ρ1, h1, e1, rfl⟩
  · refine he F σ H ρ h st _ _ E e1 fun v1 H1 E1 => ?_
    cases e
    exact p _ _ _ E1
  · exact he F σ H ρ h st _ _ E e1 p
theorem sim_retN : SimS f WW tRetN sRetN := fun F σ H ρ h st o D E e p => by
  cases e
  exact p σ _ _ (E.pushC0 fun _ _ => .non)
theorem sim_ifs (hc : SimT f WW tt mt) (ha : SimS f WW t m) (hb : SimS f WW u m') : SimS f WW (tIfS tt t u) (sIf mt m m') := fun F σ H ρ h st o D E e p => by
  rcases bindS_some e with ⟨b, ρ1, h1, e1, e⟩ | ⟨C, fs, ρ1, h1, e1, rfl⟩
  · refine hc F σ H ρ h st _ _ E e1 fun H1 E1 => ?_
    by_cases hk : b = true
    · rw [if_pos hk] at e ⊢
      exact ha F σ H1 ρ1 h1 st o D E1 e p
    · rw [if_neg hk] at e ⊢
      exact hb F σ H1 ρ1 h1 st o D E1 e p
  · exact hc F σ H ρ h st _ _ E e1 p
theorem sim_drop (he : SimE f WW te me) : SimS f WW (tDrop te) (sDrop me) := fun F σ H ρ h st o D E e p => by
  rcases bindS_some e with ⟨w1, ρ1, h1, e1, e⟩ | ⟨C, fs, ρ1, h1, e1, rfl⟩
  · refine he F σ H ρ h st _ _ E e1 fun v1 H1 E1 => ?_
    cases e
    exact p _ _ E1.pop
  · exact he F σ H ρ h st _ _ E e1 p
theorem sim_cnt : SimS f WW tCont sCnt := fun F σ H ρ h st o D E e p => by
  cases e
  exact p _ _ E
theorem sim_aug {ti : TIp} {g : D → D → Option W} (o : Op2 f ti g) (he : SimE f WW te me) : SimS f WW (tAug i te ti) (sAug g i me) := fun F σ H ρ h st x D E e p => by
  rcases bindS_some e with ⟨w1, ρ1, h1, e1, e3⟩ | ⟨C, fs, ρ1, h1, e1, rfl⟩
  · clear e
    obtain ⟨v1, hv, E1, rfl, rfl⟩ : ∃ v1, σ[i]? = some (some v1) ∧ EnvR f F σ H ρ1 h1 ((v1, w1) :: st) ∧ ρ1 = ρ ∧ h1 = h := by
      obtain ⟨v, hv, q3⟩ := sim_var (f := f) (WW := WW) (i := i) F σ H ρ h st _ (fun v H' => EnvR f F σ H' ρ1 h1 ((v, w1) :: st)) E e1 (fun v H' E' => E')
      unfold mVar at e1
      split at e1
      · cases e1; exact ⟨v, hv, q3, rfl, rfl⟩
      · cases e1
    refine ⟨v1, hv, ?_⟩
    rcases bindS_some e3 with ⟨w2, ρ2, h2, e2, e⟩ | ⟨C, fs, ρ2, h2, e2, rfl⟩
    · refine he F σ H ρ1 h1 _ _ _ E1 e2 fun v2 H2 ⟨κ, E2⟩ => ?_
      cases g1 : deref h2 w1 with
      | none => rw [g1] at e; cases e
      | some d1 =>
        rw [g1] at e
        dsimp only [Option.bind_some] at e
        cases g2 : deref h2 w2 with
        | none => rw [g2] at e; cases e
        | some d2 =>
          rw [g2] at e
          dsimp only [Option.bind_some] at e
          cases g3 : g d1 d2 with
          | none => rw [g3] at e; cases e
          | some w =>
            rw [g3] at e
            cases e
            exact o κ _ H2 v1 v2 d1 d2 w _ (fun q hq => av_new E2 hq) (E2.near (List.mem_cons_of_mem _ (List.mem_cons_self ..)) g1) (E2.near (List.mem_cons_self ..) g2) g3
              fun v H' ex nw => p _ _ ⟨κ, (EnvK.land (l := [(v2, w2), (v1, w1)]) E2 ex nw).fz.setC⟩
    · exact he F σ H ρ1 h1 _ _ _ E1 e2 (ExR.up p)
  · unfold mVar at e1
    split at e1 <;> cases e1
theorem sim_while (hc : SimT f WW tt mt) (hb : SimS f WW t m) (n : Nat) : SimS f WW (tWhile tt t) (sWhile mt m n) := fun F σ H ρ h st o D E e p => by
  refine ⟨fun k σ H => ∃ ρ h, EnvR f F σ H ρ h st ∧ sWhile mt m k ρ h = some o, ⟨n, ρ, h, E, e⟩, ?_⟩
  rintro k σ H ⟨ρ, h, E, e⟩
  cases k with
  | zero => cases e
  | succ k =>
    rcases bindS_some e with ⟨b, ρ1, h1, e1, e⟩ | ⟨C, fs, ρ1, h1, e1, rfl⟩
    · refine hc F σ H ρ h st _ _ E e1 fun H1 E1 => ?_
      by_cases hk : b = true
      · rw [if_pos hk] at e ⊢
        refine ⟨fun σ' H' => ∃ ρ h, EnvR f F σ' H' ρ h st ∧ sWhile mt m k ρ h = some o, fun σ' H' q => ⟨k, Nat.lt_succ_self _, q⟩, ?_⟩
        split at e
        · rename_i ρ2 h2 q2
          exact hb F σ H1 ρ1 h1 st _ _ E1 q2 fun σ' H' E' => ⟨ρ2, h2, E', e⟩
        · rename_i ρ2 h2 q2
          exact hb F σ H1 ρ1 h1 st _ _ E1 q2 fun σ' H' E' => ⟨ρ2, h2, E', e⟩
        · rename_i ρ2 h2 q2
          cases e
          exact hb F σ H1 ρ1 h1 st _ _ E1 q2 fun σ' H' E' => p _ _ E'
        · rename_i x y1 y2 y3
          refine hb F σ H1 ρ1 h1 st o _ E1 e ?_
          cases o with
          | nx ρ2 h2 => exact absurd e (y1 ρ2 h2)
          | bk ρ2 h2 => exact absurd e (y3 ρ2 h2)
          | ct ρ2 h2 => exact absurd e (y2 ρ2 h2)
          | rt w ρ2 h2 => exact p
          | ex C fs ρ2 h2 => exact p
      · rw [if_neg hk] at e ⊢
        cases e
        exact p _ _ E1
    · exact hc F σ H ρ h st _ _ E e1 p
theorem EnvK.fg {κ : List Addr} {F : Fm} {H : Hp} {σ : L2.St} {ρ : List Sl} {h : Tb} {st : List (V × W)} (E : EnvK f κ F σ H ρ h st) : ∀ {is : List Nat}, EnvK f κ F σ H (wipeS is ρ) h st
  | [] => E
  | i :: is => by
    have E1 := EnvK.fg E (is := is)
    show EnvK f κ F σ H ((wipeS is ρ).set i .un) h st
    by_cases hi : i < σ.length
    · have E2 := E1.forget (i := i) σ[i]
      rwa [set_self (List.getElem?_eq_getElem hi)] at E2
    · have hl := E1.len
      rw [List.set_eq_of_length_le (by omega)]
      exact E1
theorem sim_fg {is : List Nat} (hs : SimS f WW t m) : SimS f WW t (sFg is m) := fun F σ H ρ h st o D ⟨κ, E⟩ e p => hs F σ H (wipeS is ρ) h st o D ⟨κ, E.fg⟩ e p
/-! two names at once -/
def gPut (own : Bool) (i : Nat) (w : W) (ρ : List Sl) (h : Tb) : Fr2 := match own, w with
  | true, .nw c => (ρ.set i (.cl (.ce h.length)), h ++ [c])
  | _, w => (ρ.set i (.cl (fzW w)), h)
def sPar (o1 o2 : Bool) (i j : Nat) (a : Mo (List W)) : MS := fun ρ h => bindS (a ρ h) fun ws ρ h => match ws with
  | [v, w] => let x := gPut o1 i v ρ h; let y := gPut o2 j w x.1 x.2; some (.nx y.1 y.2)
  | _ => none
theorem EnvR.gput {F : Fm} {H : Hp} {σ : L2.St} {ρ : List Sl} {h : Tb} {st : List (V × W)} {v : V} {w : W} {own : Bool} (E : EnvR f F σ H ρ h ((v, w) :: st)) : EnvR f F (σ.set i (some v)) H (gPut own i w ρ h).1 (gPut own i w ρ h).2 st := by
  obtain ⟨κ, E⟩ := E
  cases own with
  | false => exact ⟨κ, E.fz.setC⟩
  | true =>
    cases w with
    | cl d => exact ⟨κ, E.setC⟩
    | nw c =>
      obtain ⟨p, rfl, E2⟩ := E.cell
      exact ⟨_, E2.setC⟩
theorem EnvR.perm {F : Fm} {H : Hp} {σ : L2.St} {ρ : List Sl} {h : Tb} {st st' : List (V × W)} (E : EnvR f F σ H ρ h st) (q : st.Perm st') : EnvR f F σ H ρ h st' := E.elim fun κ E => ⟨κ, E.perm q⟩
theorem sim_par {o1 o2 : Bool} (ha : SimA f WW tr mr) : SimS f WW (tPar i j tr) (sPar o1 o2 i j mr) := fun F σ H ρ h st x D E e p => by
  rcases bindS_some e with ⟨ws, ρ1, h1, e1, e⟩ | ⟨C, fs, ρ1, h1, e1, rfl⟩
  · refine ha F σ H ρ h st _ _ E e1 fun vs H1 hl E1 => ?_
    split at e
    · rename_i w1 w2
      match vs, hl, E1 with
      | [v1, v2], hl, E1 =>
        refine ⟨v1, v2, rfl, ?_⟩
        cases e
        have E1 : EnvR f F σ H1 ρ1 h1 ((v1, w1) :: (v2, w2) :: st) := E1
        exact p _ _ (E1.gput.gput)
    · cases e
  · exact ha F σ H ρ h st _ _ E e1 p
end
end CM

/-! CM4: loops, comprehensions, lists that change. -/
namespace CM
open PySem PySem.Spec PyProof.Rows L2 SL

/-! ### what is walked -/
/-- the items; the cells that must hold what they held -/
structure ItM where
  ds : List D
  ck : List (Nat × D)
def ckOk (ck : List (Nat × D)) (h : Tb) : Prop := ∀ x ∈ ck, h[x.1]? = some x.2
def IterOk (f : PySem.W.Frag) (F : Fm) (J : It) (ds : List D) (ck : List (Nat × D)) (v : V) (w : W) : Prop := ∀ (κ : List Addr) (σ : L2.St) (H : Hp) (ρ : List Sl) (h : Tb) (st : List (V × W)), EnvK f κ F σ H ρ h ((v, w) :: st) → ckOk ck h →
  (∀ i, i < ds.length → J.go i H) ∧ J.stop ds.length H ∧ ∀ i x H', i < ds.length → J.yld i H x H' → ∃ d, ds[i]? = some d ∧ EnvK f κ F σ H' ρ h ((x, .cl d) :: (v, w) :: st)
def PostI (f : PySem.W.Frag) (F : Fm) (WW : WX) (σ : L2.St) (st : List (V × W)) (R' : It → Hp → Prop) : R ItM → Prop
  | .ok it ρ h => it.ds.length ≤ 90000 → ∀ v w H J, EnvR f F σ H ρ h ((v, w) :: st) → IterOk f F J it.ds it.ck v w → ckOk it.ck h → R' J H
  | .ex C fs ρ h => ExR f F WW st C fs ρ h
def SimI (f : PySem.W.Frag) (WW : WX) (t : TI) (m : Mo ItM) : Prop := ∀ (F : Fm) (σ : L2.St) (H : Hp) (ρ : List Sl) (h : Tb) (st : List (V × W)) (r : R ItM) (Q : It → Hp → Prop), EnvR f F σ H ρ h st → m ρ h = some r → PostI f F WW σ st Q r → t σ H Q
def itemsD : D → Option (List D)
  | .lst ds => some ds
  | .tup ds => some ds
  | .str z => some (z.cps.toList.map fun c => .str ⟨#[c]⟩)
  | _ => none
def ckOf (h : Tb) : W → List (Nat × D)
  | .cl (.ce n) => match h[n]? with
    | some c => [(n, c)]
    | none => []
  | _ => []
def mIU (e : Mo W) : Mo ItM := fun ρ h => bindR (e ρ h) fun w ρ h => (deref h w).bind fun d => (itemsD d.u).bind fun ds => if ds.length ≤ 90000 then some (.ok ⟨ds, ckOf h w⟩ ρ h) else none
section
variable {f : PySem.W.Frag} {κ : List Addr} {K : Kx} {F : Fm} {M : List Addr} {H H' : Hp} {p : Addr} {σ : L2.St} {ρ ρ' : List Sl} {h h' : Tb} {st l : List (V × W)} {v : V} {w w' : W} {d : D} {ds es : List D} {vs : List V} {ws : List W} {i j : Nat}
theorem nr_lst (h : Nr M K H v d) (e : d.u = .lst ds) : ∃ a xs, v = .ref a ∧ H a = some (.lst xs) ∧ RepA M K H xs ds := by
  have h := h.u
  rw [e] at h
  cases h with
  | cl r => cases r with | lst a b => exact ⟨_, _, rfl, a.at_, b⟩
  | own r => cases r with | lst a b => exact ⟨_, _, rfl, a, b⟩
theorem nr_tup (h : Nr M K H v d) (e : d.u = .tup ds) : ∃ a xs, v = .ref a ∧ SqT K H a xs ∧ RepA M K H xs ds := by
  have h := h.u
  rw [e] at h
  cases h with
  | cl r => cases r with | tup a b => exact ⟨_, _, rfl, a.sq, b⟩
  | own r => cases r
theorem nr_str {z : Str} (h : Nr M K H v d) (e : d.u = .str z) : v = .str z := by
  have h := h.u
  rw [e] at h
  exact rep_str h.rep0
theorem nr_int {z : Int} (h : Nr M K H v d) (e : d.u = .int z) : v = .int z := by
  have h := h.u
  rw [e] at h
  exact rep_int h.rep0
theorem nr_bl {z : Bool} (h : Nr M K H v d) (e : d.u = .bl z) : v = .bl z := by
  have h := h.u
  rw [e] at h
  exact rep_bl h.rep0
theorem nr_non (h : Nr M K H v d) (e : d.u = .non) : v = .non := by
  have h := h.u
  rw [e] at h
  exact rep_non h.rep0
theorem ck_of : ckOk (ckOf h w) h := fun x hx => by
  unfold ckOf at hx
  split at hx
  · split at hx
    · rw [List.mem_singleton.mp hx]
      assumption
    · cases hx
  · cases hx
/-- what was read stands, where the cells hold what they held -/
theorem deref_ck {h0 : Tb} (e : deref h0 w = some d) (ck : ckOk (ckOf h0 w) h) : deref h w = some d := by
  match w with
  | .nw c => exact e
  | .cl (.ce n) =>
    have e : h0[n]? = some d := e
    refine ck (n, d) ?_
    show (n, d) ∈ (match h0[n]? with
      | some c => [(n, c)]
      | none => [])
    rw [e]
    exact List.mem_singleton.mpr rfl
  | .cl .non => exact e
  | .cl (.bl _) => exact e
  | .cl (.int _) => exact e
  | .cl (.str _) => exact e
  | .cl (.ty _) => exact e
  | .cl (.glo _) => exact e
  | .cl (.lst _) => exact e
  | .cl (.scr _) => exact e
  | .cl (.tup _) => exact e
  | .cl (.dK _) => exact e
  | .cl (.rng _ _) => exact e
  | .cl (.ins _ _) => exact e
  | .cl (.exc _ _) => exact e
  | .cl (.tg _ _) => exact e
  | .cl (.bo _ _ _) => exact e
theorem iter_list {a : Addr} {h0 : Tb} (hw : deref h0 w = some d) (e : d.u = .lst ds) : IterOk f F (Itl f a) ds (ckOf h0 w) (.ref a) w := fun κ σ H ρ h st E ck => by
  obtain ⟨a', xs, ha, hsq, r⟩ := nr_lst (E.near (List.mem_cons_self ..) (deref_ck hw ck)) e
  cases ha
  have sq : SqL f H a xs := .inl (.inl hsq)
  refine ⟨fun i hi => ?_, ⟨xs, sq, by rw [r.len]; exact Nat.le_refl _⟩, fun i x H' hi y => ?_⟩
  · have hx : i < xs.length := by rw [r.len]; exact hi
    exact ⟨xs, xs[i], sq, List.getElem?_eq_getElem hx⟩
  · obtain ⟨rfl, y⟩ := y
    obtain ⟨d, h1, h2⟩ := r.getV (y xs sq)
    exact ⟨d, h1, E.pushC h2⟩
theorem iter_tup {a : Addr} {h0 : Tb} (hw : deref h0 w = some d) (e : d.u = .tup ds) : IterOk f F (Itt f a) ds (ckOf h0 w) (.ref a) w := fun κ σ H ρ h st E ck => by
  obtain ⟨a', xs, ha, sq, r⟩ := nr_tup (E.near (List.mem_cons_self ..) (deref_ck hw ck)) e
  cases ha
  refine ⟨fun i hi => ?_, ⟨xs, sq, by rw [r.len]; exact Nat.le_refl _⟩, fun i x H' hi y => ?_⟩
  · have hx : i < xs.length := by rw [r.len]; exact hi
    exact ⟨xs, xs[i], sq, List.getElem?_eq_getElem hx⟩
  · obtain ⟨rfl, y⟩ := y
    obtain ⟨d, h1, h2⟩ := r.getV (y xs sq)
    exact ⟨d, h1, E.pushC h2⟩
theorem iter_str {z : Str} {ck : List (Nat × D)} {v : V} : IterOk f F (Its z) (z.cps.toList.map fun c => D.str ⟨#[c]⟩) ck v w := fun κ σ H ρ h st E _ => by
  have hl : (z.cps.toList.map fun c => D.str ⟨#[c]⟩).length = z.cps.size := by simp
  rw [hl]
  refine ⟨fun i hi => hi, Nat.le_refl _, fun i x H' hi y => ?_⟩
  obtain ⟨rfl, c, hc, rfl⟩ := y
  refine ⟨.str ⟨#[c]⟩, ?_, E.pushC (.str _)⟩
  rw [List.getElem?_map, Array.getElem?_toList, hc]
  rfl
theorem sim_iU {WW : WX} {te : TE} {me : Mo W} (he : SimE f WW te me) : SimI f WW (iU f te) (mIU me) := fun F σ H ρ h st x Q E e p => by
  rcases bindR_some e with ⟨w1, ρ1, h1, e1, e⟩ | ⟨C, fs, ρ1, h1, e1, rfl⟩
  · cases q1 : deref h1 w1 with
    | none => rw [q1] at e; cases e
    | some d =>
      rw [q1] at e
      dsimp only [Option.bind_some] at e
      cases q3 : itemsD d.u with
      | none => rw [q3] at e; cases e
      | some ds =>
        rw [q3] at e
        dsimp only [Option.bind_some] at e
        split at e
        · rename_i hl
          cases e
          cases hd : d.u with
          | lst es =>
            rw [hd] at q3
            cases q3
            refine .inl (he F σ H ρ h st _ _ E e1 fun v1 H1 ⟨κ, E1⟩ => ?_)
            obtain ⟨a, xs, rfl, sq, r⟩ := nr_lst (E1.near (List.mem_cons_self ..) q1) hd
            exact ⟨a, rfl, ⟨xs, .inl (.inl sq)⟩, p hl _ _ _ _ ⟨κ, E1⟩ (iter_list q1 hd) ck_of⟩
          | tup es =>
            rw [hd] at q3
            cases q3
            refine .inr (.inl (he F σ H ρ h st _ _ E e1 fun v1 H1 ⟨κ, E1⟩ => ?_))
            obtain ⟨a, xs, rfl, sq, r⟩ := nr_tup (E1.near (List.mem_cons_self ..) q1) hd
            exact ⟨a, rfl, ⟨xs, sq⟩, p hl _ _ _ _ ⟨κ, E1⟩ (iter_tup q1 hd) ck_of⟩
          | str z =>
            rw [hd] at q3
            cases q3
            refine .inr (.inr (he F σ H ρ h st _ _ E e1 fun v1 H1 ⟨κ, E1⟩ => ?_))
            exact ⟨z, nr_str (E1.near (List.mem_cons_self ..) q1) hd, p hl _ _ _ _ ⟨κ, E1⟩ iter_str ck_of⟩
          | _ => rw [hd] at q3; cases q3
        · cases e
  · exact .inl (he F σ H ρ h st _ _ E e1 p)
def mRng1 (a : Mo (List W)) : Mo ItM := fun ρ h => bindR (a ρ h) fun ws ρ h => (derefs h ws).bind fun ds => match ds.map D.u with
  | [.int n] => if n ≤ 90000 ∧ -1000000 ≤ n then some (.ok ⟨(List.range n.toNat).map fun i => .int (i : Nat), []⟩ ρ h) else none
  | _ => none
def mRng2 (a : Mo (List W)) : Mo ItM := fun ρ h => bindR (a ρ h) fun ws ρ h => (derefs h ws).bind fun ds => match ds.map D.u with
  | [.int m, .int n] => if n - m ≤ 90000 ∧ -1000000 ≤ n ∧ n ≤ 1000000 ∧ -1000000 ≤ m ∧ m ≤ 1000000 then some (.ok ⟨(List.range (n - m).toNat).map fun i => .int (m + (i : Nat)), []⟩ ρ h) else none
  | _ => none
theorem iter_rng {lo : Int} {n : Nat} {g : Nat → D} (hf : ∀ i, g i = .int (lo + (i : Nat))) : IterOk f F (Itr lo n) ((List.range n).map g) [] .non (.cl .non) := fun κ σ H ρ h st E _ => by
  have hl : ((List.range n).map g).length = n := by simp
  rw [hl]
  refine ⟨fun i hi => hi, Nat.le_refl _, fun i x H' hi y => ?_⟩
  obtain ⟨rfl, rfl⟩ := y
  exact ⟨.int (lo + (i : Nat)), by rw [List.getElem?_map, List.getElem?_range hi]; exact congrArg some (hf i), E.pushC (.int _)⟩
theorem ck_nil : ckOk [] h := fun _ z => by cases z
theorem nra_u : ∀ {vs : List V} {ds : List D}, NrA M K H vs ds → NrA M K H vs (ds.map D.u)
  | _, _, .nil => .nil
  | _, _, .cons h a => .cons h.u (nra_u a)
theorem nra1 {vs : List V} {d : D} (h : NrA M K H vs [d]) : ∃ v, vs = [v] ∧ Nr M K H v d := by
  cases h with | cons h a => cases a; exact ⟨_, rfl, h⟩
theorem nra2 {vs : List V} {d e : D} (h : NrA M K H vs [d, e]) : ∃ v w, vs = [v, w] ∧ Nr M K H v d ∧ Nr M K H w e := by
  cases h with
  | cons h a =>
    obtain ⟨w, rfl, b⟩ := nra1 a
    exact ⟨_, _, rfl, h, b⟩
theorem nra3 {vs : List V} {d e f : D} (h : NrA M K H vs [d, e, f]) : ∃ v w u, vs = [v, w, u] ∧ Nr M K H v d ∧ Nr M K H w e ∧ Nr M K H u f := by
  cases h with
  | cons h a =>
    obtain ⟨w, u, rfl, b, c⟩ := nra2 a
    exact ⟨_, _, _, rfl, h, b, c⟩
theorem sim_rng1 {WW : WX} {ta : TA} {ma : Mo (List W)} (ha : SimA f WW ta ma) : SimI f WW (iRng1 ta) (mRng1 ma) := fun F σ H ρ h st x Q E e p => by
  rcases bindR_some e with ⟨ws, ρ1, h1, e1, e⟩ | ⟨C, fs, ρ1, h1, e1, rfl⟩
  · refine ha F σ H ρ h st _ _ E e1 fun vs H1 hl ⟨κ, E1⟩ => ?_
    cases q1 : derefs h1 ws with
    | none => rw [q1] at e; cases e
    | some ds =>
      rw [q1] at e
      dsimp only [Option.bind_some] at e
      have nr := nra_u (E1.nears hl (fun x hx => List.mem_append.mpr (.inl hx)) q1)
      split at e
      · rename_i n hn
        rw [hn] at nr
        obtain ⟨v, rfl, r⟩ := nra1 nr
        cases nr_int r rfl
        split at e
        · rename_i hb
          cases e
          refine ⟨n, rfl, by omega, by omega, p ?_ .non (.cl .non) H1 _ ⟨κ, E1.popL.pushC .non⟩ (iter_rng fun i => by simp) ck_nil⟩
          show ((List.range n.toNat).map _).length ≤ 90000
          simp
          omega
        · cases e
      · cases e
  · exact ha F σ H ρ h st _ _ E e1 p
theorem sim_rng2 {WW : WX} {ta : TA} {ma : Mo (List W)} (ha : SimA f WW ta ma) : SimI f WW (iRng2 ta) (mRng2 ma) := fun F σ H ρ h st x Q E e p => by
  rcases bindR_some e with ⟨ws, ρ1, h1, e1, e⟩ | ⟨C, fs, ρ1, h1, e1, rfl⟩
  · refine ha F σ H ρ h st _ _ E e1 fun vs H1 hl ⟨κ, E1⟩ => ?_
    cases q1 : derefs h1 ws with
    | none => rw [q1] at e; cases e
    | some ds =>
      rw [q1] at e
      dsimp only [Option.bind_some] at e
      have nr := nra_u (E1.nears hl (fun x hx => List.mem_append.mpr (.inl hx)) q1)
      split at e
      · rename_i m n hn
        rw [hn] at nr
        obtain ⟨v, v2, rfl, r, r2⟩ := nra2 nr
        cases nr_int r rfl
        cases nr_int r2 rfl
        split at e
        · rename_i hb
          cases e
          refine ⟨m, n, rfl, ⟨by omega, by omega, by omega, by omega⟩, p ?_ .non (.cl .non) H1 _ ⟨κ, E1.popL.pushC .non⟩ (iter_rng fun i => rfl) ck_nil⟩
          show ((List.range (n - m).toNat).map _).length ≤ 90000
          simp
          omega
        · cases e
      · cases e
  · exact ha F σ H ρ h st _ _ E e1 p
/-! enumerate, zip -/
def seqD : D → Option (List D)
  | .lst ds => some ds
  | .tup ds => some ds
  | _ => none
def mEnum (a : Mo (List W)) : Mo ItM := fun ρ h => bindR (a ρ h) fun ws ρ h => match ws with
  | [w] => (deref h w).bind fun d => (seqD d.u).bind fun ds => if ds.length ≤ 90000 then some (.ok ⟨(List.range ds.length).zipWith (fun i d => .tup [.int (i : Nat), d]) ds, ckOf h w⟩ ρ h) else none
  | _ => none
theorem tup_land {T : Addr} {xs : List V} {ds : List D} (E : EnvK f κ F σ H ρ h st) (hT : H T = none) (r : RepA (av F κ st) ⟨f, κ⟩ H xs ds) : EnvK f κ F σ (upd H T (.tup xs)) ρ h ((.ref T, .cl (.tup ds)) :: st) :=
  EnvK.land (l := []) E (Ex.new hT) (Nw.tup hT (av_new E hT) r)
theorem sim_enum {WW : WX} {tr : TA} {mr : Mo (List W)} (ha : SimA f WW tr mr) : SimI f WW (iEnumB f tr) (mEnum mr) := fun F σ H ρ h st x Q E e p => by
  rcases bindR_some e with ⟨ws, ρ1, h1, e1, e⟩ | ⟨C, fs, ρ1, h1, e1, rfl⟩
  · refine ha F σ H ρ h st _ _ E e1 fun vs H1 hl E1 => ?_
    split at e
    · rename_i w
      match vs, hl, E1 with
      | [v], hl, ⟨κ, E1⟩ =>
        have E1 : EnvK f κ F σ H1 ρ1 h1 ((v, w) :: st) := E1
        cases q2 : deref h1 w with
        | none => rw [q2] at e; cases e
        | some d =>
          rw [q2] at e
          dsimp only [Option.bind_some] at e
          cases q3 : seqD d.u with
          | none => rw [q3] at e; cases e
          | some ds =>
            rw [q3] at e
            dsimp only [Option.bind_some] at e
            split at e
            · rename_i hlen
              cases e
              have hz : ((List.range ds.length).zipWith (fun i d => D.tup [.int (i : Nat), d]) ds).length = ds.length := by simp
              have hz2 : ((List.range ds.length).zipWith (fun i d => D.tup [.int (i : Nat), d]) ds).length ≤ 90000 := by rw [hz]; exact hlen
              have hd : d.u = .lst ds ∨ d.u = .tup ds := by
                unfold seqD at q3
                split at q3
                · cases q3; exact .inl (by assumption)
                · cases q3; exact .inr (by assumption)
                · cases q3
              rcases hd with hd | hd
              · obtain ⟨a, xs, rfl, sq, r⟩ := nr_lst (E1.near (List.mem_cons_self ..) q2) hd
                refine ⟨a, xs, rfl, .inl ⟨.inl (.inl sq), p hz2 _ _ _ _ ⟨κ, E1⟩ ?_ ck_of⟩⟩
                intro κ σ H ρ h st E ck
                obtain ⟨a', xs, ha, sq, r⟩ := nr_lst (E.near (List.mem_cons_self ..) (deref_ck q2 ck)) hd
                cases ha
                show (∀ i, i < ((List.range ds.length).zipWith (fun i d => D.tup [.int (i : Nat), d]) ds).length → _) ∧ _
                rw [hz]
                refine ⟨fun i hi => ?_, ⟨xs, .inl (.inl sq), by rw [r.len]; exact Nat.le_refl _⟩, fun i x H' hi y => ?_⟩
                · have hx : i < xs.length := by rw [r.len]; exact hi
                  exact ⟨xs, xs[i], .inl (.inl sq), List.getElem?_eq_getElem hx⟩
                · obtain ⟨T, x', rfl, hT, rfl, hx⟩ := y
                  obtain ⟨d', g1, g2⟩ := r.getV (hx xs (.inl (.inl sq)))
                  refine ⟨.tup [.int (i : Nat), d'], ?_, tup_land E hT (.cons (.int _) (.cons g2 .nil))⟩
                  rw [List.getElem?_zipWith, List.getElem?_range hi, g1]
              · obtain ⟨a, xs, rfl, sq, r⟩ := nr_tup (E1.near (List.mem_cons_self ..) q2) hd
                refine ⟨a, xs, rfl, .inr ⟨sq, p hz2 _ _ _ _ ⟨κ, E1⟩ ?_ ck_of⟩⟩
                intro κ σ H ρ h st E ck
                obtain ⟨a', xs, ha, sq, r⟩ := nr_tup (E.near (List.mem_cons_self ..) (deref_ck q2 ck)) hd
                cases ha
                show (∀ i, i < ((List.range ds.length).zipWith (fun i d => D.tup [.int (i : Nat), d]) ds).length → _) ∧ _
                rw [hz]
                refine ⟨fun i hi => ?_, ⟨xs, sq, by rw [r.len]; exact Nat.le_refl _⟩, fun i x H' hi y => ?_⟩
                · have hx : i < xs.length := by rw [r.len]; exact hi
                  exact ⟨xs, xs[i], sq, List.getElem?_eq_getElem hx⟩
                · obtain ⟨T, x', rfl, hT, rfl, hx⟩ := y
                  obtain ⟨d', g1, g2⟩ := r.getV (hx xs sq)
                  refine ⟨.tup [.int (i : Nat), d'], ?_, tup_land E hT (.cons (.int _) (.cons g2 .nil))⟩
                  rw [List.getElem?_zipWith, List.getElem?_range hi, g1]
            · cases e
    · cases e
  · exact ha F σ H ρ h st _ _ E e1 p
/-- two lists -/
def mZip (a : Mo (List W)) : Mo ItM := fun ρ h => bindR (a ρ h) fun ws ρ h => match ws with
  | [w, u] => (deref h w).bind fun dx => (deref h u).bind fun dy => match dx.u, dy.u with
    | .lst ds, .lst es => if ds.length ≤ 90000 then some (.ok ⟨ds.zipWith (fun d e => .tup [d, e]) es, ckOf h w ++ ckOf h u⟩ ρ h) else none
    | _, _ => none
  | _ => none
theorem sim_zip {WW : WX} {tr : TA} {mr : Mo (List W)} (ha : SimA f WW tr mr) : SimI f WW (iZip f tr) (mZip mr) := fun F σ H ρ h st x Q E e p => by
  rcases bindR_some e with ⟨ws, ρ1, h1, e1, e⟩ | ⟨C, fs, ρ1, h1, e1, rfl⟩
  · refine ha F σ H ρ h st _ _ E e1 fun vs H1 hl E1 => ?_
    split at e
    · rename_i w u
      match vs, hl, E1 with
      | [v1, v2], _, ⟨κ, E2⟩ =>
        have E2 : EnvK f κ F σ H1 ρ1 h1 ((v1, w) :: (v2, u) :: st) := E2
        cases g1 : deref h1 w with
        | none => rw [g1] at e; cases e
        | some dx =>
          rw [g1] at e
          dsimp only [Option.bind_some] at e
          cases g2 : deref h1 u with
          | none => rw [g2] at e; cases e
          | some dy =>
            rw [g2] at e
            dsimp only [Option.bind_some] at e
            split at e
            · rename_i ds es hx hy
              split at e
              · rename_i hlen
                cases e
                obtain ⟨a, xs, rfl, sx, rx⟩ := nr_lst (E2.near (List.mem_cons_self ..) g1) hx
                obtain ⟨b, ys, rfl, sy, ry⟩ := nr_lst (E2.near (List.mem_cons_of_mem _ (List.mem_cons_self ..)) g2) hy
                -- what is read of the two, as trees that stay or as cells
                have key : ∀ {w : W} {d : D}, deref h1 w = some d → ∀ h, ckOk (ckOf h1 w) h → deref h (.cl (fzW w)) = some d ∨ ∃ c, w = .nw c := fun {w d} g h ck => by
                  cases w with
                  | nw c => exact .inr ⟨c, rfl⟩
                  | cl d' => exact .inl (deref_ck g ck)
                have E3 : EnvK f κ F σ H1 ρ1 h1 ((.ref a, .cl (fzW w)) :: (.ref b, .cl (fzW u)) :: st) := EnvK.fz (EnvK.perm (EnvK.fz (E2.perm (List.Perm.swap _ _ _))) (List.Perm.swap _ _ _))
                have r1 := E3.rep (List.mem_cons_self ..)
                have r2 := E3.rep (List.mem_cons_of_mem _ (List.mem_cons_self ..))
                have sub : ∀ x ∈ av F κ st, x ∈ av F κ ((V.ref a, W.cl (fzW w)) :: (V.ref b, W.cl (fzW u)) :: st) := av_sub fun x hx => List.mem_cons_of_mem _ (List.mem_cons_of_mem _ hx)
                have E4 : EnvK f κ F σ H1 ρ1 h1 ((.ref a, .cl (.bo (.ref b) (fzW w) (fzW u))) :: st) := E3.pop.pop.pushC (.bo (r1.mono sub) (r2.mono sub))
                have hz : (ds.zipWith (fun d e => D.tup [d, e]) es).length = min ds.length es.length := by simp
                refine ⟨a, b, xs, ys, rfl, .inl (.inl sx), .inl (.inl sy), p (by show _ ≤ 90000; rw [hz]; omega) _ _ _ _ ⟨κ, E4⟩ ?_ (fun x hx => (List.mem_append.mp hx).elim (ck_of x) (ck_of x))⟩
                intro κ σ H ρ h st E ck
                have rb := E.rep (List.mem_cons_self ..)
                generalize hM : av F κ ((V.ref a, W.cl (.bo (.ref b) (fzW w) (fzW u))) :: st) = MM at rb
                cases rb with
                | bo q1 q2 =>
                  subst hM
                  have n1 : Nr (av F κ ((V.ref a, W.cl (.bo (.ref b) (fzW w) (fzW u))) :: st)) ⟨f, κ⟩ H (.ref a) dx := by
                    cases w with
                    | nw c => cases g1; exact .cl q1
                    | cl d' => exact E.topR q1 (deref_ck g1 fun x hx => ck x (List.mem_append.mpr (.inl hx)))
                  have n2 : Nr (av F κ ((V.ref a, W.cl (.bo (.ref b) (fzW w) (fzW u))) :: st)) ⟨f, κ⟩ H (.ref b) dy := by
                    cases u with
                    | nw c => cases g2; exact .cl q2
                    | cl d' => exact E.topR q2 (deref_ck g2 fun x hx => ck x (List.mem_append.mpr (.inr hx)))
                  obtain ⟨a', xs, ha, sx, rx⟩ := nr_lst n1 hx
                  obtain ⟨b', ys, hb, sy, ry⟩ := nr_lst n2 hy
                  cases ha
                  cases hb
                  show (∀ i, i < (ds.zipWith (fun d e => D.tup [d, e]) es).length → _) ∧ _
                  rw [hz]
                  refine ⟨fun i hi => ?_, ⟨xs, ys, .inl (.inl sx), .inl (.inl sy), by rw [rx.len, ry.len]; omega⟩, fun i x H' hi y => ?_⟩
                  · have h1 : i < xs.length := by rw [rx.len]; omega
                    have h2 : i < ys.length := by rw [ry.len]; omega
                    exact ⟨xs, ys, xs[i], ys[i], .inl (.inl sx), .inl (.inl sy), List.getElem?_eq_getElem h1, List.getElem?_eq_getElem h2⟩
                  · obtain ⟨T, x1, y1, rfl, hT, rfl, g1, g2⟩ := y
                    obtain ⟨d1, k1, k2⟩ := rx.getV (g1 xs (.inl (.inl sx)))
                    obtain ⟨d2, k3, k4⟩ := ry.getV (g2 ys (.inl (.inl sy)))
                    refine ⟨.tup [d1, d2], ?_, tup_land E hT (.cons k2 (.cons k4 .nil))⟩
                    rw [List.getElem?_zipWith, k1, k3]
              · cases e
            · cases e
    · cases e
  · exact ha F σ H ρ h st _ _ E e1 p

/-! ### for -/
open Classical in
noncomputable def loopS (g : Tg) (b : MS) (ck : List (Nat × D)) : List D → List Sl → Tb → Option Out
  | [], ρ, h => some (.nx ρ h)
  | d :: ds, ρ, h => (g (.cl d) ρ h).bind fun x => match b x.1 x.2 with
    | some (.nx ρ2 h2) => if ckOk ck h2 then loopS g b ck ds ρ2 h2 else none
    | some (.ct ρ2 h2) => if ckOk ck h2 then loopS g b ck ds ρ2 h2 else none
    | some (.bk ρ2 h2) => some (.nx ρ2 h2)
    | x => x
noncomputable def sFor (it : Mo ItM) (g : Tg) (b : MS) : MS := fun ρ h => bindS (it ρ h) fun i ρ h => loopS g b i.ck i.ds ρ h
theorem sim_for {WW : WX} {wi : TI} {mi : Mo ItM} {g : TG} {mg : Tg} {tb : TS} {mb : MS} (hi : SimI f WW wi mi) (hg : SimG f g mg) (hb : SimS f WW tb mb) : SimS f WW (tFor wi g tb) (sFor mi mg mb) := fun F σ H ρ h st o D E e p => by
  rcases bindS_some e with ⟨it, ρ1, h1, e1, e⟩ | ⟨C, fs, ρ1, h1, e1, rfl⟩
  · refine hi F σ H ρ h st _ _ E e1 fun _ v iw H1 J E1 ok ck1 => ?_
    have hpost : PostS f F WW ((v, iw) :: st) D o := by
      cases o with
      | nx ρ2 h2 => exact fun σ H E => p σ H E.pop
      | rt w ρ2 h2 => exact fun σ v' H ⟨κ, E⟩ => p σ v' H ⟨κ, E.sub (List.Sublist.cons_cons _ (List.sublist_cons_self _ _))⟩
      | bk ρ2 h2 => exact fun σ H E => p σ H E.pop
      | ct ρ2 h2 => exact fun σ H E => p σ H E.pop
      | ex C fs ρ2 h2 => exact ExR.up p
    refine ⟨fun i m σ H => m = it.ds.length - i ∧ i ≤ it.ds.length ∧ ∃ ρ h, EnvR f F σ H ρ h ((v, iw) :: st) ∧ ckOk it.ck h ∧ loopS mg mb it.ck (it.ds.drop i) ρ h = some o, ⟨_, rfl, Nat.zero_le _, ρ1, h1, E1, ck1, by rw [List.drop_zero]; exact e⟩, ?_⟩
    rintro i m σ H ⟨rfl, hi, ρ, h, ⟨κ, E⟩, ck, e⟩
    obtain ⟨k1, k2, k3⟩ := ok κ σ H ρ h st E ck
    by_cases hlt : i < it.ds.length
    · refine .inr ⟨k1 i hlt, fun σ H => ∃ ρ h, EnvR f F σ H ρ h ((v, iw) :: st) ∧ ckOk it.ck h ∧ loopS mg mb it.ck (it.ds.drop (i + 1)) ρ h = some o, fun σ' H' q => ⟨it.ds.length - (i + 1), by omega, rfl, hlt, q⟩, fun x H' y => ?_⟩
      obtain ⟨d, hd, E2⟩ := k3 i x H' hlt y
      have ed : it.ds.drop i = d :: it.ds.drop (i + 1) := by
        rw [List.drop_eq_getElem_cons hlt]
        rw [List.getElem?_eq_getElem hlt] at hd
        rw [Option.some.inj hd]
      rw [ed] at e
      unfold loopS at e
      cases q1 : mg (.cl d) ρ h with
      | none => rw [q1] at e; cases e
      | some y =>
        rw [q1] at e
        dsimp only [Option.bind_some] at e
        refine hg F σ H' ρ h y _ x (.cl d) _ ⟨κ, E2⟩ q1 fun σ2 H2 E3 => ?_
        split at e
        · rename_i ρ3 h3 q3
          split at e
          · rename_i hck
            exact hb F σ2 H2 y.1 y.2 _ _ _ E3 q3 fun σ' H' E' => ⟨ρ3, h3, E', hck, e⟩
          · cases e
        · rename_i ρ3 h3 q3
          split at e
          · rename_i hck
            exact hb F σ2 H2 y.1 y.2 _ _ _ E3 q3 fun σ' H' E' => ⟨ρ3, h3, E', hck, e⟩
          · cases e
        · rename_i ρ3 h3 q3
          cases e
          exact hb F σ2 H2 y.1 y.2 _ _ _ E3 q3 hpost
        · rename_i x y1 y2 y3
          refine hb F σ2 H2 y.1 y.2 _ o _ E3 e ?_
          cases o with
          | nx ρ4 h4 => exact absurd e (y1 ρ4 h4)
          | bk ρ4 h4 => exact absurd e (y3 ρ4 h4)
          | ct ρ4 h4 => exact absurd e (y2 ρ4 h4)
          | rt w ρ4 h4 => exact hpost
          | ex C fs ρ4 h4 => exact hpost
    · have e0 : i = it.ds.length := by omega
      subst e0
      rw [List.drop_length] at e
      cases e
      exact .inl ⟨k2, hpost σ H ⟨κ, E⟩⟩
  · exact hi F σ H ρ h st _ _ E e1 p

/-! ### comprehensions -/
/-- the own slots are not in use -/
def idle (vs : List Nat) (ρ : List Sl) : Bool := vs.all fun i => match ρ[i]? with
  | some .un => true
  | _ => false
open Classical in
noncomputable def loopC (g : Tg) (t : Mo Bool) (e : Mo W) (vs : List Nat) (ck : List (Nat × D)) : List D → List Sl → Tb → List D → Option (R (List D))
  | [], ρ, h, acc => some (.ok acc ρ h)
  | d :: ds, ρ, h, acc => (g (.cl d) ρ h).bind fun x => bindR (t x.1 x.2) fun b ρ2 h2 => if b = true then bindR (e ρ2 h2) fun w ρ3 h3 => if ckOk ck h3 then loopC g t e vs ck ds (wipeS vs ρ3) h3 (acc ++ [fzW w]) else none
      else if ckOk ck h2 then loopC g t e vs ck ds (wipeS vs ρ2) h2 acc else none
noncomputable def mLc (it : Mo ItM) (g : Tg) (t : Mo Bool) (e : Mo W) (vs : List Nat) : Mo W := fun ρ h => bindR (it ρ h) fun i ρ h => if idle vs ρ = true then bindR (loopC g t e vs i.ck i.ds ρ h []) fun acc ρ2 h2 => some (.ok (.fr acc) ρ2 h2) else none
theorem EnvK.wiped (E : EnvK f κ F σ H ρ h st) : ∀ {vs : List Nat}, EnvK f κ F (wipe σ vs) H (wipeS vs ρ) h st
  | [] => E
  | i :: vs => (EnvK.wiped E (vs := vs)).forget none
theorem idle_at {vs : List Nat} (h : idle vs ρ = true) (hi : i ∈ vs) : ρ[i]? = some .un := by
  have q := List.all_eq_true.mp h i hi
  split at q
  · assumption
  · cases q
theorem idle_of {vs : List Nat} (h : ∀ i ∈ vs, ρ[i]? = some .un) : idle vs ρ = true := List.all_eq_true.mpr fun i hi => by
  rw [h i hi]
theorem wipeS_len {ρ : List Sl} : ∀ vs : List Nat, (wipeS vs ρ).length = ρ.length
  | [] => rfl
  | i :: vs => by
    show ((wipeS vs ρ).set i .un).length = _
    rw [List.length_set, wipeS_len vs]
theorem wipeS_at : ∀ {vs : List Nat} {i : Nat}, (i ∈ vs ∧ i < ρ.length) ∨ ρ[i]? = some .un → (wipeS vs ρ)[i]? = some .un
  | [], i, h => by
    rcases h with h | h
    · exact absurd h.1 List.not_mem_nil
    · exact h
  | j :: vs, i, h => by
    show ((wipeS vs ρ).set j .un)[i]? = some .un
    have hl : i < ρ.length := by
      rcases h with h | h
      · exact h.2
      · exact (List.getElem?_eq_some_iff.mp h).1
    by_cases q : j = i
    · subst q
      exact List.getElem?_set_self (by rw [wipeS_len]; exact hl)
    · rw [List.getElem?_set_ne q]
      refine wipeS_at ?_
      rcases h with h | h
      · rcases List.mem_cons.mp h.1 with z | z
        · exact absurd z.symm q
        · exact .inl ⟨z, h.2⟩
      · exact .inr h
theorem wipeS_idle {vs : List Nat} (hl : ∀ i ∈ vs, i < ρ.length) : idle vs (wipeS vs ρ) = true := idle_of fun i hi => wipeS_at (.inl ⟨hi, hl i hi⟩)
theorem EnvK.idleWipe : ∀ {vs : List Nat} {σ : L2.St}, idle vs ρ = true → EnvK f κ F σ H ρ h st → EnvK f κ F (wipe σ vs) H ρ h st
  | [], _, _, E => E
  | i :: vs, σ, hd, E => by
    have E1 := EnvK.idleWipe (vs := vs) (idle_of fun j hj => idle_at hd (List.mem_cons_of_mem _ hj)) E
    have hi := idle_at hd (List.mem_cons_self ..)
    have E2 := E1.forget (i := i) none
    rw [set_self hi] at E2
    exact E2
theorem EnvK.unwipe : ∀ {vs : List Nat} {σ : L2.St}, idle vs ρ = true → EnvK f κ F (wipe σ vs) H ρ h st → EnvK f κ F σ H ρ h st
  | [], _, _, E => E
  | i :: vs, σ, hd, E => by
    have E : EnvK f κ F ((wipe σ vs).set i none) H ρ h st := E
    have hi := idle_at hd (List.mem_cons_self ..)
    obtain ⟨o, ho, _⟩ := slot_at E hi
    have hlt : i < (wipe σ vs).length := by
      have := (List.getElem?_eq_some_iff.mp ho).1
      rwa [List.length_set] at this
    have E2 := E.forget (i := i) (wipe σ vs)[i]
    rw [set_self hi, List.set_set, set_self (List.getElem?_eq_getElem hlt)] at E2
    exact EnvK.unwipe (vs := vs) (idle_of fun j hj => idle_at hd (List.mem_cons_of_mem _ hj)) E2
/-- a target stores own slots alone -/
def GOwn (g : TG) (vs : List Nat) : Prop := ∀ v σ H (Q : L2.St → Hp → Prop), g v σ H Q → g v σ H fun σ' H' => wipe σ' vs = wipe σ vs ∧ Q σ' H'
def GsOwn (g : TGs) (vs : List Nat) : Prop := ∀ xs σ H (Q : L2.St → Hp → Prop), g xs σ H Q → g xs σ H fun σ' H' => wipe σ' vs = wipe σ vs ∧ Q σ' H'
theorem gs_nil {vs : List Nat} : GsOwn gNil vs := fun xs σ H Q ⟨h, q⟩ => ⟨h, rfl, q⟩
theorem wipe_setP {o : Option V} : ∀ {vs : List Nat} {σ : L2.St}, (i ∈ vs → wipe (σ.set i o) vs = wipe σ vs) ∧ (i ∉ vs → wipe (σ.set i o) vs = (wipe σ vs).set i o)
  | [], σ => ⟨fun z => absurd z List.not_mem_nil, fun _ => rfl⟩
  | v :: vs, σ => by
    obtain ⟨a, b⟩ := wipe_setP (o := o) (vs := vs) (σ := σ)
    constructor
    · intro h
      show (wipe (σ.set i o) vs).set v none = (wipe σ vs).set v none
      by_cases q : i ∈ vs
      · rw [a q]
      · rw [b q]
        rcases List.mem_cons.mp h with rfl | h
        · rw [List.set_set]
        · exact absurd h q
    · intro h
      show (wipe (σ.set i o) vs).set v none = ((wipe σ vs).set v none).set i o
      rw [b (fun q => h (List.mem_cons_of_mem _ q))]
      exact List.set_comm _ _ (fun z => h (by rw [z]; exact List.mem_cons_self ..))
theorem g_name {vs : List Nat} (h : i ∈ vs) : GOwn (gName i) vs := fun v σ H Q q => ⟨wipe_setP.1 h, q⟩
theorem gs_cons {g : TG} {gs : TGs} {vs : List Nat} (mono : ∀ xs σ H (Q Q' : L2.St → Hp → Prop), (∀ σ H, Q σ H → Q' σ H) → gs xs σ H Q → gs xs σ H Q') (h : GOwn g vs) (hs : GsOwn gs vs) (mg : ∀ v σ H (Q Q' : L2.St → Hp → Prop), (∀ σ H, Q σ H → Q' σ H) → g v σ H Q → g v σ H Q') : GsOwn (gCons g gs) vs := fun xs σ H Q ⟨v, r, e, q⟩ =>
  ⟨v, r, e, mg _ _ _ _ _ (fun σ1 H1 ⟨e1, q1⟩ => mono _ _ _ _ _ (fun σ2 H2 ⟨e2, q2⟩ => ⟨e2.trans e1, q2⟩) (hs _ _ _ _ q1)) (h v σ H _ q)⟩
def GMono (g : TG) : Prop := ∀ v σ H (Q Q' : L2.St → Hp → Prop), (∀ σ H, Q σ H → Q' σ H) → g v σ H Q → g v σ H Q'
def GsMono (g : TGs) : Prop := ∀ v σ H (Q Q' : L2.St → Hp → Prop), (∀ σ H, Q σ H → Q' σ H) → g v σ H Q → g v σ H Q'
theorem gm_name : GMono (gName i) := fun _ _ _ _ _ h q => h _ _ q
theorem gm_nil : GsMono gNil := fun _ _ _ _ _ h ⟨a, q⟩ => ⟨a, h _ _ q⟩
theorem gm_cons {g : TG} {gs : TGs} (a : GMono g) (b : GsMono gs) : GsMono (gCons g gs) := fun _ _ _ _ _ h ⟨v, r, e, q⟩ => ⟨v, r, e, a _ _ _ _ _ (fun _ _ q => b _ _ _ _ _ h q) q⟩
theorem gm_tup {gs : TGs} {n : Nat} (b : GsMono gs) : GMono (gTup f n gs) := fun _ _ _ _ _ h ⟨a, xs, e, q, l, t⟩ => ⟨a, xs, e, q, l, b _ _ _ _ _ h t⟩
theorem g_tup {gs : TGs} {n : Nat} {vs : List Nat} (h : GsOwn gs vs) : GOwn (gTup f n gs) vs := fun v σ H Q ⟨a, xs, e, q, l, t⟩ => ⟨a, xs, e, q, l, h _ _ _ _ t⟩
/-- both facts of a target -/
structure GOk (g : TG) (vs : List Nat) : Prop where
  own : GOwn g vs
  mono : GMono g
structure GsOk (g : TGs) (vs : List Nat) : Prop where
  own : GsOwn g vs
  mono : GsMono g
theorem ok_name {vs : List Nat} (h : i ∈ vs) : GOk (gName i) vs := ⟨g_name h, gm_name⟩
theorem ok_nil {vs : List Nat} : GsOk gNil vs := ⟨gs_nil, gm_nil⟩
theorem ok_cons {g : TG} {gs : TGs} {vs : List Nat} (a : GOk g vs) (b : GsOk gs vs) : GsOk (gCons g gs) vs := ⟨gs_cons b.mono a.own b.own a.mono, gm_cons a.mono b.mono⟩
theorem ok_tup {gs : TGs} {n : Nat} {vs : List Nat} (b : GsOk gs vs) : GOk (gTup f n gs) vs := ⟨g_tup b.own, gm_tup b.mono⟩
theorem wipe_idem {vs : List Nat} : wipe (wipe σ vs) vs = wipe σ vs := by
  have gen : ∀ (us : List Nat) (σ : L2.St), (∀ i ∈ us, i ∈ vs) → wipe (wipe σ us) vs = wipe σ vs := by
    intro us
    induction us with
    | nil => intro σ _; rfl
    | cons i us ih =>
      intro σ h
      show wipe ((wipe σ us).set i none) vs = wipe σ vs
      rw [wipe_setP.1 (h i (List.mem_cons_self ..))]
      exact ih σ fun j hj => h j (List.mem_cons_of_mem _ hj)
  exact gen vs σ fun _ h => h
theorem wipe_len {σ : L2.St} : ∀ vs : List Nat, (wipe σ vs).length = σ.length
  | [] => rfl
  | i :: vs => by
    show ((wipe σ vs).set i none).length = _
    rw [List.length_set, wipe_len vs]
theorem sim_lc {WW : WX} {wi : TI} {mi : Mo ItM} {g : TG} {mg : Tg} {tt : TT} {mt : Mo Bool} {te : TE} {me : Mo W} {us : List Nat} (hi : SimI f WW wi mi) (hg : SimG f g mg) (go : GOk g us) (ht : SimT f WW tt mt) (he : SimE f WW te me) :
    SimE f WW (tLc wi g tt te us) (mLc mi mg mt me us) := fun F σ H ρ h st r Q E e p => by
  rcases bindR_some e with ⟨it, ρ1, h1, e1, e⟩ | ⟨C, fs, ρ1, h1, e1, rfl⟩
  · refine hi F σ H ρ h st _ _ E e1 fun hlen v iw H1 J E1 ok ck1 => fun Da hD => ?_
    split at e
    · rename_i hid
      obtain ⟨κ1, E1⟩ := E1
      obtain ⟨r', hr', hpost⟩ : ∃ r', loopC mg mt me us it.ck it.ds ρ1 h1 [] = some r' ∧ (match r' with
          | .ok acc ρ2 h2 => ∀ H, EnvR f F σ H ρ2 h2 ((v, iw) :: (.ref Da, .fr acc) :: st) → Q (.ref Da) H
          | .ex C fs ρ2 h2 => ExR f F WW st C fs ρ2 h2) := by
        rcases bindR_some e with ⟨acc, ρ2, h2, e2, e⟩ | ⟨C, fs, ρ2, h2, e2, rfl⟩
        · cases e
          exact ⟨_, e2, fun H E => p _ _ E.pop⟩
        · exact ⟨_, e2, p⟩
      have E2 : EnvK f κ1 F (wipe σ us) (upd H1 Da (.lst [])) ρ1 h1 ((v, iw) :: (.ref Da, .fr []) :: st) := EnvK.idleWipe hid ((E1.pushN (c := .lst []) hD (Ex.new hD) (.lst upd_same .nil)).perm (List.Perm.swap _ _ _))
      have hus : ∀ i ∈ us, i < σ.length := fun i hi => by
        rw [E1.len]
        exact (List.getElem?_eq_some_iff.mp (idle_at hid hi)).1
      refine ⟨fun i m H => m = it.ds.length - i ∧ i ≤ it.ds.length ∧ ∃ ρ h acc, EnvR f F (wipe σ us) H ρ h ((v, iw) :: (.ref Da, .fr acc) :: st) ∧ ckOk it.ck h ∧ loopC mg mt me us it.ck (it.ds.drop i) ρ h acc = some r' ∧ idle us ρ = true ∧ acc.length ≤ i, ⟨_, rfl, Nat.zero_le _, ρ1, h1, [], ⟨κ1, E2⟩, ck1, by rw [List.drop_zero]; exact hr', hid, Nat.zero_le _⟩, ?_⟩
      rintro i m H ⟨rfl, hi, ρ, h, acc, ⟨κ, E⟩, ck, e, hid2, hacc⟩
      obtain ⟨k1, k2, k3⟩ := ok κ _ H ρ h _ E ck
      by_cases hlt : i < it.ds.length
      · refine .inr ⟨k1 i hlt, fun H => ∃ ρ h acc, EnvR f F (wipe σ us) H ρ h ((v, iw) :: (.ref Da, .fr acc) :: st) ∧ ckOk it.ck h ∧ loopC mg mt me us it.ck (it.ds.drop (i + 1)) ρ h acc = some r' ∧ idle us ρ = true ∧ acc.length ≤ i + 1, fun H' q => ⟨it.ds.length - (i + 1), by omega, rfl, hlt, q⟩, fun x H' y => ?_⟩
        obtain ⟨d, hd, E3⟩ := k3 i x H' hlt y
        have ed : it.ds.drop i = d :: it.ds.drop (i + 1) := by
          rw [List.drop_eq_getElem_cons hlt]
          rw [List.getElem?_eq_getElem hlt] at hd
          rw [Option.some.inj hd]
        rw [ed] at e
        unfold loopC at e
        cases q1 : mg (.cl d) ρ h with
        | none => rw [q1] at e; cases e
        | some y2 =>
          rw [q1] at e
          dsimp only [Option.bind_some] at e
          refine go.mono _ _ _ (fun σ2 H2 => wipe σ2 us = wipe (wipe σ us) us ∧ EnvR f F σ2 H2 y2.1 y2.2 ((v, iw) :: (.ref Da, .fr acc) :: st)) _ ?_ (go.own _ _ _ _ (hg F _ H' ρ h y2 _ x (.cl d) _ ⟨κ, E3⟩ q1 fun σ2 H2 E4 => E4))
          rintro σ2 H2 ⟨ew, E4⟩
          rw [wipe_idem] at ew
          refine ⟨ew, ?_⟩
          have hl2 : σ2.length = σ.length := by
            have := congrArg List.length ew
            rwa [wipe_len, wipe_len] at this
          rcases bindR_some e with ⟨b, ρ3, h3, e3, e⟩ | ⟨C, fs, ρ3, h3, e3, rfl⟩
          · refine ht F σ2 H2 y2.1 y2.2 _ _ _ E4 e3 fun H3 E5 => ?_
            by_cases hb : b = true
            · rw [if_pos hb] at e ⊢
              rcases bindR_some e with ⟨w, ρ4, h4, e4, e⟩ | ⟨C, fs, ρ4, h4, e4, rfl⟩
              · refine he F σ2 H3 ρ3 h3 _ _ _ E5 e4 fun y4 H4 ⟨κ4, E6⟩ => ?_
                split at e
                · rename_i hck
                  have E7 := E6.fz
                  have hrep := E7.rep (List.mem_cons_self ..)
                  have E8 : EnvK f κ4 F σ2 H4 ρ4 h4 ((.ref Da, .fr acc) :: (v, iw) :: st) := E7.pop.perm (List.Perm.swap _ _ _)
                  obtain ⟨p', ep, _, own, _⟩ := E8.held
                  cases ep
                  have hM : ∀ x ∈ av F κ4 ((V.ref Da, W.fr acc) :: (v, iw) :: st), x ∈ av F κ4 ((y4, W.cl (fzW w)) :: (v, iw) :: (V.ref Da, W.fr acc) :: st) := av_sub fun x hx => by
                    simp only [List.mem_cons] at hx ⊢
                    rcases hx with h | h | h
                    · exact .inr (.inr (.inl h))
                    · exact .inr (.inl h)
                    · exact .inr (.inr (.inr h))
                  cases own with
                  | @lst xs _ n2 n3 =>
                    have hlx : xs.length = acc.length := n3.len
                    have E9 := E8.app (u := .lst (xs ++ [y4])) (c' := .lst (acc ++ [fzW w])) (.lst upd_same ((n3.append (.cons (hrep.mono hM) .nil)).ex (Ex.mut (av_st (by rw [roots_nw]; exact List.mem_cons_self ..)))))
                    have E10 := E9.perm (List.Perm.swap _ _ _)
                    have E11 := E10.wiped (vs := us)
                    rw [ew] at E11
                    have hl4 : ∀ i ∈ us, i < ρ4.length := fun i hi => by
                      rw [← E6.len, hl2]
                      exact hus i hi
                    exact ⟨xs, n2, sz_lt (by omega), wipeS us ρ4, h4, acc ++ [fzW w], ⟨κ4, E11⟩, hck, e, wipeS_idle hl4, by simp; omega⟩
                · cases e
              · exact he F σ2 H3 ρ3 h3 _ _ _ E5 e4 (ExR.up (ExR.up hpost))
            · rw [if_neg hb] at e ⊢
              split at e
              · rename_i hck
                obtain ⟨κ5, E5⟩ := E5
                have E11 := E5.wiped (vs := us)
                rw [ew] at E11
                have hl4 : ∀ i ∈ us, i < ρ3.length := fun i hi => by
                  rw [← E5.len, hl2]
                  exact hus i hi
                exact ⟨wipeS us ρ3, h3, acc, ⟨κ5, E11⟩, hck, e, wipeS_idle hl4, by omega⟩
              · cases e
          · exact ht F σ2 H2 y2.1 y2.2 _ _ _ E4 e3 (ExR.up (ExR.up hpost))
      · have e0 : i = it.ds.length := by omega
        subst e0
        rw [List.drop_length] at e
        cases e
        exact .inl ⟨k2, hpost H ⟨κ, EnvK.unwipe hid2 E⟩⟩
    · cases e
  · exact hi F σ H ρ h st _ _ E e1 p

/-! ### a list of a cell is changed -/
/-- g: the list, the arguments; what is handed back, the new list -/
def MutR (f : PySem.W.Frag) (rm : V → List V → Hp → VK → Prop) (g : List D → List D → Option (D × List D)) : Prop := ∀ (κ : List Addr) (M : List Addr) (H : Hp) (p : Addr) (xs as : List V) (cs ds cs' : List D) (r : D) (Q : VK),
  H p = some (.lst xs) → RepA M ⟨f, κ⟩ H xs cs → RepA M ⟨f, κ⟩ H as ds → g cs ds = some (r, cs') → (∀ v ys, RepA M ⟨f, κ⟩ H ys cs' → Rep M ⟨f, κ⟩ H v r → Q v (upd H p (.lst ys))) → rm (.ref p) as H Q
def lstAt (h : Tb) : W → Option (Nat × List D)
  | .cl (.ce n) => match h[n]? with
    | some (.lst cs) => some (n, cs)
    | _ => none
  | _ => none
def mMut (g : List D → List D → Option (D × List D)) (o : Mo W) (a : Mo (List W)) : Mo W := fun ρ h => bindR (o ρ h) fun w ρ h => (lstAt h w).bind fun _ => bindR (a ρ h) fun ws ρ h => (lstAt h w).bind fun x => (g x.2 (ws.map fzW)).map fun y => .ok (.cl y.1) ρ (h.set x.1 (.lst y.2))
def mMut0 (g : List D → List D → Option (D × List D)) (o : Mo W) : Mo W := fun ρ h => bindR (o ρ h) fun w ρ h => (lstAt h w).bind fun x => (g x.2 []).map fun y => .ok (.cl y.1) ρ (h.set x.1 (.lst y.2))
theorem EnvK.lstAt (E : EnvK f κ F σ H ρ h st) (hx : (v, w) ∈ st) {n : Nat} {cs : List D} (e : CM.lstAt h w = some (n, cs)) : ∃ q xs, v = .ref q ∧ κ[n]? = some q ∧ H q = some (.lst xs) ∧ RepA (av F κ st) ⟨f, κ⟩ H xs cs := by
  unfold CM.lstAt at e
  split at e
  · rename_i m
    split at e
    · rename_i cs' hc
      cases e
      have r := E.rep hx
      generalize hM : av F κ st = MM at r
      cases r with
      | @ce a _ hk =>
        subst hM
        have own := E.ce _ _ _ hk hc
        generalize hM : av F κ st = MM at own
        cases own with
        | lst a b => exact ⟨_, _, rfl, hk, a, b⟩
    · cases e
  · cases e
theorem EnvK.mutL {rm : V → List V → Hp → VK → Prop} {g : List D → List D → Option (D × List D)} (mr : MutR f rm g) {Q : VK} {n : Nat} {cs cs' : List D} {r : D} {q : Addr} {xs : List V} (E : EnvK f κ F σ H ρ h (vs.zip (ds.map W.cl) ++ st)) (hl : vs.length = ds.length)
    (hk : κ[n]? = some q) (hq : H q = some (.lst xs)) (ra : RepA (av F κ (vs.zip (ds.map W.cl) ++ st)) ⟨f, κ⟩ H xs cs) (e : g cs ds = some (r, cs')) (post : ∀ v H', EnvR f F σ H' ρ (h.set n (.lst cs')) ((v, .cl r) :: st) → Q v H') : rm (.ref q) vs H Q := by
  refine mr κ _ H q xs vs cs ds cs' r Q hq ra (E.repA hl fun x hx => List.mem_append.mpr (.inl hx)) e fun v ys ry rv => ?_
  refine post v _ ⟨κ, ?_⟩
  have E1 := E.pushC rv
  have er : av F κ ((v, W.cl r) :: (vs.zip (ds.map W.cl) ++ st)) = av F κ (vs.zip (ds.map W.cl) ++ st) := by
    show F.A ++ (κ ++ rootsW _) = _
    rw [roots_cl]
  have E2 := E1.mut (u := .lst ys) (c' := .lst cs') hk (.lst upd_same (by
    rw [er]
    exact ry.ex (Ex.mut (av_ka (List.mem_of_getElem? hk)))))
  exact E2.sub (List.Sublist.cons_cons _ (List.sublist_append_right _ _))
theorem sim_mut {WW : WX} {T : String} {rm : V → List V → Hp → VK → Prop} {g : List D → List D → Option (D × List D)} {to : TE} {mo : Mo W} {tr : TA} {mr : Mo (List W)} (hT : T = "list") (o : MutR f rm g) (ho : SimE f WW to mo) (ha : SimA f WW tr mr) : SimE f WW (tBM f T rm to tr) (mMut g mo mr) := fun F σ H ρ h st x Q E e p => by
  subst hT
  rcases bindR_some e with ⟨w, ρ1, h1, e1, e⟩ | ⟨C, fs, ρ1, h1, e1, rfl⟩
  · refine ho F σ H ρ h st _ _ E e1 fun v1 H1 ⟨κ1, E1⟩ => ?_
    cases q1 : lstAt h1 w with
    | none => rw [q1] at e; cases e
    | some y =>
      rw [q1] at e
      dsimp only [Option.bind_some] at e
      obtain ⟨q, xs, rfl, hk, hq, _⟩ := E1.lstAt (List.mem_cons_self ..) q1
      refine ⟨.inl ⟨rfl, _, .inl (.inl hq)⟩, ?_⟩
      rcases bindR_some e with ⟨ws, ρ2, h2, e2, e⟩ | ⟨C, fs, ρ2, h2, e2, rfl⟩
      · refine ha F σ H1 ρ1 h1 _ _ _ ⟨κ1, E1⟩ e2 fun vs H2 hl ⟨κ2, E2⟩ => ?_
        cases q2 : lstAt h2 w with
        | none => rw [q2] at e; cases e
        | some z =>
          obtain ⟨n, cs⟩ := z
          rw [q2] at e
          dsimp only [Option.bind_some] at e
          cases q3 : g cs (ws.map fzW) with
          | none => rw [q3] at e; cases e
          | some y =>
            obtain ⟨r, cs'⟩ := y
            rw [q3] at e
            cases e
            have E3 := E2.fzs hl
            obtain ⟨q', ys, eq, hk2, hq2, ra⟩ := E3.lstAt (List.mem_append.mpr (.inr (List.mem_cons_self ..))) q2
            cases eq
            exact EnvK.mutL o E3 (by simpa using hl) hk2 hq2 ra q3 fun v H' ⟨κ, E'⟩ => p v H' ⟨κ, E'.sub (List.Sublist.cons_cons _ (List.sublist_cons_self _ _))⟩
      · exact ha F σ H1 ρ1 h1 _ _ _ ⟨κ1, E1⟩ e2 (ExR.up p)
  · exact ho F σ H ρ h st _ _ E e1 p
theorem sim_mut0 {WW : WX} {T : String} {rm : V → List V → Hp → VK → Prop} {g : List D → List D → Option (D × List D)} {to : TE} {mo : Mo W} (hT : T = "list") (o : MutR f rm g) (ho : SimE f WW to mo) : SimE f WW (tBM0 f T rm to) (mMut0 g mo) := fun F σ H ρ h st x Q E e p => by
  subst hT
  rcases bindR_some e with ⟨w, ρ1, h1, e1, e⟩ | ⟨C, fs, ρ1, h1, e1, rfl⟩
  · refine ho F σ H ρ h st _ _ E e1 fun v1 H1 ⟨κ1, E1⟩ => ?_
    cases q1 : lstAt h1 w with
    | none => rw [q1] at e; cases e
    | some y =>
      obtain ⟨n, cs⟩ := y
      rw [q1] at e
      dsimp only [Option.bind_some] at e
      cases q3 : g cs [] with
      | none => rw [q3] at e; cases e
      | some y =>
        obtain ⟨r, cs'⟩ := y
        rw [q3] at e
        cases e
        obtain ⟨q, xs, rfl, hk, hq, ra⟩ := E1.lstAt (List.mem_cons_self ..) q1
        refine ⟨.inl ⟨rfl, _, .inl (.inl hq)⟩, ?_⟩
        exact EnvK.mutL (vs := []) (ds := []) o E1 rfl hk hq ra q3 fun v H' ⟨κ, E'⟩ => p v H' ⟨κ, E'.sub (List.Sublist.cons_cons _ (List.sublist_cons_self _ _))⟩
  · exact ho F σ H ρ h st _ _ E e1 p
/-! the methods -/
def fAppend : List D → List D → Option (D × List D)
  | cs, [d] => if cs.length < 100000 then some (.non, cs ++ [d]) else none
  | _, _ => none
def fPop : List D → List D → Option (D × List D)
  | cs, [] => (cs[cs.length - 1]?).map fun d => (d, cs.dropLast)
  | _, _ => none
def fPopAt : List D → List D → Option (D × List D)
  | cs, [d] => match d.u with
    | .int i => if cs.length ≤ 100000 then (ixN cs.length i).bind fun k => (cs[k]?).map fun d => (d, cs.eraseIdx k) else none
    | _ => none
  | _, _ => none
def fReverse : List D → List D → Option (D × List D)
  | cs, [] => some (.non, cs.reverse)
  | _, _ => none
def fClear : List D → List D → Option (D × List D)
  | _, [] => some (.non, [])
  | _, _ => none
theorem repA1 {d : D} (h : RepA M K H vs [d]) : ∃ v, vs = [v] ∧ Rep M K H v d := by
  cases h with | cons h a => cases a; exact ⟨_, rfl, h⟩
theorem repA0 (h : RepA M K H vs []) : vs = [] := by cases h; rfl
theorem mu_append : MutR f rAppend fAppend := fun κ M H p xs as cs ds cs' r Q h a b e q => by
  match ds, b, e with
  | [d], b, e =>
    obtain ⟨v, rfl, rv⟩ := repA1 b
    have e : (if cs.length < 100000 then some (D.non, cs ++ [d]) else none) = some (r, cs') := e
    split at e
    · cases e
      exact ⟨p, xs, v, rfl, rfl, h, sz_lt (by rw [a.len]; assumption), q _ _ (a.append (.cons rv .nil)) .non⟩
    · cases e
theorem RepA.dropLast : ∀ {vs : List V} {ds : List D}, RepA M K H vs ds → RepA M K H vs.dropLast ds.dropLast := fun {vs ds} h => by
  rw [List.dropLast_eq_take, List.dropLast_eq_take, h.len]
  exact h.take _
theorem RepA.erase : ∀ {vs : List V} {ds : List D} (n : Nat), RepA M K H vs ds → RepA M K H (vs.eraseIdx n) (ds.eraseIdx n)
  | _, _, _, .nil => .nil
  | _, _, 0, .cons _ a => a
  | _, _, n + 1, .cons h a => .cons h (RepA.erase n a)
theorem RepA.rev : ∀ {vs : List V} {ds : List D}, RepA M K H vs ds → RepA M K H vs.reverse ds.reverse
  | _, _, .nil => .nil
  | _, _, .cons h a => by
    rw [List.reverse_cons, List.reverse_cons]
    exact (RepA.rev a).append (.cons h .nil)
theorem mu_pop : MutR f rPop fPop := fun κ M H p xs as cs ds cs' r Q h a b e q => by
  match ds, b, e with
  | [], b, e =>
    cases repA0 b
    have e : ((cs[cs.length - 1]?).map fun d => (d, cs.dropLast)) = some (r, cs') := e
    cases h1 : cs[cs.length - 1]? with
    | none => rw [h1] at e; cases e
    | some d =>
      rw [h1] at e
      cases e
      obtain ⟨v, h2, h3⟩ := a.get h1
      exact ⟨p, xs, v, rfl, rfl, h, by rw [a.len]; exact h2, q _ _ a.dropLast h3⟩
theorem mu_popAt : MutR f rPopAt fPopAt := fun κ M H p xs as cs ds cs' r Q h a b e q => by
  match ds, b, e with
  | [d], b, e =>
    obtain ⟨v, rfl, rv⟩ := repA1 b
    have e : (match d.u with
      | .int i => if cs.length ≤ 100000 then (ixN cs.length i).bind fun k => (cs[k]?).map fun d => (d, cs.eraseIdx k) else none
      | _ => none) = some (r, cs') := e
    split at e
    · rename_i i hi
      have rv := rv.u
      rw [hi] at rv
      cases rep_int rv
      split at e
      · rename_i hlen
        cases h1 : ixN cs.length i with
        | none => rw [h1] at e; cases e
        | some k =>
          rw [h1] at e
          dsimp only [Option.bind_some] at e
          cases h2 : cs[k]? with
          | none => rw [h2] at e; cases e
          | some d2 =>
            rw [h2] at e
            cases e
            obtain ⟨v, h3, h4⟩ := a.get h2
            obtain ⟨g1, g2, g3, g4⟩ := ixN_seq h1
            exact ⟨p, xs, i, k, v, rfl, rfl, h, by omega, by omega, by rw [a.len]; exact g1, h3, q _ _ (a.erase k) h4⟩
      · cases e
    · cases e
theorem mu_reverse : MutR f rReverse fReverse := fun κ M H p xs as cs ds cs' r Q h a b e q => by
  match ds, b, e with
  | [], b, e =>
    cases repA0 b
    cases e
    exact ⟨p, xs, rfl, rfl, h, q _ _ a.rev .non⟩
theorem mu_clear : MutR f rClear fClear := fun κ M H p xs as cs ds cs' r Q h a b e q => by
  match ds, b, e with
  | [], b, e =>
    cases repA0 b
    cases e
    exact ⟨p, xs, rfl, rfl, h, q _ [] .nil .non⟩
end
end CM

/-! CM5: defs and calls. -/
namespace CM
open PySem PySem.Spec PyProof.Rows L2 SL

/-- how a def ends: what it hands back, the cells; or an exception -/
inductive FR where
  | rt (w : W) (h : Tb)
  | ex (C : Str) (fs : List (Str × D)) (h : Tb)
abbrev Fnm := List D → Tb → Option FR
def PostF (f : PySem.W.Frag) (κ A : List Addr) (H : Hp) (Q : VK) (E : XK) : FR → Prop
  | .rt w h => ∀ v H', EnvR f ⟨A, κ, H⟩ [] H' [] h [(v, w)] → Q v H'
  | .ex C fs h => ∀ κ' dx H', EnvK f κ' ⟨A, κ, H⟩ [] H' [] h [] → XdR (av ⟨A, κ, H⟩ κ' []) ⟨f, κ'⟩ H' dx fs → E (.ref (He.ga f C)) (some dx) H'
/-- a def keeps the plain run m -/
def spM (f : PySem.W.Frag) (m : Fnm) : Sp := fun vs H Q E => ∃ (κ A : List Addr) (ds : List D) (h : Tb) (r : FR), EnvK f κ ⟨A, κ, H⟩ (vs.map some) H (ds.map .cl) h [] ∧ m ds h = some r ∧ PostF f κ A H Q E r
/-- the first cells are as they were, or tell of none of the later ones -/
def okCut (h0 h : Tb) : Prop := ∀ (i : Nat) (c : D), i < h0.length → h[i]? = some c → h0[i]? = some c ∨ below h0.length c = true
open Classical in
/-- the cells of a def's own end with it, where nothing tells of them -/
noncomputable def cutF (keep : Bool) (h0 : Tb) (w : W) (h : Tb) : Option (W × Tb) :=
  if keep = true ∨ h.length = h0.length then some (w, h) else if okCut h0 h then (match w with
    | .cl (.ce n) => if n < h0.length then some (.cl (.ce n), h.take h0.length) else match h[n]? with
      | some c => if below h0.length c = true then some (.nw c, h.take h0.length) else none
      | none => none
    | w => if below h0.length (fzW w) = true then some (w, h.take h0.length) else none) else none
open Classical in
noncomputable def cutX (keep : Bool) (h0 : Tb) (fs : List (Str × D)) (h : Tb) : Option Tb :=
  if keep = true ∨ h.length = h0.length then some h else if okCut h0 h ∧ belowF h0.length fs = true then some (h.take h0.length) else none
noncomputable def endF (keep : Bool) (h0 : Tb) : Option Out → Option FR
  | some (.rt w ρ h) => (cutF keep h0 w h).map fun x => .rt x.1 x.2
  | some (.nx ρ h) => (cutF keep h0 (.cl .non) h).map fun x => .rt x.1 x.2
  | some (.ex C fs ρ h) => (cutX keep h0 fs h).map fun x => .ex C fs x
  | _ => none
/-- a def of n parameters and k further names -/
noncomputable def fnM (keep : Bool) (n k : Nat) (body : MS) : Fnm := fun as h => if as.length = n then endF keep h (body (as.map Sl.cl ++ List.replicate k .un) h) else none
section
variable {f : PySem.W.Frag} {κ κ' : List Addr} {F : Fm} {M A Io : List Addr} {H H' H1 : Hp} {p q : Addr} {σ : L2.St} {ρ ρ' : List Sl} {h h' h0 : Tb} {st l : List (V × W)} {v : V} {w w' : W} {d c : D} {ds es : List D} {vs : List V} {ws : List W} {i j n k : Nat} {o o' : Option V} {keep : Bool}
theorem len_fnM {body : MS} {r : FR} (e : fnM keep n k body ds h = some r) : ds.length = n := by
  unfold fnM at e
  split at e
  · assumption
  · cases e
theorem len_spM {m : Fnm} {ps : List Str} (hm : ∀ ds h r, m ds h = some r → ds.length = ps.length) {Q : VK} {E : XK} (q : spM f m vs H Q E) : vs.length = ps.length := by
  obtain ⟨κ, A, ds, h, r, e, hr, _⟩ := q
  have := e.len
  rw [List.length_map, List.length_map] at this
  rw [this]
  exact hm ds h r hr
theorem EnvK.noframe (E : EnvK f κ F σ H ρ h st) : EnvK f κ F [] H [] h st := ⟨E.ok, rfl, E.kl, E.io, E.ex, E.tr, E.nd, fun i o s h1 _ => by simp at h1, E.ce, E.wv⟩
theorem EnvK.body (E : EnvK f κ F (vs.map some) H (ds.map .cl) h []) (k : Nat) : EnvK f κ F (vs.map some ++ List.replicate k none) H (ds.map .cl ++ List.replicate k .un) h [] := by
  have hl := E.len
  refine ⟨E.ok, by simp; simpa using hl, E.kl, E.io, E.ex, E.tr, E.nd, fun i o s h1 h2 => ?_, E.ce, E.wv⟩
  by_cases hi : i < (ds.map Sl.cl).length
  · rw [List.getElem?_append_left hi] at h2
    rw [List.getElem?_append_left (by rw [hl]; exact hi)] at h1
    exact E.sl i o s h1 h2
  · rw [List.getElem?_append_right (by omega)] at h2
    have := List.mem_of_getElem? h2
    rw [List.eq_of_mem_replicate this]
    exact .un
theorem Own.wf {d : D} (r : Own M ⟨f, κ⟩ H p d) : below κ.length d = true := by
  cases r with
  | lst a b => simp only [below]; exact b.wf
  | dK a n b => simp only [below]; rw [belowK_eq]; exact b.wf
  | ins a n b => simp only [below]; rw [belowF_eq]; exact b.wf
theorem Own.dn {l : List Addr} {d : D} (r : Own M ⟨f, κ ++ l⟩ H p d) (e : below κ.length d = true) : Own M ⟨f, κ⟩ H p d := by
  cases r with
  | lst a b => exact .lst a (b.dn (by simpa only [below] using e))
  | dK a n b => exact .dK a n (b.dn (by
      simp only [below] at e
      rw [belowK_eq] at e
      exact e))
  | ins a n b => exact .ins a n (b.dn (by
      simp only [below] at e
      rw [belowF_eq] at e
      exact e))
/-- the first cells alone -/
theorem EnvK.cut0 {l : List Addr} {h0 : Tb} (hk : κ.length = h0.length) (hw : ∀ (i : Nat) (c : D), h0[i]? = some c → below h0.length c = true) (E : EnvK f (κ ++ l) ⟨A, κ, H⟩ [] H' [] h []) (ok : okCut h0 h) : EnvK f κ ⟨A, κ, H⟩ [] H' [] (h.take h0.length) [] := by
  have hl := E.kl
  rw [List.length_append] at hl
  refine ⟨E.ok, rfl, by rw [List.length_take]; omega, ⟨[], by simp, fun _ z => by cases z⟩, E.ex, E.tr, ?_, fun i o s h1 _ => by simp at h1, fun n p c h1 h2 => ?_, fun _ z => by cases z⟩
  · have := E.nd
    rw [List.append_assoc] at this
    show (κ ++ []).Nodup
    rw [List.append_nil]
    exact (List.nodup_append.mp this).1
  · have hn : n < κ.length := (List.getElem?_eq_some_iff.mp h1).1
    rw [List.getElem?_take_of_lt (by omega)] at h2
    have own := E.ce n p c (by rw [List.getElem?_append_left hn]; exact h1) h2
    have hb : below κ.length c = true := by
      rw [hk]
      rcases ok n c (by omega) h2 with z | z
      · exact hw n c z
      · exact z
    refine (own.dn hb).mono fun x hx => ?_
    simp only [List.mem_append] at hx ⊢
    rcases hx with z | z | z
    · exact .inl z
    · exact .inr (.inl (.inl z))
    · exact .inr (.inr z)
theorem av_cut {l : List Addr} {st' : List (V × W)} (hr : ∀ x ∈ rootsW st', x ∈ l ∨ x ∈ rootsW st) : ∀ x ∈ av F κ st', x ∈ av F (κ ++ l) st := fun x hx => by
  simp only [List.mem_append] at hx ⊢
  rcases hx with z | z | z
  · exact .inl z
  · exact .inr (.inl (.inl z))
  · rcases hr x z with y | y
    · exact .inr (.inl (.inr y))
    · exact .inr (.inr y)
theorem EnvK.cutF {h0 : Tb} (hk : κ.length = h0.length) (hw : ∀ (i : Nat) (c : D), h0[i]? = some c → below h0.length c = true) {x : W × Tb} (E : EnvK f κ' ⟨A, κ, H⟩ [] H' [] h [(v, w)]) (e : CM.cutF keep h0 w h = some x) : EnvR f ⟨A, κ, H⟩ [] H' [] x.2 [(v, x.1)] := by
  unfold CM.cutF at e
  split at e
  · cases e
    exact ⟨κ', E⟩
  · rename_i hne
    split at e
    · rename_i ok
      obtain ⟨l, rfl, hf⟩ := E.io
      have E0 := E.pop.cut0 hk hw ok
      have val : ∀ d, w = .cl d → below h0.length d = true → EnvR f ⟨A, κ, H⟩ [] H' [] (h.take h0.length) [(v, .cl d)] := fun d e hb => by
        subst e
        have r := E.rep (List.mem_cons_self ..)
        rw [← hk] at hb
        refine ⟨κ, E0.pushC ((r.dn hb).mono (av_cut fun x hx => by cases hx))⟩
      split at e
      · rename_i n
        split at e
        · rename_i hn
          cases e
          exact val _ rfl (by simp only [below, decide_eq_true_eq]; exact hn)
        · rename_i hn
          split at e
          · rename_i c hc
            split at e
            · rename_i hb
              cases e
              have r := E.rep (List.mem_cons_self ..)
              generalize hM : av ⟨A, κ, H⟩ (κ ++ l) [(v, W.cl (.ce n))] = M at r
              cases r with
              | @ce q _ hq =>
                subst hM
                have own := E.ce n q c hq hc
                have hql : q ∈ l := by
                  have hq : (κ ++ l)[n]? = some q := hq
                  rw [List.getElem?_append_right (by omega)] at hq
                  exact List.mem_of_getElem? hq
                have hne2 : q ∉ κ := fun z => by
                  have nd := E.nd
                  rw [List.append_assoc] at nd
                  exact (List.nodup_append.mp nd).2.2 q z q (List.mem_append.mpr (.inl hql)) rfl
                have hm : ∀ x ∈ av (⟨A, κ, H⟩ : Fm) κ [(V.ref q, W.nw c)], x ∈ av ⟨A, κ, H⟩ (κ ++ l) [(V.ref q, W.cl (.ce n))] := av_cut fun x hx => by
                  rw [roots_nw] at hx
                  rcases List.mem_cons.mp hx with z | z
                  · rw [z]; exact .inl hql
                  · cases z
                rw [← hk] at hb
                have own2 : Own (av ⟨A, κ, H⟩ κ [(V.ref q, W.nw c)]) ⟨f, κ⟩ H' q c := (own.mono hm).dn hb
                refine ⟨κ, E0.ok, rfl, E0.kl, E0.io, E0.ex, E0.tr, ?_, fun i o s h1 _ => by simp at h1, fun m p c' h1 h2 => ?_, fun y hy => ?_⟩
                · show (κ ++ [q]).Nodup
                  rw [List.nodup_append]
                  refine ⟨?_, by simp, fun a ha b hb z => ?_⟩
                  · have nd := E0.nd
                    rwa [show rootsW ([] : List (V × W)) = [] from rfl, List.append_nil] at nd
                  · rw [List.mem_singleton.mp hb] at z
                    rw [z] at ha
                    exact hne2 ha
                · have hn : m < κ.length := (List.getElem?_eq_some_iff.mp h1).1
                  have h2' : h[m]? = some c' := by
                    rw [List.getElem?_take_of_lt (by omega)] at h2
                    exact h2
                  have own := E.ce m p c' (by rw [List.getElem?_append_left hn]; exact h1) h2'
                  have hb : below κ.length c' = true := by
                    rw [hk]
                    rcases ok m c' (by omega) h2' with z | z
                    · exact hw m c' z
                    · exact z
                  exact (own.mono hm).dn hb
                · rw [List.mem_singleton.mp hy]
                  exact .nw (hf q hql) own2
            · cases e
          · cases e
      · rename_i w0 hw0
        split at e
        · rename_i hb
          cases e
          match w, E, hb, val with
          | .cl d, E, hb, val => exact val d rfl hb
          | .nw c, E, hb, val =>
            obtain ⟨q, rfl, h0', own, hq⟩ := E.held
            have hm : ∀ x ∈ av (⟨A, κ, H⟩ : Fm) κ [(V.ref q, W.nw c)], x ∈ av ⟨A, κ, H⟩ (κ ++ l) [(V.ref q, W.nw c)] := av_cut fun x hx => .inr hx
            have hb : below κ.length c = true := by rw [hk]; exact hb
            refine ⟨κ, E0.ok, rfl, E0.kl, E0.io, E0.ex, E0.tr, ?_, fun i o s h1 _ => by simp at h1, fun m p c' h1 h2 => ?_, fun y hy => ?_⟩
            · have nd := E.nd
              refine nd.sublist ?_
              rw [List.append_assoc]
              exact List.Sublist.append_left (List.sublist_append_right _ _) _
            · have hn : m < κ.length := (List.getElem?_eq_some_iff.mp h1).1
              have h2' : h[m]? = some c' := by
                rw [List.getElem?_take_of_lt (by omega)] at h2
                exact h2
              have own := E.ce m p c' (by rw [List.getElem?_append_left hn]; exact h1) h2'
              have hb : below κ.length c' = true := by
                rw [hk]
                rcases ok m c' (by omega) h2' with z | z
                · exact hw m c' z
                · exact z
              exact (own.mono hm).dn hb
            · rw [List.mem_singleton.mp hy]
              exact .nw h0' ((own.mono hm).dn hb)
        · cases e
    · cases e
theorem EnvK.cutX {h0 : Tb} (hk : κ.length = h0.length) (hw : ∀ (i : Nat) (c : D), h0[i]? = some c → below h0.length c = true) {x : Tb} {dx : Addr} {fs : List (Str × D)} (E : EnvK f κ' ⟨A, κ, H⟩ [] H' [] h []) (xd : XdR (av ⟨A, κ, H⟩ κ' []) ⟨f, κ'⟩ H' dx fs) (e : CM.cutX keep h0 fs h = some x) :
    ∃ κ', EnvK f κ' ⟨A, κ, H⟩ [] H' [] x [] ∧ XdR (av ⟨A, κ, H⟩ κ' []) ⟨f, κ'⟩ H' dx fs := by
  unfold CM.cutX at e
  split at e
  · cases e
    exact ⟨κ', E, xd⟩
  · split at e
    · rename_i hok
      cases e
      obtain ⟨l, rfl, hf⟩ := E.io
      refine ⟨κ, E.cut0 hk hw hok.1, ?_⟩
      obtain ⟨a, b, c⟩ := xd
      have hb := hok.2
      rw [← hk, belowF_eq] at hb
      exact .mk a b ((c.dn hb).mono (av_cut fun x hx => by cases hx))
    · cases e
theorem EnvK.wfs (E : EnvK f κ F σ H ρ h st) : ∀ (i : Nat) (c : D), h[i]? = some c → below h.length c = true := fun i c hc => by
  have hi : i < κ.length := by
    rw [E.kl]
    exact (List.getElem?_eq_some_iff.mp hc).1
  rw [← E.kl]
  exact (E.ce i _ c (List.getElem?_eq_getElem hi) hc).wf
/-- a def's body keeps the def's promise -/
theorem pure_fnM {t : TS} {body : MS} {N : List Str} {Q : VK} {E : XK} (hN : N.length = n + k) (hb : SimS f (fun cls d _ H => E cls d H) t body) (s : spM f (fnM keep n k body) vs H Q E) : t { nx := fun _ H' => Q .non H', rt := Q } (L2.start N vs) H := by
  obtain ⟨κ, A, ds, h, r, e, hr, p⟩ := s
  have hlen := len_fnM hr
  have hl : vs.length = n := by
    have := e.len
    rw [List.length_map, List.length_map] at this
    omega
  have es : L2.start N vs = vs.map some ++ List.replicate k none := by
    unfold L2.start
    rw [hN, hl, Nat.add_sub_cancel_left]
  have hw := e.wfs
  have hk := e.kl
  unfold fnM at hr
  rw [if_pos hlen] at hr
  cases h1 : body (ds.map Sl.cl ++ List.replicate k .un) h with
  | none => rw [h1] at hr; cases hr
  | some o =>
    rw [h1] at hr
    rw [es]
    refine hb ⟨A, κ, H⟩ _ H _ h [] o _ ⟨κ, e.body k⟩ h1 ?_
    cases o with
    | nx ρ h' =>
      have hr : (cutF keep h (.cl .non) h').map (fun x => FR.rt x.1 x.2) = some r := hr
      cases h2 : cutF keep h (.cl .non) h' with
      | none => rw [h2] at hr; cases hr
      | some x =>
        rw [h2] at hr
        cases hr
        intro σ H' ⟨κ', E'⟩
        exact p .non H' ((E'.noframe.pushC (d := .non) .non).cutF hk hw h2)
    | rt w ρ h' =>
      have hr : (cutF keep h w h').map (fun x => FR.rt x.1 x.2) = some r := hr
      cases h2 : cutF keep h w h' with
      | none => rw [h2] at hr; cases hr
      | some x =>
        rw [h2] at hr
        cases hr
        intro σ v H' ⟨κ', E'⟩
        exact p v H' (E'.noframe.cutF hk hw h2)
    | bk ρ h' => cases hr
    | ct ρ h' => cases hr
    | ex C fs ρ h' =>
      have hr : (cutX keep h fs h').map (fun x => FR.ex C fs x) = some r := hr
      cases h2 : cutX keep h fs h' with
      | none => rw [h2] at hr; cases hr
      | some x =>
        rw [h2] at hr
        cases hr
        intro κ' σ H' dx E' xd
        obtain ⟨κ2, E2, xd2⟩ := E'.noframe.cutX hk hw xd h2
        exact p κ2 dx H' E2 xd2

/-! ### calls -/
theorem EnvK.call_start (E : EnvK f κ F σ H ρ h (vs.zip (ds.map W.cl) ++ st)) (hl : vs.length = ds.length) : EnvK f κ ⟨av F κ (vs.zip (ds.map W.cl) ++ st), κ, H⟩ (vs.map some) H (ds.map .cl) h [] := by
  have hm : ∀ x ∈ av (⟨av F κ (vs.zip (ds.map W.cl) ++ st), κ, H⟩ : Fm) κ [], x ∈ av F κ (vs.zip (ds.map W.cl) ++ st) := fun x hx => by
    rcases List.mem_append.mp hx with z | z
    · exact z
    · rcases List.mem_append.mp z with z | z
      · exact av_ka z
      · cases z
  refine ⟨⟨fun a ha => E.av_some ha, fun a ha => av_ka ha⟩, by simp [hl], E.kl, ⟨[], by simp, fun _ z => by cases z⟩, Ex.refl, fun _ z => z, ?_, fun i o s h1 h2 => ?_, fun n p c h1 h2 => (E.ce n p c h1 h2).mono hm, fun _ z => by cases z⟩
  · show (κ ++ []).Nodup
    rw [List.append_nil]
    exact (List.nodup_append.mp E.nd).1
  · have ra := E.repA hl fun x hx => List.mem_append.mpr (.inl hx)
    rw [List.getElem?_map] at h1 h2
    cases hd : ds[i]? with
    | none => rw [hd] at h2; cases h2
    | some d =>
      rw [hd] at h2
      cases h2
      obtain ⟨v, g1, g2⟩ := ra.get hd
      rw [g1] at h1
      cases h1
      exact .cl (g2.mono hm)
/-- the caller's frame behind a call -/
theorem EnvK.call_end {st2 : List (V × W)} {h2 : Tb} (E : EnvK f κ F σ H ρ h (l ++ st)) (hA : A = av F κ (l ++ st)) (E' : EnvK f κ' ⟨A, κ, H⟩ [] H' [] h2 st2) : EnvK f κ' F σ H' ρ h2 (st2 ++ st) := by
  subst hA
  obtain ⟨l1, e1, f1⟩ := E.io
  obtain ⟨l2, e2, f2⟩ := E'.io
  have e2 : κ' = κ ++ l2 := e2
  have f2 : ∀ p ∈ l2, H p = none := f2
  have ex : Ex κ H H' := E'.ex
  have tr : ∀ a, H a ≠ none → H' a ≠ none := E'.tr
  have rs : rootsW (st2 ++ st) = rootsW st2 ++ rootsW st := List.filterMap_append
  have h0 : ∀ p, H p = none → F.H0 p = none := fun p hp => by
    cases q : F.H0 p with
    | none => rfl
    | some u => exact absurd hp (E.tr p (by rw [q]; exact fun z => by cases z))
  have old : ∀ x ∈ av F κ' (st2 ++ st), x ∈ av F κ (l ++ st) ∨ H x = none := fun x hx => by
    rw [show av F κ' (st2 ++ st) = F.A ++ (κ' ++ rootsW (st2 ++ st)) from rfl, rs, e2] at hx
    rcases List.mem_append.mp hx with z | z
    · exact .inl (List.mem_append.mpr (.inl z))
    · rcases List.mem_append.mp z with z | z
      · rcases List.mem_append.mp z with z | z
        · exact .inl (av_ka z)
        · exact .inr (f2 x z)
      · rcases List.mem_append.mp z with z | z
        · exact .inr (E'.root_some z).2
        · exact .inl (av_st (by
            unfold rootsW
            rw [List.filterMap_append]
            exact List.mem_append.mpr (.inr z)))
  have new : ∀ x ∈ av F κ' (st2 ++ st), x ∈ av (⟨av F κ (l ++ st), κ, H⟩ : Fm) κ' st2 := fun x hx => by
    rw [show av F κ' (st2 ++ st) = F.A ++ (κ' ++ rootsW (st2 ++ st)) from rfl, rs] at hx
    rcases List.mem_append.mp hx with z | z
    · exact List.mem_append.mpr (.inl (List.mem_append.mpr (.inl z)))
    · rcases List.mem_append.mp z with z | z
      · exact av_ka z
      · rcases List.mem_append.mp z with z | z
        · exact av_st z
        · exact List.mem_append.mpr (.inl (av_st (by
            unfold rootsW
            rw [List.filterMap_append]
            exact List.mem_append.mpr (.inr z))))
  have exM : Ex (av F κ (l ++ st)) H H' := ex.mono fun x hx => av_ka hx
  have upR : ∀ {v : V} {d : D}, Rep (av F κ (l ++ st)) ⟨f, κ⟩ H v d → Rep (av F κ' (st2 ++ st)) ⟨f, κ'⟩ H' v d := fun {v d} r => by
    -- first what is kept off, then the change, then the cells
    have r1 : Rep (av F κ' (st2 ++ st)) ⟨f, κ⟩ H v d := r.frs old
    have exN : Ex (av F κ' (st2 ++ st)) H H' := ex.mono fun x hx => av_ka (by rw [e2]; exact List.mem_append.mpr (.inl hx))
    have r2 := (r1.ex exN).up (l := l2)
    rw [e2] at r2 ⊢
    exact r2
  refine ⟨E.ok, E.len, E'.kl, ⟨l1 ++ l2, by rw [e2, e1, List.append_assoc], fun p hp => ?_⟩, fun a o hn z => ?_, fun a z => tr a (E.tr a z), ?_, fun i o s g1 g2 => ?_, fun n p c g1 g2 => (E'.ce n p c g1 g2).mono new, fun x hx => ?_⟩
  · rcases List.mem_append.mp hp with z | z
    · exact f1 p z
    · exact h0 p (f2 p z)
  · refine ex a o (fun hk => ?_) (E.ex a o hn z)
    rw [e1] at hk
    rcases List.mem_append.mp hk with y | y
    · exact hn y
    · rw [f1 a y] at z
      cases z
  · rw [rs, ← List.append_assoc]
    rw [List.nodup_append]
    refine ⟨E'.nd, ?_, fun a ha b hb z => ?_⟩
    · have nd := (List.nodup_append.mp E.nd).2.1
      unfold rootsW at nd
      rw [List.filterMap_append] at nd
      exact (List.nodup_append.mp nd).2.1
    · subst z
      have hb2 : a ∈ rootsW (l ++ st) := by
        unfold rootsW
        rw [List.filterMap_append]
        exact List.mem_append.mpr (.inr hb)
      have hs := (E.root_some hb2).1
      rcases List.mem_append.mp ha with z | z
      · rw [e2] at z
        rcases List.mem_append.mp z with z | z
        · exact (List.nodup_append.mp E.nd).2.2 a z a hb2 rfl
        · exact hs (f2 a z)
      · exact hs (E'.root_some z).2
  · have q := E.sl i o s g1 g2
    cases s with
    | un => exact .un
    | cl d =>
      generalize hM : av F κ (l ++ st) = M at q
      cases q with
      | cl r => subst hM; exact .cl (upR r)
  · rcases List.mem_append.mp hx with hx | hx
    · have q := E'.wv x hx
      obtain ⟨v, w⟩ := x
      dsimp only at q ⊢
      generalize hM : av (⟨av F κ (l ++ st), κ, H⟩ : Fm) κ' st2 = M at q
      cases q with
      | cl r => subst hM; exact .cl (r.mono new)
      | nw n r => subst hM; exact .nw (h0 _ n) (r.mono new)
    · have q := E.wv x (List.mem_append.mpr (.inr hx))
      obtain ⟨v, w⟩ := x
      dsimp only at q ⊢
      generalize hM : av F κ (l ++ st) = M at q
      cases q with
      | cl r => subst hM; exact .cl (upR r)
      | @nw p c n r =>
        subst hM
        have hp : p ∈ rootsW (l ++ st) := mem_rootsW.mpr ⟨_, List.mem_append.mpr (.inr hx), rfl⟩
        have hpk : p ∉ κ := fun z => (List.nodup_append.mp E.nd).2.2 p z p hp rfl
        have e0 : H' p = H p := by
          cases q : H p with
          | none => exact absurd q r.some
          | some u => exact ex p u hpk q
        have own : Own (av F κ' (st2 ++ st)) ⟨f, κ'⟩ H' p c := by
          have upA : ∀ {vs : List V} {ds : List D}, RepA (av F κ (l ++ st)) ⟨f, κ⟩ H vs ds → RepA (av F κ' (st2 ++ st)) ⟨f, κ'⟩ H' vs ds := fun {vs ds} r => by
            induction r using RepA.rec (motive_1 := fun _ _ _ => True) with
            | nil => exact .nil
            | cons a b _ ih => exact .cons (upR a) ih
            | _ => trivial
          cases r with
          | lst a b => exact .lst (e0.trans a) (upA b)
          | dK a n b => exact .dK (e0.trans a) n (upA b)
          | ins a n b => exact .ins (e0.trans a) n (upA b)
        exact .nw n own
end
end CM

/-! CM6: calls, own classes. -/
namespace CM
open PySem PySem.Spec PyProof.Rows L2 SL

/-- a call that raises nothing -/
def callT (m : Fnm) (ds : List D) (ρ : List Sl) (h : Tb) : Option (R W) := match m ds h with
  | some (.rt w h') => some (.ok w ρ h')
  | _ => none
/-- a call that may raise -/
def callX (m : Fnm) (ds : List D) (ρ : List Sl) (h : Tb) : Option (R W) := match m ds h with
  | some (.rt w h') => some (.ok w ρ h')
  | some (.ex C fs h') => some (.ex C fs ρ h')
  | none => none
def callN (m : Fnm) (a : Mo (List W)) : Mo W := fun ρ h => bindR (a ρ h) fun ws ρ h => callT m (ws.map fzW) ρ h
def callM (m : Fnm) (a : Mo (List W)) : Mo W := fun ρ h => bindR (a ρ h) fun ws ρ h => callX m (ws.map fzW) ρ h
section
variable {f : PySem.W.Frag} {κ κ' : List Addr} {WW : WX} {F : Fm} {M A : List Addr} {H H' : Hp} {σ : L2.St} {ρ ρ' : List Sl} {h h' : Tb} {st : List (V × W)} {v : V} {w w' : W} {i j : Nat} {tr : TA} {mr : Mo (List W)} {te ta : TE} {me ma : Mo W} {C n : Str} {d : D} {fs : List (Str × D)} {p : Addr} {m : Fnm} {vs : List V} {ws : List W} {ds : List D} {keep : Bool}
theorem EnvK.callT {r : R W} {Q : VK} (E : EnvK f κ F σ H ρ h (vs.zip (ds.map W.cl) ++ st)) (hl : vs.length = ds.length) (e : CM.callT m ds ρ h = some r) (post : ∀ w ρ' h', r = .ok w ρ' h' → ∀ v H, EnvR f F σ H ρ' h' ((v, w) :: st) → Q v H) : spM f m vs H Q E0 := by
  unfold CM.callT at e
  split at e
  · rename_i w h' q
    cases e
    exact ⟨κ, _, ds, h, _, E.call_start hl, q, fun v H' ⟨κ', E'⟩ => post _ _ _ rfl v H' ⟨κ', EnvK.call_end (l := vs.zip (ds.map W.cl)) E rfl E'⟩⟩
  · cases e
theorem EnvK.callX {r : R W} {Q : VK} (E : EnvK f κ F σ H ρ h (vs.zip (ds.map W.cl) ++ st)) (hl : vs.length = ds.length) (e : CM.callX m ds ρ h = some r) (post : PostE f F WW σ st Q r) : spM f m vs H Q (fun cls d H => WW cls d σ H) := by
  unfold CM.callX at e
  split at e
  · rename_i w h' q
    cases e
    exact ⟨κ, _, ds, h, _, E.call_start hl, q, fun v H' ⟨κ', E'⟩ => post v H' ⟨κ', EnvK.call_end (l := vs.zip (ds.map W.cl)) E rfl E'⟩⟩
  · rename_i C fs h' q
    cases e
    refine ⟨κ, _, ds, h, _, E.call_start hl, q, fun κ' dx H' E' xd => ?_⟩
    have E2 : EnvK f κ' F σ H' ρ h' ([] ++ st) := EnvK.call_end (l := vs.zip (ds.map W.cl)) E rfl E'
    refine post κ' σ H' dx E2 ?_
    obtain ⟨a, b, c⟩ := xd
    refine .mk a b (c.mono fun x hx => ?_)
    simp only [List.mem_append] at hx ⊢
    rcases hx with z | z | z
    · exact .inl (.inl z)
    · exact .inr (.inl z)
    · refine .inl (.inr (.inr ?_))
      unfold rootsW
      rw [List.filterMap_append]
      exact List.mem_append.mpr (.inr z)
  · cases e
theorem sim_call (ha : SimA f WW tr mr) : SimE f WW (tCall (spM f m) [] E0 tr) (callN m mr) := fun F σ H ρ h st x Q E e p => by
  rcases bindR_some e with ⟨ws, ρ1, h1, e1, e⟩ | ⟨C, fs, ρ1, h1, e1, rfl⟩
  · refine ha F σ H ρ h st _ _ E e1 fun vs H1 hl ⟨κ, E1⟩ => ?_
    rw [List.append_nil]
    refine EnvK.callT (E1.fzs hl) (by simpa using hl) e fun w ρ' h' hr v H' E' => ?_
    subst hr
    exact p v H' E'
  · exact ha F σ H ρ h st _ _ E e1 p
theorem sim_callS (ha : SimA f WW tr mr) : SimE f WW (tCallS (spM f m) (WE WW) tr) (callM m mr) := fun F σ H ρ h st x Q E e p => by
  rcases bindR_some e with ⟨ws, ρ1, h1, e1, e⟩ | ⟨C, fs, ρ1, h1, e1, rfl⟩
  · refine ha F σ H ρ h st _ _ E e1 fun vs H1 hl ⟨κ, E1⟩ => ?_
    exact EnvK.callX (WW := WW) (E1.fzs hl) (by simpa using hl) e p
  · exact ha F σ H ρ h st _ _ E e1 p

/-! ### own classes -/
def insOf (C : Str) : D → Option (List (Str × D))
  | .ins C' fs => if C' = C then some fs else none
  | _ => none
def mFld (C n : Str) (a : Mo W) : Mo W := fun ρ h => bindR (a ρ h) fun w ρ h => (deref h w).bind fun d => (insOf C d.u).bind fun fs => (fs.lookup n).map fun d => .ok (.cl d) ρ h
def putD (n : Str) (v : D) : List (Str × D) → List (Str × D)
  | [] => [(n, v)]
  | (g, x) :: r => if g = n then (g, v) :: r else (g, x) :: putD n v r
def insAt (C : Str) (h : Tb) : W → Option (Nat × List (Str × D))
  | .cl (.ce n) => match h[n]? with
    | some (.ins C' fs) => if C' = C then some (n, fs) else none
    | _ => none
  | _ => none
/-- o.n = e; own: a new thing becomes a cell -/
def sFldM (C n : Str) (o : Mo W) (e : Mo W) : MS := fun ρ h => bindS (e ρ h) fun w ρ h => bindS (o ρ h) fun u ρ h => (insAt C h u).bind fun x => if x.2.length < 1000 then some (.nx ρ (h.set x.1 (.ins C (putD n (fzW w) x.2)))) else none
def mMeth (C : Str) (n : Str) (m : Fnm) (a : Mo W) (b : Mo (List W)) : Mo W := fun ρ h => bindR (a ρ h) fun w ρ h => (deref h w).bind fun d => (insOf C d.u).bind fun fs => if (fs.lookup n).isNone then bindR (b ρ h) fun ws ρ h => callT m (fzW w :: ws.map fzW) ρ h else none
def mProp (C : Str) (m : Fnm) (a : Mo W) : Mo W := fun ρ h => bindR (a ρ h) fun w ρ h => (deref h w).bind fun d => (insOf C d.u).bind fun _ => callT m [fzW w] ρ h
/-- C(..): dvs are the values of what lacks -/
noncomputable def mMake (keep : Bool) (C : Str) (m : Fnm) (dvs : List D) (b : Mo (List W)) : Mo W := fun ρ h => bindR (b ρ h) fun ws ρ h => match m (.ce h.length :: (ws.map fzW ++ dvs)) (h ++ [.ins C []]) with
  | some (.rt (.cl .non) h') => (cutF keep h (.cl (.ce h.length)) h').map fun x => .ok x.1 ρ x.2
  | _ => none
theorem nr_ins {K : Kx} (q : Nr M K H v d) (e : insOf C d.u = some fs) : ∃ a dx vs, v = .ref a ∧ H a = some (.ins (He.ga K C) dx vs) ∧ vs.map (·.1) = fs.map (·.1) ∧ RepA M K H (vs.map (·.2)) (fs.map (·.2)) := by
  have q := q.u
  unfold insOf at e
  split at e
  · rename_i C' fs' hd
    split at e
    · rename_i hC
      subst hC
      cases e
      rw [hd] at q
      cases q with
      | cl r => cases r with | ins a n b => exact ⟨_, _, _, rfl, a.at_, n, b⟩
      | own r => cases r with | ins a n b => exact ⟨_, _, _, rfl, a, n, b⟩
    · cases e
  · cases e
theorem lookup_rep {K : Kx} {f : Str} : ∀ {vs : List (Str × V)} {fs : List (Str × D)}, vs.map (·.1) = fs.map (·.1) → RepA M K H (vs.map (·.2)) (fs.map (·.2)) → (∀ d, fs.lookup f = some d → ∃ v, vs.lookup f = some v ∧ Rep M K H v d) ∧ (fs.lookup f = none → vs.lookup f = none)
  | [], [], _, _ => ⟨(fun d h => by cases h), fun _ => rfl⟩
  | [], _ :: _, h, _ => by cases h
  | _ :: _, [], h, _ => by cases h
  | (a, x) :: vs, (b, y) :: fs, h, r => by
    have hab : a = b := by simpa using (List.cons.inj h).1
    subst hab
    have r : RepA M K H (x :: vs.map (·.2)) (y :: fs.map (·.2)) := r
    cases r with
    | cons r1 r2 =>
      obtain ⟨ih1, ih2⟩ := lookup_rep (List.cons.inj h).2 r2
      by_cases hf : (f == a) = true
      · refine ⟨fun d e => ?_, fun e => ?_⟩
        · have e : (match f == a with | true => some y | false => fs.lookup f) = some d := e
          rw [hf] at e
          cases e
          exact ⟨x, by show (match f == a with | true => some x | false => vs.lookup f) = _; rw [hf], r1⟩
        · have e : (match f == a with | true => some y | false => fs.lookup f) = none := e
          rw [hf] at e
          cases e
      · have hf : (f == a) = false := by simpa using hf
        refine ⟨fun d e => ?_, fun e => ?_⟩
        · have e : (match f == a with | true => some y | false => fs.lookup f) = some d := e
          rw [hf] at e
          obtain ⟨v, h1, h2⟩ := ih1 d e
          exact ⟨v, by show (match f == a with | true => some x | false => vs.lookup f) = _; rw [hf]; exact h1, h2⟩
        · have e : (match f == a with | true => some y | false => fs.lookup f) = none := e
          rw [hf] at e
          show (match f == a with | true => some x | false => vs.lookup f) = _
          rw [hf]
          exact ih2 e
theorem sim_fld (c : Cls f (He.ga f C)) (hn : NoAttr f (He.ga f C) n) (ha : SimE f WW ta ma) : SimE f WW (tFld f ta n) (mFld C n ma) := fun F σ H ρ h st x Q E e p => by
  rcases bindR_some e with ⟨w1, ρ1, h1, e1, e⟩ | ⟨C', fs, ρ1, h1, e1, rfl⟩
  · refine ha F σ H ρ h st _ _ E e1 fun v1 H1 ⟨κ, E1⟩ => ?_
    cases q1 : deref h1 w1 with
    | none => rw [q1] at e; cases e
    | some d1 =>
      rw [q1] at e
      dsimp only [Option.bind_some] at e
      cases q2 : insOf C d1.u with
      | none => rw [q2] at e; cases e
      | some fs =>
        rw [q2] at e
        dsimp only [Option.bind_some] at e
        cases q3 : fs.lookup n with
        | none => rw [q3] at e; cases e
        | some d =>
          rw [q3] at e
          cases e
          obtain ⟨a, dx, vs, rfl, ea, nm, r⟩ := nr_ins (E1.near (List.mem_cons_self ..) q1) q2
          obtain ⟨v, g1, g2⟩ := (lookup_rep nm r).1 d q3
          exact ⟨a, _, dx, vs, v, rfl, ea, c, hn, g1, p v H1 ⟨κ, E1.pop.pushC (g2.mono (av_sub fun x hx => List.mem_cons_of_mem _ hx))⟩⟩
  · exact ha F σ H ρ h st _ _ E e1 p
theorem put_rep {f : Str} {K : Kx} {x : V} {y : D} (rx : Rep M K H x y) : ∀ {vs : List (Str × V)} {fs : List (Str × D)}, vs.map (·.1) = fs.map (·.1) → RepA M K H (vs.map (·.2)) (fs.map (·.2)) →
    (putF f x vs).map (·.1) = (putD f y fs).map (·.1) ∧ RepA M K H ((putF f x vs).map (·.2)) ((putD f y fs).map (·.2))
  | [], [], _, _ => ⟨rfl, .cons rx .nil⟩
  | [], _ :: _, h, _ => by cases h
  | _ :: _, [], h, _ => by cases h
  | (a, x') :: vs, (b, y') :: fs, h, r => by
    have hab : a = b := by simpa using (List.cons.inj h).1
    subst hab
    have r : RepA M K H (x' :: vs.map (·.2)) (y' :: fs.map (·.2)) := r
    cases r with
    | cons r1 r2 =>
      have ht : vs.map (·.1) = fs.map (·.1) := (List.cons.inj h).2
      by_cases hf : a = f
      · have e1 : putF f x ((a, x') :: vs) = (a, x) :: vs := if_pos hf
        have e2 : putD f y ((a, y') :: fs) = (a, y) :: fs := if_pos hf
        rw [e1, e2]
        exact ⟨by simp [ht], .cons rx r2⟩
      · have e1 : putF f x ((a, x') :: vs) = (a, x') :: putF f x vs := if_neg hf
        have e2 : putD f y ((a, y') :: fs) = (a, y') :: putD f y fs := if_neg hf
        obtain ⟨i1, i2⟩ := put_rep rx ht r2
        rw [e1, e2]
        exact ⟨by simp [i1], .cons r1 i2⟩
theorem EnvK.insAt (E : EnvK f κ F σ H ρ h st) (hx : (v, w) ∈ st) {k : Nat} (e : CM.insAt C h w = some (k, fs)) : ∃ q dx vs, v = .ref q ∧ κ[k]? = some q ∧ H q = some (.ins (He.ga f C) dx vs) ∧ vs.map (·.1) = fs.map (·.1) ∧ RepA (av F κ st) ⟨f, κ⟩ H (vs.map (·.2)) (fs.map (·.2)) := by
  unfold CM.insAt at e
  split at e
  · rename_i m
    split at e
    · rename_i C' fs' hc
      split at e
      · rename_i hC
        subst hC
        cases e
        have r := E.rep hx
        generalize hM : av F κ st = MM at r
        cases r with
        | @ce a _ hk =>
          subst hM
          have own := E.ce _ _ _ hk hc
          generalize hM : av F κ st = MM at own
          cases own with
          | ins a b c => exact ⟨_, _, _, rfl, hk, a, b, c⟩
      · cases e
    · cases e
  · cases e
theorem sim_sfld {to : TE} {mo : Mo W} (c : Cls f (He.ga f C)) (hn : NoAttr f (He.ga f C) n) (ho : SimE f WW to mo) (he : SimE f WW te me) : SimS f WW (sFld f to te n) (sFldM C n mo me) := fun F σ H ρ h st o D E e p => by
  rcases bindS_some e with ⟨w1, ρ1, h1, e1, e⟩ | ⟨C', fs, ρ1, h1, e1, rfl⟩
  · refine he F σ H ρ h st _ _ E e1 fun v1 H1 E1 => ?_
    rcases bindS_some e with ⟨w2, ρ2, h2, e2, e⟩ | ⟨C', fs, ρ2, h2, e2, rfl⟩
    · refine ho F σ H1 ρ1 h1 _ _ _ E1 e2 fun v2 H2 ⟨κ, E2⟩ => ?_
      cases q1 : insAt C h2 w2 with
      | none => rw [q1] at e; cases e
      | some x =>
        obtain ⟨k, fs⟩ := x
        rw [q1] at e
        dsimp only [Option.bind_some] at e
        split at e
        · rename_i hlen
          cases e
          have E3 : EnvK f κ F σ H2 ρ2 h2 ((v1, .cl (fzW w1)) :: (v2, w2) :: st) := (E2.perm (List.Perm.swap _ _ _)).fz
          obtain ⟨q, dx, vs, rfl, hk, hq, nm, r⟩ := E3.insAt (List.mem_cons_of_mem _ (List.mem_cons_self ..)) q1
          have rv := E3.rep (List.mem_cons_self ..)
          refine ⟨q, _, dx, vs, rfl, hq, c, hn, ?_, ?_⟩
          · have := congrArg List.length nm
            rw [List.length_map, List.length_map] at this
            omega
          · obtain ⟨i1, i2⟩ := put_rep (f := n) rv nm r
            have E4 := E3.mut (u := .ins (He.ga f C) dx (putF n v1 vs)) (c' := .ins C (putD n (fzW w1) fs)) hk (.ins upd_same i1 (i2.ex (Ex.mut (av_ka (List.mem_of_getElem? hk)))))
            exact p _ _ ⟨κ, E4.pop.pop⟩
        · cases e
    · exact ho F σ H1 ρ1 h1 _ _ _ E1 e2 (ExR.up p)
  · exact he F σ H ρ h st _ _ E e1 p
theorem sim_meth (ha : SimE f WW ta ma) (hb : SimA f WW tr mr) : SimE f WW (tMeth (He.ga f C) n (spM f m) [] E0 ta tr) (mMeth C n m ma mr) := fun F σ H ρ h st x Q E e p => by
  rcases bindR_some e with ⟨w1, ρ1, h1, e1, e⟩ | ⟨C', fs, ρ1, h1, e1, rfl⟩
  · refine ha F σ H ρ h st _ _ E e1 fun v1 H1 ⟨κ, E1⟩ => ?_
    cases q1 : deref h1 w1 with
    | none => rw [q1] at e; cases e
    | some d1 =>
      rw [q1] at e
      dsimp only [Option.bind_some] at e
      cases q2 : insOf C d1.u with
      | none => rw [q2] at e; cases e
      | some fs =>
        rw [q2] at e
        dsimp only [Option.bind_some] at e
        split at e
        · rename_i h3
          obtain ⟨a, dx, vs, rfl, ea, nm, r⟩ := nr_ins (E1.near (List.mem_cons_self ..) q1) q2
          refine ⟨a, dx, vs, rfl, ea, (lookup_rep nm r).2 (by simpa using h3), ?_⟩
          rcases bindR_some e with ⟨ws, ρ2, h2, e2, e⟩ | ⟨C', fs, ρ2, h2, e2, rfl⟩
          · refine hb F σ H1 ρ1 h1 _ _ _ ⟨κ, E1⟩ e2 fun us H2 hl ⟨κ2, E2⟩ => ?_
            rw [List.append_nil]
            have E3 : EnvK f κ2 F σ H2 ρ2 h2 ((V.ref a :: us).zip (w1 :: ws) ++ st) := E2.perm List.perm_middle
            refine EnvK.callT (vs := V.ref a :: us) (ds := fzW w1 :: ws.map fzW) (E3.fzs (by simp [hl])) (by simp [hl]) e fun w ρ' h' hr v H' E' => ?_
            subst hr
            exact p v H' E'
          · exact hb F σ H1 ρ1 h1 _ _ _ ⟨κ, E1⟩ e2 (ExR.up p)
        · cases e
  · exact ha F σ H ρ h st _ _ E e1 p
theorem sim_prop (ha : SimE f WW ta ma) : SimE f WW (tProp (He.ga f C) (spM f m) [] E0 ta) (mProp C m ma) := fun F σ H ρ h st x Q E e p => by
  rcases bindR_some e with ⟨w1, ρ1, h1, e1, e⟩ | ⟨C', fs, ρ1, h1, e1, rfl⟩
  · refine ha F σ H ρ h st _ _ E e1 fun v1 H1 ⟨κ, E1⟩ => ?_
    cases q1 : deref h1 w1 with
    | none => rw [q1] at e; cases e
    | some d1 =>
      rw [q1] at e
      dsimp only [Option.bind_some] at e
      cases q2 : insOf C d1.u with
      | none => rw [q2] at e; cases e
      | some fs =>
        rw [q2] at e
        dsimp only [Option.bind_some] at e
        obtain ⟨a, dx, vs, rfl, ea, nm, r⟩ := nr_ins (E1.near (List.mem_cons_self ..) q1) q2
        refine ⟨a, dx, vs, rfl, ea, ?_⟩
        have E3 : EnvK f κ F σ H1 ρ1 h1 ([V.ref a].zip ([fzW w1].map W.cl) ++ st) := E1.fz
        refine EnvK.callT (vs := [V.ref a]) (ds := [fzW w1]) E3 rfl e fun w ρ' h' hr v H' E' => ?_
        subst hr
        exact p v H' E'
  · exact ha F σ H ρ h st _ _ E e1 p
theorem keep_new {x dx : Addr} {o u : HO} (hx : H x = none) (hdx : H dx = none) (hne : dx ≠ x) : Ex [] H (upd (upd H dx o) x u) := (Ex.new hdx).trans (fun a o _ z => by
    have hax : a ≠ x := by
      rintro rfl
      by_cases q : a = dx
      · exact hne q.symm
      · rw [upd_ne q, hx] at z
        cases z
    rw [upd_ne hax]
    exact z)
/-- a new instance is one more cell -/
theorem EnvK.self {x dx : Addr} {us : List V} {es : List D} (E : EnvK f κ F σ H ρ h (vs.zip (ds.map W.cl) ++ st)) (hl : vs.length = ds.length) (hx : H x = none) (hdx : H dx = none) (hne : dx ≠ x) (hr : ∀ M, RepA M ⟨f, κ ++ [x]⟩ (upd (upd H dx (.own x)) x (.ins (He.ga f C) dx [])) us es) :
    EnvK f (κ ++ [x]) ⟨x :: av F κ (vs.zip (ds.map W.cl) ++ st), κ ++ [x], upd (upd H dx (.own x)) x (.ins (He.ga f C) dx [])⟩ ((V.ref x :: (vs ++ us)).map some) (upd (upd H dx (.own x)) x (.ins (He.ga f C) dx [])) ((D.ce h.length :: (ds ++ es)).map .cl) (h ++ [.ins C []]) [] := by
  have keep := keep_new (o := .own x) (u := .ins (He.ga f C) dx []) hx hdx hne
  have hm : ∀ y ∈ av (⟨x :: av F κ (vs.zip (ds.map W.cl) ++ st), κ ++ [x], upd (upd H dx (.own x)) x (.ins (He.ga f C) dx [])⟩ : Fm) (κ ++ [x]) [], y ∈ av F κ (vs.zip (ds.map W.cl) ++ st) ∨ H y = none := fun y hy => by
    rcases List.mem_append.mp hy with z | z
    · rcases List.mem_cons.mp z with z | z
      · rw [z]; exact .inr hx
      · exact .inl z
    · rcases List.mem_append.mp z with z | z
      · rcases List.mem_append.mp z with z | z
        · exact .inl (av_ka z)
        · rw [List.mem_singleton.mp z]; exact .inr hx
      · cases z
  have alive : ∀ a, H a ≠ none → upd (upd H dx (.own x)) x (.ins (He.ga f C) dx []) a ≠ none := fun a ha => by
    rw [ex_same keep ha]
    exact ha
  have xk : x ∉ κ := fun z => E.ka_some z hx
  refine ⟨⟨fun a ha => ?_, fun a ha => ?_⟩, by simp [hl, (hr []).len], by simp [E.kl], ⟨[], by simp, fun _ z => by cases z⟩, Ex.refl, fun _ z => z, ?_, fun i o s g1 g2 => ?_, fun n p c g1 g2 => ?_, fun _ z => by cases z⟩
  · rcases List.mem_cons.mp ha with z | z
    · rw [z]
      show upd _ x _ x ≠ none
      rw [upd_same]
      exact fun z => by cases z
    · exact alive a (E.av_some z)
  · rcases List.mem_append.mp ha with z | z
    · exact List.mem_cons_of_mem _ (av_ka z)
    · rw [List.mem_singleton.mp z]
      exact List.mem_cons_self ..
  · show (κ ++ [x] ++ []).Nodup
    rw [List.append_nil, List.nodup_append]
    refine ⟨(List.nodup_append.mp E.nd).1, by simp, fun a ha b hb z => ?_⟩
    rw [List.mem_singleton.mp hb] at z
    rw [z] at ha
    exact xk ha
  · cases i with
    | zero =>
      simp at g1 g2
      subst g1 g2
      refine .cl (.ce ?_)
      show (κ ++ [x])[h.length]? = some x
      rw [← E.kl]
      simp
    | succ i =>
      have g1 : ((vs ++ us).map some)[i]? = some o := by simpa using g1
      have g2 : ((ds ++ es).map Sl.cl)[i]? = some s := by simpa using g2
      rw [List.getElem?_map] at g1 g2
      cases hd : (ds ++ es)[i]? with
      | none => rw [hd] at g2; cases g2
      | some d =>
        rw [hd] at g2
        cases g2
        have ra := E.repA hl fun x hx => List.mem_append.mpr (.inl hx)
        by_cases hi : i < ds.length
        · rw [List.getElem?_append_left hi] at hd
          obtain ⟨v, k1, k2⟩ := ra.get hd
          rw [List.getElem?_append_left (by omega), k1] at g1
          cases g1
          exact .cl (((k2.frs hm).ex keep.nil).up (l := [x]))
        · rw [List.getElem?_append_right (by omega)] at hd
          obtain ⟨v, k1, k2⟩ := (hr _).get hd
          rw [List.getElem?_append_right (by omega), hl, k1] at g1
          cases g1
          exact .cl k2
  · by_cases hk : n < κ.length
    · rw [List.getElem?_append_left hk] at g1
      rw [List.getElem?_append_left (by rw [← E.kl]; exact hk)] at g2
      have own := E.ce n p c g1 g2
      have own2 : Own (av (⟨x :: av F κ (vs.zip (ds.map W.cl) ++ st), κ ++ [x], upd (upd H dx (.own x)) x (.ins (He.ga f C) dx [])⟩ : Fm) (κ ++ [x]) []) ⟨f, κ⟩ H p c := by
        cases own with
        | lst a b => exact .lst a (b.frs hm)
        | dK a n b => exact .dK a n (b.frs hm)
        | ins a n b => exact .ins a n (b.frs hm)
      exact (own2.ex keep.nil (ex_same keep own.some)).up (l := [x])
    · rw [List.getElem?_append_right (by omega)] at g1
      rw [List.getElem?_append_right (by rw [← E.kl]; omega)] at g2
      have hz : n - κ.length = 0 := by
        have := (List.getElem?_eq_some_iff.mp g1).1
        simp at this
        omega
      have hz2 : n - h.length = 0 := by rw [← E.kl]; exact hz
      rw [hz] at g1
      rw [hz2] at g2
      simp at g1 g2
      subst g1 g2
      exact .ins (vs := []) (ds := []) upd_same rfl .nil
theorem sim_make {dvs : List D} {dvv : List V} (hd : ∀ M κ H, RepA M ⟨f, κ⟩ H dvv dvs) (hb : SimA f WW tr mr) : SimE f WW (tMake (He.ga f C) (spM f m) dvv E0 tr) (mMake keep C m dvs mr) := fun F σ H ρ h st r Q E e p => by
  rcases bindR_some e with ⟨ws, ρ1, h1, e1, e⟩ | ⟨C', fs, ρ1, h1, e1, rfl⟩
  · refine hb F σ H ρ h st _ _ E e1 fun vs H1 hl ⟨κ, E1⟩ => fun x dx hx hdx hne => ?_
    split at e
    · rename_i h' q
      cases q2 : CM.cutF keep h1 (.cl (.ce h1.length)) h' with
      | none => rw [q2] at e; cases e
      | some y =>
        rw [q2] at e
        cases e
        have E2 := E1.fzs hl
        have hl2 : vs.length = (ws.map fzW).length := by simpa using hl
        have S := E2.self (C := C) (us := dvv) (es := dvs) hl2 hx hdx hne fun M => hd M _ _
        refine ⟨_, _, _, _, _, S, q, fun v H3 ⟨κ', E3⟩ => ?_⟩
        have rv := E3.rep (List.mem_cons_self ..)
        refine ⟨rep_non rv, ?_⟩
        have keep0 := keep_new (o := .own x) (u := .ins (He.ga f C) dx []) hx hdx hne
        obtain ⟨l, e4, f4⟩ := E3.io
        have e4 : κ' = κ ++ [x] ++ l := e4
        have f4 : ∀ p ∈ l, upd (upd H1 dx (.own x)) x (.ins (He.ga f C) dx []) p = none := f4
        have h0 : ∀ p, upd (upd H1 dx (.own x)) x (.ins (He.ga f C) dx []) p = none → H1 p = none := fun p hp => by
          cases q : H1 p with
          | none => rfl
          | some u =>
            rw [ex_same keep0 (by rw [q]; exact fun z => by cases z), q] at hp
            cases hp
        -- the same, seen from ahead of the new instance
        have E4 : EnvK f κ' ⟨av F κ (vs.zip ((ws.map fzW).map W.cl) ++ st), κ, H1⟩ [] H3 [] h' [(.ref x, .cl (.ce h1.length))] := by
          have hm : ∀ y ∈ av (⟨av F κ (vs.zip ((ws.map fzW).map W.cl) ++ st), κ, H1⟩ : Fm) κ' [(V.ref x, W.cl (.ce h1.length))], y ∈ av (⟨x :: av F κ (vs.zip ((ws.map fzW).map W.cl) ++ st), κ ++ [x], upd (upd H1 dx (.own x)) x (.ins (He.ga f C) dx [])⟩ : Fm) κ' [(v, W.cl .non)] := fun y hy => by
            rcases List.mem_append.mp hy with z | z
            · exact List.mem_append.mpr (.inl (List.mem_cons_of_mem _ z))
            · rcases List.mem_append.mp z with z | z
              · exact av_ka z
              · rw [roots_cl] at z
                cases z
          refine ⟨⟨fun a ha => E2.av_some ha, fun a ha => av_ka ha⟩, rfl, E3.kl, ⟨[x] ++ l, by rw [e4, List.append_assoc], fun q hq => ?_⟩, fun a o hn z => ?_, fun a z => ?_, ?_, fun i o s g1 _ => by simp at g1, fun n p c g1 g2 => (E3.ce n p c g1 g2).mono hm, fun y hy => ?_⟩
          · rcases List.mem_append.mp hq with z | z
            · rw [List.mem_singleton.mp z]; exact hx
            · exact h0 q (f4 q z)
          · have z : H1 a = some o := z
            have hax : a ≠ x := by
              rintro rfl
              rw [hx] at z
              cases z
            exact E3.ex a o (fun z => (List.mem_append.mp z).elim hn fun z => hax (List.mem_singleton.mp z)) (keep0 a o List.not_mem_nil z)
          · exact E3.tr a (by
              show upd _ x _ a ≠ none
              rw [ex_same keep0 z]
              exact z)
          · have nd := E3.nd
            rw [roots_cl] at nd ⊢
            exact nd
          · rw [List.mem_singleton.mp hy]
            refine .cl (.ce ?_)
            show κ'[h1.length]? = some x
            rw [e4, ← E2.kl, List.append_assoc, List.getElem?_append_right (Nat.le_refl _), Nat.sub_self]
            rfl
        obtain ⟨κ5, E5⟩ := E4.cutF E2.kl E2.wfs q2
        exact p _ _ ⟨κ5, EnvK.call_end (l := vs.zip ((ws.map fzW).map W.cl)) E2 rfl E5⟩
    · cases e
  · exact hb F σ H ρ h st _ _ E e1 p
end
end CM

/-! CM7: operations on trees. -/
namespace CM
open PySem PySem.Spec PyProof.Rows L2 SL

/-! ### data -/
mutual
def pd : D → Option PyData
  | .non => some .none
  | .bl b => some (.bool b)
  | .int i => some (.int i)
  | .str z => some (.str z)
  | .lst xs => (pds xs).map .list
  | .tup xs => (pds xs).map .tuple
  | .tg _ d => pd d
  | _ => none
def pds : List D → Option (List PyData)
  | [] => some []
  | d :: ds => (pd d).bind fun x => (pds ds).map (x :: ·)
end
section
variable {f : PySem.W.Frag} {K : Kx} {M : List Addr} {H H' : Hp} {p : Addr}
theorem pd_lst {xs : List D} : pd (.lst xs) = (pds xs).map .list := by simp only [pd]
theorem pd_tup {xs : List D} : pd (.tup xs) = (pds xs).map .tuple := by simp only [pd]
mutual
theorem pd_dp : ∀ {v : V} {d : D} {x : PyData}, Rep M K H v d → pd d = some x → Dp K H v x
  | _, _, _, .non, e => by simp only [pd] at e; cases e; exact .non
  | _, _, _, .bl b, e => by simp only [pd] at e; cases e; exact .bl b
  | _, _, _, .int i, e => by simp only [pd] at e; cases e; exact .int i
  | _, _, _, .str z, e => by simp only [pd] at e; cases e; exact .str z
  | _, _, _, .ty n, e => by simp only [pd] at e; cases e
  | _, _, _, .glo n, e => by simp only [pd] at e; cases e
  | _, _, _, .scr n, e => by simp only [pd] at e; cases e
  | _, _, _, .dK h n a, e => by simp only [pd] at e; cases e
  | _, _, _, .rng h, e => by simp only [pd] at e; cases e
  | _, _, _, .bo h h2, e => by simp only [pd] at e; cases e
  | _, _, _, .ce h, e => by simp only [pd] at e; cases e
  | _, _, _, .ins h n a, e => by simp only [pd] at e; cases e
  | _, _, _, .exc h h2 n a, e => by simp only [pd] at e; cases e
  | _, _, _, .lst (ds := ds) h a, e => by
    rw [pd_lst] at e
    cases h1 : pds ds with
    | none => rw [h1] at e; cases e
    | some ys =>
      rw [h1] at e
      cases e
      exact .lst (.inl (.inl h.at_)) (pds_dp a h1)
  | _, _, _, .tup (ds := ds) h a, e => by
    rw [pd_tup] at e
    cases h1 : pds ds with
    | none => rw [h1] at e; cases e
    | some ys =>
      rw [h1] at e
      cases e
      exact .tup h.sq (pds_dp a h1)
  | _, _, _, .tg h, e => by simp only [pd] at e; exact pd_dp h e
theorem pds_dp : ∀ {vs : List V} {ds : List D} {xs : List PyData}, RepA M K H vs ds → pds ds = some xs → DpAll K H vs xs
  | _, _, _, .nil, e => by simp only [pds] at e; cases e; exact .nil
  | _, _, _, .cons (d := d) (ds := ds) h a, e => by
    simp only [pds] at e
    cases h1 : pd d with
    | none => rw [h1] at e; cases e
    | some x =>
      rw [h1] at e
      dsimp only [Option.bind_some] at e
      cases h2 : pds ds with
      | none => rw [h2] at e; cases e
      | some ys =>
        rw [h2] at e
        cases e
        exact .cons (pd_dp h h1) (pds_dp a h2)
end
theorem nr_dp {v : V} {d : D} {x : PyData} (h : Nr M K H v d) (e : pd d = some x) : Dp K H v x := pd_dp h.rep0 e
end

/-! ### the operations -/
def big : Int := 10000000000000000000000000000000000000000
def dAdd (a b : D) : Option W := match a.u, b.u with
  | .int i, .int j => some (.cl (.int (i + j)))
  | .str x, .str y => if x.length + y.length ≤ 100000 then some (.cl (.str (x ++ y))) else none
  | .lst xs, .lst ys => if xs.length + ys.length ≤ 100000 then some (.fr (xs ++ ys)) else none
  | .tup xs, .tup ys => if xs.length + ys.length ≤ 100000 then some (.cl (.tup (xs ++ ys))) else none
  | _, _ => none
def dSub (a b : D) : Option W := match a.u, b.u with
  | .int i, .int j => some (.cl (.int (i - j)))
  | _, _ => none
def dMul (a b : D) : Option W := match a.u, b.u with
  | .int i, .int j => if -big < i ∧ i < big ∧ -big < j ∧ j < big then some (.cl (.int (i * j))) else none
  | .lst xs, .int n => if 0 ≤ n ∧ n ≤ 100000 ∧ xs.length * n.toNat ≤ 100000 then some (.fr (List.replicate n.toNat xs).flatten) else none
  | .tup xs, .int n => if 2 ≤ n ∧ n ≤ 1000 ∧ xs.length ≤ 1000 ∧ xs.isEmpty = false then some (.cl (.tup (List.replicate n.toNat xs).flatten)) else none
  | _, _ => none
def dMod (a b : D) : Option W := match a.u, b.u with
  | .int i, .int j => if 0 < j then some (.cl (.int (i % j))) else none
  | _, _ => none
def dDiv (a b : D) : Option W := match a.u, b.u with
  | .int i, .int j => if 0 < j ∧ j < big then some (.cl (.int (i / j))) else none
  | _, _ => none
def dPow (a b : D) : Option W := match a.u, b.u with
  | .int i, .int j => if 0 ≤ j ∧ j ≤ 1000000 ∧ -18446744073709551616 < i ∧ i < 18446744073709551616 then some (.cl (.int (i ^ j.toNat))) else none
  | _, _ => none
def dNeg (a : D) : Option W := match a.u with
  | .int i => some (.cl (.int (-i)))
  | _ => none
def dEqB0 (a b : D) : Option Bool := (pd a).bind fun x => (pd b).bind fun y => if SeqAt.shaped x = true ∧ SeqAt.shaped y = true then some (PyData.eqv x y) else none
def dEqB (a b : D) : Option Bool := match a.u, b.u with
  | .str x, .str y => some (decide (x = y))
  | _, _ => dEqB0 a b
def dEq (a b : D) : Option W := (dEqB a b).map fun b => .cl (.bl b)
def dNe (a b : D) : Option W := (dEqB a b).map fun b => .cl (.bl (!b))
def intsOf : List D → Option (List Int)
  | [] => some []
  | d :: ds => match d.u with
    | .int i => (intsOf ds).map (i :: ·)
    | _ => none
def strsOf : List D → Option (List Str)
  | [] => some []
  | d :: ds => match d.u with
    | .str i => (strsOf ds).map (i :: ·)
    | _ => none
def blsOf : List D → Option (List Bool)
  | [] => some []
  | d :: ds => match d.u with
    | .bl i => (blsOf ds).map (i :: ·)
    | _ => none
def dLt (a b : D) : Option W := match a.u, b.u with
  | .int i, .int j => some (.cl (.bl (decide (i < j))))
  | .str x, .str y => some (.cl (.bl (decide (x.cps.toList < y.cps.toList))))
  | .tup xs, .tup ys => (intsOf xs).bind fun ns => (intsOf ys).map fun ms => .cl (.bl (HT.lexLt ns ms))
  | _, _ => none
def dLe (a b : D) : Option W := match a.u, b.u with
  | .int i, .int j => some (.cl (.bl (decide (i ≤ j))))
  | _, _ => none
def dGt (a b : D) : Option W := match a.u, b.u with
  | .int i, .int j => some (.cl (.bl (decide (j < i))))
  | _, _ => none
def dGe (a b : D) : Option W := match a.u, b.u with
  | .int i, .int j => some (.cl (.bl (decide (j ≤ i))))
  | _, _ => none
def dIs (a b : D) : Option W := match a.u, b.u with
  | .non, .non => some (.cl (.bl true))
  | _, .non => some (.cl (.bl false))
  | _, _ => none
def dIsnt (a b : D) : Option W := match a.u, b.u with
  | .non, .non => some (.cl (.bl false))
  | _, .non => some (.cl (.bl true))
  | _, _ => none
/-- a flat value -/
def flat : D → Option V
  | .non => some .non
  | .bl b => some (.bl b)
  | .int i => some (.int i)
  | .str z => some (.str z)
  | .tg _ d => flat d
  | _ => none
def flats : List D → Option (List V)
  | [] => some []
  | d :: ds => (flat d).bind fun v => (flats ds).map (v :: ·)
def dInB (a b : D) : Option Bool := match b.u with
  | .str z => match a.u with
    | .str x => match x.cps.toList with
      | [c] => some (decide (c ∈ z.cps.toList))
      | _ => none
    | _ => none
  | .lst ds => (flat a).bind fun v => (flats ds).map fun vs => inV v vs
  | .tup ds => (flat a).bind fun v => (flats ds).map fun vs => inV v vs
  | .rng lo hi => match a.u with
    | .int i => some (decide (lo ≤ i ∧ i < hi))
    | _ => none
  | _ => none
def dIn (a b : D) : Option W := (dInB a b).map fun b => .cl (.bl b)
def dNi (a b : D) : Option W := match b.u with
  | .rng _ _ => none
  | _ => (dInB a b).map fun b => .cl (.bl (!b))
def dIx (a b : D) : Option W := match a.u, b.u with
  | .lst ds, .int i => (atI ds i).map .cl
  | .tup ds, .int i => (atI ds i).map .cl
  | .scr ns, .int i => (atI ns i).map fun n => .cl (.int n)
  | .str z, .int i => if z.length ≤ 100000 then (atI z.cps.toList i).map fun c => .cl (.str ⟨#[c]⟩) else none
  | _, _ => none
def cutL {α : Type} (xs : List α) (lo hi : Option Int) : List α := (xs.drop (HT.sIx xs.length 0 lo)).take (HT.sIx xs.length xs.length hi - HT.sIx xs.length 0 lo)
def dSl (a : D) (lo hi : Option Int) : Option W := match a.u with
  | .str z => if z.length ≤ 100000 then some (.cl (.str (cutS z lo hi))) else none
  | .lst ds => some (.fr (cutL ds lo hi))
  | .tup ds => some (.cl (.tup (cutL ds lo hi)))
  | _ => none
def dLen : List D → Option W
  | [a] => match a.u with
    | .str z => if z.length ≤ 100000 then some (.cl (.int z.length)) else none
    | .lst ds => some (.cl (.int ds.length))
    | .tup ds => some (.cl (.int ds.length))
    | .scr ds => some (.cl (.int ds.length))
    | _ => none
  | _ => none
def dMax2 : List D → Option W
  | [a, b] => match a.u, b.u with
    | .int i, .int j => some (.cl (.int (if j > i then j else i)))
    | _, _ => none
  | _ => none
def dMin2 : List D → Option W
  | [a, b] => match a.u, b.u with
    | .int i, .int j => some (.cl (.int (if j < i then j else i)))
    | _, _ => none
  | _ => none
def dAll : List D → Option W
  | [a] => match a.u with
    | .lst ds => (blsOf ds).map fun bs => .cl (.bl (bs.all id))
    | _ => none
  | _ => none
def dAny : List D → Option W
  | [a] => match a.u with
    | .lst ds => (blsOf ds).map fun bs => .cl (.bl (bs.any id))
    | _ => none
  | _ => none
def dSum : List D → Option W
  | [a] => match a.u with
    | .lst ds => (intsOf ds).map fun bs => .cl (.int bs.sum)
    | _ => none
  | _ => none
def dStr : List D → Option W
  | [a] => match a.u with
    | .int i => if -100000000000000000000000000000000000000000000000000 < i ∧ i < 100000000000000000000000000000000000000000000000000 then some (.cl (.str (Str.ofString (toString i)))) else none
    | .str z => some (.cl (.str z))
    | _ => none
  | _ => none
def dInt : List D → Option W
  | [a] => match a.u with
    | .int i => some (.cl (.int i))
    | .bl b => some (.cl (.int (if b then 1 else 0)))
    | _ => none
  | _ => none
def dList : List D → Option W
  | [a] => match a.u with
    | .lst ds => some (.fr ds)
    | .tup ds => some (.fr ds)
    | _ => none
  | _ => none
def dTuple : List D → Option W
  | [a] => match a.u with
    | .lst ds => some (.cl (.tup ds))
    | .tup ds => some (.cl (.tup ds))
    | _ => none
  | _ => none
def dRng2 : List D → Option W
  | [a, b] => match a.u, b.u with
    | .int i, .int j => some (.cl (.rng i j))
    | _, _ => none
  | _ => none
/-- data whose repr is told -/
def showsB (x : PyData) : Bool := x.showable && (x.leavesShort 60 && (decide (x.bulk ≤ 200000) && decide (x.depth ≤ 60)))
def dRepr : List D → Option W
  | [a] => (pd a).bind fun x => if showsB x = true then some (.cl (.str x.shown)) else none
  | _ => none
def insS (z : Str) : List Str → List Str
  | [] => [z]
  | y :: ys => if z.cps.toList < y.cps.toList then z :: y :: ys else y :: insS z ys
def sortS : List Str → List Str
  | [] => []
  | z :: zs => insS z (sortS zs)
section
variable {f : PySem.W.Frag} {K : Kx} {M : List Addr} {H H' : Hp} {p : Addr} {v : V} {d : D} {vs : List V} {ds : List D}
theorem ints_of : ∀ {vs : List V} {ds : List D} {ns : List Int}, RepA M K H vs ds → intsOf ds = some ns → vs = ns.map V.int
  | _, _, _, .nil, e => by cases e; rfl
  | _, _, ns, .cons (v := v) (vs := vs) (d := d) (ds := ds) h a, e => by
    have e : (match d.u with
      | .int i => (intsOf ds).map (i :: ·)
      | _ => none) = some ns := e
    have h := h.u
    split at e
    · rename_i i hi
      rw [hi] at h
      cases h1 : intsOf ds with
      | none => rw [h1] at e; cases e
      | some ms =>
        rw [h1] at e
        cases e
        rw [rep_int h, ints_of a h1]
        rfl
    · cases e
theorem strs_of : ∀ {vs : List V} {ds : List D} {ns : List Str}, RepA M K H vs ds → strsOf ds = some ns → vs = ns.map V.str
  | _, _, _, .nil, e => by cases e; rfl
  | _, _, ns, .cons (v := v) (vs := vs) (d := d) (ds := ds) h a, e => by
    have e : (match d.u with
      | .str i => (strsOf ds).map (i :: ·)
      | _ => none) = some ns := e
    have h := h.u
    split at e
    · rename_i i hi
      rw [hi] at h
      cases h1 : strsOf ds with
      | none => rw [h1] at e; cases e
      | some ms =>
        rw [h1] at e
        cases e
        rw [rep_str h, strs_of a h1]
        rfl
    · cases e
theorem bls_of : ∀ {vs : List V} {ds : List D} {ns : List Bool}, RepA M K H vs ds → blsOf ds = some ns → vs = ns.map V.bl
  | _, _, _, .nil, e => by cases e; rfl
  | _, _, ns, .cons (v := v) (vs := vs) (d := d) (ds := ds) h a, e => by
    have e : (match d.u with
      | .bl i => (blsOf ds).map (i :: ·)
      | _ => none) = some ns := e
    have h := h.u
    split at e
    · rename_i i hi
      rw [hi] at h
      cases h1 : blsOf ds with
      | none => rw [h1] at e; cases e
      | some ms =>
        rw [h1] at e
        cases e
        rw [rep_bl h, bls_of a h1]
        rfl
    · cases e
theorem flat_of : ∀ {v : V} {d : D} {x : V}, Rep M K H v d → flat d = some x → v = x ∧ flatV x = true
  | _, _, _, .non, e => by simp only [flat] at e; cases e; exact ⟨rfl, rfl⟩
  | _, _, _, .bl b, e => by simp only [flat] at e; cases e; exact ⟨rfl, rfl⟩
  | _, _, _, .int i, e => by simp only [flat] at e; cases e; exact ⟨rfl, rfl⟩
  | _, _, _, .str z, e => by simp only [flat] at e; cases e; exact ⟨rfl, rfl⟩
  | _, _, _, .tg h, e => by simp only [flat] at e; exact flat_of h e
  | _, _, _, .ty n, e => by simp only [flat] at e; cases e
  | _, _, _, .glo n, e => by simp only [flat] at e; cases e
  | _, _, _, .scr n, e => by simp only [flat] at e; cases e
  | _, _, _, .lst n a, e => by simp only [flat] at e; cases e
  | _, _, _, .tup n a, e => by simp only [flat] at e; cases e
  | _, _, _, .dK h n a, e => by simp only [flat] at e; cases e
  | _, _, _, .rng h, e => by simp only [flat] at e; cases e
  | _, _, _, .bo h h2, e => by simp only [flat] at e; cases e
  | _, _, _, .ce h, e => by simp only [flat] at e; cases e
  | _, _, _, .ins h n a, e => by simp only [flat] at e; cases e
  | _, _, _, .exc h h2 n a, e => by simp only [flat] at e; cases e
theorem flats_of : ∀ {vs : List V} {ds : List D} {xs : List V}, RepA M K H vs ds → flats ds = some xs → vs = xs ∧ xs.all flatV = true
  | _, _, _, .nil, e => by cases e; exact ⟨rfl, rfl⟩
  | _, _, xs, .cons (v := v) (vs := vs) (d := d) (ds := ds) h a, e => by
    have e : ((flat d).bind fun v => (flats ds).map (v :: ·)) = some xs := e
    cases h1 : flat d with
    | none => rw [h1] at e; cases e
    | some x =>
      rw [h1] at e
      dsimp only [Option.bind_some] at e
      cases h2 : flats ds with
      | none => rw [h2] at e; cases e
      | some ys =>
        rw [h2] at e
        cases e
        obtain ⟨a1, a2⟩ := flat_of h h1
        obtain ⟨b1, b2⟩ := flats_of a h2
        rw [a1, b1]
        exact ⟨rfl, by rw [List.all_cons, a2, b2]; rfl⟩
theorem RepA.cut {lo hi : Option Int} (h : RepA M K H vs ds) : RepA M K H (cutV vs lo hi) (cutL ds lo hi) := by
  unfold cutV cutL
  rw [h.len]
  exact (h.drop _).take _
theorem RepA.rep : ∀ (n : Nat), RepA M K H vs ds → RepA M K H (List.replicate n vs).flatten (List.replicate n ds).flatten
  | 0, _ => .nil
  | n + 1, h => by
    rw [List.replicate_succ, List.replicate_succ, List.flatten_cons, List.flatten_cons]
    exact h.append (RepA.rep n h)
theorem RepA.atI {i : Int} (h : RepA M K H vs ds) (e : atI ds i = some d) : ∃ v, L2.atI vs i = some v ∧ Rep M K H v d := by
  unfold L2.atI at e ⊢
  rw [h.len]
  cases h1 : ixN ds.length i with
  | none => rw [h1] at e; cases e
  | some k =>
    rw [h1] at e
    exact h.get e
theorem wmul {i j : Int} (h : -big < i ∧ i < big ∧ -big < j ∧ j < big) : CMulW i j := by
  unfold big at h
  refine wide_mul (a := 140) (b := 140) ?_ ?_ (by decide) (by decide) (by decide)
  · have : (2 : Nat) ^ 140 = 1393796574908163946345982392040522594123776 := by decide
    omega
  · have : (2 : Nat) ^ 140 = 1393796574908163946345982392040522594123776 := by decide
    omega
theorem wdiv {i j : Int} (h : 0 < j ∧ j < big) : CDivW i j := by
  unfold big at h
  refine wide_div (b := 140) h.1 ?_ (by decide) (by decide)
  have : (2 : Nat) ^ 140 = 1393796574908163946345982392040522594123776 := by decide
  omega
theorem o_add : Op2 f (uAdd f) dAdd := fun κ M H x y dx dy w Q hM nx ny e q => by
  unfold dAdd at e
  split at e
  · rename_i i j h1 h2
    cases e
    rw [nr_int nx h1, nr_int ny h2]
    exact u_add_i (q _ _ Ex.refl (.cl (.int _)))
  · rename_i i j h1 h2
    split at e
    · cases e
      rw [nr_str nx h1, nr_str ny h2]
      exact u_add_s (sz_le ‹_›) (q _ _ Ex.refl (.cl (.str _)))
    · cases e
  · rename_i i j h1 h2
    obtain ⟨a, xs, rfl, s1, r1⟩ := nr_lst nx h1
    obtain ⟨b, ys, rfl, s2, r2⟩ := nr_lst ny h2
    split at e
    · cases e
      exact u_add_l s1 s2 (sz_le (by rw [r1.len, r2.len]; assumption)) fun p hp => q _ _ (Ex.new hp) (Nw.new hp (r1.append r2))
    · cases e
  · rename_i i j h1 h2
    have ux := nx.u
    have uy := ny.u
    rw [h1] at ux
    rw [h2] at uy
    cases ux with
    | own r => cases r
    | cl rx =>
      cases uy with
      | own r => cases r
      | cl ry =>
        cases rx with
        | @tup a xs _ s1 r1 =>
          cases ry with
          | @tup b ys _ s2 r2 =>
            split at e
            · cases e
              refine u_add_t s1.sq s2.sq (sz_le (by rw [r1.len, r2.len]; assumption)) (fun h => ?_) (fun _ h => ?_) fun _ _ p hp => q _ _ (Ex.new hp) (Nw.tup hp (hM p hp) (r1.append r2))
              · subst h
                cases r1
                exact q _ _ Ex.refl (.cl (.tup s2 r2))
              · subst h
                cases r2
                rw [List.append_nil] at q
                exact q _ _ Ex.refl (.cl (.tup s1 r1))
            · cases e
  · cases e
theorem o_sub : Op2 f SL.rSub dSub := fun κ M H x y dx dy w Q hM nx ny e q => by
  unfold dSub at e
  split at e
  · rename_i i j h1 h2
    cases e
    rw [nr_int nx h1, nr_int ny h2]
    exact u_sub (q _ _ Ex.refl (.cl (.int _)))
  · cases e
theorem o_mul : Op2 f (uMul f) dMul := fun κ M H x y dx dy w Q hM nx ny e q => by
  unfold dMul at e
  split at e
  · rename_i i j h1 h2
    split at e
    · cases e
      rw [nr_int nx h1, nr_int ny h2]
      exact u_mul (wmul ‹_›) (q _ _ Ex.refl (.cl (.int _)))
    · cases e
  · rename_i xs n h1 h2
    obtain ⟨a, xs, rfl, s1, r1⟩ := nr_lst nx h1
    rw [nr_int ny h2]
    split at e
    · rename_i hb
      cases e
      exact u_mul_l s1 hb.1 (by omega) (sz_le (by rw [r1.len]; exact hb.2.2)) fun p hp => q _ _ (Ex.new hp) (Nw.new hp (r1.rep _))
    · cases e
  · rename_i xs n h1 h2
    obtain ⟨a, xs, rfl, s1, r1⟩ := nr_tup nx h1
    rw [nr_int ny h2]
    split at e
    · rename_i hb
      cases e
      refine .inr (.inr ⟨a, n, xs, rfl, rfl, s1, ?_, hb.1, hb.2.1, by rw [r1.len]; exact hb.2.2.1, fun p hp => q _ _ (Ex.new hp) (Nw.tup hp (hM p hp) (r1.rep _))⟩)
      intro z
      subst z
      cases r1
      exact absurd hb.2.2.2 (by simp)
    · cases e
  · cases e
theorem o_mod : Op2 f SL.rMod dMod := fun κ M H x y dx dy w Q hM nx ny e q => by
  unfold dMod at e
  split at e
  · rename_i i j h1 h2
    split at e
    · cases e
      rw [nr_int nx h1, nr_int ny h2]
      exact u_modp ‹_› (q _ _ Ex.refl (.cl (.int _)))
    · cases e
  · cases e
theorem o_div : Op2 f SL.rDiv dDiv := fun κ M H x y dx dy w Q hM nx ny e q => by
  unfold dDiv at e
  split at e
  · rename_i i j h1 h2
    split at e
    · cases e
      rw [nr_int nx h1, nr_int ny h2]
      exact u_div (wdiv ‹_›) (q _ _ Ex.refl (.cl (.int _)))
    · cases e
  · cases e
theorem o_pow : Op2 f SL.rPow dPow := fun κ M H x y dx dy w Q hM nx ny e q => by
  unfold dPow at e
  split at e
  · rename_i i j h1 h2
    split at e
    · rename_i hb
      cases e
      rw [nr_int nx h1, nr_int ny h2]
      exact u_pow ⟨hb.1, hb.2.1, by
        have : (2 : Nat) ^ 64 = 18446744073709551616 := by decide
        omega⟩ (q _ _ Ex.refl (.cl (.int _)))
    · cases e
  · cases e
theorem o_neg : Op1 f SL.rNeg dNeg := fun κ M H x dx w Q hM nx e q => by
  unfold dNeg at e
  split at e
  · rename_i i h1
    cases e
    rw [nr_int nx h1]
    exact u_neg (q _ _ Ex.refl (.cl (.int _)))
  · cases e
theorem eqB {M : List Addr} {H : Hp} {x y : V} {dx dy : D} {b : Bool} (nx : Nr M K H x dx) (ny : Nr M K H y dy) (e : dEqB0 dx dy = some b) : ∃ d e, Dp K H x d ∧ Dp K H y e ∧ SeqAt.shaped d = true ∧ SeqAt.shaped e = true ∧ PyData.eqv d e = b := by
  unfold dEqB0 at e
  cases h1 : pd dx with
  | none => rw [h1] at e; cases e
  | some d1 =>
    rw [h1] at e
    dsimp only [Option.bind_some] at e
    cases h2 : pd dy with
    | none => rw [h2] at e; cases e
    | some d2 =>
      rw [h2] at e
      dsimp only [Option.bind_some] at e
      split at e
      · rename_i hs
        cases e
        exact ⟨d1, d2, nr_dp nx h1, nr_dp ny h2, hs.1, hs.2, rfl⟩
      · cases e
theorem eqC {dx dy : D} {b : Bool} (e : dEqB dx dy = some b) : (∃ x y, dx.u = .str x ∧ dy.u = .str y ∧ b = decide (x = y)) ∨ dEqB0 dx dy = some b := by
  unfold dEqB at e
  split at e
  · rename_i x y h1 h2
    cases e
    exact .inl ⟨x, y, h1, h2, rfl⟩
  · exact .inr e
theorem o_eq : Op2 f (uEq f) dEq := fun κ M H x y dx dy w Q hM nx ny e q => by
  unfold dEq at e
  cases h : dEqB dx dy with
  | none => rw [h] at e; cases e
  | some b =>
    rw [h] at e
    cases e
    rcases eqC h with ⟨s, t, h1, h2, rfl⟩ | h
    · rw [nr_str nx h1, nr_str ny h2]
      exact u_eq_s (q _ _ Ex.refl (.cl (.bl _)))
    · obtain ⟨d1, d2, a1, a2, a3, a4, rfl⟩ := eqB nx ny h
      exact u_eq_d a1 a2 a3 a4 (q _ _ Ex.refl (.cl (.bl _)))
theorem o_ne : Op2 f (uNe f) dNe := fun κ M H x y dx dy w Q hM nx ny e q => by
  unfold dNe at e
  cases h : dEqB dx dy with
  | none => rw [h] at e; cases e
  | some b =>
    rw [h] at e
    cases e
    rcases eqC h with ⟨s, t, h1, h2, rfl⟩ | h
    · rw [nr_str nx h1, nr_str ny h2]
      exact u_ne_s (q _ _ Ex.refl (.cl (.bl _)))
    · obtain ⟨d1, d2, a1, a2, a3, a4, rfl⟩ := eqB nx ny h
      exact u_ne_d a1 a2 a3 a4 (q _ _ Ex.refl (.cl (.bl _)))
theorem o_lt : Op2 f (uLt f) dLt := fun κ M H x y dx dy w Q hM nx ny e q => by
  unfold dLt at e
  split at e
  · rename_i i j h1 h2
    cases e
    rw [nr_int nx h1, nr_int ny h2]
    exact u_lt_i (q _ _ Ex.refl (.cl (.bl _)))
  · rename_i i j h1 h2
    cases e
    rw [nr_str nx h1, nr_str ny h2]
    exact u_lt_s (q _ _ Ex.refl (.cl (.bl _)))
  · rename_i i j h1 h2
    obtain ⟨a, xs, rfl, s1, r1⟩ := nr_tup nx h1
    obtain ⟨b, ys, rfl, s2, r2⟩ := nr_tup ny h2
    cases h3 : intsOf i with
    | none => rw [h3] at e; cases e
    | some ns =>
      rw [h3] at e
      dsimp only [Option.bind_some] at e
      cases h4 : intsOf j with
      | none => rw [h4] at e; cases e
      | some ms =>
        rw [h4] at e
        cases e
        rw [ints_of r1 h3] at s1
        rw [ints_of r2 h4] at s2
        exact .inr (.inr ⟨a, b, ns, ms, rfl, rfl, s1, s2, q _ _ Ex.refl (.cl (.bl _))⟩)
  · cases e
theorem o_le : Op2 f uLe dLe := fun κ M H x y dx dy w Q hM nx ny e q => by
  unfold dLe at e
  split at e
  · rename_i i j h1 h2
    cases e
    rw [nr_int nx h1, nr_int ny h2]
    exact u_le_i (q _ _ Ex.refl (.cl (.bl _)))
  · cases e
theorem o_gt : Op2 f SL.rGt dGt := fun κ M H x y dx dy w Q hM nx ny e q => by
  unfold dGt at e
  split at e
  · rename_i i j h1 h2
    cases e
    rw [nr_int nx h1, nr_int ny h2]
    exact u_gt_i (q _ _ Ex.refl (.cl (.bl _)))
  · cases e
theorem o_ge : Op2 f SL.rGe dGe := fun κ M H x y dx dy w Q hM nx ny e q => by
  unfold dGe at e
  split at e
  · rename_i i j h1 h2
    cases e
    rw [nr_int nx h1, nr_int ny h2]
    exact u_ge_i (q _ _ Ex.refl (.cl (.bl _)))
  · cases e
theorem rep_vnon : ∀ (d : D), Rep M K H .non d → d.u = .non
  | .tg v d, h => by
    cases h with
    | tg h => exact rep_vnon d h
  | .non, _ => rfl
  | .bl _, h => by cases h
  | .int _, h => by cases h
  | .str _, h => by cases h
  | .ty _, h => by cases h
  | .glo _, h => by cases h
  | .lst _, h => by cases h
  | .scr _, h => by cases h
  | .tup _, h => by cases h
  | .dK _, h => by cases h
  | .rng _ _, h => by cases h
  | .bo w d e, h => by cases h
  | .ce n, h => by cases h
  | .ins _ _, h => by cases h
  | .exc _ _, h => by cases h
theorem rep_ne_non {x : V} (h : Rep M K H x d) (hd : d.u = .non → False) : x ≠ .non := fun z => hd (rep_vnon d (by rw [← z]; exact h))
theorem o_is : Op2 f uIs dIs := fun κ M H x y dx dy w Q hM nx ny e q => by
  unfold dIs at e
  split at e
  · rename_i h1 h2
    cases e
    rw [nr_non nx h1, nr_non ny h2]
    exact ⟨rfl, q _ _ Ex.refl (.cl (.bl _))⟩
  · rename_i h2 h0
    cases e
    rw [nr_non ny h2]
    refine ⟨rfl, ?_⟩
    rw [decide_eq_false (rep_ne_non nx.rep0 h0)]
    exact q _ _ Ex.refl (.cl (.bl _))
  · cases e
theorem o_isnt : Op2 f uIsnt dIsnt := fun κ M H x y dx dy w Q hM nx ny e q => by
  unfold dIsnt at e
  split at e
  · rename_i h1 h2
    cases e
    rw [nr_non nx h1, nr_non ny h2]
    exact ⟨rfl, q _ _ Ex.refl (.cl (.bl _))⟩
  · rename_i h2 h0
    cases e
    rw [nr_non ny h2]
    refine ⟨rfl, ?_⟩
    rw [decide_eq_false (rep_ne_non nx.rep0 h0)]
    exact q _ _ Ex.refl (.cl (.bl _))
  · cases e
theorem nr_rng {M : List Addr} {v : V} {d : D} {lo hi : Int} (h : Nr M K H v d) (e : d.u = .rng lo hi) : ∃ a, v = .ref a ∧ H a = some (.rng lo hi) := by
  have h := h.u
  rw [e] at h
  cases h with
  | cl r => cases r with | rng a => exact ⟨_, rfl, a.at_⟩
  | own r => cases r
theorem nr_scr {M : List Addr} {v : V} {d : D} {ns : List Int} (h : Nr M K H v d) (e : d.u = .scr ns) : ∃ a, v = .ref a ∧ SqL K H a (ns.map V.int) := by
  have h := h.u
  rw [e] at h
  cases h with
  | cl r => cases r with | scr a => exact ⟨_, rfl, a.sq⟩
  | own r => cases r
theorem nr_flat {M : List Addr} {v x : V} {d : D} (h : Nr M K H v d) (e : flat d = some x) : v = x ∧ flatV x = true := flat_of h.rep0 e
theorem str1 {x : Str} {c : Nat} (h : x.cps.toList = [c]) : x = ⟨#[c]⟩ := str_ext h
theorem inB {neg : Bool} {M : List Addr} {x y : V} {dx dy : D} {b : Bool} (nx : Nr M K H x dx) (ny : Nr M K H y dy) (e : dInB dx dy = some b) :
    (∃ (c : Nat) (z : Str), x = .str ⟨#[c]⟩ ∧ y = .str z ∧ b = decide (c ∈ z.cps.toList)) ∨ (∃ p xs, y = .ref p ∧ (SqL K H p xs ∨ SqT K H p xs) ∧ flatV x = true ∧ xs.all flatV = true ∧ b = inV x xs) ∨ (∃ i a lo hi, x = V.int i ∧ y = V.ref a ∧ H a = some (.rng lo hi) ∧ b = decide (lo ≤ i ∧ i < hi) ∧ dy.u = .rng lo hi) := by
  unfold dInB at e
  split at e
  · rename_i z h2
    split at e
    · rename_i x' h1
      split at e
      · rename_i c hc
        cases e
        exact .inl ⟨c, z, by rw [nr_str nx h1, str1 hc], nr_str ny h2, rfl⟩
      · cases e
    · cases e
  · rename_i ds h2
    obtain ⟨a, xs, rfl, s1, r1⟩ := nr_lst ny h2
    cases h3 : flat dx with
    | none => rw [h3] at e; cases e
    | some v =>
      rw [h3] at e
      dsimp only [Option.bind_some] at e
      cases h4 : flats ds with
      | none => rw [h4] at e; cases e
      | some vs =>
        rw [h4] at e
        cases e
        obtain ⟨a1, a2⟩ := nr_flat nx h3
        obtain ⟨b1, b2⟩ := flats_of r1 h4
        subst a1 b1
        exact .inr (.inl ⟨a, xs, rfl, .inl (.inl (.inl s1)), a2, b2, rfl⟩)
  · rename_i ds h2
    obtain ⟨a, xs, rfl, s1, r1⟩ := nr_tup ny h2
    cases h3 : flat dx with
    | none => rw [h3] at e; cases e
    | some v =>
      rw [h3] at e
      dsimp only [Option.bind_some] at e
      cases h4 : flats ds with
      | none => rw [h4] at e; cases e
      | some vs =>
        rw [h4] at e
        cases e
        obtain ⟨a1, a2⟩ := nr_flat nx h3
        obtain ⟨b1, b2⟩ := flats_of r1 h4
        subst a1 b1
        exact .inr (.inl ⟨a, xs, rfl, .inr s1, a2, b2, rfl⟩)
  · rename_i lo hi h2
    obtain ⟨a, rfl, s1⟩ := nr_rng ny h2
    split at e
    · rename_i i h1
      cases e
      exact .inr (.inr ⟨i, a, lo, hi, nr_int nx h1, rfl, s1, rfl, h2⟩)
    · cases e
  · cases e
theorem o_in : Op2 f (uIn f) dIn := fun κ M H x y dx dy w Q hM nx ny e q => by
  unfold dIn at e
  cases h : dInB dx dy with
  | none => rw [h] at e; cases e
  | some b =>
    rw [h] at e
    cases e
    rcases inB (neg := false) nx ny h with ⟨c, z, rfl, rfl, rfl⟩ | ⟨p, xs, rfl, s, f1, f2, rfl⟩ | ⟨i, a, lo, hi, rfl, rfl, s, rfl, _⟩
    · exact u_in_s (q _ _ Ex.refl (.cl (.bl _)))
    · exact u_in_l s f1 f2 (q _ _ Ex.refl (.cl (.bl _)))
    · exact u_in_r s (q _ _ Ex.refl (.cl (.bl _)))
theorem o_ni : Op2 f (uNi f) dNi := fun κ M H x y dx dy w Q hM nx ny e q => by
  unfold dNi at e
  split at e
  · cases e
  · rename_i hr
    cases h : dInB dx dy with
    | none => rw [h] at e; cases e
    | some b =>
      rw [h] at e
      cases e
      rcases inB (neg := true) nx ny h with ⟨c, z, rfl, rfl, rfl⟩ | ⟨p, xs, rfl, s, f1, f2, rfl⟩ | ⟨i, a, lo, hi, rfl, rfl, s, rfl, h2⟩
      · exact u_ni_s (q _ _ Ex.refl (.cl (.bl _)))
      · exact u_ni_l s f1 f2 (q _ _ Ex.refl (.cl (.bl _)))
      · exact absurd h2 (fun z => hr _ _ z)
theorem o_ix : Op2 f (uIx f) dIx := fun κ M H x y dx dy w Q hM nx ny e q => by
  unfold dIx at e
  split at e
  · rename_i ds i h1 h2
    obtain ⟨a, xs, rfl, s1, r1⟩ := nr_lst nx h1
    rw [nr_int ny h2]
    cases h3 : L2.atI ds i with
    | none => rw [h3] at e; cases e
    | some d =>
      rw [h3] at e
      cases e
      obtain ⟨v, h4, h5⟩ := r1.atI h3
      exact u_ix_l (.inl (.inl s1)) h4 (q _ _ Ex.refl (.cl h5))
  · rename_i ds i h1 h2
    obtain ⟨a, xs, rfl, s1, r1⟩ := nr_tup nx h1
    rw [nr_int ny h2]
    cases h3 : L2.atI ds i with
    | none => rw [h3] at e; cases e
    | some d =>
      rw [h3] at e
      cases e
      obtain ⟨v, h4, h5⟩ := r1.atI h3
      exact u_ix_t s1 h4 (q _ _ Ex.refl (.cl h5))
  · rename_i ns i h1 h2
    obtain ⟨a, rfl, s1⟩ := nr_scr nx h1
    rw [nr_int ny h2]
    cases h3 : L2.atI ns i with
    | none => rw [h3] at e; cases e
    | some n =>
      rw [h3] at e
      cases e
      refine u_ix_l s1 (v := .int n) ?_ (q _ _ Ex.refl (.cl (.int _)))
      unfold L2.atI at h3 ⊢
      rw [List.length_map]
      cases h4 : ixN ns.length i with
      | none => rw [h4] at h3; cases h3
      | some k =>
        rw [h4] at h3
        have h3 : ns[k]? = some n := h3
        show (ns.map V.int)[k]? = some (V.int n)
        rw [List.getElem?_map, h3]
        rfl
  · rename_i z i h1 h2
    rw [nr_str nx h1, nr_int ny h2]
    split at e
    · rename_i hl
      cases h3 : L2.atI z.cps.toList i with
      | none => rw [h3] at e; cases e
      | some c =>
        rw [h3] at e
        cases e
        exact u_ix_s (sz_le hl) h3 (q _ _ Ex.refl (.cl (.str _)))
    · cases e
  · cases e
theorem o_len : OpN f (uLen f) dLen := fun κ M H xs ds w Q hM nr e q => by
  unfold dLen at e
  split at e
  · rename_i a
    obtain ⟨v, rfl, n⟩ := nra1 nr
    split at e
    · rename_i z h
      rw [nr_str n h]
      split at e
      · cases e
        exact u_len_s (sz_le ‹_›) (q _ _ Ex.refl (.cl (.int _)))
      · cases e
    · rename_i ds h
      obtain ⟨a, xs, rfl, s1, r1⟩ := nr_lst n h
      cases e
      refine u_len_q (.inl (.inl (.inl s1))) ?_
      rw [r1.len]
      exact q _ _ Ex.refl (.cl (.int _))
    · rename_i ds h
      obtain ⟨a, xs, rfl, s1, r1⟩ := nr_tup n h
      cases e
      refine u_len_q (.inr s1) ?_
      rw [r1.len]
      exact q _ _ Ex.refl (.cl (.int _))
    · rename_i ds h
      obtain ⟨a, rfl, s1⟩ := nr_scr n h
      cases e
      refine u_len_q (.inl s1) ?_
      rw [List.length_map]
      exact q _ _ Ex.refl (.cl (.int _))
    · cases e
  · cases e
theorem o_max2 : OpN f SL.rMax2 dMax2 := fun κ M H xs ds w Q hM nr e q => by
  unfold dMax2 at e
  split at e
  · obtain ⟨v, u, rfl, n, m⟩ := nra2 nr
    split at e
    · rename_i i j h1 h2
      cases e
      rw [nr_int n h1, nr_int m h2]
      exact u_max2 (q _ _ Ex.refl (.cl (.int _)))
    · cases e
  · cases e
theorem o_min2 : OpN f SL.rMin2 dMin2 := fun κ M H xs ds w Q hM nr e q => by
  unfold dMin2 at e
  split at e
  · obtain ⟨v, u, rfl, n, m⟩ := nra2 nr
    split at e
    · rename_i i j h1 h2
      cases e
      rw [nr_int n h1, nr_int m h2]
      exact u_min2 (q _ _ Ex.refl (.cl (.int _)))
    · cases e
  · cases e
theorem o_all : OpN f (SL.rAllL f) dAll := fun κ M H xs ds w Q hM nr e q => by
  unfold dAll at e
  split at e
  · obtain ⟨v, rfl, n⟩ := nra1 nr
    split at e
    · rename_i ds h1
      obtain ⟨a, xs, rfl, s1, r1⟩ := nr_lst n h1
      cases h2 : blsOf ds with
      | none => rw [h2] at e; cases e
      | some bs =>
        rw [h2] at e
        cases e
        rw [bls_of r1 h2] at s1
        exact u_all (.inl (.inl s1)) (q _ _ Ex.refl (.cl (.bl _)))
    · cases e
  · cases e
theorem o_any : OpN f (SL.rAnyL f) dAny := fun κ M H xs ds w Q hM nr e q => by
  unfold dAny at e
  split at e
  · obtain ⟨v, rfl, n⟩ := nra1 nr
    split at e
    · rename_i ds h1
      obtain ⟨a, xs, rfl, s1, r1⟩ := nr_lst n h1
      cases h2 : blsOf ds with
      | none => rw [h2] at e; cases e
      | some bs =>
        rw [h2] at e
        cases e
        rw [bls_of r1 h2] at s1
        exact u_any (.inl (.inl s1)) (q _ _ Ex.refl (.cl (.bl _)))
    · cases e
  · cases e
theorem o_sum : OpN f (SL.rSumL f) dSum := fun κ M H xs ds w Q hM nr e q => by
  unfold dSum at e
  split at e
  · obtain ⟨v, rfl, n⟩ := nra1 nr
    split at e
    · rename_i ds h1
      obtain ⟨a, xs, rfl, s1, r1⟩ := nr_lst n h1
      cases h2 : intsOf ds with
      | none => rw [h2] at e; cases e
      | some bs =>
        rw [h2] at e
        cases e
        rw [ints_of r1 h2] at s1
        exact ⟨a, bs, rfl, .inl (.inl s1), q _ _ Ex.refl (.cl (.int _))⟩
    · cases e
  · cases e
theorem o_str : OpN f (SL.uStr f) dStr := fun κ M H xs ds w Q hM nr e q => by
  unfold dStr at e
  split at e
  · obtain ⟨v, rfl, n⟩ := nra1 nr
    split at e
    · rename_i i h1
      rw [nr_int n h1]
      split at e
      · rename_i hb
        cases e
        exact u_str_i (log_10 (by omega)) (q _ _ Ex.refl (.cl (.str _)))
      · cases e
    · rename_i z h1
      rw [nr_str n h1]
      cases e
      exact u_str_s (q _ _ Ex.refl (.cl (.str _)))
    · cases e
  · cases e
theorem o_int : OpN f SL.uInt dInt := fun κ M H xs ds w Q hM nr e q => by
  unfold dInt at e
  split at e
  · obtain ⟨v, rfl, n⟩ := nra1 nr
    split at e
    · rename_i i h1
      rw [nr_int n h1]
      cases e
      exact .inl ⟨i, rfl, q _ _ Ex.refl (.cl (.int _))⟩
    · rename_i z h1
      rw [nr_bl n h1]
      cases e
      exact .inr ⟨z, rfl, q _ _ Ex.refl (.cl (.int _))⟩
    · cases e
  · cases e
theorem o_list : OpN f (SL.uList f) dList := fun κ M H xs ds w Q hM nr e q => by
  unfold dList at e
  split at e
  · obtain ⟨v, rfl, n⟩ := nra1 nr
    split at e
    · rename_i ds h1
      obtain ⟨a, xs, rfl, s1, r1⟩ := nr_lst n h1
      cases e
      exact u_list (.inl (.inl (.inl s1))) fun p hp => q _ _ (Ex.new hp) (Nw.new hp r1)
    · rename_i ds h1
      obtain ⟨a, xs, rfl, s1, r1⟩ := nr_tup n h1
      cases e
      exact u_list (.inr s1) fun p hp => q _ _ (Ex.new hp) (Nw.new hp r1)
    · cases e
  · cases e
theorem o_tuple : OpN f (SL.uTuple f) dTuple := fun κ M H xs ds w Q hM nr e q => by
  unfold dTuple at e
  split at e
  · obtain ⟨v, rfl, n⟩ := nra1 nr
    split at e
    · rename_i ds h1
      obtain ⟨a, xs, rfl, s1, r1⟩ := nr_lst n h1
      cases e
      exact ⟨a, xs, rfl, .inl ⟨.inl (.inl s1), fun p hp => q _ _ (Ex.new hp) (Nw.tup hp (hM p hp) r1)⟩⟩
    · rename_i ds h1
      cases e
      have n := n.u
      rw [h1] at n
      cases n with
      | own r => cases r
      | cl r =>
        cases r with
        | @tup a xs _ s1 r1 => exact ⟨a, xs, rfl, .inr ⟨s1.sq, q _ _ Ex.refl (.cl (.tup s1 r1))⟩⟩
    · cases e
  · cases e
theorem o_rng2 : OpN f SL.rRangeV2 dRng2 := fun κ M H xs ds w Q hM nr e q => by
  unfold dRng2 at e
  split at e
  · obtain ⟨v, u, rfl, n, m⟩ := nra2 nr
    split at e
    · rename_i i j h1 h2
      cases e
      rw [nr_int n h1, nr_int m h2]
      exact u_rng fun p hp => q _ _ (Ex.new hp) (.cl (.rng ⟨upd_same, hM p hp⟩))
    · cases e
  · cases e
theorem o_repr : OpN f (SL.uRepr f) dRepr := fun κ M H xs ds w Q hM nr e q => by
  unfold dRepr at e
  split at e
  · obtain ⟨v, rfl, n⟩ := nra1 nr
    rename_i a
    cases h1 : pd a with
    | none => rw [h1] at e; cases e
    | some x =>
      rw [h1] at e
      dsimp only [Option.bind_some] at e
      split at e
      · rename_i hs
        cases e
        unfold showsB at hs
        simp only [Bool.and_eq_true, decide_eq_true_eq] at hs
        obtain ⟨s1, s2, s3, s4⟩ := hs
        exact u_repr (nr_dp n h1) ⟨s1, ⟨60, by decide, s2, by omega⟩, s4⟩ (q _ _ Ex.refl (.cl (.str _)))
      · cases e
  · cases e
end
/-! slices -/
abbrev MO := Mo (Option Int)
def mNoPart : MO := fun ρ h => some (.ok none ρ h)
def mPart (a : Mo W) : MO := fun ρ h => bindR (a ρ h) fun w ρ h => match (deref h w).map D.u with
  | some (.int i) => some (.ok (some i) ρ h)
  | _ => none
def mSl (a : Mo W) (lo hi : MO) : Mo W := fun ρ h => bindR (a ρ h) fun w ρ h => bindR (lo ρ h) fun l ρ h => bindR (hi ρ h) fun u ρ h => (deref h w).bind fun d => (dSl d l u).map fun w => .ok w ρ h
def SimO (f : PySem.W.Frag) (WW : WX) (t : TO) (m : MO) : Prop := ∀ (F : Fm) (σ : L2.St) (H : Hp) (ρ : List Sl) (h : Tb) (st : List (V × W)) (r : R (Option Int)) (Q : Option Int → Hp → Prop), EnvR f F σ H ρ h st → m ρ h = some r → (match r with
  | .ok b ρ h => ∀ H, EnvR f F σ H ρ h st → Q b H
  | .ex C fs ρ h => ExR f F WW st C fs ρ h) → t σ H Q
section
variable {f : PySem.W.Frag} {WW : WX} {te ta tb tc : TE} {me ma mb mc : Mo W} {tl th : TO} {ml mh : MO} {tr : TA} {mr : Mo (List W)}
theorem sim_nopart : SimO f WW tNoPart mNoPart := fun F σ H ρ h st x Q E e p => by
  cases e
  exact p H E
theorem sim_part (he : SimE f WW te me) : SimO f WW (tPart te) (mPart me) := fun F σ H ρ h st x Q E e p => by
  rcases bindR_some e with ⟨w1, ρ1, h1, e1, e⟩ | ⟨C, fs, ρ1, h1, e1, rfl⟩
  · refine he F σ H ρ h st _ _ E e1 fun v1 H1 ⟨κ, E1⟩ => ?_
    cases q1 : deref h1 w1 with
    | none => rw [q1] at e; cases e
    | some d1 =>
      rw [q1] at e
      dsimp only [Option.map_some] at e
      have nr := E1.near (List.mem_cons_self ..) q1
      split at e
      · rename_i b hb
        cases e
        exact ⟨b, nr_int nr (Option.some.inj hb), p H1 ⟨κ, E1.pop⟩⟩
      · cases e
  · exact he F σ H ρ h st _ _ E e1 p
theorem sim_sl (he : SimE f WW te me) (hl : SimO f WW tl ml) (hh : SimO f WW th mh) : SimE f WW (tSl (uSl f) te tl th) (mSl me ml mh) := fun F σ H ρ h st x Q E e p => by
  rcases bindR_some e with ⟨w1, ρ1, h1, e1, e⟩ | ⟨C, fs, ρ1, h1, e1, rfl⟩
  · refine he F σ H ρ h st _ _ E e1 fun v1 H1 E1 => ?_
    rcases bindR_some e with ⟨l, ρ2, h2, e2, e⟩ | ⟨C, fs, ρ2, h2, e2, rfl⟩
    · refine hl F σ H1 ρ1 h1 _ _ _ E1 e2 fun H2 E2 => ?_
      rcases bindR_some e with ⟨u, ρ3, h3, e3, e⟩ | ⟨C, fs, ρ3, h3, e3, rfl⟩
      · refine hh F σ H2 ρ2 h2 _ _ _ E2 e3 fun H3 ⟨κ, E3⟩ => ?_
        cases q1 : deref h3 w1 with
        | none => rw [q1] at e; cases e
        | some d1 =>
          rw [q1] at e
          dsimp only [Option.bind_some] at e
          cases q2 : dSl d1 l u with
          | none => rw [q2] at e; cases e
          | some w =>
            rw [q2] at e
            cases e
            have nr := E3.near (List.mem_cons_self ..) q1
            have hM := fun q hq => av_new E3 (p := q) hq
            have land : ∀ v H', Ex [] H3 H' → Nw (av F κ ((v1, w1) :: st)) ⟨f, κ⟩ H3 H' v w → Q v H' := fun v H' ex nw => p v H' ⟨κ, EnvK.land (l := [(v1, w1)]) E3 ex nw⟩
            unfold dSl at q2
            split at q2
            · rename_i z hz
              rw [nr_str nr hz]
              split at q2
              · cases q2
                exact u_sl_s (sz_le ‹_›) (land _ _ Ex.refl (.cl (.str _)))
              · cases q2
            · rename_i ds hz
              obtain ⟨a, xs, rfl, s1, r1⟩ := nr_lst nr hz
              cases q2
              exact u_sl_l (.inl (.inl s1)) fun q hq => land _ _ (Ex.new hq) (Nw.new hq r1.cut)
            · rename_i ds hz
              cases q2
              have nr := nr.u
              rw [hz] at nr
              cases nr with
              | own r => cases r
              | cl r =>
                cases r with
                | @tup a xs _ s1 r1 =>
                  refine .inr (.inr ⟨a, xs, rfl, s1.sq, fun hw => ?_, fun _ q hq => land _ _ (Ex.new hq) (Nw.tup hq (hM q hq) r1.cut)⟩)
                  have ec : cutL ds l u = ds := by
                    unfold cutL
                    rw [← r1.len, hw.1, hw.2, List.drop_zero, Nat.sub_zero, r1.len]
                    exact List.take_length
                  rw [ec] at land
                  exact land _ _ Ex.refl (.cl (.tup s1 r1))
            · cases q2
      · exact hh F σ H2 ρ2 h2 _ _ _ E2 e3 (ExR.up p)
    · exact hl F σ H1 ρ1 h1 _ _ _ E1 e2 (ExR.up p)
  · exact he F σ H ρ h st _ _ E e1 p
def mChain (f g : D → D → Option W) (a b c : Mo W) : Mo W := fun ρ h => bindR (a ρ h) fun x ρ h => bindR (b ρ h) fun y ρ h => (deref h x).bind fun dx => (deref h y).bind fun dy => match f dx dy with
  | some (.cl (.bl true)) => bindR (c ρ h) fun z ρ h => (deref h y).bind fun dy => (deref h z).bind fun dz => (g dy dz).map fun w => .ok w ρ h
  | some (.cl (.bl false)) => some (.ok (.cl (.bl false)) ρ h)
  | _ => none
theorem sim_chain {r r' : R2} {g1 g2 : D → D → Option W} (o : Op2 f r g1) (o' : Op2 f r' g2) (ha : SimE f WW ta ma) (hb : SimE f WW tb mb) (hc : SimE f WW tc mc) : SimE f WW (tChain r r' ta tb tc) (mChain g1 g2 ma mb mc) := fun F σ H ρ h st x Q E e p => by
  rcases bindR_some e with ⟨w1, ρ1, h1, e1, e⟩ | ⟨C, fs, ρ1, h1, e1, rfl⟩
  · refine ha F σ H ρ h st _ _ E e1 fun v1 H1 E1 => ?_
    rcases bindR_some e with ⟨w2, ρ2, h2, e2, e⟩ | ⟨C, fs, ρ2, h2, e2, rfl⟩
    · refine hb F σ H1 ρ1 h1 _ _ _ E1 e2 fun v2 H2 ⟨κ, E2⟩ => ?_
      cases q1 : deref h2 w1 with
      | none => rw [q1] at e; cases e
      | some d1 =>
        rw [q1] at e
        dsimp only [Option.bind_some] at e
        cases q2 : deref h2 w2 with
        | none => rw [q2] at e; cases e
        | some d2 =>
          rw [q2] at e
          dsimp only [Option.bind_some] at e
          have n1 := E2.near (List.mem_cons_of_mem _ (List.mem_cons_self ..)) q1
          have n2 := E2.near (List.mem_cons_self ..) q2
          have hM := fun q hq => av_new E2 (p := q) hq
          split at e
          · rename_i h3
            refine o κ _ H2 v1 v2 d1 d2 _ _ hM n1 n2 h3 fun v H' ex nw => ?_
            cases nw with
            | cl r =>
              cases rep_bl r
              refine ⟨true, rfl, ?_⟩
              rw [if_pos rfl]
              have E3 := E2.grow ex
              rcases bindR_some e with ⟨w3, ρ3, h3, e3, e⟩ | ⟨C, fs, ρ3, h3, e3, rfl⟩
              · refine hc F σ H' ρ2 h2 _ _ _ ⟨κ, E3⟩ e3 fun v3 H3 ⟨κ4, E4⟩ => ?_
                cases q4 : deref h3 w2 with
                | none => rw [q4] at e; cases e
                | some d4 =>
                  rw [q4] at e
                  dsimp only [Option.bind_some] at e
                  cases q5 : deref h3 w3 with
                  | none => rw [q5] at e; cases e
                  | some d5 =>
                    rw [q5] at e
                    dsimp only [Option.bind_some] at e
                    cases q6 : g2 d4 d5 with
                    | none => rw [q6] at e; cases e
                    | some w =>
                      rw [q6] at e
                      cases e
                      exact o' κ4 _ H3 v2 v3 d4 d5 w Q (fun q hq => av_new E4 hq) (E4.near (List.mem_cons_of_mem _ (List.mem_cons_self ..)) q4) (E4.near (List.mem_cons_self ..) q5) q6
                        fun v H' ex nw => p v H' ⟨κ4, EnvK.land (l := [(v3, w3), (v2, w2), (v1, w1)]) E4 ex nw⟩
              · exact hc F σ H' ρ2 h2 _ _ _ ⟨κ, E3⟩ e3 (ExR.up (ExR.up p))
          · rename_i h3
            refine o κ _ H2 v1 v2 d1 d2 _ _ hM n1 n2 h3 fun v H' ex nw => ?_
            cases nw with
            | cl r =>
              cases rep_bl r
              refine ⟨false, rfl, ?_⟩
              rw [if_neg Bool.false_ne_true]
              cases e
              exact p _ _ ⟨κ, (E2.grow ex).pop.pop.pushC (.bl _)⟩
          · cases e
    · exact hb F σ H1 ρ1 h1 _ _ _ E1 e2 (ExR.up p)
  · exact ha F σ H ρ h st _ _ E e1 p
/-- xs[i] = e -/
def gSubL (o : Mo W) (e : Mo W) : Tg := fun w ρ h => match o ρ h with
  | some (.ok u ρ h) => match e ρ h with
    | some (.ok k ρ h) => match (deref h k).map D.u with
      | some (.int n) => (lstAt h u).bind fun x => (ixN x.2.length n).map fun j => (ρ, h.set x.1 (.lst (x.2.set j (fzW w))))
      | _ => none
    | _ => none
  | _ => none
theorem sim_gsub (ho : SimE f (fun _ _ _ _ => False) ta ma) (he : SimE f (fun _ _ _ _ => False) te me) : SimG f (gSub ta te rSetL) (gSubL ma me) := fun F σ H ρ h x st v w Q ⟨κ, E⟩ e q => by
  unfold gSubL at e
  have E1 := E.fz
  split at e
  · rename_i u ρ1 h1 e1
    split at e
    · rename_i k ρ2 h2 e2
      split at e
      · rename_i n hn
        cases g4 : lstAt h2 u with
        | none => rw [g4] at e; cases e
        | some y =>
          obtain ⟨c, cs⟩ := y
          rw [g4] at e
          dsimp only [Option.bind_some] at e
          cases g5 : ixN cs.length n with
          | none => rw [g5] at e; cases e
          | some j =>
            rw [g5] at e
            cases e
            refine ho F σ H ρ h _ _ _ ⟨κ, E1⟩ e1 fun vo Ho Eo => ?_
            refine he F σ Ho ρ1 h1 _ _ _ Eo e2 fun vk Hk ⟨κk, Ek⟩ => ?_
            obtain ⟨p, xs, rfl, hk, hp, r⟩ := Ek.lstAt (List.mem_cons_of_mem _ (List.mem_cons_self ..)) g4
            cases hd : deref h2 k with
            | none => rw [hd] at hn; cases hn
            | some dk =>
              rw [hd] at hn
              have nr := Ek.near (List.mem_cons_self ..) hd
              cases nr_int nr (Option.some.inj hn)
              refine ⟨p, xs, n, j, rfl, rfl, hp, by rw [r.len]; exact g5, ?_⟩
              have rv := Ek.rep (List.mem_cons_of_mem _ (List.mem_cons_of_mem _ (List.mem_cons_self ..)))
              have E3 := Ek.mut (u := .lst (xs.set j v)) (c' := .lst (cs.set j (fzW w))) hk (.lst upd_same ((r.set j rv).ex (Ex.mut (av_ka (List.mem_of_getElem? hk)))))
              exact q _ _ ⟨κk, E3.pop.pop.pop⟩
      · cases e
    · cases e
  · cases e
/-- a method of a text -/
def mBS (g : Str → List D → Option W) (a : Mo W) (b : Mo (List W)) : Mo W := fun ρ h => bindR (a ρ h) fun x ρ h => match (deref h x).map D.u with
  | some (.str z) => bindR (b ρ h) fun ws ρ h => (derefs h ws).bind fun ds => (g z ds).map fun w => .ok w ρ h
  | _ => none
def mBS0 (g : Str → List D → Option W) (a : Mo W) : Mo W := fun ρ h => bindR (a ρ h) fun x ρ h => match (deref h x).map D.u with
  | some (.str z) => (g z []).map fun w => .ok w ρ h
  | _ => none
def OpS (f : PySem.W.Frag) (rm : V → List V → Hp → VK → Prop) (g : Str → List D → Option W) : Prop := ∀ (κ : List Addr) (M : List Addr) (H : Hp) (z : Str) (xs : List V) (ds : List D) (w : W) (Q : VK), (∀ p, H p = none → p ∉ M) → NrA M ⟨f, κ⟩ H xs ds → g z ds = some w →
  (∀ v H', Ex [] H H' → Nw M ⟨f, κ⟩ H H' v w → Q v H') → rm (.str z) xs H Q
theorem sim_bs {T : String} {rm : V → List V → Hp → VK → Prop} {g : Str → List D → Option W} (hT : T = "str") (o : OpS f rm g) (ha : SimE f WW te me) (hb : SimA f WW tr mr) : SimE f WW (tBM f T rm te tr) (mBS g me mr) := fun F σ H ρ h st x Q E e p => by
  subst hT
  rcases bindR_some e with ⟨w1, ρ1, h1, e1, e⟩ | ⟨C, fs, ρ1, h1, e1, rfl⟩
  · refine ha F σ H ρ h st _ _ E e1 fun v1 H1 ⟨κ, E1⟩ => ?_
    cases q1 : deref h1 w1 with
    | none => rw [q1] at e; cases e
    | some d1 =>
      rw [q1] at e
      dsimp only [Option.map_some] at e
      have nr := E1.near (List.mem_cons_self ..) q1
      split at e
      · rename_i z hz
        cases nr_str nr (Option.some.inj hz)
        refine ⟨rfl, ?_⟩
        rcases bindR_some e with ⟨ws, ρ2, h2, e2, e⟩ | ⟨C, fs, ρ2, h2, e2, rfl⟩
        · refine hb F σ H1 ρ1 h1 _ _ _ ⟨κ, E1⟩ e2 fun vs H2 hl ⟨κ2, E2⟩ => ?_
          cases q2 : derefs h2 ws with
          | none => rw [q2] at e; cases e
          | some ds =>
            rw [q2] at e
            dsimp only [Option.bind_some] at e
            cases q3 : g z ds with
            | none => rw [q3] at e; cases e
            | some w =>
              rw [q3] at e
              cases e
              exact o κ2 _ H2 z vs ds w Q (fun q hq => av_new E2 hq) (E2.nears hl (fun x hx => List.mem_append.mpr (.inl hx)) q2) q3 fun v H' ex nw => p v H' ⟨κ2, by
                have E3 : EnvK f κ2 F σ H2 ρ2 h2 ((vs.zip ws ++ [(V.str z, w1)]) ++ st) := by
                  rw [List.append_assoc]
                  exact E2
                refine EnvK.land (l := vs.zip ws ++ [(V.str z, w1)]) E3 ex ?_
                rw [List.append_assoc]
                exact nw⟩
        · exact hb F σ H1 ρ1 h1 _ _ _ ⟨κ, E1⟩ e2 (ExR.up p)
      · cases e
  · exact ha F σ H ρ h st _ _ E e1 p
theorem sim_bs0 {T : String} {rm : V → List V → Hp → VK → Prop} {g : Str → List D → Option W} (hT : T = "str") (o : OpS f rm g) (ha : SimE f WW te me) : SimE f WW (tBM0 f T rm te) (mBS0 g me) := fun F σ H ρ h st x Q E e p => by
  subst hT
  rcases bindR_some e with ⟨w1, ρ1, h1, e1, e⟩ | ⟨C, fs, ρ1, h1, e1, rfl⟩
  · refine ha F σ H ρ h st _ _ E e1 fun v1 H1 ⟨κ, E1⟩ => ?_
    cases q1 : deref h1 w1 with
    | none => rw [q1] at e; cases e
    | some d1 =>
      rw [q1] at e
      dsimp only [Option.map_some] at e
      have nr := E1.near (List.mem_cons_self ..) q1
      split at e
      · rename_i z hz
        cases nr_str nr (Option.some.inj hz)
        refine ⟨rfl, ?_⟩
        cases q3 : g z [] with
        | none => rw [q3] at e; cases e
        | some w =>
          rw [q3] at e
          cases e
          exact o κ _ H1 z [] [] w Q (fun q hq => av_new E1 hq) .nil q3 fun v H' ex nw => p v H' ⟨κ, EnvK.land (l := [(V.str z, w1)]) E1 ex nw⟩
      · cases e
  · exact ha F σ H ρ h st _ _ E e1 p
def fJoin (s : Str) : List D → Option W
  | [b] => match b.u with
    | .lst ds => (strsOf ds).bind fun zs => if (zs.map (·.length)).sum + zs.length * s.length ≤ 16777216 then some (.cl (.str (Txt.join s zs))) else none
    | .tup ds => (strsOf ds).bind fun zs => if (zs.map (·.length)).sum + zs.length * s.length ≤ 16777216 then some (.cl (.str (Txt.join s zs))) else none
    | _ => none
  | _ => none
theorem o_join : OpS f (SL.rJoin f) fJoin := fun κ M H z xs ds w Q hM nr e q => by
  unfold fJoin at e
  split at e
  · obtain ⟨v, rfl, n⟩ := nra1 nr
    split at e
    · rename_i ds h1
      obtain ⟨a, xs, rfl, s1, r1⟩ := nr_lst n h1
      cases h2 : strsOf ds with
      | none => rw [h2] at e; cases e
      | some zs =>
        rw [h2] at e
        dsimp only [Option.bind_some] at e
        split at e
        · cases e
          rw [strs_of r1 h2] at s1
          exact ⟨z, a, zs, rfl, rfl, .inl (.inl (.inl s1)), by assumption, q _ _ Ex.refl (.cl (.str _))⟩
        · cases e
    · rename_i ds h1
      obtain ⟨a, xs, rfl, s1, r1⟩ := nr_tup n h1
      cases h2 : strsOf ds with
      | none => rw [h2] at e; cases e
      | some zs =>
        rw [h2] at e
        dsimp only [Option.bind_some] at e
        split at e
        · cases e
          rw [strs_of r1 h2] at s1
          exact ⟨z, a, zs, rfl, rfl, .inr s1, by assumption, q _ _ Ex.refl (.cl (.str _))⟩
        · cases e
    · cases e
  · cases e
end
end CM

/-! CM8: isinstance, sorted, formatted texts, own text, length and ==; the head's hook; the law's end. -/
namespace CM
open PySem PySem.Spec PyProof.Rows L2 SL
/-! ### isinstance -/
inductive Kd where
  | b (T : String) | own (C : Str) | exc (C : Str) | fn
  deriving DecidableEq
def kd : D → Option Kd
  | .non => some (.b "NoneType")
  | .bl _ => some (.b "bool")
  | .int _ => some (.b "int")
  | .str _ => some (.b "str")
  | .lst _ => some (.b "list")
  | .scr _ => some (.b "list")
  | .tup _ => some (.b "tuple")
  | .dK _ => some (.b "dict")
  | .ins C _ => some (.own C)
  | .exc C _ => some (.exc C)
  | .glo _ => some .fn
  | _ => none
def kdV (K : PySem.W.Frag) : Kd → Value
  | .b T => .type T
  | .own C => .ref (He.ga K C)
  | .exc C => .ref (He.ga K C)
  | .fn => .type "function"
/-- what is asked of the written part for a kind -/
structure OwnK (K : PySem.W.Frag) (C : Str) : Prop where
  cls : Cls K (He.ga K C)
  ha : PySem.W.findIn K (.ref (He.ga K C)) "__class__" = some (some (.builtin "object.__class__"))
  hn : PySem.W.specialIn K (.builtin "object.__class__") "__get__" = some (some (.builtin "getset_descriptor.__get__"))
  htk : PySem.W.takesIn K (.builtin "object.__class__") = some true
  hm : PySem.W.mroIn K (He.ga K C) (.type "object") = some true
def ownB (K : PySem.W.Frag) (C : Str) : Bool := (He.Fa.cls C).ok K && (decide (PySem.W.findIn K (.ref (He.ga K C)) "__class__" = some (some (.builtin "object.__class__"))) && (decide (PySem.W.specialIn K (.builtin "object.__class__") "__get__" = some (some (.builtin "getset_descriptor.__get__"))) &&
  (decide (PySem.W.takesIn K (.builtin "object.__class__") = some true) && decide (PySem.W.mroIn K (He.ga K C) (.type "object") = some true))))
theorem ownB_ok {K : PySem.W.Frag} {C : Str} (h : ownB K C = true) : OwnK K C := by
  simp only [ownB, Bool.and_eq_true, decide_eq_true_eq] at h
  exact ⟨He.cls_ok h.1, h.2.1, h.2.2.1, h.2.2.2.1, h.2.2.2.2⟩
def KdOk (K : PySem.W.Frag) : Kd → Prop
  | .b _ => True
  | .own C => OwnK K C
  | .exc C => isiB K (He.ga K C) = true
  | .fn => False
inductive Cd where
  | ty (T : String) | own (C : Str)
def cdV (K : PySem.W.Frag) : Cd → Value
  | .ty T => .type T
  | .own C => .ref (He.ga K C)
def cdIs : Cd → D → Bool
  | .ty T, .ty T' => decide (T' = T)
  | .own C, .glo C' => decide (C' = C)
  | _, _ => false
def cdsAre : List Cd → List D → Bool
  | [], [] => true
  | c :: cs, d :: ds => cdIs c d.u && cdsAre cs ds
  | _, _ => false
def lookK (k : Kd) : List (Kd × Bool) → Option Bool
  | [] => none
  | (k', b) :: r => if k' = k then some b else lookK k r
def dIsi (c : Cd) (tab : List (Kd × Bool)) : List D → Option W
  | [a, x] => if cdIs c x.u = true then (kd a.u).bind fun k => (lookK k tab).map fun b => .cl (.bl b) else none
  | _ => none
def dIsiT (cs : List Cd) (tab : List (Kd × Bool)) : List D → Option W
  | [a, x] => match x.u with
    | .tup ds => if cdsAre cs ds = true then (kd a.u).bind fun k => (lookK k tab).map fun b => .cl (.bl b) else none
    | _ => none
  | _ => none
inductive Tab (K : PySem.W.Frag) (ev : Value → Option Bool) : List (Kd × Bool) → Prop
  | nil : Tab K ev []
  | cons {k : Kd} {b : Bool} {r : List (Kd × Bool)} : KdOk K k → ev (kdV K k) = some b → Tab K ev r → Tab K ev ((k, b) :: r)
section
variable {K : Kx} {M : List Addr} {H H' : Hp} {p : Addr} {v : V} {d : D} {vs : List V} {ds : List D} {k : Kd} {b : Bool} {ev : Value → Option Bool}
theorem tab_at {K : PySem.W.Frag} : ∀ {tab : List (Kd × Bool)}, Tab K ev tab → lookK k tab = some b → KdOk K k ∧ ev (kdV K k) = some b
  | [], _, h => by cases h
  | (k', b') :: r, .cons a e t, h => by
    unfold lookK at h
    split at h
    · rename_i hk
      subst hk
      cases h
      exact ⟨a, e⟩
    · exact tab_at t h
theorem ty_of (h : Nr M K H v d) (e : kd d.u = some k) (ok : KdOk K k) : TyY K H v (kdV K k) := by
  have h := h.u.rep0
  generalize d.u = x at h e
  cases h with
  | non => cases e; exact .base (.base .non)
  | bl b => cases e; exact .base (.base (.bl b))
  | int b => cases e; exact .base (.base (.int b))
  | str b => cases e; exact .base (.base (.str b))
  | ty n => cases e
  | glo x => cases e; exact ok.elim
  | lst a _ => cases e; exact .base (.base (.lst a.at_))
  | scr a =>
    cases e
    rcases a with ⟨a, _⟩ | ⟨o, its, n, h1, h2, _⟩
    · rcases a with a | ⟨o, a⟩
      · exact .base (.base (.lst a))
      · exact .base (.base (.frz a))
    · exact .base (.kList h1 h2)
  | tup a _ =>
    cases e
    exact .base (.base (.tup a.1))
  | dK a _ _ => cases e; exact .base (.base (.dK a.at_))
  | rng a => cases e
  | ins a _ _ =>
    cases e
    have ok : OwnK K _ := ok
    exact .base (.base (.ins a.at_ ok.cls ok.ha ok.hn ok.htk ok.hm))
  | exc a a2 _ _ =>
    cases e
    exact .exc a.at_ _ a2.at_ ok
  | ce _ => cases e
  | tg _ => cases e
  | bo _ _ => cases e
theorem cd_of {c : Cd} {x : V} (h : Nr M K H x d) (e : cdIs c d.u = true) : ClsV x (cdV K c) := by
  have h := h.u.rep0
  generalize d.u = y at h e
  cases c with
  | ty T =>
    cases h <;> try cases e
    rename_i n
    have : n = T := of_decide_eq_true e
    subst this
    exact .ty _
  | own C =>
    cases h <;> try cases e
    rename_i n
    have : n = C := of_decide_eq_true e
    subst this
    exact .own _
theorem cds_of : ∀ {cs : List Cd} {vs : List V} {ds : List D}, RepA M K H vs ds → cdsAre cs ds = true → Paired ClsV vs (cs.map (cdV K))
  | [], _, _, .nil, _ => .nil
  | c :: cs, _, _, .cons h a, e => by
    have e : (cdIs c _ && cdsAre cs _) = true := e
    rw [Bool.and_eq_true] at e
    exact .cons (cd_of (.cl h) e.1) (cds_of a e.2)
  | [], _, _, .cons _ _, e => by cases e
  | _ :: _, _, _, .nil, e => by cases e
theorem o_isi {K : PySem.W.Frag} {c : Cd} {tab : List (Kd × Bool)} (t : Tab K (fun t => PySem.W.kitOne K t (cdV K c)) tab) : OpN K (vIsi K) (dIsi c tab) := fun κ M H xs ds w Q hM nr e q => by
  unfold dIsi at e
  split at e
  · obtain ⟨x, y, rfl, n1, n2⟩ := nra2 nr
    split at e
    · rename_i a x' hc
      cases h1 : kd a.u with
      | none => rw [h1] at e; cases e
      | some k =>
        rw [h1] at e
        dsimp only [Option.bind_some] at e
        cases h2 : lookK k tab with
        | none => rw [h2] at e; cases e
        | some b =>
          rw [h2] at e
          cases e
          obtain ⟨o1, o2⟩ := tab_at t h2
          exact v_isi (cd_of n2 hc) (ty_of n1 h1 o1) o2 (q _ _ Ex.refl (.cl (.bl _)))
    · cases e
  · cases e
theorem o_isiT {K : PySem.W.Frag} {cs : List Cd} {tab : List (Kd × Bool)} (t : Tab K (fun t => PySem.W.kitAny K t (cs.map (cdV K))) tab) : OpN K (vIsi K) (dIsiT cs tab) := fun κ M H xs ds w Q hM nr e q => by
  unfold dIsiT at e
  split at e
  · rename_i a a2
    obtain ⟨x, y, rfl, n1, n2⟩ := nra2 nr
    split at e
    · rename_i ds hx
      split at e
      · rename_i hc
        cases h1 : kd a.u with
        | none => rw [h1] at e; cases e
        | some k =>
          rw [h1] at e
          dsimp only [Option.bind_some] at e
          cases h2 : lookK k tab with
          | none => rw [h2] at e; cases e
          | some b =>
            rw [h2] at e
            cases e
            obtain ⟨o1, o2⟩ := tab_at t h2
            have n2 := n2.u
            rw [hx] at n2
            cases n2 with
            | own r => cases r
            | cl r =>
              cases r with
              | @tup tp cv _ s1 r1 =>
                exact v_isiT s1.1 (cds_of r1 hc) (ty_of n1 h1 o1) o2 (q _ _ Ex.refl (.cl (.bl _)))
      · cases e
    · cases e
  · cases e
end
/-! ### sorted -/
def sortI (ns : List Int) : List Int := ns.mergeSort (fun a b => decide (a ≤ b))
def rSrt (K : PySem.W.Frag) : List V → Hp → VK → Prop := fun xs H Q => (rSorted K xs H Q ∨ rSortedS K xs H Q) ∨ (rSortedIT K xs H Q ∨ rSortedST K xs H Q)
theorem call_srt {X : Cx} : CallR X (.builtin "sorted") (rSrt X.K) := (cr_sorted.or cr_sortedS).or (cr_sortedIT.or cr_sortedST)
def dSrt : List D → Option W
  | [a] => (seqD a.u).bind fun ds => match strsOf ds with
      | some zs => if zs.length < 64 then some (.fr ((sortS zs).map .str)) else none
      | none => (intsOf ds).bind fun ns => if ns.length < 64 then some (.fr ((sortI ns).map .int)) else none
  | _ => none
theorem str_lt_asymm {a b : List Nat} (h : a < b) : ¬ b < a := fun h2 => List.lt_asymm h h2
theorem insS_perm (z : Str) : ∀ ys : List Str, (insS z ys).Perm (z :: ys)
  | [] => List.Perm.refl _
  | y :: ys => by
    unfold insS
    split
    · exact List.Perm.refl _
    · exact ((insS_perm z ys).cons y).trans (List.Perm.swap _ _ _)
theorem sortS_perm : ∀ zs : List Str, (sortS zs).Perm zs
  | [] => List.Perm.refl _
  | z :: zs => (insS_perm z _).trans ((sortS_perm zs).cons z)
abbrev leS (a b : Str) : Prop := ¬ b.cps.toList < a.cps.toList
theorem insS_sorted {z : Str} : ∀ {ys : List Str}, ys.Pairwise leS → (insS z ys).Pairwise leS
  | [], _ => by unfold insS; exact List.pairwise_singleton _ _
  | y :: ys, h => by
    unfold insS
    obtain ⟨h1, h2⟩ := List.pairwise_cons.mp h
    split
    · rename_i hlt
      refine List.pairwise_cons.mpr ⟨fun x hx => ?_, h⟩
      rcases List.mem_cons.mp hx with rfl | hx
      · exact str_lt_asymm hlt
      · exact fun q => h1 x hx (List.lt_trans q hlt)
    · rename_i hge
      refine List.pairwise_cons.mpr ⟨fun x hx => ?_, insS_sorted h2⟩
      rcases List.mem_cons.mp ((insS_perm z ys).mem_iff.mp hx) with rfl | hx
      · exact hge
      · exact h1 x hx
theorem sortS_sorted : ∀ zs : List Str, (sortS zs).Pairwise leS
  | [] => .nil
  | z :: zs => insS_sorted (sortS_sorted zs)
theorem leS_antisymm {a b : Str} (h1 : leS a b) (h2 : leS b a) : a = b := str_ext (List.le_antisymm (show a.cps.toList ≤ b.cps.toList from h1) (show b.cps.toList ≤ a.cps.toList from h2))
theorem leS_trans {a b c : Str} (h1 : leS a b) (h2 : leS b c) : leS a c := List.le_trans (show a.cps.toList ≤ b.cps.toList from h1) (show b.cps.toList ≤ c.cps.toList from h2)
theorem perm_eq {α : Type} {R : α → α → Prop} (anti : ∀ a b, R a b → R b a → a = b) : ∀ {l1 l2 : List α}, l1.Perm l2 → l1.Pairwise R → l2.Pairwise R → l1 = l2
  | [], l2, h, _, _ => (List.Perm.nil_eq h)
  | a :: l1, [], h, _, _ => by
    have := h.length_eq
    simp at this
  | a :: l1, b :: l2, h, p1, p2 => by
    obtain ⟨q1, q2⟩ := List.pairwise_cons.mp p1
    obtain ⟨r1, r2⟩ := List.pairwise_cons.mp p2
    have e : a = b := by
      have ha : a ∈ b :: l2 := h.mem_iff.mp (List.mem_cons_self ..)
      have hb : b ∈ a :: l1 := h.mem_iff.mpr (List.mem_cons_self ..)
      rcases List.mem_cons.mp ha with e | ha
      · exact e
      · rcases List.mem_cons.mp hb with e | hb
        · exact e.symm
        · exact anti _ _ (q1 b hb) (r1 a ha)
    subst e
    rw [perm_eq anti (List.Perm.cons_inv h) q2 r2]
theorem rising_le : ∀ {p : Str} {r : List Str}, risingS p r = true → (∀ x ∈ r, leS p x) ∧ r.Pairwise leS
  | p, [], _ => ⟨fun x h => absurd h List.not_mem_nil, .nil⟩
  | p, x :: r, h => by
    have h : (!ltCps x.cps.toList p.cps.toList && risingS x r) = true := h
    rw [Bool.and_eq_true] at h
    have hx : leS p x := by
      intro z
      have h1 := h.1
      rw [PyProof.Rows.ltCps_eq, decide_eq_true z] at h1
      cases h1
    obtain ⟨i1, i2⟩ := rising_le h.2
    refine ⟨fun y hy => ?_, List.pairwise_cons.mpr ⟨i1, i2⟩⟩
    rcases List.mem_cons.mp hy with rfl | hy
    · exact hx
    · exact leS_trans hx (i1 y hy)
theorem sortedS_pw : ∀ {ys : List Str}, sortedS ys = true → ys.Pairwise leS
  | [], _ => .nil
  | x :: r, h => List.pairwise_cons.mpr (rising_le h)
theorem o_srt {K : PySem.W.Frag} : OpN K (rSrt K) dSrt := fun κ M H xs ds w Q hM nr e q => by
  unfold dSrt at e
  split at e
  · obtain ⟨v, rfl, n⟩ := nra1 nr
    rename_i a0
    cases q3 : seqD a0.u with
    | none => rw [q3] at e; cases e
    | some ds =>
      rw [q3] at e
      dsimp only [Option.bind_some] at e
      have hd : a0.u = .lst ds ∨ a0.u = .tup ds := by
        unfold seqD at q3
        split at q3
        · cases q3; exact .inl (by assumption)
        · cases q3; exact .inr (by assumption)
        · cases q3
      have get : ∃ a xs, v = .ref a ∧ (SqL K H a xs ∨ SqT K H a xs) ∧ RepA M ⟨K, κ⟩ H xs ds := by
        rcases hd with hd | hd
        · obtain ⟨a, xs, rfl, s1, r1⟩ := nr_lst n hd
          exact ⟨a, xs, rfl, .inl (.inl (.inl s1)), r1⟩
        · obtain ⟨a, xs, rfl, s1, r1⟩ := nr_tup n hd
          exact ⟨a, xs, rfl, .inr s1, r1⟩
      obtain ⟨a, xs, rfl, s1, r1⟩ := get
      split at e
      · rename_i zs hz
        split at e
        · rename_i hl
          cases e
          rw [strs_of r1 hz] at s1
          have fin : ∀ (ys : List Str) (p : Addr), ys.Perm zs → sortedS ys = true → H p = none → Q (.ref p) (upd H p (.lst (ys.map V.str))) := fun ys p hp hs hn => by
            have ey : ys = sortS zs := perm_eq (fun _ _ => leS_antisymm) (hp.trans (sortS_perm zs).symm) (sortedS_pw hs) (sortS_sorted zs)
            rw [ey]
            exact q _ _ (Ex.new hn) (Nw.new hn (RepA.strs _))
          rcases s1 with s1 | s1
          · exact .inl (.inr ⟨a, zs, rfl, s1, hl, fin⟩)
          · exact .inr (.inr ⟨a, zs, rfl, s1, hl, fin⟩)
        · cases e
      · rename_i hz
        cases h2 : intsOf ds with
        | none => rw [h2] at e; cases e
        | some ns =>
          rw [h2] at e
          dsimp only [Option.bind_some] at e
          split at e
          · rename_i hl
            cases e
            rw [ints_of r1 h2] at s1
            have fin : ∀ (ns' : List Int) (p : Addr), ns'.Perm ns → ns'.Pairwise (· ≤ ·) → H p = none → Q (.ref p) (upd H p (.lst (ns'.map V.int))) := fun ns' p hp hs hn => by
              have ey : ns' = sortI ns := perm_eq (fun _ _ h1 h2 => Int.le_antisymm h1 h2) (hp.trans (List.mergeSort_perm ns _).symm) hs (by
                have := List.pairwise_mergeSort (le := fun a b : Int => decide (a ≤ b)) (fun a b c h1 h2 => by
                  simp only [decide_eq_true_eq] at *
                  omega) (fun a b => by
                  simp only [Bool.or_eq_true, decide_eq_true_eq]
                  omega) ns
                exact this.imp (fun h => of_decide_eq_true h))
              rw [ey]
              exact q _ _ (Ex.new hn) (Nw.new hn (RepA.ints _))
            rcases s1 with s1 | s1
            · exact .inl (.inl ⟨a, ns, rfl, s1, hl, fin⟩)
            · exact .inr (.inl ⟨a, ns, rfl, s1, hl, fin⟩)
          · cases e
  · cases e
/-! ### formatted texts -/
def mFmt (a : Mo W) : Mo W := fun ρ h => bindR (a ρ h) fun w ρ h => match (deref h w).map D.u with
  | some (.str z) => if z.length ≤ 100000 then some (.ok (.cl (.str z)) ρ h) else none
  | _ => none
def mJs : List (Mo W) → Str → Mo W
  | [], acc => fun ρ h => some (.ok (.cl (.str acc)) ρ h)
  | m :: ms, acc => fun ρ h => bindR (m ρ h) fun w ρ h => match (deref h w).map D.u with
    | some (.str y) => if (acc ++ y).length ≤ 100000 then mJs ms (acc ++ y) ρ h else none
    | _ => none
inductive SimEs (f : PySem.W.Frag) (WW : WX) : List TE → List (Mo W) → Prop
  | nil : SimEs f WW [] []
  | cons {t : TE} {ts : List TE} {m : Mo W} {ms : List (Mo W)} : SimE f WW t m → SimEs f WW ts ms → SimEs f WW (t :: ts) (m :: ms)
section
variable {f : PySem.W.Frag} {WW : WX} {F : Fm} {κ M : List Addr} {H H' : Hp} {σ : L2.St} {ρ ρ' : List Sl} {h : Tb} {st : List (V × W)} {tr : TA} {mr : Mo (List W)} {te ta tb : TE} {me ma mb : Mo W} {C : Str} {m : Fnm}
theorem sim_fmt (ha : SimE f WW ta ma) : SimE f WW (tFmt ta) (mFmt ma) := fun F σ H ρ h st x Q E e p => by
  rcases bindR_some e with ⟨w1, ρ1, h1, e1, e⟩ | ⟨C', fs, ρ1, h1, e1, rfl⟩
  · refine ha F σ H ρ h st _ _ E e1 fun v1 H1 ⟨κ, E1⟩ => ?_
    cases q1 : deref h1 w1 with
    | none => rw [q1] at e; cases e
    | some d1 =>
      rw [q1] at e
      dsimp only [Option.map_some] at e
      split at e
      · rename_i z hz
        split at e
        · cases e
          cases nr_str (E1.near (List.mem_cons_self ..) q1) (Option.some.inj hz)
          exact .inl ⟨z, rfl, sz_le ‹_›, p _ _ ⟨κ, E1.pop.pushC (.str _)⟩⟩
        · cases e
      · cases e
  · exact ha F σ H ρ h st _ _ E e1 p
theorem sim_js : ∀ {ts : List TE} {ms : List (Mo W)}, SimEs f WW ts ms → ∀ (acc : Str), SimE f WW (fun σ H Q => tJs ts acc σ H fun out H1 => Q (.str out) H1) (mJs ms acc)
  | _, _, .nil, acc => fun F σ H ρ h st x Q E e p => by
    cases e
    exact p _ _ (E.pushC0 fun _ _ => .str _)
  | _, _, .cons (t := t) (ts := ts) (m := m) (ms := ms) hm r, acc => fun F σ H ρ h st x Q E e p => by
    have e : (bindR (m ρ h) fun w ρ h => match (deref h w).map D.u with
      | some (.str y) => if (acc ++ y).length ≤ 100000 then mJs ms (acc ++ y) ρ h else none
      | _ => none) = some x := e
    show t σ H _
    rcases bindR_some e with ⟨w1, ρ1, h1, e1, e⟩ | ⟨C', fs, ρ1, h1, e1, rfl⟩
    · refine hm F σ H ρ h st _ _ E e1 fun v1 H1 ⟨κ, E1⟩ => ?_
      cases q1 : deref h1 w1 with
      | none => rw [q1] at e; cases e
      | some d1 =>
        rw [q1] at e
        dsimp only [Option.map_some] at e
        split at e
        · rename_i z hz
          split at e
          · rename_i hl
            refine ⟨z, nr_str (E1.near (List.mem_cons_self ..) q1) (Option.some.inj hz), sz_le hl, ?_⟩
            exact sim_js r (acc ++ z) F σ H1 ρ1 h1 st x Q ⟨κ, E1.pop⟩ e p
          · cases e
        · cases e
    · exact hm F σ H ρ h st _ _ E e1 p
/-! ### own text, own length, own == -/
def chkS : R W → Bool
  | .ok (.cl (.str _)) _ _ => true
  | _ => false
def chkN : R W → Bool
  | .ok (.cl (.int i)) _ _ => decide (0 ≤ i ∧ i < 1000000)
  | _ => false
def chkB : R W → Bool
  | .ok (.cl (.bl _)) _ _ => true
  | _ => false
def callC (chk : R W → Bool) (C : Str) (m : Fnm) (ws : List W) (ρ : List Sl) (h : Tb) : Option (R W) := match ws with
  | w :: _ => (deref h w).bind fun d => (insOf C d.u).bind fun _ => (callT m (ws.map fzW) ρ h).bind fun r => if chk r = true then some r else none
  | [] => none
def mStrO (C : Str) (m : Fnm) (a : Mo (List W)) : Mo W := fun ρ h => bindR (a ρ h) fun ws ρ h => match ws with
  | [w] => callC chkS C m [w] ρ h
  | _ => none
def mLenO (C : Str) (m : Fnm) (a : Mo (List W)) : Mo W := fun ρ h => bindR (a ρ h) fun ws ρ h => match ws with
  | [w] => callC chkN C m [w] ρ h
  | _ => none
theorem callC_ok {chk : R W → Bool} {ws : List W} {vs : List V} {r : R W} (E : EnvK f κ F σ H ρ h (vs.zip ws ++ st)) (hl : vs.length = ws.length) (e : callC chk C m ws ρ h = some r) :
    (∃ a dx fs, vs.head? = some (V.ref a) ∧ H a = some (.ins (He.ga f C) dx fs)) ∧ chk r = true ∧ callT m (ws.map fzW) ρ h = some r := by
  unfold callC at e
  split at e
  · rename_i w ws'
    match vs, hl, E with
    | v :: vs', hl, E =>
      cases h1 : deref h w with
      | none => rw [h1] at e; cases e
      | some d =>
        rw [h1] at e
        dsimp only [Option.bind_some] at e
        cases h2 : insOf C d.u with
        | none => rw [h2] at e; cases e
        | some fs =>
          rw [h2] at e
          dsimp only [Option.bind_some] at e
          obtain ⟨a, dx, gs, rfl, ea, _⟩ := nr_ins (E.near (v := v) (w := w) (List.mem_cons_self ..) h1) h2
          cases h3 : callT m (List.map fzW (w :: ws')) ρ h with
          | none => rw [h3] at e; cases e
          | some r' =>
            rw [h3] at e
            dsimp only [Option.bind_some] at e
            split at e
            · rename_i hc
              cases e
              exact ⟨⟨a, dx, gs, rfl, ea⟩, hc, rfl⟩
            · cases e
  · cases e
theorem EnvR.reps {v : V} {d : D} (E : EnvR f F σ H ρ h ((v, W.cl d) :: st)) : ∃ κ, Rep (av F κ ((v, W.cl d) :: st)) ⟨f, κ⟩ H v d := E.elim fun κ E => ⟨κ, E.rep (List.mem_cons_self ..)⟩
theorem sim_strO (ha : SimA f WW tr mr) : SimE f WW (tCB (rStrO (He.ga f C) (spM f m) E0) tr) (mStrO C m mr) := fun F σ H ρ h st x Q E e p => by
  rcases bindR_some e with ⟨ws, ρ1, h1, e1, e⟩ | ⟨C', fs, ρ1, h1, e1, rfl⟩
  · refine ha F σ H ρ h st _ _ E e1 fun vs H1 hl E1 => ?_
    split at e
    · rename_i w
      match vs, hl, E1 with
      | [v], hl, ⟨κ, E1⟩ =>
        obtain ⟨⟨a, dx, fs, hv, ea⟩, hc, hcall⟩ := callC_ok E1 hl e
        cases hv
        refine ⟨a, dx, fs, rfl, ea, EnvK.callT (vs := [V.ref a]) (ds := [w].map fzW) (E1.fzs rfl) rfl hcall fun w ρ' h' hr v H' E' => ?_⟩
        subst hr
        have hcl : ∃ y, w = .cl (.str y) := by
          cases w with
          | cl d => cases d <;> first | exact ⟨_, rfl⟩ | cases hc
          | _ => cases hc
        obtain ⟨y, rfl⟩ := hcl
        obtain ⟨_, r⟩ := E'.reps
        exact ⟨y, rep_str r, p v H' E'⟩
    · cases e
  · exact ha F σ H ρ h st _ _ E e1 p
theorem sim_lenO (ha : SimA f WW tr mr) : SimE f WW (tCB (rLenO (He.ga f C) (spM f m) E0) tr) (mLenO C m mr) := fun F σ H ρ h st x Q E e p => by
  rcases bindR_some e with ⟨ws, ρ1, h1, e1, e⟩ | ⟨C', fs, ρ1, h1, e1, rfl⟩
  · refine ha F σ H ρ h st _ _ E e1 fun vs H1 hl E1 => ?_
    split at e
    · rename_i w
      match vs, hl, E1 with
      | [v], hl, ⟨κ, E1⟩ =>
        obtain ⟨⟨a, dx, fs, hv, ea⟩, hc, hcall⟩ := callC_ok E1 hl e
        cases hv
        refine ⟨a, dx, fs, rfl, ea, EnvK.callT (vs := [V.ref a]) (ds := [w].map fzW) (E1.fzs rfl) rfl hcall fun w ρ' h' hr v H' E' => ?_⟩
        subst hr
        have hcl : ∃ i, w = .cl (.int i) ∧ 0 ≤ i ∧ i < 1000000 := by
          cases w with
          | cl d => cases d <;> first | exact ⟨_, rfl, of_decide_eq_true hc⟩ | cases hc
          | _ => cases hc
        obtain ⟨i, rfl, h0, h1⟩ := hcl
        obtain ⟨_, r⟩ := E'.reps
        exact ⟨i, rep_int r, h0, by omega, p v H' E'⟩
    · cases e
  · exact ha F σ H ρ h st _ _ E e1 p
/-- own == anything of the kinds ks -/
def mEqO (C : Str) (ks : List Kd) (m : Fnm) (a b : Mo W) : Mo W := fun ρ h => bindR (a ρ h) fun x ρ h => bindR (b ρ h) fun y ρ h => (deref h y).bind fun dy => (kd dy.u).bind fun k => if decide (k ∈ ks) = true then callC chkB C m [x, y] ρ h else none
def mNeO (C : Str) (ks : List Kd) (m : Fnm) (a b : Mo W) : Mo W := fun ρ h => bindR (mEqO C ks m a b ρ h) fun w ρ h => match w with
  | .cl (.bl b) => some (.ok (.cl (.bl (!b))) ρ h)
  | _ => none
structure EqKs (K : PySem.W.Frag) (C : Str) (ks : List Kd) : Prop where
  ok : ∀ k ∈ ks, KdOk K k ∧ PySem.W.notFirst K (He.ga K C) (kdV K k) = true
theorem eqO_core {ks : List Kd} (hk : EqKs f C ks) (ha : SimE f WW ta ma) (hb : SimE f WW tb mb) (F : Fm) (σ : L2.St) (H : Hp) (ρ : List Sl) (h : Tb) (st : List (V × W)) (r : R W) (Q : VK) (G : V → V → Hp → Prop)
    (hG : ∀ x y H (a dx : Addr) (fs : List (Str × V)) (t : Value), x = .ref a → H a = some (.ins (He.ga f C) dx fs) → TyY f H y t → PySem.W.notFirst f (He.ga f C) t = true → spM f m [x, y] H (fun z H' => ∃ b, z = .bl b ∧ Q z H') E0 → G x y H)
    (E : EnvR f F σ H ρ h st) (e : mEqO C ks m ma mb ρ h = some r) (p : PostE f F WW σ st Q r) : ta σ H fun x H1 => tb σ H1 fun y H2 => G x y H2 := by
  rcases bindR_some e with ⟨w1, ρ1, h1, e1, e⟩ | ⟨C', fs, ρ1, h1, e1, rfl⟩
  · refine ha F σ H ρ h st _ _ E e1 fun v1 H1 E1 => ?_
    rcases bindR_some e with ⟨w2, ρ2, h2, e2, e⟩ | ⟨C', fs, ρ2, h2, e2, rfl⟩
    · refine hb F σ H1 ρ1 h1 _ _ _ E1 e2 fun v2 H2 ⟨κ, E2⟩ => ?_
      cases q1 : deref h2 w2 with
      | none => rw [q1] at e; cases e
      | some d2 =>
        rw [q1] at e
        dsimp only [Option.bind_some] at e
        cases q2 : kd d2.u with
        | none => rw [q2] at e; cases e
        | some k =>
          rw [q2] at e
          dsimp only [Option.bind_some] at e
          split at e
          · rename_i hm
            obtain ⟨o1, o2⟩ := hk.ok k (of_decide_eq_true hm)
            have E3 : EnvK f κ F σ H2 ρ2 h2 ([v1, v2].zip [w1, w2] ++ st) := E2.perm (List.Perm.swap _ _ _)
            obtain ⟨⟨a, dx, fs, hv, ea⟩, hc, hcall⟩ := callC_ok E3 rfl e
            cases hv
            refine hG _ _ _ a dx fs _ rfl ea (ty_of (K := ⟨f, κ⟩) (E2.near (List.mem_cons_self ..) q1) q2 o1) o2 (EnvK.callT (vs := [V.ref a, v2]) (ds := [w1, w2].map fzW) (E3.fzs rfl) rfl hcall fun w ρ' h' hr v H' E' => ?_)
            subst hr
            have hcl : ∃ y, w = .cl (.bl y) := by
              cases w with
              | cl d => cases d <;> first | exact ⟨_, rfl⟩ | cases hc
              | _ => cases hc
            obtain ⟨y, rfl⟩ := hcl
            obtain ⟨_, r⟩ := E'.reps
            exact ⟨y, rep_bl r, p v H' E'⟩
          · cases e
    · exact hb F σ H1 ρ1 h1 _ _ _ E1 e2 (ExR.up p)
  · exact ha F σ H ρ h st _ _ E e1 p
theorem sim_eqO {ks : List Kd} (hk : EqKs f C ks) (ha : SimE f WW ta ma) (hb : SimE f WW tb mb) : SimE f WW (tOp (rEqO f (He.ga f C) (spM f m) E0) ta tb) (mEqO C ks m ma mb) := fun F σ H ρ h st x Q E e p =>
  eqO_core hk ha hb F σ H ρ h st x Q _ (fun x y H a dx fs t h1 h2 h3 h4 h5 => ⟨a, dx, fs, t, h1, h2, h3, h4, h5⟩) E e p
theorem sim_neO {ks : List Kd} (hk : EqKs f C ks) (ha : SimE f WW ta ma) (hb : SimE f WW tb mb) : SimE f WW (tOp (rNeO f (He.ga f C) (spM f m) E0) ta tb) (mNeO C ks m ma mb) := fun F σ H ρ h st x Q E e p => by
  have hG : ∀ x y H (a dx : Addr) (fs : List (Str × V)) (t : Value), x = .ref a → H a = some (.ins (He.ga f C) dx fs) → TyY f H y t → PySem.W.notFirst f (He.ga f C) t = true → spM f m [x, y] H (fun z H' => ∃ b, z = .bl b ∧ ∃ b', z = .bl b' ∧ Q (.bl (!b')) H') E0 → rNeO f (He.ga f C) (spM f m) E0 x y H Q := fun x y H a dx fs t h1 h2 h3 h4 h5 => by
    refine ⟨a, dx, fs, t, h1, h2, h3, h4, ?_⟩
    obtain ⟨κ, A, ds, h, r, s1, s3, s4⟩ := h5
    refine ⟨κ, A, ds, h, r, s1, s3, ?_⟩
    cases r with
    | rt w h' =>
      intro v H' E'
      obtain ⟨b, rfl, b', hb', q⟩ := s4 v H' E'
      cases hb'
      exact ⟨b, rfl, q⟩
    | ex C fs h' => exact s4
  rcases bindR_some e with ⟨w1, ρ1, h1, e1, e⟩ | ⟨C', fs, ρ1, h1, e1, rfl⟩
  · refine eqO_core hk ha hb F σ H ρ h st _ (fun z H' => ∃ b, z = .bl b ∧ Q (.bl (!b)) H') (rNeO f (He.ga f C) (spM f m) E0 · · · Q) hG E e1 fun v H1 E1 => ?_
    split at e
    · rename_i b
      cases e
      obtain ⟨_, r⟩ := E1.reps
      cases rep_bl r
      exact ⟨b, rfl, p _ _ (E1.pop.pushC0 fun _ _ => .bl _)⟩
    · cases e
  · exact eqO_core hk ha hb F σ H ρ h st _ (fun z H' => ∃ b, z = .bl b ∧ Q (.bl (!b)) H') (rNeO f (He.ga f C) (spM f m) E0 · · · Q) hG E e1 p
end
def dAddI (a b : D) : Option W := match a.u, b.u with
  | .int i, .int j => some (.cl (.int (i + j)))
  | _, _ => none
theorem o_ipadd {f : PySem.W.Frag} : Op2 f (ipI fun i j => i + j) dAddI := fun κ M H x y dx dy w Q hM nx ny e q => by
  unfold dAddI at e
  split at e
  · rename_i i j h1 h2
    cases e
    rw [nr_int nx h1, nr_int ny h2]
    exact ⟨i, j, rfl, rfl, q _ _ Ex.refl (.cl (.int _))⟩
  · cases e
section
variable {X : Cx} {n : Nat} {D' : Eqv}
def rNeG (D' : Eqv) : R2 := fun x y H Q => DList D' x y H ∧ ∀ H', Ext H H' → Q (.bl false) H'
theorem op_neG (hD : Mon D') (h : EqG X n D') (hr : Room (n + 1) X.A) : OpR X (compareOp .NotEq) (rNeG D') := by
  rintro pins s σ H _ _ v u Q I rx ry ⟨⟨a, b, xs, ys, rfl, rfl, ha, hb, p⟩, q⟩
  obtain rfl : v = .ref a := rx
  obtain rfl : u = .ref b := ry
  refine SL.rc_listN (N := xs.length) hr.units0 (fun _ s' => LoopI X pins σ H s') (fun i s' st => ?_) (fun s' ⟨H', I', e⟩ => ⟨.bl false, H', I', rfl, q H' e⟩) ⟨H, I, Ext.rfl'⟩
  obtain ⟨H1, I1, e1⟩ := id st
  obtain ⟨_, us, k, r, g⟩ := I1.hok a _ (e1 _ _ ha)
  obtain ⟨_, ws, k2, r2, g2⟩ := I1.hok b _ (e1 _ _ hb)
  have z1 : us.toArray.size = xs.length := by rw [List.size_toArray, ← r.length]
  have z2 : ws.toArray.size = xs.length := by rw [List.size_toArray, ← r2.length, ← p.1]
  exact ⟨us.toArray, ws.toArray, k, k2, g, g2, z1, z2, fun h1 h2 => turnG hD h (sb := ⟨hr, rfl⟩) p r r2 i h1 h2 s' st⟩
end
/-- the plain == says True of the two -/
def saysEq (f : PySem.W.Frag) (m : Fnm) (a b : Addr) (H : Hp) : Prop := ∃ (d e : D), Rep [] ⟨f, []⟩ H (.ref a) d ∧ Rep [] ⟨f, []⟩ H (.ref b) e ∧ m [d, e] [] = some (.rt (.cl (.bl true)) [])
theorem ext_ex {H H' : Hp} (e : Ext H H') : Ex [] H H' := fun a o _ h => e a o h
theorem saysEq_mon {f : PySem.W.Frag} {m : Fnm} : ∀ a b H H', Ext H H' → saysEq f m a b H → saysEq f m a b H' := fun a b H H' e ⟨d, d2, r1, r2, h⟩ => ⟨d, d2, r1.ex (ext_ex e), r2.ex (ext_ex e), h⟩
theorem spEq_of {f : PySem.W.Frag} {m : Fnm} {vs : List V} {H : Hp} {Q : VK} {E : XK} (h : spEq (saysEq f m) vs H Q E) : spM f m vs H Q E := by
  obtain ⟨a, b, rfl, ⟨d, e, r1, r2, hm⟩, q⟩ := h
  refine ⟨[], [], [d, e], [], _, ⟨⟨fun a h => absurd h List.not_mem_nil, fun a h => absurd h List.not_mem_nil⟩, rfl, rfl, ⟨[], rfl, fun _ z => absurd z List.not_mem_nil⟩, Ex.refl, fun _ z => z, .nil, fun i o s h1 h2 => ?_, fun n p c h1 _ => by simp at h1, fun x hx => by cases hx⟩, hm, ?_⟩
  · match i, h1, h2 with
    | 0, h1, h2 =>
      simp at h1 h2
      subst h1 h2
      exact .cl r1
    | 1, h1, h2 =>
      simp at h1 h2
      subst h1 h2
      exact .cl r2
    | i + 2, h1, h2 => simp at h1
  · intro v H' ⟨κ', E'⟩
    have r := E'.rep (List.mem_cons_self ..)
    cases rep_bl r
    exact q H' fun a o h => E'.ex a o List.not_mem_nil h
theorem FnOk_imp {P : Program} {w : World} {K : PySem.W.Frag} {mg : Str → Option Value} {base : Heap} {CX : CXT} {k : Nat} {f : Addr} {fd : FuncData} {ps : List Str} {sp sp' : Sp} (F : FnOk P w K mg base CX k f fd ps sp) (h : ∀ vs H Q E, sp' vs H Q E → sp vs H Q E) : FnOk P w K mg base CX k f fd ps sp' := by
  constructor
  · exact fun vs H Q E q => F.len vs H Q E (h vs H Q E q)
  · exact fun A outer s H args us vs Q E hr e b r q => F.run A outer s H args us vs Q E hr e b r (h vs H Q E q)
/-- lists of instances that are equal: != says False -/
abbrev DOwn (K : PySem.W.Frag) (C : Str) (m : Fnm) : Eqv := DIns (He.ga K C) (saysEq K m)
theorem op_neL {X : Cx} {CX : CXT} {n : Nat} {C : Str} {m : Fnm} {f : Addr} {fd : FuncData} {ps : List Str} (F : FnOk X.prog X.w X.K X.mg X.base CX n f fd ps (spM X.K m)) (hs : PySem.W.findIn X.K (.ref (He.ga X.K C)) "__eq__" = some (some (.ref f))) (hf : PySem.W.isFn X.K (.ref f) = true)
    (hb : Binds X.K fd ps []) (hx : Passes CX X E0) (hr : Room (n + 1) X.A) : OpR X (compareOp .NotEq) (rNeG (DOwn X.K C m)) :=
  op_neG (mon_ins saysEq_mon) (eqG_ins (E := E0) (FnOk_imp F fun _ _ _ _ h => spEq_of h) hs hf hb hx) hr
open Classical in
noncomputable def eqAllM (C : Str) (m : Fnm) : List D → List D → Bool
  | [], [] => true
  | d :: ds, e :: es => (insOf C d.u).isSome && ((insOf C e.u).isSome && (decide (m [d, e] [] = some (.rt (.cl (.bl true)) [])) && (below 0 d && (below 0 e && eqAllM C m ds es))))
  | _, _ => false
noncomputable def dNeL (C : Str) (m : Fnm) (a b : D) : Option W := match a.u, b.u with
  | .lst ds, .lst es => if eqAllM C m ds es = true then some (.cl (.bl false)) else none
  | _, _ => none
theorem eqAll_prs {f : PySem.W.Frag} {κ M : List Addr} {H : Hp} {C : Str} {m : Fnm} : ∀ {xs ys : List V} {ds es : List D}, RepA M ⟨f, κ⟩ H xs ds → RepA M ⟨f, κ⟩ H ys es → eqAllM C m ds es = true → Prs (DOwn f C m) xs ys H
  | _, _, _, _, .nil, .nil, _ => Prs.nil
  | _, _, _, _, .cons h a, .cons h2 a2, e => by
    unfold eqAllM at e
    simp only [Bool.and_eq_true, decide_eq_true_eq] at e
    obtain ⟨e1, e2, e3, e5, e6, e4⟩ := e
    obtain ⟨f1, e1⟩ := Option.isSome_iff_exists.mp e1
    obtain ⟨f2, e2⟩ := Option.isSome_iff_exists.mp e2
    obtain ⟨a1, dx, vs, rfl, q1, _⟩ := nr_ins (.cl h) e1
    obtain ⟨b1, dy, ws, rfl, q2, _⟩ := nr_ins (.cl h2) e2
    refine Prs.cons ⟨a1, b1, dx, dy, vs, ws, rfl, rfl, q1, q2, ?_⟩ (eqAll_prs a a2 e4)
    have r1 : Rep [] ⟨f, [] ++ κ⟩ H (.ref a1) _ := h.mono fun _ z => absurd z List.not_mem_nil
    have r2 : Rep [] ⟨f, [] ++ κ⟩ H (.ref b1) _ := h2.mono fun _ z => absurd z List.not_mem_nil
    exact ⟨_, _, r1.dn e5, r2.dn e6, e3⟩
  | _, _, _, _, .nil, .cons _ _, e => by cases e
  | _, _, _, _, .cons _ _, .nil, e => by cases e
theorem o_neL {f : PySem.W.Frag} {C : Str} {m : Fnm} : Op2 f (rNeG (DOwn f C m)) (dNeL C m) := fun κ M H x y dx dy w Q hM nx ny e q => by
  unfold dNeL at e
  split at e
  · rename_i ds es h1 h2
    obtain ⟨a, xs, rfl, s1, r1⟩ := nr_lst nx h1
    obtain ⟨b, ys, rfl, s2, r2⟩ := nr_lst ny h2
    split at e
    · rename_i he
      cases e
      exact ⟨⟨a, b, xs, ys, rfl, rfl, s1, s2, eqAll_prs r1 r2 he⟩, fun H' e => q _ _ (ext_ex e) (.cl (.bl _))⟩
    · cases e
  · cases e
structure DA where
  ad : PySem.W.Frag → Addr
  d : He.DefD
def fnA (K : PySem.W.Frag) (a : Addr) : He.FnW := match K.lookup a with
  | some ⟨_, _, .func fd, _⟩ => some (fd.name, fd.qualname, fd.params, fd.body, fd.scope, fd.globals, fd.closure, fd.builtins)
  | _ => none
def okA (K : PySem.W.Frag) (a : Addr) (d : He.DefD) : Bool := PySem.W.keepIn K (.ref a) && (match K.lookup a with
  | some ⟨_, _, .func fd, _⟩ => PySem.W.codeIn K fd.code d.qual && (He.dflB K fd.defaults (d.dvs K) && He.kwdB K fd.kwdefaults (d.kws K))
  | _ => false)
theorem funA {K : PySem.W.Frag} {d : He.DefD} {a : Addr} (e : fnA K a = d.val) (c : okA K a d = true) : ∃ fd, FunD K d.name d.qual d.params d.body d.scope (d.dvs K) (d.kws K) a fd := by
  obtain ⟨kp, c⟩ := He.ba c
  unfold fnA at e
  rcases q : K.lookup a with _ | ⟨oc, od, dt, osl⟩ <;> rw [q] at c e
  · cases c
  · cases dt
    case func fd =>
      rcases fd with ⟨a1, a2, a3, a4, a5, a6, a7, a8, a9, a10, a11, a12, a13, a14, a15⟩
      cases (show (some (a1, a2, a3, a4, a5, a6, a7, a15) : He.FnW) = some (d.name, d.qual, d.params, .stmts d.body, d.scope, mainGlobals, [], builtinsNs) from e)
      obtain ⟨code, c⟩ := He.ba c
      obtain ⟨dfl, kwd⟩ := He.ba c
      exact ⟨_, ⟨oc, od, a8, a9, a10, a11, a12, a13, a14, osl, rfl, q, code, He.dflB_ok dfl, He.kwdB_ok kwd⟩, kp⟩
    all_goals cases c
abbrev AlA : Type := Bool × List He.FnW
def obsA (ok : Looks) (fn : List DA) (K : PySem.W.Frag) : AlA := ((ok.all fun f => f K) && fn.all fun d => okA K (d.ad K) d.d, fn.map fun d => fnA K (d.ad K))
def valA (fn : List DA) : AlA := (true, fn.map fun d => d.d.val)
def SaysA (ok : Looks) (fn : List DA) (K : PySem.W.Frag) : Prop := obsA ok fn K = valA fn
def obsAG (n : Nat) (ok : Looks) (fn : List DA) (g : Addr → Option Obj) : AlA := obsA ok fn (He.frG g (cStatics :: He.asD g n))
def hookA (n : Nat) (ok : Looks) (fn : List DA) : PySem.W.Hook where
  α := AlA
  obs s := obsAG n ok fn s.heap.get?
  val _ := valA fn
  says _ h := ∃ K : PySem.W.Frag, K.In h ∧ SaysA ok fn K
  of _ _ e := ⟨_, He.frG_in, e⟩
  keeps _ _ _ := fun ⟨K, hK, c⟩ k => ⟨K, PySem.W.Frag.In.keeps hK k, c⟩
theorem obsAG_eq {n : Nat} {ok : Looks} {fn : List DA} {g : Addr → Option Obj} {s : Shared} (h : ∀ a, g a = s.heap.get? a) : obsAG n ok fn g = (hookA n ok fn).obs s := by
  rw [show g = s.heap.get? from funext h]
  rfl
section
variable {ok : Looks} {fn : List DA} {K : PySem.W.Frag}
theorem SaysA.look (c : SaysA ok fn K) (i : Nat) {f : PySem.W.Frag → Bool} (h : ok[i]? = some f := by rfl) : f K = true := by
  have c1 : ((ok.all fun f => f K) && fn.all fun d => okA K (d.ad K) d.d) = true := congrArg Prod.fst c
  exact List.all_eq_true.mp (Bool.and_eq_true_iff.mp c1).1 f (List.mem_of_getElem? h)
theorem SaysA.defn (c : SaysA ok fn K) (i : Nat) {d : DA} (h : fn[i]? = some d := by rfl) : ∃ fd, FunD K d.d.name d.d.qual d.d.params d.d.body d.d.scope (d.d.dvs K) (d.d.kws K) (d.ad K) fd := by
  have c1 : ((ok.all fun f => f K) && fn.all fun d => okA K (d.ad K) d.d) = true := congrArg Prod.fst c
  have c2 : (fn.map fun d => fnA K (d.ad K)) = fn.map fun d => d.d.val := congrArg Prod.snd c
  have c3 : (fn.map fun d => fnA K (d.ad K))[i]? = (fn.map fun d => d.d.val)[i]? := congrArg (fun l => l[i]?) c2
  rw [List.getElem?_map, List.getElem?_map, h] at c3
  exact funA (Option.some.inj c3) (List.all_eq_true.mp (Bool.and_eq_true_iff.mp c1).2 d (List.mem_of_getElem? h))
end
/-! ### looks -/
def pgA (K : PySem.W.Frag) (C f : Str) : Addr := match PySem.W.recIn K (He.ma K (He.ga K C) f) "property" with
  | some (.ref g :: _) => g
  | _ => 0
def propB (K : PySem.W.Frag) (C f : Str) : Bool := decide (PySem.W.findIn K (.ref (He.ga K C)) f = some (some (.ref (He.ma K (He.ga K C) f)))) && (decide (PySem.W.specialIn K (.ref (He.ma K (He.ga K C) f)) "__get__" = some (some (.builtin "property.__get__"))) &&
  (decide (PySem.W.takesIn K (.ref (He.ma K (He.ga K C) f)) = some true) && (match PySem.W.recIn K (He.ma K (He.ga K C) f) "property" with
    | some (.ref _ :: _) => true
    | _ => false)))
theorem propB_ok {K : PySem.W.Frag} {C f : Str} (h : propB K C f = true) : PropOf K (He.ga K C) f (He.ma K (He.ga K C) f) (pgA K C f) := by
  simp only [propB, Bool.and_eq_true, decide_eq_true_eq] at h
  obtain ⟨h1, h2, h3, h4⟩ := h
  refine ⟨h1, h2, h3, ?_⟩
  unfold pgA
  split at h4
  · rename_i g r e
    rw [e]
    exact ⟨r, rfl⟩
  · cases h4
/-- a special method of an own class -/
def specB (K : PySem.W.Frag) (C m : Str) : Bool := decide (PySem.W.findIn K (.ref (He.ga K C)) m = some (some (.ref (He.ma K (He.ga K C) m)))) && PySem.W.isFn K (.ref (He.ma K (He.ga K C) m))
theorem specB_ok {K : PySem.W.Frag} {C m : Str} (h : specB K C m = true) : PySem.W.findIn K (.ref (He.ga K C)) m = some (some (.ref (He.ma K (He.ga K C) m))) ∧ PySem.W.isFn K (.ref (He.ma K (He.ga K C) m)) = true := by
  simpa only [specB, Bool.and_eq_true, decide_eq_true_eq] using h
/-- isinstance: a kind against a class; kinds against classes -/
def isiLk (K : PySem.W.Frag) (t u : Value) (b : Bool) : Bool := decide (PySem.W.kitOne K t u = some b)
theorem isiLk_ok {K : PySem.W.Frag} {t u : Value} {b : Bool} (h : isiLk K t u b = true) : PySem.W.kitOne K t u = some b := of_decide_eq_true h
def isiLkT (K : PySem.W.Frag) (t : Value) (us : List Value) (b : Bool) : Bool := decide (PySem.W.kitAny K t us = some b)
theorem isiLkT_ok {K : PySem.W.Frag} {t : Value} {us : List Value} {b : Bool} (h : isiLkT K t us b = true) : PySem.W.kitAny K t us = some b := of_decide_eq_true h
def kdOkB (K : PySem.W.Frag) : Kd → Bool
  | .b _ => true
  | .own C => ownB K C
  | .exc C => isiB K (He.ga K C)
  | .fn => false
theorem kdOkB_ok {K : PySem.W.Frag} : ∀ {k : Kd}, kdOkB K k = true → KdOk K k
  | .b _, _ => trivial
  | .own _, h => ownB_ok h
  | .exc _, h => h
def eqKsB (K : PySem.W.Frag) (C : Str) (ks : List Kd) : Bool := ks.all fun k => kdOkB K k && PySem.W.notFirst K (He.ga K C) (kdV K k)
theorem eqKsB_ok {K : PySem.W.Frag} {C : Str} {ks : List Kd} (h : eqKsB K C ks = true) : EqKs K C ks := ⟨fun k hk => by
  have := List.all_eq_true.mp h k hk
  rw [Bool.and_eq_true] at this
  exact ⟨kdOkB_ok this.1, this.2⟩⟩
/-- isinstance by a table of kinds -/
def tabB (K : PySem.W.Frag) (c : Cd) (tab : List (Kd × Bool)) : Bool := tab.all fun p => kdOkB K p.1 && decide (PySem.W.kitOne K (kdV K p.1) (cdV K c) = some p.2)
theorem tabB_ok {K : PySem.W.Frag} {c : Cd} : ∀ {tab : List (Kd × Bool)}, tabB K c tab = true → Tab K (fun t => PySem.W.kitOne K t (cdV K c)) tab
  | [], _ => .nil
  | (k, b) :: r, h => by
    unfold tabB at h
    rw [List.all_cons, Bool.and_eq_true, Bool.and_eq_true] at h
    exact .cons (kdOkB_ok h.1.1) (of_decide_eq_true h.1.2) (tabB_ok h.2)
def tabBT (K : PySem.W.Frag) (cs : List Cd) (tab : List (Kd × Bool)) : Bool := tab.all fun p => kdOkB K p.1 && decide (PySem.W.kitAny K (kdV K p.1) (cs.map (cdV K)) = some p.2)
theorem tabBT_ok {K : PySem.W.Frag} {cs : List Cd} : ∀ {tab : List (Kd × Bool)}, tabBT K cs tab = true → Tab K (fun t => PySem.W.kitAny K t (cs.map (cdV K))) tab
  | [], _ => .nil
  | (k, b) :: r, h => by
    unfold tabBT at h
    rw [List.all_cons, Bool.and_eq_true, Bool.and_eq_true] at h
    exact .cons (kdOkB_ok h.1.1) (of_decide_eq_true h.1.2) (tabBT_ok h.2)
theorem raw0 {P : Program} {w : World} {K : PySem.W.Frag} {mg : Str → Option Value} {base : Heap} {CX : CXT} {k : Nat} {f : Addr} {fd : FuncData} {ps : List Str} {sp : Sp} (F : FnOk P w K mg base CX k f fd ps sp) (hb : Binds K fd ps []) : FnR P w K mg base CX k f sp := by
  have h := F.raw hb .nil
  have e : (fun (vs : List V) (H : Hp) (Q : VK) (E : XK) => sp (vs ++ []) H Q E) = sp := by
    funext vs H Q E
    rw [List.append_nil]
  rw [e] at h
  exact h
/-! ### the law's promise from its plain run -/
open PySem.Calls PyProof in
theorem law_sp {f : PySem.W.Frag} {m : Fnm} {ns : List Int} {o : Tb} (hm : m [.scr ns] [] = some (.rt (.cl (.bl true)) o)) {H : Hp} {a : Addr} (hS : SqL f H a (ns.map V.int)) :
    spM f m [.ref a] H (fun v _ => v = .bl true) fun _ _ _ => False := by
  refine ⟨[], [], [.scr ns], [], _, ⟨⟨fun a h => absurd h List.not_mem_nil, fun a h => absurd h List.not_mem_nil⟩, rfl, rfl, ⟨[], rfl, fun _ z => absurd z List.not_mem_nil⟩, Ex.refl, fun _ z => z, .nil, fun i x s h1 h2 => ?_, fun n p c h1 _ => by simp at h1, fun x hx => by cases hx⟩, hm, ?_⟩
  · match i with
    | 0 =>
      cases h1
      cases h2
      refine .cl (.scr ?_)
      exact hS.imp (fun z => ⟨z, fun q => nomatch q⟩) id
    | i + 1 => simp at h1
  · intro v H' ⟨κ', E'⟩
    exact rep_bl (E'.rep (List.mem_cons_self ..))
open PySem.Calls PyProof
section
variable {K : PySem.W.Frag} {x qual : Str} {params : Arguments} {body : List Stmt} {scope : Scope} {dvs : List V} {kws : List (Str × V)} {f : Addr} {fd : FuncData} {ps : List Str}
/-- all is written, though defaults stand -/
theorem binds_all (F : FunD K x qual params body scope dvs kws f fd) (hd : dvs ≠ [])
    (h : ∀ (T : Addr) (kV doc pm : Value) (an : Option Addr) (cdv ct : Value) (us its : List Value), us.length = ps.length → its.length = dvs.length →
      ∃ k, bindArgs (PySem.W.fnOf x qual params body scope (.ref T) kV doc pm an cdv ct) ⟨us, []⟩ = seqItems? (.ref T) >>= k ∧ k (some its.toArray) = pure (ps.zip us)) : Binds K fd ps [] := by
  obtain ⟨ds, hv, hb⟩ := FunD.binds1 (ps := ps) F ps.length dvs.length hd (by rw [Nat.sub_self]; rfl) (fun T kV doc pm an cdv ct us its h1 h2 => by
    obtain ⟨k, e1, e2⟩ := h T kV doc pm an cdv ct us its h1 h2
    refine ⟨k, e1, ?_⟩
    rw [e2, ← h2, List.drop_length, List.append_nil])
  rw [List.drop_length] at hv
  cases hv
  exact hb
/-- what lacks is filled up -/
theorem binds_fill (F : FunD K x qual params body scope dvs kws f fd) (n j : Nat) (hd : dvs ≠ []) (hn : n + (dvs.length - j) = ps.length) {dd : List V} (hq : dvs.drop j = dd)
    (h : ∀ (T : Addr) (kV doc pm : Value) (an : Option Addr) (cdv ct : Value) (us its : List Value), us.length = n → its.length = dvs.length →
      ∃ k, bindArgs (PySem.W.fnOf x qual params body scope (.ref T) kV doc pm an cdv ct) ⟨us, []⟩ = seqItems? (.ref T) >>= k ∧ k (some its.toArray) = pure (ps.zip (us ++ its.drop j))) : ∃ ds, Vals dd ds ∧ Binds K fd ps ds := by
  obtain ⟨ds, hv, hb⟩ := FunD.binds1 (ps := ps) F n j hd hn h
  exact ⟨ds, hq ▸ hv, hb⟩
end

end CM

/-! CM9: kinds against classes by the package's own tree of classes; raise; further steps. -/
namespace CM
open PySem PySem.Spec PyProof.Rows L2 SL
/-- the bases of the package's exceptions -/
def missing : List Str := ["UnknownColumn", "UnknownShape", "UnknownRow", "UnknownOrder", "UnknownMoment", "UnknownName"]
def state : List Str := ["ShapeWanted", "RowPresent", "NotServed", "NotPossible", "NameTaken", "NothingToUndo", "NothingToRedo", "NotLast", "NotFewest"]
def basesX (C : Str) : List Str := if C ∈ missing ∨ C = "MissingError" then ["MissingError"] else if C ∈ state ∨ C = "StateError" then ["StateError"] else ["SearchError"]
def basesT (C : Str) : List String := if C ∈ missing ∨ C = "MissingError" then ["KeyError", "LookupError"] else if C ∈ state ∨ C = "StateError" then ["LookupError"] else ["ValueError"]
def insK : Kd → Cd → Bool
  | .b T, .ty T' => decide (T = T') || (decide (T = "bool") && decide (T' = "int"))
  | .b _, .own _ => false
  | .own C, .own C' => decide (C = C')
  | .own _, .ty _ => false
  | .exc C, .own C' => decide (C = C') || decide (C' ∈ basesX C)
  | .exc C, .ty T => decide (T ∈ basesT C)
  | .fn, _ => false
def tabK (ks : List Kd) (c : Cd) : List (Kd × Bool) := ks.map fun k => (k, insK k c)
def tabKT (ks : List Kd) (cs : List Cd) : List (Kd × Bool) := ks.map fun k => (k, cs.any (insK k))
theorem look_map {g : Kd → Bool} {k : Kd} : ∀ {ks : List Kd}, k ∈ ks → lookK k (ks.map fun k => (k, g k)) = some (g k)
  | [], h => by cases h
  | k' :: ks, h => by
    show (if k' = k then some (g k') else lookK k (ks.map fun k => (k, g k))) = _
    by_cases e : k' = k
    · rw [if_pos e, e]
    · rw [if_neg e]
      rcases List.mem_cons.mp h with z | z
      · exact absurd z.symm e
      · exact look_map z
/-- a raise: never reached, or so -/
def sRaise (C : Str) (fs : List Str) (a : Mo (List W)) : MS := fun ρ h => bindS (a ρ h) fun ws ρ h => if ws.length = fs.length then some (.ex C (fs.zip (ws.map fzW)) ρ h) else none
def sRz (rz : Bool) (m : MS) : MS := if rz = true then m else sNever
theorem sim_rz0 {f : PySem.W.Frag} {WW : WX} {t : TS} {m : MS} : SimS f WW t (sRz false m) := fun F σ H ρ h st x D E e p => by cases e
/-! ### further readings -/
section
variable {X : Cx}
/-- {x!r}: any data -/
theorem pe_fmtRU {e : Expr} {te : TE} {pos : Pos} (hg : X.A.guards = some []) (hu : X.A.units + 130 < cLine) (he : PE X e te) : PE X (.FormattedValue e 114 none pos) (tCB (SL.uRepr X.K) (tCons te tNil)) := by
  refine ⟨fun pins s σ H Q I h => ?_⟩
  refine wpAny_FormattedValue_repr (thn (he.run pins s σ H _ I h) fun v s1 hv => ?_)
  obtain ⟨x, H1, I1, r1, q⟩ := hv
  obtain ⟨v', d, e, hd, sh, q⟩ := q
  cases e
  obtain ⟨as, rd⟩ := Dp.reads I1 d x v hd r1
  have nd := dp_noDict hd
  cases hd with
  | non =>
    cases (show v = Value.none from r1)
    rw [PyData.shown_none] at q
    exact pyReprObj_none (wpAny_formatField_str ⟨.str _, H1, I1.tok _, ⟨_, rfl⟩, q⟩ ⟨.str _, H1, I1.tok _, ⟨_, rfl⟩, q⟩ (by decide +kernel))
  | bl b =>
    cases (show v = Value.bool b from r1)
    rw [PyData.shown_bool] at q
    refine pyReprObj_bool ?_
    cases b
    · exact wpAny_formatField_str ⟨.str _, H1, I1.tok _, ⟨_, rfl⟩, q⟩ ⟨.str _, H1, I1.tok _, ⟨_, rfl⟩, q⟩ (by decide +kernel)
    · exact wpAny_formatField_str ⟨.str _, H1, I1.tok _, ⟨_, rfl⟩, q⟩ ⟨.str _, H1, I1.tok _, ⟨_, rfl⟩, q⟩ (by decide +kernel)
  | int i =>
    obtain ⟨t, rfl⟩ := r1
    rw [PyData.shown_int] at q
    have z := sh.sh
    simp only [PyData.showable, decide_eq_true_eq] at z
    exact pyReprObj_int z (wpAny_formatField_str ⟨.str _, H1, I1.tok _, ⟨_, rfl⟩, q⟩ ⟨.str _, H1, I1.tok _, ⟨_, rfl⟩, q⟩ (int_text_fits z))
  | str y =>
    obtain ⟨t, rfl⟩ := r1
    have z := sh.fits
    rw [PyData.shown_str] at q z
    exact pyReprObj_str (wpAny_formatField_str ⟨.str _, H1, I1.tok _, ⟨_, rfl⟩, q⟩ ⟨.str _, H1, I1.tok _, ⟨_, rfl⟩, q⟩ z) z
  | lst _ _ =>
    cases (show v = Value.ref _ from r1)
    exact pyReprObj_of_reads rd sh.sh (PyData.noDict_hsm nd) hg (by have := sh.dp; omega) (fun _ _ e => e) (fun h' t tk k => wpAny_formatField_str ⟨.str _, H1, I1.kept k, ⟨_, rfl⟩, q⟩ ⟨.str _, H1, (I1.kept k).tok _, ⟨_, rfl⟩, q⟩ sh.fits) sh.fits
  | tup _ _ =>
    cases (show v = Value.ref _ from r1)
    exact pyReprObj_of_reads rd sh.sh (PyData.noDict_hsm nd) hg (by have := sh.dp; omega) (fun _ _ e => e) (fun h' t tk k => wpAny_formatField_str ⟨.str _, H1, I1.kept k, ⟨_, rfl⟩, q⟩ ⟨.str _, H1, (I1.kept k).tok _, ⟨_, rfl⟩, q⟩ sh.fits) sh.fits
end

/-- repr of an own instance, where no guard stands around -/
def FnRg (P : Program) (w : World) (K : PySem.W.Frag) (mg : Str → Option Value) (base : Heap) (CX : CXT) (k : Nat) (f : Addr) (sp : Sp) : Prop := ∀ (A : Around), A.guards = some [] → ∀ (outer : List Env) (s : Shared) (H : Hp) (us : List Value) (vs : List V) (Q : VK) (E : XK), Room k A → Env0 P w K mg base A outer s H → Vals vs us → sp vs H Q E → codeAny (model P w) A (.call (.ref f) ⟨us, []⟩) (CR CX outer P w H s Q E) s
theorem raw0G {P : Program} {w : World} {K : PySem.W.Frag} {mg : Str → Option Value} {base : Heap} {CX : CXT} {k : Nat} {f : Addr} {fd : FuncData} {ps : List Str} {sp : Sp} (F : SL.FnG P w K mg base CX k f fd ps sp) (hb : Binds K fd ps []) : FnRg P w K mg base CX k f sp := by
  intro A hg outer s H us vs Q E hr e0 r hs
  have hl : (us ++ []).length = ps.length := by
    rw [List.append_nil, ← r.length]
    exact F.len _ _ _ _ hs
  have h := hb s us (e0.mod.kin.keeps fun b o e => (e0.bs b o e).1) hl
  rw [List.append_nil] at h
  exact F.go A hg outer s H ⟨us, []⟩ us vs Q E hr e0 h r hs
section
variable {X : Cx} {CX : CXT} {C g : Addr} {n : Nat} {sp : Sp} {E : XK}
/-- the own def, run under no guard, answers as it promises -/
theorem own_saysG {pins : List (Addr × Obj)} {s : Shared} {σ : L2.St} {H : Hp} {A : Around} {us : List Value} {xs : List V} {P : VK} {Q : Value → Shared → Prop} (F : FnRg X.prog X.w X.K X.mg X.base CX n g sp) (none_ : A.guards = some []) (room : Room n A) (e0 : Env0 X.prog X.w X.K X.mg X.base A X.stack s H) (hx : Passes CX X E) (I : Inv X pins σ H s) (rs : Vals xs us) (q : sp xs H P E)
    (to : ∀ z H' u s', Inv X pins σ H' s' → RelV z u → P z H' → Q u s') : wpAny (model X.prog X.w) A (call (.ref g) us) Q X.xe s := by
  refine wpAny_call (codeAny_mono (F A none_ X.stack s H us xs P E room e0 rs q) ?_)
  rintro (e | _ | _ | _ | u) s' told
  case error => exact hx pins σ H s e s' I told
  case ok.ret =>
    obtain ⟨z, H', J, rz, p⟩ := I.after told
    exact to z H' u s' J rz p
  all_goals exact told.elim
theorem call_reprOG (hg : X.A.guards = some []) (hs : PySem.W.findIn X.K (.ref C) "__repr__" = some (some (.ref g))) (hf : PySem.W.isFn X.K (.ref g) = true) (F : FnRg X.prog X.w X.K X.mg X.base CX n g sp) (hr : Room (n + 1) X.A) (hx : Passes CX X E) : CallR X (.builtin "repr") (rReprO C sp E) := by
  rintro pins s σ H _ us Q I r ⟨a, dx, fs, rfl, hi, q⟩
  obtain rfl := only_ref r
  obtain ⟨ox, od, J⟩ := hi.at_ I
  refine PySem.W.repr_K (Room.in1 hr).units0 I.fr.choose_spec I.ok.mod.kin J hs hf (own_saysG (xs := [.ref a]) F hg (Room.in1 hr) I.env0.in1 hx I (.cons rfl .nil) q ?_)
  rintro _ H' u s' J' rz ⟨y, rfl, q'⟩
  obtain ⟨t, rfl⟩ := rz
  exact ⟨.str y, H', J', ⟨_, rfl⟩, q'⟩
end
section
variable {f : PySem.W.Frag} {WW : WX} {F : Fm} {κ M : List Addr} {H H' : Hp} {σ : L2.St} {ρ ρ' : List Sl} {h : Tb} {st : List (V × W)} {tr : TA} {mr : Mo (List W)} {te ta tb : TE} {me ma mb : Mo W} {C : Str} {m : Fnm}
theorem sim_reprO (ha : SimA f WW tr mr) : SimE f WW (tCB (rReprO (He.ga f C) (spM f m) E0) tr) (mStrO C m mr) := fun F σ H ρ h st x Q E e p => by
  rcases bindR_some e with ⟨ws, ρ1, h1, e1, e⟩ | ⟨C', fs, ρ1, h1, e1, rfl⟩
  · refine ha F σ H ρ h st _ _ E e1 fun vs H1 hl E1 => ?_
    split at e
    · rename_i w
      match vs, hl, E1 with
      | [v], hl, ⟨κ, E1⟩ =>
        obtain ⟨⟨a, dx, fs, hv, ea⟩, hc, hcall⟩ := callC_ok E1 hl e
        cases hv
        refine ⟨a, dx, fs, rfl, ea, EnvK.callT (vs := [V.ref a]) (ds := [w].map fzW) (E1.fzs rfl) rfl hcall fun w ρ' h' hr v H' E' => ?_⟩
        subst hr
        have hcl : ∃ y, w = .cl (.str y) := by
          cases w with
          | cl d => cases d <;> first | exact ⟨_, rfl⟩ | cases hc
          | _ => cases hc
        obtain ⟨y, rfl⟩ := hcl
        obtain ⟨_, r⟩ := E'.reps
        exact ⟨y, rep_str r, p v H' E'⟩
    · cases e
  · exact ha F σ H ρ h st _ _ E e1 p
/-! ### a list in reverse -/
def dRev (a : D) : Option W := match a.u with
  | .lst ds => some (.fr ds.reverse)
  | _ => none
theorem o_rev : Op1 f (fun x H Q => ∃ a xs, x = .ref a ∧ SqL f H a xs ∧ ∀ p, H p = none → Q (.ref p) (upd H p (.lst xs.reverse))) dRev := fun κ M H x dx w Q hM nx e q => by
  unfold dRev at e
  split at e
  · rename_i ds hd
    cases e
    obtain ⟨a, xs, rfl, sq, r⟩ := nr_lst nx hd
    exact ⟨a, xs, rfl, .inl (.inl sq), fun p hp => q _ _ (Ex.new hp) (Nw.new hp r.rev)⟩
  · cases e
theorem sim_rev (ha : SimE f WW ta ma) : SimE f WW (tRevL f ta) (mUn dRev ma) := sim_un o_rev ha
/-! ### in, not in: data of any depth -/
def dInDB (a b : D) : Option Bool := (pd a).bind fun x => (pd b).bind fun y => match y with
  | .list ys => if SeqAt.shaped x = true ∧ SeqAt.shaped (.list ys) = true then some (ys.any fun z => PyData.eqv z x) else none
  | _ => none
def dInD (a b : D) : Option W := (dInDB a b).map fun b => .cl (.bl b)
def dNiD (a b : D) : Option W := (dInDB a b).map fun b => .cl (.bl (!b))
theorem inDB {K : Kx} {x y : V} {dx dy : D} {b : Bool} (nx : Nr M K H x dx) (ny : Nr M K H y dy) (e : dInDB dx dy = some b) : ∃ d ds, Dp K H x d ∧ Dp K H y (.list ds) ∧ SeqAt.shaped d = true ∧ SeqAt.shaped (.list ds) = true ∧ b = ds.any fun z => PyData.eqv z d := by
  unfold dInDB at e
  cases h1 : pd dx with
  | none => rw [h1] at e; cases e
  | some d1 =>
    rw [h1] at e
    dsimp only [Option.bind_some] at e
    cases h2 : pd dy with
    | none => rw [h2] at e; cases e
    | some d2 =>
      rw [h2] at e
      dsimp only [Option.bind_some] at e
      split at e
      · rename_i ys
        split at e
        · rename_i hs
          cases e
          exact ⟨d1, ys, nr_dp nx h1, nr_dp ny h2, hs.1, hs.2, rfl⟩
        · cases e
      · cases e
theorem o_inD : Op2 f (rInD f) dInD := fun κ M H x y dx dy w Q hM nx ny e q => by
  unfold dInD at e
  cases h1 : dInDB dx dy with
  | none => rw [h1] at e; cases e
  | some b =>
    rw [h1] at e
    cases e
    obtain ⟨d, ds, a1, a2, a3, a4, rfl⟩ := inDB nx ny h1
    exact ⟨d, ds, a1, a2, a3, a4, q _ _ Ex.refl (.cl (.bl _))⟩
theorem o_niD : Op2 f (rNotInD f) dNiD := fun κ M H x y dx dy w Q hM nx ny e q => by
  unfold dNiD at e
  cases h1 : dInDB dx dy with
  | none => rw [h1] at e; cases e
  | some b =>
    rw [h1] at e
    cases e
    obtain ⟨d, ds, a1, a2, a3, a4, rfl⟩ := inDB nx ny h1
    exact ⟨d, ds, a1, a2, a3, a4, q _ _ Ex.refl (.cl (.bl _))⟩
/-! ### truth values by is -/
def dIsB (a b : D) : Option W := match a.u, b.u with
  | .bl i, .bl j => some (.cl (.bl (decide (i = j))))
  | _, _ => none
def dIsntB (a b : D) : Option W := match a.u, b.u with
  | .bl i, .bl j => some (.cl (.bl (!decide (i = j))))
  | _, _ => none
theorem o_isB : Op2 f rIsB dIsB := fun κ M H x y dx dy w Q hM nx ny e q => by
  unfold dIsB at e
  split at e
  · rename_i i j h1 h2
    cases e
    exact ⟨i, j, nr_bl nx h1, nr_bl ny h2, q _ _ Ex.refl (.cl (.bl _))⟩
  · cases e
theorem o_isntB : Op2 f rNotB dIsntB := fun κ M H x y dx dy w Q hM nx ny e q => by
  unfold dIsntB at e
  split at e
  · rename_i i j h1 h2
    cases e
    exact ⟨i, j, nr_bl nx h1, nr_bl ny h2, q _ _ Ex.refl (.cl (.bl _))⟩
  · cases e
/-! ### {}, list(range(n)), three names at once -/
def mDNew : Mo W := fun ρ h => some (.ok (.nw (.dK [])) ρ h)
theorem sim_dnew : SimE f WW tDNewK mDNew := fun F σ H ρ h st x Q ⟨κ, E⟩ e p => by
  cases e
  exact fun q hq => p _ _ ⟨κ, E.pushN hq (Ex.new hq) (.dK (kvs := []) upd_same rfl .nil)⟩
def mLstRg (a : Mo W) : Mo W := fun ρ h => bindR (a ρ h) fun w ρ h => match (deref h w).map D.u with
  | some (.int n) => if -1000000 ≤ n ∧ n ≤ 90000 then some (.ok (.fr ((List.range n.toNat).map fun i => .int (i : Nat))) ρ h) else none
  | _ => none
theorem rgV_ints {M : List Addr} {K : Kx} {H : Hp} (n : Int) : RepA M K H (rgV 0 n) ((List.range n.toNat).map fun i => .int (i : Nat)) := by
  have e : rgV 0 n = ((List.range n.toNat).map fun i : Nat => (i : Int)).map V.int := by
    unfold rgV
    rw [Int.sub_zero, List.map_map]
    exact List.map_congr_left fun i _ => by simp
  have e2 : ((List.range n.toNat).map fun i => D.int (i : Nat)) = ((List.range n.toNat).map fun i : Nat => (i : Int)).map D.int := by
    rw [List.map_map]
    rfl
  rw [e, e2]
  exact RepA.ints _
theorem sim_lstRg (ha : SimE f WW ta ma) : SimE f WW (tLstRg (tRg1 ta)) (mLstRg ma) := fun F σ H ρ h st x Q E e p => by
  rcases bindR_some e with ⟨w1, ρ1, h1, e1, e⟩ | ⟨C', fs, ρ1, h1, e1, rfl⟩
  · refine ha F σ H ρ h st _ _ E e1 fun v1 H1 ⟨κ, E1⟩ => ?_
    cases q1 : deref h1 w1 with
    | none => rw [q1] at e; cases e
    | some d1 =>
      rw [q1] at e
      dsimp only [Option.map_some] at e
      split at e
      · rename_i n hn
        split at e
        · rename_i hb
          cases e
          refine ⟨n, nr_int (E1.near (List.mem_cons_self ..) q1) (Option.some.inj hn), ⟨by decide, by decide, by omega, by omega, by omega⟩, fun q hq => p _ _ ⟨κ, ?_⟩⟩
          exact EnvK.land (l := [(v1, w1)]) E1 (Ex.new hq) (Nw.new hq (rgV_ints n))
        · cases e
      · cases e
  · exact ha F σ H ρ h st _ _ E e1 p
def sPar3 (o1 o2 o3 : Bool) (i j k : Nat) (a : Mo (List W)) : MS := fun ρ h => bindS (a ρ h) fun ws ρ h => match ws with
  | [u, v, w] => let x := gPut o1 i u ρ h; let y := gPut o2 j v x.1 x.2; let z := gPut o3 k w y.1 y.2; some (.nx z.1 z.2)
  | _ => none
theorem sim_par3 {o1 o2 o3 : Bool} {i j k : Nat} (ha : SimA f WW tr mr) : SimS f WW (tPar3 i j k tr) (sPar3 o1 o2 o3 i j k mr) := fun F σ H ρ h st x D E e p => by
  rcases bindS_some e with ⟨ws, ρ1, h1, e1, e⟩ | ⟨C, fs, ρ1, h1, e1, rfl⟩
  · refine ha F σ H ρ h st _ _ E e1 fun vs H1 hl E1 => ?_
    split at e
    · rename_i w1 w2 w3
      match vs, hl, E1 with
      | [v1, v2, v3], hl, E1 =>
        refine ⟨v1, v2, v3, rfl, ?_⟩
        cases e
        have E1 : EnvR f F σ H1 ρ1 h1 ((v1, w1) :: (v2, w2) :: (v3, w3) :: st) := E1
        exact p _ _ (E1.gput.gput.gput)
    · cases e
  · exact ha F σ H ρ h st _ _ E e1 p
end
end CM

/-! the plain runs of the defs of x -/
namespace CP
open PySem PySem.Spec PyProof.Rows L2 SL CM
noncomputable def b_is_name (ks : List Kd) (rz : Bool) : MS := (sSeq (sIf (mOr (mNot (mTru (mCB (dIsi (.ty "str") (tabK ks (.ty "str"))) (mCons (mVar 0) (mCons (mC (.ty "str")) mNil))))) (mNot (mTest (mChain dLt dLe (mC (.int 0)) (mCB dLen (mCons (mVar 0) mNil)) (mC (.int (8))))))) (sRet (mC (.bl false))) sNext)
    (sRet (mCB dAll (mCons (mLc (mIU (mVar 0)) (gSetC 1) mYes (mOp dIn (mVar 1) (mC (.str "abcdefghijklmnopqrstuvwxyz"))) [1]) mNil))))
noncomputable def m_is_name (ks : List Kd) (rz : Bool) : Fnm := fnM false 1 1 (b_is_name ks rz)
noncomputable def b_is_list (ks : List Kd) (rz : Bool) : MS := (sRet (mCB (dIsiT [.ty "list", .ty "tuple"] (tabKT ks [.ty "list", .ty "tuple"])) (mCons (mVar 0) (mCons (mTup (mCons (mC (.ty "list")) (mCons (mC (.ty "tuple")) mNil))) mNil))))
noncomputable def m_is_list (ks : List Kd) (rz : Bool) : Fnm := fnM false 1 0 (b_is_list ks rz)
noncomputable def b_Shape_D_init_D (ks : List Kd) (rz : Bool) : MS := (sSeq (sIf (mOr (mNot (mTru (callN (m_is_list ks rz) (mCons (mFr (mVar 1)) mNil)))) (mTest (mOp dGt (mCB dLen (mCons (mVar 1) mNil)) (mC (.int (5)))))) (sRz rz (sRaise "InvalidColumns" ["value"] (mCons (mFr (mVar 1)) mNil))) sNext)
    (sSeq (sFor (mEnum (mCons (mVar 1) mNil)) (gTupM 2 (gsCons (gSetC 3) (gsCons (gSetC 4) gsNil))) (sSeq (sIf (mNot (mTru (callN (m_is_name ks rz) (mCons (mFr (mVar 4)) mNil)))) (sRz rz (sRaise "InvalidName" ["value"] (mCons (mFr (mVar 4)) mNil))) sNext)
    (sIf (mTest (mOp dIn (mVar 4) (mSl (mVar 1) mNoPart (mPart (mVar 3))))) (sRz rz (sRaise "DuplicateName" ["name"] (mCons (mFr (mVar 4)) mNil))) sNext)))
    (sSeq (sIf (mAnd (mTest (mOp dIsnt (mVar 2) (mC .non))) (mNot (mTru (callN (m_is_name ks rz) (mCons (mFr (mVar 2)) mNil))))) (sRz rz (sRaise "InvalidName" ["value"] (mCons (mFr (mVar 2)) mNil))) sNext)
    (sSeq (sIf (mTest (mOp dIn (mVar 2) (mVar 1))) (sRz rz (sRaise "DuplicateName" ["name"] (mCons (mFr (mVar 2)) mNil))) sNext)
    (sSeq (sIf (mAnd (mTest (mOp dIsnt (mVar 2) (mC .non))) (mTest (mOp dEq (mCB dLen (mCons (mVar 1) mNil)) (mC (.int (5)))))) (sRz rz (sRaise "TooMany" ["count"] (mCons (mFr (mOp dAdd (mC (.int (5))) (mC (.int 1)))) mNil))) sNext)
    (sSeq (sFldM "Shape" "fixed_columns" (mVar 0) (mCB dSrt (mCons (mVar 1) mNil)))
    (sFldM "Shape" "span_column" (mVar 0) (mVar 2))))))))
noncomputable def m_Shape_D_init_D (ks : List Kd) (rz : Bool) : Fnm := fnM false 3 2 (b_Shape_D_init_D ks rz)
noncomputable def b_Shape_span (ks : List Kd) (rz : Bool) : MS := (sRet (mFld "Shape" "span_column" (mVar 0)))
noncomputable def m_Shape_span (ks : List Kd) (rz : Bool) : Fnm := fnM false 1 0 (b_Shape_span ks rz)
noncomputable def b_Shape_fixed (ks : List Kd) (rz : Bool) : MS := (sRet (mCB dList (mCons (mFld "Shape" "fixed_columns" (mVar 0)) mNil)))
noncomputable def m_Shape_fixed (ks : List Kd) (rz : Bool) : Fnm := fnM false 1 0 (b_Shape_fixed ks rz)
noncomputable def b_Shape_columns (ks : List Kd) (rz : Bool) : MS := (sRet (mCB dSrt (mCons (mOp dAdd (mFld "Shape" "fixed_columns" (mVar 0)) (mIf (mTest (mOp dIs (mFld "Shape" "span_column" (mVar 0)) (mC .non))) (mLst mNil) (mLst (mCons (mFld "Shape" "span_column" (mVar 0)) mNil)))) mNil)))
noncomputable def m_Shape_columns (ks : List Kd) (rz : Bool) : Fnm := fnM false 1 0 (b_Shape_columns ks rz)
noncomputable def b_Shape_sets (ks : List Kd) (rz : Bool) : MS := (sRet (mIf (mTest (mOp dIs (mFld "Shape" "span_column" (mVar 0)) (mC .non))) (mLst (mCons (mMeth "Shape" "fixed" (m_Shape_fixed ks rz) (mVar 0) mNil) mNil)) (mLst (mCons (mMeth "Shape" "fixed" (m_Shape_fixed ks rz) (mVar 0) mNil) (mCons (mMeth "Shape" "columns" (m_Shape_columns ks rz) (mVar 0) mNil) mNil)))))
noncomputable def m_Shape_sets (ks : List Kd) (rz : Bool) : Fnm := fnM false 1 0 (b_Shape_sets ks rz)
noncomputable def b_Shape_D_len_D (ks : List Kd) (rz : Bool) : MS := (sRet (mCB dLen (mCons (mMeth "Shape" "columns" (m_Shape_columns ks rz) (mVar 0) mNil) mNil)))
noncomputable def m_Shape_D_len_D (ks : List Kd) (rz : Bool) : Fnm := fnM false 1 0 (b_Shape_D_len_D ks rz)
noncomputable def b_Shape_D_eq_D (ks : List Kd) (rz : Bool) : MS := (sSeq (sIf (mNot (mTru (mCB (dIsi (.own "Shape") (tabK ks (.own "Shape"))) (mCons (mVar 1) (mCons (mC (.glo "Shape")) mNil))))) (sRet (mC (.bl false))) sNext)
    (sRet (mAndV (mOp dEq (mFld "Shape" "fixed_columns" (mVar 0)) (mFld "Shape" "fixed_columns" (mVar 1))) (mOp dEq (mFld "Shape" "span_column" (mVar 0)) (mFld "Shape" "span_column" (mVar 1))))))
noncomputable def m_Shape_D_eq_D (ks : List Kd) (rz : Bool) : Fnm := fnM false 2 0 (b_Shape_D_eq_D ks rz)
noncomputable def b_Shape_D_str_D (ks : List Kd) (rz : Bool) : MS := (sSeq (sAsg (mIf (mTest (mOp dNe (mFld "Shape" "fixed_columns" (mVar 0)) (mLst mNil))) (mBS fJoin (mC (.str "+")) (mCons (mFld "Shape" "fixed_columns" (mVar 0)) mNil)) (mC (.str "-"))) (gSetC 1))
    (sSeq (sAsg (mIf (mTest (mOp dIs (mFld "Shape" "span_column" (mVar 0)) (mC .non))) (mC (.str "")) (mJs [(mC (.str ":")), (mFmt (mFld "Shape" "span_column" (mVar 0)))] Str.empty)) (gSetC 2))
    (sRet (mJs [(mFmt (mVar 1)), (mFmt (mVar 2))] Str.empty))))
noncomputable def m_Shape_D_str_D (ks : List Kd) (rz : Bool) : Fnm := fnM false 1 2 (b_Shape_D_str_D ks rz)
noncomputable def b_Shape_D_repr_D (ks : List Kd) (rz : Bool) : MS := (sRet (mJs [(mC (.str "Shape(")), (mCB dRepr (mCons (mFld "Shape" "fixed_columns" (mVar 0)) mNil)), (mC (.str ", ")), (mCB dRepr (mCons (mFld "Shape" "span_column" (mVar 0)) mNil)), (mC (.str ")"))] Str.empty))
noncomputable def m_Shape_D_repr_D (ks : List Kd) (rz : Bool) : Fnm := fnM false 1 0 (b_Shape_D_repr_D ks rz)
end CP

/-! CW0: plain runs read backwards: what must hold ahead of a step, that a promise holds behind it; X: what is promised where an exception leaves. -/
namespace CM
open PySem PySem.Spec PyProof.Rows L2 SL
abbrev Ps (α : Type) := α → List Sl → Tb → Prop
abbrev Px := Str → List (Str × D) → List Sl → Tb → Prop
def okR {α : Type} (P : Ps α) (X : Px) : R α → Prop
  | .ok w ρ h => P w ρ h
  | .ex C fs ρ h => X C fs ρ h
def okE {α : Type} (x : Option (R α)) (P : Ps α) (X : Px) : Prop := ∃ r, x = some r ∧ okR P X r
def okG (x : Option Fr2) (N : List Sl → Tb → Prop) : Prop := ∃ y, x = some y ∧ N y.1 y.2
def okW {α : Type} (x : Option α) (P : α → Prop) : Prop := ∃ w, x = some w ∧ P w
def okO (N : List Sl → Tb → Prop) (T : Ps W) (L : Bool → List Sl → Tb → Prop) (X : Px) : Out → Prop
  | .nx ρ h => N ρ h
  | .rt w ρ h => T w ρ h
  | .ct ρ h => L false ρ h
  | .bk ρ h => L true ρ h
  | .ex C fs ρ h => X C fs ρ h
def okS (x : Option Out) (N : List Sl → Tb → Prop) (T : Ps W) (L : Bool → List Sl → Tb → Prop) (X : Px) : Prop := ∃ o, x = some o ∧ okO N T L X o
def okFR (P : W → Tb → Prop) (X : Str → List (Str × D) → Tb → Prop) : FR → Prop
  | .rt w h => P w h
  | .ex C fs h => X C fs h
def okF (x : Option FR) (P : W → Tb → Prop) (X : Str → List (Str × D) → Tb → Prop) : Prop := ∃ r, x = some r ∧ okFR P X r
def noX : Str → List (Str × D) → Tb → Prop := fun _ _ _ => False
def nox : Px := fun _ _ _ _ => False
section
variable {α β : Type} {ρ ρ' : List Sl} {h h' : Tb} {P P' : Ps W} {N N' : List Sl → Tb → Prop} {T T' : Ps W} {L L' : Bool → List Sl → Tb → Prop} {X X' : Px} {a b e : Mo W} {es : Mo (List W)} {c c' : Mo Bool} {m m' body : MS} {g : Tg} {f : D → D → Option W} {fl : List D → Option W} {w : W} {d : D} {ds as : List D} {i j n k : Nat} {keep : Bool}
theorem okE_eq {x : Option (R α)} {P : Ps α} {w : α} (e : x = some (.ok w ρ h)) (p : P w ρ h) : okE x P X := ⟨_, e, p⟩
theorem okG_eq {x : Option Fr2} (e : x = some (ρ, h)) (p : N ρ h) : okG x N := ⟨_, e, p⟩
theorem okW_eq {x : Option α} {P : α → Prop} {w : α} (e : x = some w) (p : P w) : okW x P := ⟨w, e, p⟩
theorem okE.mono {x : Option (R α)} {P P' : Ps α} (q : okE x P X) (i : ∀ w ρ h, P w ρ h → P' w ρ h) : okE x P' X := by
  obtain ⟨r, e, p⟩ := q
  refine ⟨r, e, ?_⟩
  cases r with
  | ok w ρ h => exact i _ _ _ p
  | ex C fs ρ h => exact p
theorem okE.monoX {x : Option (R α)} {P P' : Ps α} (q : okE x P X) (i : ∀ w ρ h, P w ρ h → P' w ρ h) (j : ∀ C fs ρ h, X C fs ρ h → X' C fs ρ h) : okE x P' X' := by
  obtain ⟨r, e, p⟩ := q
  refine ⟨r, e, ?_⟩
  cases r with
  | ok w ρ h => exact i _ _ _ p
  | ex C fs ρ h => exact j _ _ _ _ p
theorem okF.mono {x : Option FR} {P P' : W → Tb → Prop} {X : Str → List (Str × D) → Tb → Prop} (q : okF x P X) (i : ∀ w h, P w h → P' w h) : okF x P' X := by
  obtain ⟨r, e, p⟩ := q
  refine ⟨r, e, ?_⟩
  cases r with
  | rt w h => exact i _ _ p
  | ex C fs h => exact p
theorem okF.rt {x : Option FR} {P : W → Tb → Prop} (q : okF x P noX) : ∃ w h, x = some (.rt w h) ∧ P w h := by
  obtain ⟨r, e, p⟩ := q
  cases r with
  | rt w h => exact ⟨w, h, e, p⟩
  | ex C fs h => exact p.elim
theorem okS.mono {x : Option Out} (q : okS x N T L X) (hN : ∀ ρ h, N ρ h → N' ρ h) (hT : ∀ w ρ h, T w ρ h → T' w ρ h) (hL : ∀ b ρ h, L b ρ h → L' b ρ h) (hX : ∀ C fs ρ h, X C fs ρ h → X' C fs ρ h) : okS x N' T' L' X' := by
  obtain ⟨o, e, p⟩ := q
  refine ⟨o, e, ?_⟩
  cases o with
  | nx ρ h => exact hN _ _ p
  | rt w ρ h => exact hT _ _ _ p
  | ct ρ h => exact hL _ _ _ p
  | bk ρ h => exact hL _ _ _ p
  | ex C fs ρ h => exact hX _ _ _ _ p
theorem okE_bind {x : Option (R α)} {f : α → List Sl → Tb → Option (R β)} {P : Ps β} (q : okE x (fun w ρ h => okE (f w ρ h) P X) X) : okE (bindR x f) P X := by
  obtain ⟨r, e, p⟩ := q
  rw [e]
  cases r with
  | ok w ρ h => exact p
  | ex C fs ρ h => exact ⟨_, rfl, p⟩
theorem okE_opt {x : Option α} {f : α → Option (R β)} {P : Ps β} (q : okW x fun w => okE (f w) P X) : okE (x.bind f) P X := by
  obtain ⟨w, e, p⟩ := q
  rw [e]
  exact p
theorem okE_map {x : Option α} {f : α → R β} {P : Ps β} (q : okW x fun w => okE (some (f w)) P X) : okE (x.map f) P X := by
  obtain ⟨w, e, p⟩ := q
  rw [e]
  exact p
theorem okE_some {w : α} {P : Ps α} (p : P w ρ h) : okE (some (.ok w ρ h)) P X := ⟨_, rfl, p⟩
theorem okS_bind {x : Option (R α)} {f : α → List Sl → Tb → Option Out} (q : okE x (fun w ρ h => okS (f w ρ h) N T L X) X) : okS (bindS x f) N T L X := by
  obtain ⟨r, e, p⟩ := q
  rw [e]
  cases r with
  | ok w ρ h => exact p
  | ex C fs ρ h => exact ⟨_, rfl, p⟩
theorem okS_opt {x : Option α} {f : α → Option Out} (q : okW x fun w => okS (f w) N T L X) : okS (x.bind f) N T L X := by
  obtain ⟨w, e, p⟩ := q
  rw [e]
  exact p
-- statements
theorem okS_seq (q : okS (m ρ h) (fun ρ h => okS (m' ρ h) N T L X) T L X) : okS (sSeq m m' ρ h) N T L X := by
  obtain ⟨o, e, p⟩ := q
  unfold sSeq
  rw [e]
  cases o with
  | nx ρ h => exact p
  | rt w ρ h => exact ⟨_, rfl, p⟩
  | ct ρ h => exact ⟨_, rfl, p⟩
  | bk ρ h => exact ⟨_, rfl, p⟩
  | ex C fs ρ h => exact ⟨_, rfl, p⟩
theorem okS_seqM (I : List Sl → Tb → Prop) (h1 : okS (m ρ h) I T L X) (h2 : ∀ ρ h, I ρ h → okS (m' ρ h) N T L X) : okS (sSeq m m' ρ h) N T L X := okS_seq (h1.mono h2 (fun _ _ _ h => h) (fun _ _ _ h => h) fun _ _ _ _ h => h)
theorem okS_next (q : N ρ h) : okS (sNext ρ h) N T L X := ⟨_, rfl, q⟩
theorem okS_asg (q : okE (e ρ h) (fun w ρ h => okG (g w ρ h) N) X) : okS (sAsg e g ρ h) N T L X := okS_bind (q.mono fun _ _ _ q => by
  obtain ⟨y, e, p⟩ := q
  rw [e]
  exact ⟨_, rfl, p⟩)
theorem okS_ret (q : okE (e ρ h) T X) : okS (sRet e ρ h) N T L X := okS_bind (q.mono fun _ _ _ q => ⟨_, rfl, q⟩)
theorem okS_retN (q : T (.cl .non) ρ h) : okS (sRetN ρ h) N T L X := ⟨_, rfl, q⟩
theorem okS_drop (q : okE (e ρ h) (fun _ ρ h => N ρ h) X) : okS (sDrop e ρ h) N T L X := okS_bind (q.mono fun _ _ _ q => ⟨_, rfl, q⟩)
theorem okS_cnt (q : L false ρ h) : okS (sCnt ρ h) N T L X := ⟨_, rfl, q⟩
theorem okS_brk (q : L true ρ h) : okS (sBrk ρ h) N T L X := ⟨_, rfl, q⟩
theorem okS_if (q : okE (c ρ h) (fun k ρ h => (k = true → okS (m ρ h) N T L X) ∧ (k = false → okS (m' ρ h) N T L X)) X) : okS (sIf c m m' ρ h) N T L X := okS_bind (q.mono fun k ρ h q => by
  cases k with
  | true => exact q.1 rfl
  | false => exact q.2 rfl)
theorem okS_yes (q : okE (c ρ h) (fun k ρ h => k = true ∧ okS (m ρ h) N T L X) X) : okS (sIf c m m' ρ h) N T L X := okS_bind (q.mono fun k ρ h q => by
  obtain ⟨rfl, q⟩ := q
  exact q)
theorem okS_no (q : okE (c ρ h) (fun k ρ h => k = false ∧ okS (m' ρ h) N T L X) X) : okS (sIf c m m' ρ h) N T L X := okS_bind (q.mono fun k ρ h q => by
  obtain ⟨rfl, q⟩ := q
  exact q)
theorem okS_aug (q : okE (mVar i ρ h) (fun x ρ h => okE (e ρ h) (fun y ρ h => okW (deref h x) fun dx => okW (deref h y) fun dy => okW (f dx dy) fun w => N (ρ.set i (.cl (fzW w))) h) X) X) : okS (sAug f i e ρ h) N T L X :=
  okS_bind (q.mono fun _ _ _ q => okS_bind (q.mono fun _ _ _ q => okS_opt (q.elim fun _ q => ⟨_, q.1, okS_opt (q.2.elim fun _ q => ⟨_, q.1, okS_opt (q.2.elim fun _ q => ⟨_, q.1, _, rfl, q.2⟩)⟩)⟩)))
theorem okS_fg {is : List Nat} (q : okS (m (wipeS is ρ) h) N T L X) : okS (sFg is m ρ h) N T L X := q
theorem okS_par {o1 o2 : Bool} {i j : Nat} (q : okE (es ρ h) (fun ws ρ h => ∃ v w, ws = [v, w] ∧ N (gPut o2 j w (gPut o1 i v ρ h).1 (gPut o1 i v ρ h).2).1 (gPut o2 j w (gPut o1 i v ρ h).1 (gPut o1 i v ρ h).2).2) X) : okS (sPar o1 o2 i j es ρ h) N T L X := okS_bind (q.mono fun ws ρ h q => by
  obtain ⟨v, w, rfl, p⟩ := q
  exact ⟨_, rfl, p⟩)
theorem okS_par3 {o1 o2 o3 : Bool} {i j k : Nat} (q : okE (es ρ h) (fun ws ρ h => ∃ u v w, ws = [u, v, w] ∧ N (gPut o3 k w (gPut o2 j v (gPut o1 i u ρ h).1 (gPut o1 i u ρ h).2).1 (gPut o2 j v (gPut o1 i u ρ h).1 (gPut o1 i u ρ h).2).2).1 (gPut o3 k w (gPut o2 j v (gPut o1 i u ρ h).1 (gPut o1 i u ρ h).2).1 (gPut o2 j v (gPut o1 i u ρ h).1 (gPut o1 i u ρ h).2).2).2) X) : okS (sPar3 o1 o2 o3 i j k es ρ h) N T L X := okS_bind (q.mono fun ws ρ h q => by
  obtain ⟨u, v, w, rfl, p⟩ := q
  exact ⟨_, rfl, p⟩)
/-- a loop, by what holds ahead of each turn -/
theorem okS_loop {ck : List (Nat × D)} (I : Nat → List Sl → Tb → Prop) (hck : ∀ k ρ h, I k ρ h → ckOk ck h) : ∀ (ds : List D) (i : Nat) {ρ : List Sl} {h : Tb}, I i ρ h → (∀ (j : Nat) (d : D) (ρ : List Sl) (h : Tb), ds[j]? = some d → I (i + j) ρ h → okG (g (.cl d) ρ h) fun ρ h => okS (m ρ h) (fun ρ h => I (i + j + 1) ρ h) T (fun b ρ h => if b = true then N ρ h else I (i + j + 1) ρ h) X) → (∀ ρ h, I (i + ds.length) ρ h → N ρ h) → okS (loopS g m ck ds ρ h) N T L X
  | [], i, ρ, h, h0, hs, he => ⟨_, rfl, he ρ h h0⟩
  | d :: ds, i, ρ, h, h0, hs, he => by
    obtain ⟨y, e1, o, e2, p⟩ := hs 0 d ρ h rfl h0
    have ih : ∀ ρ h, I (i + 1) ρ h → okS (loopS g m ck ds ρ h) N T L X := fun ρ h q => okS_loop I hck ds (i + 1) q (fun j d ρ h hj hI => by
      have := hs (j + 1) d ρ h (by simpa using hj) (by rw [show i + (j + 1) = i + 1 + j by omega]; exact hI)
      rw [show i + (j + 1) + 1 = i + 1 + j + 1 by omega] at this
      exact this) (fun ρ h q => he ρ h (by rw [show i + (d :: ds).length = i + 1 + ds.length by simp; omega]; exact q))
    unfold loopS
    rw [e1]
    dsimp only [Option.bind_some]
    rw [e2]
    cases o with
    | nx ρ h =>
      dsimp only
      rw [if_pos (hck _ _ _ p)]
      exact ih _ _ p
    | rt w ρ h => exact ⟨_, rfl, p⟩
    | ct ρ h =>
      have p : I (i + 1) ρ h := by simpa [okO] using p
      dsimp only
      rw [if_pos (hck _ _ _ p)]
      exact ih _ _ p
    | bk ρ h => exact ⟨_, rfl, by simpa [okO] using p⟩
    | ex C fs ρ h => exact ⟨_, rfl, p⟩
/-- a loop over what stays -/
theorem okS_loop0 (I : Nat → List Sl → Tb → Prop) (ds : List D) (i : Nat) {ρ : List Sl} {h : Tb} (h0 : I i ρ h) (hs : ∀ (j : Nat) (d : D) (ρ : List Sl) (h : Tb), ds[j]? = some d → I (i + j) ρ h → okG (g (.cl d) ρ h) fun ρ h => okS (m ρ h) (fun ρ h => I (i + j + 1) ρ h) T (fun b ρ h => if b = true then N ρ h else I (i + j + 1) ρ h) X) (he : ∀ ρ h, I (i + ds.length) ρ h → N ρ h) : okS (loopS g m [] ds ρ h) N T L X :=
  okS_loop I (fun _ _ _ _ x z => absurd z List.not_mem_nil) ds i h0 hs he
theorem okS_for {it : Mo ItM} (q : okE (it ρ h) (fun i ρ h => okS (loopS g m i.ck i.ds ρ h) N T L X) X) : okS (sFor it g m ρ h) N T L X := okS_bind q
/-- a while loop: how many turns are left at most -/
theorem okS_while (I : Nat → List Sl → Tb → Prop) (hI : ∀ k ρ h, I k ρ h → okE (c ρ h) (fun b ρ h => (b = true → 0 < k ∧ okS (m ρ h) (fun ρ h => I (k - 1) ρ h) T (fun q ρ h => if q = true then N ρ h else I (k - 1) ρ h) X) ∧ (b = false → N ρ h)) X) : ∀ (n k : Nat) {ρ : List Sl} {h : Tb}, k < n → I k ρ h → okS (sWhile c m n ρ h) N T L X
  | 0, k, ρ, h, hk, _ => absurd hk (by omega)
  | n + 1, k, ρ, h, hk, q => by
    unfold sWhile
    refine okS_bind ((hI k ρ h q).mono fun b ρ h q => ?_)
    cases b with
    | false => exact ⟨_, rfl, q.2 rfl⟩
    | true =>
      obtain ⟨k0, o, e, p⟩ := q.1 rfl
      have ih : ∀ ρ h, I (k - 1) ρ h → okS (sWhile c m n ρ h) N T L X := fun ρ h q => okS_while I hI n (k - 1) (by omega) q
      rw [if_pos rfl, e]
      cases o with
      | nx ρ h => exact ih _ _ p
      | rt w ρ h => exact ⟨_, rfl, p⟩
      | ct ρ h => exact ih _ _ (by simpa [okO] using p)
      | bk ρ h => exact ⟨_, rfl, by simpa [okO] using p⟩
      | ex C fs ρ h => exact ⟨_, rfl, p⟩
-- values
theorem okE_op (q : okE (a ρ h) (fun x ρ h => okE (b ρ h) (fun y ρ h => okW (deref h x) fun dx => okW (deref h y) fun dy => okW (f dx dy) fun w => P w ρ h) X) X) : okE (mOp f a b ρ h) P X :=
  okE_bind (q.mono fun _ _ _ q => okE_bind (q.mono fun _ _ _ q => okE_opt (q.elim fun _ q => ⟨_, q.1, okE_opt (q.2.elim fun _ q => ⟨_, q.1, okE_map (q.2.elim fun _ q => ⟨_, q.1, okE_some q.2⟩)⟩)⟩)))
theorem okE_un {f : D → Option W} (q : okE (a ρ h) (fun x ρ h => okW (deref h x) fun dx => okW (f dx) fun w => P w ρ h) X) : okE (mUn f a ρ h) P X :=
  okE_bind (q.mono fun _ _ _ q => okE_opt (q.elim fun _ q => ⟨_, q.1, okE_map (q.2.elim fun _ q => ⟨_, q.1, okE_some q.2⟩)⟩))
theorem okE_cb (q : okE (es ρ h) (fun ws ρ h => okW (derefs h ws) fun ds => okW (fl ds) fun w => P w ρ h) X) : okE (mCB fl es ρ h) P X :=
  okE_bind (q.mono fun _ _ _ q => okE_opt (q.elim fun _ q => ⟨_, q.1, okE_map (q.2.elim fun _ q => ⟨_, q.1, okE_some q.2⟩)⟩))
theorem okE_opS (q : okE (a ρ h) (fun x ρ h => okE (b ρ h) (fun y ρ h => okW (snapV h x) fun dx => okW (snapV h y) fun dy => okW (f dx dy) fun w => scl w = true ∧ P w ρ h) X) X) : okE (mOpS f a b ρ h) P X :=
  okE_bind (q.mono fun _ _ _ q => okE_bind (q.mono fun _ _ _ q => okE_opt (q.elim fun _ q => ⟨_, q.1, okE_opt (q.2.elim fun _ q => ⟨_, q.1, okE_opt (q.2.elim fun _ q => ⟨_, q.1, by dsimp only; rw [if_pos q.2.1]; exact okE_some q.2.2⟩)⟩)⟩)))
theorem okE_cbS (q : okE (es ρ h) (fun ws ρ h => okW (snaps h ws) fun ds => okW (fl ds) fun w => scl w = true ∧ P w ρ h) X) : okE (mCBS fl es ρ h) P X :=
  okE_bind (q.mono fun _ _ _ q => okE_opt (q.elim fun _ q => ⟨_, q.1, okE_opt (q.2.elim fun _ q => ⟨_, q.1, by dsimp only; rw [if_pos q.2.1]; exact okE_some q.2.2⟩)⟩))
theorem okE_cons {P : Ps (List W)} (q : okE (e ρ h) (fun w ρ h => okE (es ρ h) (fun ws ρ h => P (w :: ws) ρ h) X) X) : okE (mCons e es ρ h) P X :=
  okE_bind (q.mono fun _ _ _ q => okE_bind (q.mono fun _ _ _ q => okE_some q))
theorem okE_nil {P : Ps (List W)} (q : P [] ρ h) : okE (mNil ρ h) P X := okE_some q
theorem okE_tup (q : okE (es ρ h) (fun ws ρ h => ws.length ≤ 100000 ∧ P (.cl (.tup (ws.map fzW))) ρ h) X) : okE (mTup es ρ h) P X :=
  okE_bind (q.mono fun _ _ _ q => by rw [if_pos q.1]; exact okE_some q.2)
theorem okE_lst (q : okE (es ρ h) (fun ws ρ h => ws.length ≤ 100000 ∧ P (.fr (ws.map fzW)) ρ h) X) : okE (mLst es ρ h) P X :=
  okE_bind (q.mono fun _ _ _ q => by rw [if_pos q.1]; exact okE_some q.2)
theorem okE_c (q : P (.cl d) ρ h) : okE (mC d ρ h) P X := ⟨_, rfl, q⟩
theorem okE_var {k : Nat} {d : D} (e : ρ[k]? = some (.cl d)) (q : P (.cl d) ρ h) : okE (mVar k ρ h) P X := ⟨.ok (.cl d) ρ h, by unfold mVar; rw [e], q⟩
theorem okE_ce (q : okE (e ρ h) (fun w ρ h => match w with | .nw c => P (.cl (.ce h.length)) ρ (h ++ [c]) | .cl d => P (.cl d) ρ h) X) : okE (mCe e ρ h) P X := okE_bind (q.mono fun w ρ h q => by
  cases w with
  | nw c => exact okE_some q
  | cl d => exact okE_some q)
theorem okE_fr (q : okE (e ρ h) (fun w ρ h => P (.cl (fzW w)) ρ h) X) : okE (mFr e ρ h) P X := okE_bind (q.mono fun w ρ h q => okE_some q)
theorem okB_test {P : Ps Bool} (q : okE (e ρ h) (fun w ρ h => ∃ b, deref h w = some (.bl b) ∧ P b ρ h) X) : okE (mTest e ρ h) P X := okE_bind (q.mono fun w ρ h q => by
  obtain ⟨b, e, p⟩ := q
  rw [e]
  exact okE_some p)
theorem okB_tru {P : Ps Bool} (q : okE (e ρ h) (fun w ρ h => ∃ d b, deref h w = some d ∧ dTru d.u = some b ∧ P b ρ h) X) : okE (mTru e ρ h) P X := okE_bind (q.mono fun w ρ h q => by
  obtain ⟨d, b, e, e2, p⟩ := q
  rw [e]
  dsimp only [Option.bind_some]
  rw [e2]
  exact okE_some p)
theorem okE_if (q : okE (c ρ h) (fun k ρ h => (k = true → okE (a ρ h) P X) ∧ (k = false → okE (b ρ h) P X)) X) : okE (mIf c a b ρ h) P X := okE_bind (q.mono fun k ρ h q => by
  cases k with
  | true => exact q.1 rfl
  | false => exact q.2 rfl)
theorem okB_and {P : Ps Bool} (q : okE (c ρ h) (fun k ρ h => (k = true → okE (c' ρ h) P X) ∧ (k = false → P false ρ h)) X) : okE (mAnd c c' ρ h) P X := okE_bind (q.mono fun k ρ h q => by
  cases k with
  | true => exact q.1 rfl
  | false => exact okE_some (q.2 rfl))
theorem okB_or {P : Ps Bool} (q : okE (c ρ h) (fun k ρ h => (k = true → P true ρ h) ∧ (k = false → okE (c' ρ h) P X)) X) : okE (mOr c c' ρ h) P X := okE_bind (q.mono fun k ρ h q => by
  cases k with
  | true => exact okE_some (q.1 rfl)
  | false => exact q.2 rfl)
theorem okB_not {P : Ps Bool} (q : okE (c ρ h) (fun k ρ h => P (!k) ρ h) X) : okE (mNot c ρ h) P X := okE_bind (q.mono fun _ _ _ q => okE_some q)
theorem okE_notV (q : okE (mTest e ρ h) (fun b ρ h => P (.cl (.bl (!b))) ρ h) X) : okE (mNotV e ρ h) P X := okE_bind (q.mono fun _ _ _ q => okE_some q)
theorem okE_andV (q : okE (mTest a ρ h) (fun k ρ h => (k = true → okE (b ρ h) P X) ∧ (k = false → P (.cl (.bl false)) ρ h)) X) : okE (mAndV a b ρ h) P X := okE_bind (q.mono fun k ρ h q => by
  cases k with
  | true => exact q.1 rfl
  | false => exact okE_some (q.2 rfl))
theorem okE_orV (q : okE (mTest a ρ h) (fun k ρ h => (k = true → P (.cl (.bl true)) ρ h) ∧ (k = false → okE (b ρ h) P X)) X) : okE (mOrV a b ρ h) P X := okE_bind (q.mono fun k ρ h q => by
  cases k with
  | true => exact okE_some (q.1 rfl)
  | false => exact q.2 rfl)
theorem okE_call {mf : Fnm} (q : okE (es ρ h) (fun ws ρ h => okF (mf (ws.map fzW) h) (fun w h => P w ρ h) noX) X) : okE (callN mf es ρ h) P X := okE_bind (q.mono fun ws ρ h q => by
  obtain ⟨w, h', e, p⟩ := q.rt
  unfold callT
  rw [e]
  exact okE_some p)
theorem okE_callX {mf : Fnm} (q : okE (es ρ h) (fun ws ρ h => okF (mf (ws.map fzW) h) (fun w h => P w ρ h) (fun C fs h => X C fs ρ h)) X) : okE (callM mf es ρ h) P X := okE_bind (q.mono fun ws ρ h q => by
  obtain ⟨r, e, p⟩ := q
  unfold callX
  rw [e]
  cases r with
  | rt w h => exact ⟨_, rfl, p⟩
  | ex C fs h => exact ⟨_, rfl, p⟩)
/-- a display over items -/
theorem okE_loopC {ck : List (Nat × D)} {t : Mo Bool} {vs : List Nat} {Q : Ps (List D)} (I : Nat → List Sl → Tb → List D → Prop) (hck : ∀ k ρ h acc, I k ρ h acc → ckOk ck h) : ∀ (ds : List D) (i : Nat) {ρ : List Sl} {h : Tb} {acc : List D}, I i ρ h acc → (∀ (j : Nat) (d : D) (ρ : List Sl) (h : Tb) (acc : List D), ds[j]? = some d → I (i + j) ρ h acc →
    okG (g (.cl d) ρ h) fun ρ h => okE (t ρ h) (fun b ρ h => (b = true → okE (e ρ h) (fun w ρ h => I (i + j + 1) (wipeS vs ρ) h (acc ++ [fzW w])) X) ∧ (b = false → I (i + j + 1) (wipeS vs ρ) h acc)) X) → (∀ ρ h acc, I (i + ds.length) ρ h acc → Q acc ρ h) → okE (loopC g t e vs ck ds ρ h acc) Q X
  | [], i, ρ, h, acc, h0, hs, he => ⟨_, rfl, he ρ h acc h0⟩
  | d :: ds, i, ρ, h, acc, h0, hs, he => by
    obtain ⟨y, e1, r, e2, p⟩ := hs 0 d ρ h acc rfl h0
    have ih : ∀ ρ h acc, I (i + 1) ρ h acc → okE (loopC g t e vs ck ds ρ h acc) Q X := fun ρ h acc q => okE_loopC I hck ds (i + 1) q (fun j d ρ h acc hj hI => by
      have := hs (j + 1) d ρ h acc (by simpa using hj) (by rw [show i + (j + 1) = i + 1 + j by omega]; exact hI)
      rw [show i + (j + 1) + 1 = i + 1 + j + 1 by omega] at this
      exact this) (fun ρ h acc q => he ρ h acc (by rw [show i + (d :: ds).length = i + 1 + ds.length by simp; omega]; exact q))
    unfold loopC
    refine okE_opt ⟨_, e1, okE_bind ⟨_, e2, ?_⟩⟩
    cases r with
    | ex C fs ρ h => exact p
    | ok b ρ2 h2 =>
      cases b with
      | true =>
        show okE _ Q X
        rw [if_pos rfl]
        refine okE_bind ((p.1 rfl).mono fun w ρ h q => ?_)
        rw [if_pos (hck _ _ _ _ q)]
        exact ih _ _ _ q
      | false =>
        show okE _ Q X
        rw [if_neg (by decide), if_pos (hck _ _ _ _ (p.2 rfl))]
        exact ih _ _ _ (p.2 rfl)
theorem okE_loopC0 {t : Mo Bool} {vs : List Nat} {Q : Ps (List D)} (I : Nat → List Sl → Tb → List D → Prop) (ds : List D) (i : Nat) {ρ : List Sl} {h : Tb} {acc : List D} (h0 : I i ρ h acc) (hs : ∀ (j : Nat) (d : D) (ρ : List Sl) (h : Tb) (acc : List D), ds[j]? = some d → I (i + j) ρ h acc →
    okG (g (.cl d) ρ h) fun ρ h => okE (t ρ h) (fun b ρ h => (b = true → okE (e ρ h) (fun w ρ h => I (i + j + 1) (wipeS vs ρ) h (acc ++ [fzW w])) X) ∧ (b = false → I (i + j + 1) (wipeS vs ρ) h acc)) X) (he : ∀ ρ h acc, I (i + ds.length) ρ h acc → Q acc ρ h) : okE (loopC g t e vs [] ds ρ h acc) Q X :=
  okE_loopC I (fun _ _ _ _ _ x z => absurd z List.not_mem_nil) ds i h0 hs he
theorem okE_lc {it : Mo ItM} {t : Mo Bool} {vs : List Nat} (q : okE (it ρ h) (fun i ρ h => idle vs ρ = true ∧ okE (loopC g t e vs i.ck i.ds ρ h []) (fun acc ρ h => P (.fr acc) ρ h) X) X) : okE (mLc it g t e vs ρ h) P X := okE_bind (q.mono fun i ρ h q => by
  rw [if_pos q.1]
  exact okE_bind (q.2.mono fun acc ρ h q => okE_some q))
/-- what is walked stays -/
theorem okE_iU {P : Ps ItM} (q : okE (e ρ h) (fun w ρ h => okW (deref h w) fun d => okW (itemsD d.u) fun ds => ds.length ≤ 90000 ∧ P ⟨ds, ckOf h w⟩ ρ h) X) : okE (mIU e ρ h) P X := okE_bind (q.mono fun w ρ h q => okE_opt (q.elim fun _ q => ⟨_, q.1, okE_opt (q.2.elim fun _ q => ⟨_, q.1, by dsimp only; rw [if_pos q.2.1]; exact okE_some q.2.2⟩)⟩))
theorem okE_rng1 {P : Ps ItM} (q : okE (es ρ h) (fun ws ρ h => okW (derefs h ws) fun ds => ∃ n : Int, ds = [.int n] ∧ n ≤ 90000 ∧ -1000000 ≤ n ∧ P ⟨(List.range n.toNat).map fun i => .int (i : Nat), []⟩ ρ h) X) : okE (mRng1 es ρ h) P X := okE_bind (q.mono fun ws ρ h q => by
  obtain ⟨ds, e, n, rfl, h1, h2, p⟩ := q
  refine okE_opt ⟨_, e, ?_⟩
  show okE (if n ≤ 90000 ∧ -1000000 ≤ n then some (.ok ⟨(List.range n.toNat).map fun i => .int (i : Nat), []⟩ ρ h) else none) P X
  rw [if_pos ⟨h1, h2⟩]
  exact okE_some p)
theorem okE_rng2 {P : Ps ItM} (q : okE (es ρ h) (fun ws ρ h => okW (derefs h ws) fun ds => ∃ m n : Int, ds = [.int m, .int n] ∧ n - m ≤ 90000 ∧ -1000000 ≤ n ∧ n ≤ 1000000 ∧ -1000000 ≤ m ∧ m ≤ 1000000 ∧ P ⟨(List.range (n - m).toNat).map fun i => .int (m + (i : Nat)), []⟩ ρ h) X) : okE (mRng2 es ρ h) P X := okE_bind (q.mono fun ws ρ h q => by
  obtain ⟨ds, e, m, n, rfl, h1, h2, h3, h4, h5, p⟩ := q
  refine okE_opt ⟨_, e, ?_⟩
  show okE (if n - m ≤ 90000 ∧ -1000000 ≤ n ∧ n ≤ 1000000 ∧ -1000000 ≤ m ∧ m ≤ 1000000 then some (.ok ⟨(List.range (n - m).toNat).map fun i => .int (m + (i : Nat)), []⟩ ρ h) else none) P X
  rw [if_pos ⟨h1, h2, h3, h4, h5⟩]
  exact okE_some p)
theorem okE_mut {fm : List D → List D → Option (D × List D)} (q : okE (e ρ h) (fun u ρ h => okW (lstAt h u) fun _ => okE (es ρ h) (fun ws ρ h => okW (lstAt h u) fun x => okW (fm x.2 (ws.map fzW)) fun y => P (.cl y.1) ρ (h.set x.1 (.lst y.2))) X) X) : okE (mMut fm e es ρ h) P X :=
  okE_bind (q.mono fun u ρ h q => okE_opt (q.elim fun _ q => ⟨_, q.1, okE_bind (q.2.mono fun ws ρ h q => okE_opt (q.elim fun _ q => ⟨_, q.1, okE_map (q.2.elim fun _ q => ⟨_, q.1, okE_some q.2⟩)⟩))⟩))
theorem okE_mut0 {fm : List D → List D → Option (D × List D)} (q : okE (e ρ h) (fun u ρ h => okW (lstAt h u) fun x => okW (fm x.2 []) fun y => P (.cl y.1) ρ (h.set x.1 (.lst y.2))) X) : okE (mMut0 fm e ρ h) P X :=
  okE_bind (q.mono fun u ρ h q => okE_opt (q.elim fun _ q => ⟨_, q.1, okE_map (q.2.elim fun _ q => ⟨_, q.1, okE_some q.2⟩)⟩))
theorem okG_set {k : Nat} (q : match w with | .nw c => N (ρ.set k (.cl (.ce h.length))) (h ++ [c]) | .cl d => N (ρ.set k (.cl d)) h) : okG (gSet k w ρ h) N := by
  cases w with
  | nw c => exact ⟨_, rfl, q⟩
  | cl d => exact ⟨_, rfl, q⟩
theorem okG_setC {k : Nat} (q : N (ρ.set k (.cl (fzW w))) h) : okG (gSetC k w ρ h) N := ⟨_, rfl, q⟩
theorem okG_sub {o : Mo W} (q : okE (o ρ h) (fun u ρ h => okE (e ρ h) (fun k ρ h => ∃ n : Int, deref h k = some (.int n) ∧ okW (lstAt h u) fun x => okW (ixN x.2.length n) fun j => N ρ (h.set x.1 (.lst (x.2.set j (fzW w))))) nox) nox) : okG (gSubL o e w ρ h) N := by
  obtain ⟨r, e1, p⟩ := q
  cases r with
  | ex C fs ρ h => exact p.elim
  | ok u ρ1 h1 =>
    obtain ⟨r, e2, p⟩ := p
    cases r with
    | ex C fs ρ h => exact p.elim
    | ok k ρ2 h2 =>
      obtain ⟨n, e3, x, e4, j, e5, p⟩ := p
      refine ⟨(ρ2, h2.set x.1 (.lst (x.2.set j (fzW w)))), ?_, p⟩
      unfold gSubL
      rw [e1]
      dsimp only
      rw [e2]
      dsimp only
      rw [e3]
      show ((lstAt h2 u).bind fun x => (ixN x.2.length n).map fun j => (ρ2, h2.set x.1 (.lst (x.2.set j (fzW w))))) = _
      rw [e4]
      dsimp only [Option.bind_some]
      rw [e5]
      rfl
theorem okE_sl {lo hi : MO} (q : okE (a ρ h) (fun w ρ h => okE (lo ρ h) (fun l ρ h => okE (hi ρ h) (fun u ρ h => okW (deref h w) fun d => okW (dSl d l u) fun w => P w ρ h) X) X) X) : okE (mSl a lo hi ρ h) P X :=
  okE_bind (q.mono fun _ _ _ q => okE_bind (q.mono fun _ _ _ q => okE_bind (q.mono fun _ _ _ q => okE_opt (q.elim fun _ q => ⟨_, q.1, okE_map (q.2.elim fun _ q => ⟨_, q.1, okE_some q.2⟩)⟩))))
theorem okE_nopart {P : Ps (Option Int)} (q : P none ρ h) : okE (mNoPart ρ h) P X := okE_some q
theorem okE_part {P : Ps (Option Int)} (q : okE (a ρ h) (fun w ρ h => ∃ n : Int, deref h w = some (.int n) ∧ P (some n) ρ h) X) : okE (mPart a ρ h) P X := okE_bind (q.mono fun w ρ h q => by
  obtain ⟨n, e, p⟩ := q
  rw [e]
  exact okE_some p)
theorem okE_bs {fs : Str → List D → Option W} (q : okE (a ρ h) (fun x ρ h => ∃ z, deref h x = some (.str z) ∧ okE (es ρ h) (fun ws ρ h => okW (derefs h ws) fun ds => okW (fs z ds) fun w => P w ρ h) X) X) : okE (mBS fs a es ρ h) P X := okE_bind (q.mono fun x ρ h q => by
  obtain ⟨z, e, q⟩ := q
  rw [e]
  exact okE_bind (q.mono fun ws ρ h q => okE_opt (q.elim fun _ q => ⟨_, q.1, okE_map (q.2.elim fun _ q => ⟨_, q.1, okE_some q.2⟩)⟩)))
-- defs
theorem okF_fn {P : W → Tb → Prop} {X : Str → List (Str × D) → Tb → Prop} (hl : as.length = n) (q : okS (body (as.map Sl.cl ++ List.replicate k .un) h) (fun ρ h' => okW (cutF keep h (.cl .non) h') fun x => P x.1 x.2) (fun w ρ h' => okW (cutF keep h w h') fun x => P x.1 x.2) (fun _ _ _ => False) (fun C fs ρ h' => okW (cutX keep h fs h') fun x => X C fs x)) : okF (fnM keep n k body as h) P X := by
  obtain ⟨o, e, p⟩ := q
  unfold fnM
  rw [if_pos hl, e]
  cases o with
  | nx ρ h' =>
    obtain ⟨x, e, p⟩ := p
    exact ⟨.rt x.1 x.2, by show (cutF keep h (.cl .non) h').map _ = _; rw [e]; rfl, p⟩
  | rt w ρ h' =>
    obtain ⟨x, e, p⟩ := p
    exact ⟨.rt x.1 x.2, by show (cutF keep h w h').map _ = _; rw [e]; rfl, p⟩
  | ct ρ h' => exact p.elim
  | bk ρ h' => exact p.elim
  | ex C fs ρ h' =>
    obtain ⟨x, e, p⟩ := p
    exact ⟨.ex C fs x, by show (cutX keep h fs h').map _ = _; rw [e]; rfl, p⟩
theorem okF_eq {x : Option FR} {P : W → Tb → Prop} {X : Str → List (Str × D) → Tb → Prop} (e : x = some (.rt w h)) (p : P w h) : okF x P X := ⟨_, e, p⟩
/-- no cell came to it -/
theorem cut_same {Q : W × Tb → Prop} (hl : h'.length = h.length) (q : Q (w, h')) : okW (cutF keep h w h') Q := ⟨_, by unfold cutF; rw [if_pos (.inr hl)], q⟩
theorem cutX_same {fs : List (Str × D)} {Q : Tb → Prop} (hl : h'.length = h.length) (q : Q h') : okW (cutX keep h fs h') Q := ⟨_, by unfold cutX; rw [if_pos (.inr hl)], q⟩
/-- own cells go; what is handed back tells of none of them -/
theorem cut_app {h1 g : Tb} {Q : W × Tb → Prop} (hl : h1.length = h.length) (ok : okCut h h1) (hw : ∀ n, w ≠ .cl (.ce n)) (hb : below h.length (fzW w) = true) (q : Q (w, h1)) : okW (cutF false h w (h1 ++ g)) Q := by
  have e0 : (h1 ++ g).take h.length = h1 := by rw [← hl, List.take_left]
  have ok2 : okCut h (h1 ++ g) := fun i c hi hc => by
    rw [List.getElem?_append_left (by omega)] at hc
    exact ok i c hi hc
  unfold cutF
  by_cases hs : (h1 ++ g).length = h.length
  · have : g = [] := by
      rw [List.length_append, hl] at hs
      exact List.eq_nil_of_length_eq_zero (by omega)
    subst this
    rw [List.append_nil, if_pos (.inr hl)]
    exact ⟨_, rfl, q⟩
  · rw [if_neg (fun z => z.elim (fun z => by cases z) hs), if_pos ok2]
    refine ⟨(w, h1), ?_, q⟩
    cases w with
    | nw c =>
      show (if below h.length (fzW (.nw c)) = true then some ((W.nw c), (h1 ++ g).take h.length) else none) = _
      rw [if_pos hb, e0]
    | cl d =>
      cases d with
      | ce n => exact absurd rfl (hw n)
      | _ => (first | (rw [e0]; exact if_pos hb) | skip)
/-- an own cell is handed back: it is a new thing -/
theorem cut_own {h1 g : Tb} {c : D} {n : Nat} {Q : W × Tb → Prop} (hl : h1.length = h.length) (ok : okCut h h1) (hn : h.length ≤ n) (hc : (h1 ++ g)[n]? = some c) (hb : below h.length c = true) (q : Q (.nw c, h1)) : okW (cutF false h (.cl (.ce n)) (h1 ++ g)) Q := by
  have e0 : (h1 ++ g).take h.length = h1 := by rw [← hl, List.take_left]
  have ok2 : okCut h (h1 ++ g) := fun i c hi hc => by
    rw [List.getElem?_append_left (by omega)] at hc
    exact ok i c hi hc
  have hs : (h1 ++ g).length ≠ h.length := fun z => by
    have := (List.getElem?_eq_some_iff.mp hc).1
    omega
  unfold cutF
  rw [if_neg (fun z => z.elim (fun z => by cases z) hs), if_pos ok2]
  refine ⟨_, ?_, q⟩
  show (if n < h.length then some (W.cl (D.ce n), (h1 ++ g).take h.length) else match (h1 ++ g)[n]? with
      | some c => if below h.length c = true then some (W.nw c, (h1 ++ g).take h.length) else none
      | none => none) = _
  rw [if_neg (by omega), hc]
  show (if below h.length c = true then some (W.nw c, (h1 ++ g).take h.length) else none) = _
  rw [if_pos hb, e0]
theorem okCut_refl : okCut h h := fun i c _ hc => .inl hc
end
/-! closed trees -/
theorem below_lst {k : Nat} {ds : List D} : below k (.lst ds) = ds.all (below k) := by simp only [below, belows_eq]
theorem below_tup {k : Nat} {ds : List D} : below k (.tup ds) = ds.all (below k) := by simp only [below, belows_eq]
theorem below_ins {k : Nat} {C : Str} {fs : List (Str × D)} : below k (.ins C fs) = (fs.map (·.2)).all (below k) := by simp only [below, belowF_eq, belows_eq]
theorem below_dK {k : Nat} {fs : List (L2.Key × D)} : below k (.dK fs) = (fs.map (·.2)).all (below k) := by simp only [below, belowK_eq, belows_eq]
theorem below_int {k : Nat} {i : Int} : below k (.int i) = true := by simp only [below]
theorem below_str {k : Nat} {i : Str} : below k (.str i) = true := by simp only [below]
theorem below_bl {k : Nat} {i : Bool} : below k (.bl i) = true := by simp only [below]
theorem below_non {k : Nat} : below k .non = true := by simp only [below]
theorem below_ce {k n : Nat} : below k (.ce n) = decide (n < k) := by simp only [below]
theorem below_strs {k : Nat} (zs : List Str) : below k (.lst (zs.map .str)) = true := by
  rw [below_lst, List.all_eq_true]
  intro d hd
  obtain ⟨z, _, rfl⟩ := List.mem_map.mp hd
  exact below_str
end CM

/-! CW1: the drawing defs that many laws share: what they answer. -/
namespace CM
open PySem PySem.Spec PyProof.Rows L2 SL
/-- the box: what is left of a cell, a seed, how often was drawn -/
def BoxL (n : Nat) (ds : List D) : Prop := ∃ a s c : Int, ds = [.int a, .int s, .int c] ∧ 0 ≤ a ∧ 0 ≤ s ∧ s < 2147483648 ∧ 0 ≤ c ∧ c ≤ n
theorem BoxL.mono {m n : Nat} {ds : List D} (h : BoxL m ds) (k : m ≤ n) : BoxL n ds := by
  obtain ⟨a, s, c, e, h1, h2, h3, h4, h5⟩ := h
  exact ⟨a, s, c, e, h1, h2, h3, h4, by omega⟩
/-- h is h0 but for the box at b, from which was drawn at most n times -/
def Bx (b n : Nat) (h0 h : Tb) : Prop := ∃ ds, BoxL n ds ∧ b < h0.length ∧ h = h0.set b (.lst ds)
section
variable {b n m : Nat} {h0 h h' h1 g : Tb} {ds : List D}
theorem Bx.len (q : Bx b n h0 h) : h.length = h0.length := by
  obtain ⟨ds, _, _, rfl⟩ := q
  exact List.length_set ..
theorem Bx.lt (q : Bx b n h0 h) : b < h.length := by
  obtain ⟨ds, _, k, rfl⟩ := q
  rwa [List.length_set]
theorem Bx.at_ (q : Bx b n h0 h) : ∃ ds, BoxL n ds ∧ h[b]? = some (.lst ds) := by
  obtain ⟨ds, a, k, rfl⟩ := q
  exact ⟨ds, a, List.getElem?_set_self k⟩
theorem Bx.put (q : Bx b n h0 h) (k : BoxL m ds) : Bx b m h0 (h.set b (.lst ds)) := by
  obtain ⟨_, _, k2, rfl⟩ := q
  exact ⟨ds, k, k2, by rw [List.set_set]⟩
theorem Bx.refl (e : h[b]? = some (.lst ds)) (k : BoxL n ds) : Bx b n h h := ⟨ds, k, (List.getElem?_eq_some_iff.mp e).1, (set_self e).symm⟩
theorem Bx.mono (q : Bx b m h0 h) (k : m ≤ n) : Bx b n h0 h := by
  obtain ⟨ds, a, c, e⟩ := q
  exact ⟨ds, a.mono k, c, e⟩
theorem Bx.ne {i : Nat} (q : Bx b n h0 h) (hi : i ≠ b) : h[i]? = h0[i]? := by
  obtain ⟨ds, _, _, rfl⟩ := q
  exact List.getElem?_set_ne (fun z => hi z.symm)
theorem Bx.app (q : Bx b n h0 h) : Bx b n (h0 ++ g) (h ++ g) := by
  obtain ⟨ds, a, k, rfl⟩ := q
  exact ⟨ds, a, by rw [List.length_append]; omega, by rw [List.set_append_left _ _ k]⟩
theorem Bx.unapp (q : Bx b n (h0 ++ g) h) (k : b < h0.length) : ∃ h1, h = h1 ++ g ∧ Bx b n h0 h1 := by
  obtain ⟨ds, a, _, rfl⟩ := q
  exact ⟨h0.set b (.lst ds), List.set_append_left _ _ k, ds, a, k, rfl⟩
theorem Bx.trans (q : Bx b n h0 h) (r : Bx b m h h') : Bx b m h0 h' := by
  obtain ⟨ds, a, k, rfl⟩ := q
  obtain ⟨es, c, _, rfl⟩ := r
  exact ⟨es, c, k, by rw [List.set_set]⟩
theorem boxL_below {k : Nat} (a : BoxL n ds) : below k (.lst ds) = true := by
  obtain ⟨a, s, c, rfl, _⟩ := a
  rw [below_lst]
  simp [below_int]
theorem Bx.cut (q : Bx b n h0 h) (r : Bx b m h0 h1) : okCut h h1 := fun i c hi hc => by
  by_cases e : i = b
  · subst e
    obtain ⟨ds, a, hb⟩ := r.at_
    rw [hb] at hc
    cases hc
    exact .inr (boxL_below a)
  · rw [r.ne e] at hc
    rw [q.ne e]
    exact .inl hc
/-- the box of a table that goes on -/
theorem Bx.self (q : Bx b n h0 h) : Bx b n h h := by
  obtain ⟨ds, a, e⟩ := q.at_
  exact Bx.refl e a
end
def cellM (A B : Int) : MS := (sSeq (sIf (mTest (mOp dLt (mVar 1) (mCB dLen (mCons (mVar 0) mNil)))) (sRet (mOp dIx (mVar 0) (mVar 1))) sNext)
    (sRet (mOp dAdd (mOp dMul (mC (.int A)) (mVar 1)) (mC (.int B)))))
def boxM : MS := (sRet (mLst (mCons (mCB dMax2 (mCons (mC (.int 0)) (mCons (mOp dSub (mVar 0) (mOp dPow (mC (.int 10)) (mC (.int 18)))) mNil))) (mCons (mOp dMod (mVar 0) (mC (.int 2147483629))) (mCons (mC (.int 0)) mNil)))))
def takeM (A B : Int) : MS := (sSeq (sIf (mTest (mOp dGt (mOp dIx (mVar 0) (mC (.int 0))) (mC (.int 0)))) (sSeq (sAsg (mOp dMod (mOp dIx (mVar 0) (mC (.int 0))) (mVar 1)) (gSetC 4))
    (sSeq (sAsg (mOp dDiv (mOp dIx (mVar 0) (mC (.int 0))) (mVar 1)) (gSubL (mVar 0) (mC (.int 0))))
    (sRet (mVar 4)))) sNext)
    (sSeq (sAsg (mOp dAdd (mOp dIx (mVar 0) (mC (.int 2))) (mC (.int 1))) (gSubL (mVar 0) (mC (.int 2))))
    (sSeq (sAsg (mOp dMod (mOp dAdd (mOp dAdd (mOp dMul (mOp dIx (mVar 0) (mC (.int 1))) (mC (.int 48271))) (mOp dMul (mC (.int A)) (mOp dIx (mVar 0) (mC (.int 2))))) (mC (.int B))) (mC (.int 2147483647))) (gSetC 2))
    (sSeq (sAsg (mOp dMod (mOp dPow (mOp dAdd (mVar 2) (mOp dMul (mC (.int 15485863)) (mOp dIx (mVar 0) (mC (.int 2))))) (mC (.int 2))) (mC (.int 2147483629))) (gSetC 3))
    (sRet (mOp dMod (mOp dAdd (mOp dDiv (mOp dMod (mOp dPow (mVar 3) (mC (.int 2))) (mC (.int 2147483587))) (mC (.int 16))) (mOp dDiv (mVar 2) (mC (.int 64)))) (mVar 1)))))))
section
variable {ρ : List Sl} {h : Tb} {P : Ps W} {X : Px} {A B i j : Int} {n k : Nat} {d e : D} {ds : List D} {m : Int}
-- values with a bound
theorem w_mod {Q : W → Prop} (h : 0 < j) (q : Q (.cl (.int (i % j)))) : okW (dMod (.int i) (.int j)) Q := ⟨_, by show (if 0 < j then some (W.cl (.int (i % j))) else none) = _; rw [if_pos h], q⟩
theorem w_div {Q : W → Prop} (h : 0 < j) (h2 : j < big) (q : Q (.cl (.int (i / j)))) : okW (dDiv (.int i) (.int j)) Q := ⟨_, by show (if 0 < j ∧ j < big then some (W.cl (.int (i / j))) else none) = _; rw [if_pos ⟨h, h2⟩], q⟩
theorem w_mul {Q : W → Prop} (h1 : -big < i) (h2 : i < big) (h3 : -big < j) (h4 : j < big) (q : Q (.cl (.int (i * j)))) : okW (dMul (.int i) (.int j)) Q := ⟨_, by show (if -big < i ∧ i < big ∧ -big < j ∧ j < big then some (W.cl (.int (i * j))) else none) = _; rw [if_pos ⟨h1, h2, h3, h4⟩], q⟩
theorem w_sq {Q : W → Prop} (h1 : -18446744073709551616 < i) (h2 : i < 18446744073709551616) (q : Q (.cl (.int (i ^ 2)))) : okW (dPow (.int i) (.int 2)) Q := ⟨_, by show (if (0 : Int) ≤ 2 ∧ (2 : Int) ≤ 1000000 ∧ -18446744073709551616 < i ∧ i < 18446744073709551616 then some (W.cl (.int (i ^ 2))) else none) = _; rw [if_pos ⟨by decide, by decide, h1, h2⟩], q⟩
theorem w_add {Q : W → Prop} (q : Q (.cl (.int (i + j)))) : okW (dAdd (.int i) (.int j)) Q := ⟨_, rfl, q⟩
theorem w_addI {Q : W → Prop} (q : Q (.cl (.int (i + j)))) : okW (dAddI (.int i) (.int j)) Q := ⟨_, rfl, q⟩
theorem w_sub {Q : W → Prop} (q : Q (.cl (.int (i - j)))) : okW (dSub (.int i) (.int j)) Q := ⟨_, rfl, q⟩
theorem w_lt {Q : W → Prop} (q : Q (.cl (.bl (decide (i < j))))) : okW (dLt (.int i) (.int j)) Q := ⟨_, rfl, q⟩
theorem w_le {Q : W → Prop} (q : Q (.cl (.bl (decide (i ≤ j))))) : okW (dLe (.int i) (.int j)) Q := ⟨_, rfl, q⟩
theorem w_gt {Q : W → Prop} (q : Q (.cl (.bl (decide (j < i))))) : okW (dGt (.int i) (.int j)) Q := ⟨_, rfl, q⟩
theorem w_ge {Q : W → Prop} (q : Q (.cl (.bl (decide (j ≤ i))))) : okW (dGe (.int i) (.int j)) Q := ⟨_, rfl, q⟩
theorem w_max2 {Q : W → Prop} (q : Q (.cl (.int (if j > i then j else i)))) : okW (dMax2 [.int i, .int j]) Q := ⟨_, rfl, q⟩
theorem w_min2 {Q : W → Prop} (q : Q (.cl (.int (if j < i then j else i)))) : okW (dMin2 [.int i, .int j]) Q := ⟨_, rfl, q⟩
theorem w_lenL {Q : W → Prop} (q : Q (.cl (.int ds.length))) : okW (dLen [.lst ds]) Q := ⟨_, rfl, q⟩
theorem w_lenT {Q : W → Prop} (q : Q (.cl (.int ds.length))) : okW (dLen [.tup ds]) Q := ⟨_, rfl, q⟩
theorem w_lenC {ns : List Int} {Q : W → Prop} (q : Q (.cl (.int ns.length))) : okW (dLen [.scr ns]) Q := ⟨_, rfl, q⟩
theorem w_listL {Q : W → Prop} (q : Q (W.fr ds)) : okW (dList [.lst ds]) Q := ⟨_, rfl, q⟩
theorem w_listT {Q : W → Prop} (q : Q (W.fr ds)) : okW (dList [.tup ds]) Q := ⟨_, rfl, q⟩
theorem w_tupL {Q : W → Prop} (q : Q (.cl (.tup ds))) : okW (dTuple [.lst ds]) Q := ⟨_, rfl, q⟩
theorem w_tupT {Q : W → Prop} (q : Q (.cl (.tup ds))) : okW (dTuple [.tup ds]) Q := ⟨_, rfl, q⟩
theorem okE_eqn {x : Option (R W)} (q : okE x P X) : okE x P X := q
theorem okW_deref {w : W} {Q : D → Prop} (e : deref h w = some d) (q : Q d) : okW (deref h w) Q := ⟨_, e, q⟩
theorem okW_derefs {ws : List W} {Q : List D → Prop} (e : derefs h ws = some ds) (q : Q ds) : okW (derefs h ws) Q := ⟨_, e, q⟩
theorem okW_derefC {c : Nat} {Q : List D → Prop} (e : h[c]? = some d) (q : Q [d]) : okW (derefs h [.cl (.ce c)]) Q := ⟨[d], by
  show ((h[c]?).bind fun d => (some []).bind fun ds => some (d :: ds)) = _
  rw [e]
  rfl, q⟩
theorem okW_lstAt {c : Nat} {Q : Nat × List D → Prop} (e : h[c]? = some (.lst ds)) (q : Q (c, ds)) : okW (lstAt h (.cl (.ce c))) Q := ⟨_, by
  show (match h[c]? with
    | some (.lst cs) => some (c, cs)
    | _ => none) = _
  rw [e], q⟩
theorem okW_ix {b : D} {w : W} {Q : W → Prop} (e : dIx d b = some w) (q : Q w) : okW (dIx d b) Q := ⟨_, e, q⟩
theorem okB_testd {e : Mo W} {P : Ps Bool} (q : ∃ b, (e ρ h) = some (.ok (.cl (.bl b)) ρ h) ∧ P b ρ h) : okE (mTest e ρ h) P X := by
  obtain ⟨b, e, p⟩ := q
  exact okB_test (okE_eq e ⟨b, rfl, p⟩)
theorem big_eq : big = 10000000000000000000000000000000000000000 := rfl
local macro_rules | `(tactic| walk_at "hv") => `(tactic| first | rfl | assumption | (exact (by assumption : _)))
local macro_rules | `(tactic| walk_at "p1") => `(tactic| first
  | with_reducible refine CM.okS_seq ?_ | with_reducible refine CM.okS_next ?_ | with_reducible refine CM.okS_asg ?_ | with_reducible refine CM.okS_ret ?_ | with_reducible refine CM.okS_drop ?_ | with_reducible refine CM.okS_aug ?_ | with_reducible refine CM.okS_cnt ?_ | with_reducible refine CM.okS_fg ?_ | with_reducible refine CM.okS_retN ?_
  | with_reducible refine CM.okE_op ?_ | with_reducible refine CM.okE_cb ?_ | with_reducible refine CM.okE_cons ?_ | with_reducible refine CM.okE_nil ?_ | with_reducible refine CM.okB_not ?_ | with_reducible refine CM.okE_c ?_ | with_reducible refine CM.okE_fr ?_ | with_reducible refine CM.okE_ce ?_ | with_reducible refine CM.okE_notV ?_ | with_reducible refine CM.okE_un ?_
  | with_reducible refine CM.okE_sl ?_ | with_reducible refine CM.okE_nopart ?_
  | ((with_reducible refine' CM.okE_var ?hv ?_); (case hv => rfl))
  | ((with_reducible refine' CM.okE_part (CM.okE_var ?hv ⟨_, ?hv2, ?_⟩)); (case hv => rfl); (case hv2 => rfl))
  | ((with_reducible refine' CM.okE_part (CM.okE_c ⟨_, ?hv2, ?_⟩)); (case hv2 => rfl))
  | ((with_reducible refine' CM.okW_eq (w := _) ?hv ?_); (case hv => (with_reducible rfl)))
  | ((with_reducible refine' CM.okW_deref ?hv ?_); (case hv => walk_at "hv")) | ((with_reducible refine' CM.okW_derefs ?hv ?_); (case hv => rfl)) | ((with_reducible refine' CM.okW_derefC ?hv ?_); (case hv => walk_at "hv")) | ((with_reducible refine' CM.okW_lstAt ?hv ?_); (case hv => walk_at "hv"))
  | with_reducible refine CM.w_add ?_ | with_reducible refine CM.w_sub ?_ | with_reducible refine CM.w_lt ?_ | with_reducible refine CM.w_le ?_ | with_reducible refine CM.w_gt ?_ | with_reducible refine CM.w_ge ?_ | with_reducible refine CM.w_addI ?_
  | with_reducible refine CM.w_mod (by omega) ?_ | with_reducible refine CM.w_div (by omega) (by rw [CM.big_eq]; omega) ?_ | with_reducible refine CM.w_mul (by rw [CM.big_eq]; omega) (by rw [CM.big_eq]; omega) (by rw [CM.big_eq]; omega) (by rw [CM.big_eq]; omega) ?_ | with_reducible refine CM.w_sq (by omega) (by omega) ?_
  | with_reducible refine CM.w_max2 ?_ | with_reducible refine CM.w_min2 ?_ | with_reducible refine CM.w_lenL ?_ | with_reducible refine CM.w_lenT ?_ | with_reducible refine CM.w_lenC ?_ | with_reducible refine CM.w_listL ?_ | with_reducible refine CM.w_listT ?_ | with_reducible refine CM.w_tupL ?_ | with_reducible refine CM.w_tupT ?_
  | ((with_reducible refine CM.okG_setC ?_); (try dsimp only [List.set, CM.fzW]))
  | ((with_reducible refine' CM.okW_ix ?hv ?_); (case hv => rfl))
  | ((with_reducible refine' CM.okB_test (CM.okE_eqn ⟨_, ?hv, ?_⟩)); (case hv => rfl))
  | ((with_reducible refine' CM.okB_testd ⟨_, ?hv, ?_⟩); (case hv => rfl)))
local macro_rules | `(tactic| walk_at "p") => `(tactic| repeat walk_at "p1")
theorem take_ok {b : Nat} {h0 : Tb} {P : W → Tb → Prop} {X : Str → List (Str × D) → Tb → Prop} (hA : 0 ≤ A) (hA2 : A ≤ 1000000) (hB : 0 ≤ B) (hB2 : B ≤ 1000000) (hb : Bx b n h0 h) (hn : n ≤ 100000000) (hm : 0 < m) (hm2 : m ≤ 1000000) (q : ∀ v h', 0 ≤ v → v < m → Bx b (n + 1) h0 h' → P (.cl (.int v)) h') :
    okF (fnM false 2 3 (takeM A B) [.ce b, .int m] h) P X := by
  obtain ⟨ds, hl, hc⟩ := hb.at_
  obtain ⟨a, s, c, rfl, h1, h2, h3, h4, h5⟩ := hl
  refine okF_fn rfl ?_
  show okS (takeM A B [.cl (.ce b), .cl (.int m), .un, .un, .un] h) _ _ _ _
  refine okS_seq (okS_if (okB_test (okE_op ?_)))
  walk_at "p"
  refine ⟨_, rfl, fun ht => ?_, fun ht => ?_⟩
  · have ht := of_decide_eq_true ht
    walk_at "p"
    refine okG_sub (okE_var rfl (okE_c ⟨0, rfl, ⟨_, (by show (match h[b]? with | some (.lst cs) => some (b, cs) | _ => none) = _; rw [hc]), ⟨0, rfl, ?_⟩⟩⟩))
    have hb2 : Bx b (n + 1) h0 (h.set b (.lst [.int (a / m), .int s, .int c])) := hb.put ⟨a / m, s, c, rfl, Int.ediv_nonneg h1 (by omega), h2, h3, h4, by omega⟩
    walk_at "p"
    exact cut_same (by rw [List.length_set]) (q _ _ (Int.emod_nonneg _ (by omega)) (Int.emod_lt_of_pos _ hm) hb2)
  · refine okS_next ?_
    walk_at "p"
    refine okG_sub (okE_var rfl (okE_c ⟨2, rfl, ⟨_, (by show (match h[b]? with | some (.lst cs) => some (b, cs) | _ => none) = _; rw [hc]), ⟨2, rfl, ?_⟩⟩⟩))
    have hb2 : Bx b (n + 1) h0 (h.set b (.lst [.int a, .int s, .int (c + 1)])) := hb.put ⟨a, s, c + 1, rfl, h1, h2, h3, by omega, by omega⟩
    have hc2 : (h.set b (.lst [.int a, .int s, .int (c + 1)]))[b]? = some (.lst [.int a, .int s, .int (c + 1)]) := List.getElem?_set_self hb.lt
    have hl2 : (h.set b (.lst [.int a, .int s, .int (c + 1)])).length = h.length := List.length_set ..
    show okS _ _ _ _ _
    dsimp only [fzW, List.set] at hb2 hc2 hl2 ⊢
    generalize h.set b (.lst [.int a, .int s, .int (c + 1)]) = h9 at hb2 hc2 hl2 ⊢
    generalize hcc : c + 1 = c1 at hb2 hc2 ⊢
    have k1 : 0 ≤ c1 := by omega
    have k2 : c1 ≤ 100000001 := by omega
    have k3 : 0 ≤ A * c1 := Int.mul_nonneg hA k1
    have k4 : A * c1 ≤ 1000000 * 100000001 := Int.mul_le_mul hA2 k2 k1 (by decide)
    walk_at "p"
    exact cut_same hl2 (q _ _ (Int.emod_nonneg _ (by omega)) (Int.emod_lt_of_pos _ hm) hb2)
theorem okE_take {mf : Fnm} {b : Nat} {h0 : Tb} {k : Nat} {e : Mo W} (hmf : mf = fnM false 2 3 (takeM A B)) (hA : 0 ≤ A) (hA2 : A ≤ 1000000) (hB : 0 ≤ B) (hB2 : B ≤ 1000000) (hs : ρ[k]? = some (.cl (.ce b))) (hb : Bx b n h0 h) (hn : n ≤ 100000000)
    (he : okE (e ρ h) (fun w ρ' h' => ρ' = ρ ∧ h' = h ∧ w = .cl (.int m)) X) (hm : 0 < m) (hm2 : m ≤ 1000000) (q : ∀ v h', 0 ≤ v → v < m → Bx b (n + 1) h0 h' → P (.cl (.int v)) ρ h') :
    okE (callN mf (mCons (mCe (mVar k)) (mCons (mFr e) mNil)) ρ h) P X := by
  subst hmf
  refine okE_call (okE_cons (okE_ce (okE_var hs (okE_cons (okE_fr (he.mono ?_))))))
  rintro w ρ' h' ⟨rfl, rfl, rfl⟩
  exact okE_nil (take_ok hA hA2 hB hB2 hb hn hm hm2 fun v h' v0 v1 hb' => q v h' v0 v1 hb')
theorem box_ok {v : Int} {P : W → Tb → Prop} {X : Str → List (Str × D) → Tb → Prop} (q : ∀ ds, BoxL 0 ds → P (W.fr ds) h) : okF (fnM false 1 0 boxM [.int v] h) P X := by
  refine okF_fn rfl ?_
  show okS (boxM [.cl (.int v)] h) _ _ _ _
  refine okS_ret (okE_eq (w := W.fr [.int (if v - 10 ^ 18 > 0 then v - 10 ^ 18 else 0), .int (v % 2147483629), .int 0]) rfl ?_)
  refine cut_same rfl (q _ ⟨_, _, _, rfl, ?_, Int.emod_nonneg _ (by decide), ?_, by decide, by decide⟩)
  · split
    · omega
    · exact Int.le_refl _
  · have := Int.emod_lt_of_pos v (b := 2147483629) (by decide)
    omega
theorem cell_ok {ns : List Int} {k : Nat} {P : W → Tb → Prop} {X : Str → List (Str × D) → Tb → Prop} (hk : k < 1000000) (hA : 0 ≤ A) (hA2 : A ≤ 100000000) (q : ∀ v, P (.cl (.int v)) h) : okF (fnM false 2 0 (cellM A B) [.scr ns, .int k] h) P X := by
  refine okF_fn rfl ?_
  show okS (cellM A B [.cl (.scr ns), .cl (.int k)] h) _ _ _ _
  refine okS_seq (okS_if (okE_eq (w := decide ((k : Int) < ns.length)) rfl ⟨fun ht => ?_, fun ht => ?_⟩))
  · have ht := of_decide_eq_true ht
    refine okS_ret (okE_op ?_)
    walk_at "p"
    have hk : k < ns.length := by omega
    refine okW_eq (w := .cl (.int (ns[k]))) ?_ ?_
    · show (atI ns (k : Int)).map (fun n => W.cl (.int n)) = _
      have : atI ns (k : Int) = some ns[k] := by
        unfold atI ixN
        rw [if_pos (by omega), if_pos ht]
        show ns[(k : Int).toNat]? = _
        rw [Int.toNat_natCast]
        exact List.getElem?_eq_getElem hk
      rw [this]
      rfl
    · exact cut_same rfl (q _)
  · refine okS_next (okS_ret (okE_op (okE_op ?_)))
    walk_at "p"
    exact cut_same rfl (q _)
end
end CM

/-! CW2: displays over items; _law_mixed; texts as lists of signs; _law_columns. -/
namespace CM
open PySem PySem.Spec PyProof.Rows L2 SL
theorem perm_pop {α : Type} : ∀ (l : List α) (v : Nat) (h : v < l.length), (l[v] :: l.eraseIdx v).Perm l
  | [], v, h => absurd h (Nat.not_lt_zero v)
  | a :: l, 0, _ => .refl _
  | a :: l, v + 1, h => have hv : v < l.length := by simpa using h
    (List.Perm.swap a (l[v]'hv) (l.eraseIdx v)).trans ((perm_pop l v hv).cons a)
/-- a text by its signs -/
def S (l : List Nat) : Str := ⟨l.toArray⟩
theorem S_cps (l : List Nat) : (S l).cps.toList = l := rfl
theorem S_len (l : List Nat) : (S l).length = l.length := by rw [SL.len_str]; rfl
theorem S_inj {a b : List Nat} (h : S a = S b) : a = b := by
  have := congrArg (fun z : Str => z.cps.toList) h
  exact this
theorem S_add (a b : List Nat) : S a ++ S b = S (a ++ b) := by
  apply SL.str_ext
  rw [cps_add]
  rfl
theorem S_of (z : Str) : ∃ l, z = S l := ⟨z.cps.toList, by cases z; rfl⟩
theorem S_take (l : List Nat) (k : Nat) : cutS (S l) none (some (k : Int)) = S (l.take k) := by
  unfold cutS
  rw [HT.sIx_none, HT.sIx_nat, S_cps, S_len]
  show S _ = S _
  rw [List.drop_zero, Nat.sub_zero]
  congr 1
  rcases Nat.le_total k l.length with h | h
  · rw [Nat.min_eq_left h]
  · rw [Nat.min_eq_right h, List.take_of_length_le (Nat.le_refl _), List.take_of_length_le h]
theorem S_drop (l : List Nat) (k : Nat) : cutS (S l) (some (k : Int)) none = S (l.drop k) := by
  unfold cutS
  rw [HT.sIx_none, HT.sIx_nat, S_cps, S_len]
  show S _ = S _
  congr 1
  rcases Nat.le_total k l.length with h | h
  · rw [Nat.min_eq_left h]
    exact List.take_of_length_le (by rw [List.length_drop]; exact Nat.le_refl _)
  · rw [Nat.min_eq_right h, List.drop_of_length_le (Nat.le_refl _), List.drop_of_length_le h, List.take_nil]
theorem S_join (ls : List (List Nat)) : Txt.join "" (ls.map S) = S ls.flatten := by
  apply SL.str_ext
  rw [TL.join_eq]
  have e := TL.tl_join "" (ls.map S)
  have e2 : TL.tl ("" : Str) = [] := by decide +kernel
  rw [e2, joinL_nil, List.map_map] at e
  have e3 : (Str.join "" (ls.map S)).cps.toList = (ls.map (TL.tl ∘ S)).flatten := e
  rw [e3]
  have : ls.map (TL.tl ∘ S) = ls := by
    conv => rhs; rw [← List.map_id ls]
    rfl
  rw [this]
  rfl
def lets : List Nat := [97,98,99,100,101,102,103,104,105,106,107,108,109,110,111,112,113,114,115,116,117,118,119,120,121,122]
theorem letters_eq : ("abcdefghijklmnopqrstuvwxyz" : Str) = S lets := by decide +kernel
/-- the signs of a name -/
def NmL (l : List Nat) : Prop := 1 ≤ l.length ∧ l.length ≤ 8 ∧ ∀ c ∈ l, c ∈ lets
def Nm (z : Str) : Prop := NmL z.cps.toList
/-- a letter by its number -/
def lt (i : Int) : Nat := lets.getD i.toNat 0
theorem lt_mem {i : Int} (h0 : 0 ≤ i) (h1 : i < 26) : lt i ∈ lets := by
  unfold lt
  have h : i.toNat < lets.length := by show i.toNat < 26; omega
  rw [List.getD_eq_getElem?_getD, List.getElem?_eq_getElem h]
  exact List.getElem_mem h
theorem lt_at {i : Int} (h0 : 0 ≤ i) (h1 : i < 26) : atI lets i = some (lt i) := by
  have h : i.toNat < lets.length := by show i.toNat < 26; omega
  unfold atI ixN
  rw [if_pos h0, if_pos (by show i < 26; exact h1)]
  show lets[i.toNat]? = _
  unfold lt
  rw [List.getD_eq_getElem?_getD, List.getElem?_eq_getElem h]
  rfl
theorem lets_get : ∀ i < 26, lets.getD i 0 = 97 + i := by decide +kernel
theorem lt_eq {i : Int} (h0 : 0 ≤ i) (h1 : i < 26) : (lt i : Int) = 97 + i := by
  unfold lt
  rw [lets_get i.toNat (by omega)]
  omega
theorem lt_inj {i j : Int} (h0 : 0 ≤ i) (h1 : i < 26) (k0 : 0 ≤ j) (k1 : j < 26) (h : lt i = lt j) : i = j := by
  have a := lt_eq h0 h1
  have b := lt_eq k0 k1
  rw [h] at a
  omega
theorem w_letter {i : Int} {Q : W → Prop} (h0 : 0 ≤ i) (h1 : i < 26) (q : Q (.cl (.str (S [lt i])))) : okW (dIx (.str (S lets)) (.int i)) Q := by
  refine ⟨_, ?_, q⟩
  show (if (S lets).length ≤ 100000 then (atI (S lets).cps.toList i).map (fun c => W.cl (.str ⟨#[c]⟩)) else none) = _
  rw [if_pos (by decide +kernel), S_cps, lt_at h0 h1]
  rfl
theorem w_adds {a b : List Nat} {Q : W → Prop} (h : a.length + b.length ≤ 100000) (q : Q (.cl (.str (S (a ++ b))))) : okW (dAdd (.str (S a)) (.str (S b))) Q := by
  refine ⟨_, ?_, q⟩
  show (if (S a).length + (S b).length ≤ 100000 then some (W.cl (.str (S a ++ S b))) else none) = _
  rw [S_len, S_len, if_pos h, S_add]
theorem w_take {a : List Nat} {k : Nat} {Q : W → Prop} (h : a.length ≤ 100000) (q : Q (.cl (.str (S (a.take k))))) : okW (dSl (.str (S a)) none (some (k : Int))) Q := by
  refine ⟨_, ?_, q⟩
  show (if (S a).length ≤ 100000 then some (W.cl (.str (cutS (S a) none (some (k : Int))))) else none) = _
  rw [S_len, if_pos h, S_take]
theorem w_drop {a : List Nat} {k : Nat} {Q : W → Prop} (h : a.length ≤ 100000) (q : Q (.cl (.str (S (a.drop k))))) : okW (dSl (.str (S a)) (some (k : Int)) none) Q := by
  refine ⟨_, ?_, q⟩
  show (if (S a).length ≤ 100000 then some (W.cl (.str (cutS (S a) (some (k : Int)) none))) else none) = _
  rw [S_len, if_pos h, S_drop]
theorem strsOf_map (zs : List Str) : strsOf (zs.map D.str) = some zs := by
  induction zs with
  | nil => rfl
  | cons z zs ih =>
    show (strsOf (zs.map D.str)).map (z :: ·) = _
    rw [ih]
    rfl
theorem w_join {ls : List (List Nat)} {Q : W → Prop} (h : ls.flatten.length ≤ 100000) (q : Q (.cl (.str (S ls.flatten)))) : okW (fJoin "" [.lst ((ls.map S).map .str)]) Q := by
  refine ⟨_, ?_, q⟩
  show ((strsOf ((ls.map S).map .str)).bind fun zs => if (zs.map (·.length)).sum + zs.length * (("" : Str).length) ≤ 16777216 then some (W.cl (.str (Txt.join "" zs))) else none) = _
  rw [strsOf_map]
  show (if ((ls.map S).map (·.length)).sum + (ls.map S).length * (("" : Str).length) ≤ 16777216 then some (W.cl (.str (Txt.join "" (ls.map S)))) else none) = _
  rw [S_join]
  have e : (((ls.map S).map (·.length)).sum + (ls.map S).length * (("" : Str).length)) ≤ 16777216 := by
    have e2 : (("" : Str).length) = 0 := by decide +kernel
    rw [e2, Nat.mul_zero, Nat.add_zero]
    have : ((ls.map S).map (·.length)).sum = ls.flatten.length := by
      clear h q
      induction ls with
      | nil => rfl
      | cons l ls ih => rw [List.map_cons, List.map_cons, List.sum_cons, ih, List.flatten_cons, List.length_append, S_len]
    omega
  rw [if_pos e]
/-- words that fit, each its own -/
theorem words_ok {R : Nat → List Nat → Prop} {m : Nat} {ls : List (List Nat)} (hl : ls.length = m) (hR : ∀ (i : Nat) (h : i < ls.length), R i ls[i]) (hi : ∀ i j l, i < m → j < m → R i l → R j l → i = j) (hN : ∀ i l, i < m → R i l → NmL l) : ls.Nodup ∧ ∀ l ∈ ls, NmL l := by
  constructor
  · unfold List.Nodup
    rw [List.pairwise_iff_getElem]
    intro i j h1 h2 h e
    have a := hR i h1
    rw [e] at a
    have := hi i j _ (by omega) (by omega) a (hR j h2)
    omega
  · intro l h
    obtain ⟨i, h1, rfl⟩ := List.getElem_of_mem h
    exact hN i _ (by omega) (hR i h1)
section
variable {ρ : List Sl} {h h0 : Tb} {N : List Sl → Tb → Prop} {T : Ps W} {L : Bool → List Sl → Tb → Prop} {P : Ps W} {X : Px} {A B : Int} {i b n k : Nat} {d e : D} {ds cs xs ys : List D} {m : Int} {es : Mo (List W)} {m1 m2 : MS} {it : Mo ItM} {t : Mo Bool} {el : Mo W}
theorem wipe1 {s : Sl} (hi : ρ[i]? = some .un) : wipeS [i] (ρ.set i s) = ρ := by
  show (ρ.set i s).set i .un = ρ
  rw [List.set_set]
  exact set_self hi
/-- [el for x in items if t], x in slot i -/
theorem okE_lcF (I : Nat → Tb → List D → Prop) (hi : ρ[i]? = some .un) (q : okE (it ρ h) (fun y ρ' h' => ρ' = ρ ∧ y = ⟨ds, []⟩ ∧ I 0 h' []) X)
    (hs : ∀ j d h acc, ds[j]? = some d → I j h acc → okE (t (ρ.set i (.cl d)) h) (fun b ρ' h => ρ' = ρ.set i (.cl d) ∧ (b = true → okE (el (ρ.set i (.cl d)) h) (fun w ρ' h' => ρ' = ρ.set i (.cl d) ∧ I (j + 1) h' (acc ++ [fzW w])) X) ∧ (b = false → I (j + 1) h acc)) X)
    (hp : ∀ h acc, I ds.length h acc → P (W.fr acc) ρ h) : okE (mLc it (gSetC i) t el [i] ρ h) P X := by
  refine okE_lc (q.mono ?_)
  rintro y ρ' h' ⟨rfl, rfl, h0⟩
  refine ⟨?_, okE_loopC0 (fun j ρ'' h acc => ρ'' = ρ' ∧ I j h acc) _ 0 ⟨rfl, h0⟩ ?_ ?_⟩
  · exact idle_of fun j hj => by rw [List.mem_singleton.mp hj]; exact hi
  · rintro j d ρ'' h acc hj ⟨rfl, hI⟩
    rw [Nat.zero_add] at hI ⊢
    refine okG_setC ((hs j d h acc hj hI).mono ?_)
    rintro b ρ2 h2 ⟨rfl, hT, hF⟩
    refine ⟨fun hb => (hT hb).mono ?_, fun hb => ?_⟩
    · rintro w ρ3 h3 ⟨rfl, hI⟩
      exact ⟨wipe1 hi, hI⟩
    · exact ⟨wipe1 hi, hF hb⟩
  · rintro ρ'' h acc ⟨rfl, hI⟩
    rw [Nat.zero_add] at hI
    exact hp h acc hI
theorem okE_lc1 (I : Nat → Tb → List D → Prop) (hi : ρ[i]? = some .un) (q : okE (it ρ h) (fun y ρ' h' => ρ' = ρ ∧ y = ⟨ds, []⟩ ∧ I 0 h' []) X)
    (hs : ∀ j d h acc, ds[j]? = some d → I j h acc → okE (el (ρ.set i (.cl d)) h) (fun w ρ' h' => ρ' = ρ.set i (.cl d) ∧ I (j + 1) h' (acc ++ [fzW w])) X)
    (hp : ∀ h acc, I ds.length h acc → P (W.fr acc) ρ h) : okE (mLc it (gSetC i) mYes el [i] ρ h) P X :=
  okE_lcF I hi q (fun j d h acc hj hI => okE_eq rfl ⟨rfl, fun _ => hs j d h acc hj hI, fun z => by cases z⟩) hp
/-- items by their numbers: the same table -/
theorem popAt_ok {Q : D × List D → Prop} {v : Int} (h0 : 0 ≤ v) (h1 : v < cs.length) (h2 : cs.length ≤ 100000) (q : ∀ hv : v.toNat < cs.length, Q (cs[v.toNat], cs.eraseIdx v.toNat)) : okW (fPopAt cs [.int v]) Q := by
  have hv : v.toNat < cs.length := by omega
  refine ⟨_, ?_, q hv⟩
  show (if cs.length ≤ 100000 then (ixN cs.length v).bind fun k => (cs[k]?).map fun d => (d, cs.eraseIdx k) else none) = _
  rw [if_pos h2]
  have : ixN cs.length v = some v.toNat := by
    unfold ixN
    rw [if_pos h0, if_pos h1]
  rw [this]
  show (cs[v.toNat]?).map (fun d => (d, cs.eraseIdx v.toNat)) = _
  rw [List.getElem?_eq_getElem hv]
  rfl
theorem rng_ok {m : Nat} {it : ItM} {P : Ps ItM} (hm : m ≤ 1000) (hes : okE (es ρ h) (fun ws ρ' h' => ws = [.cl (.int m)] ∧ ρ' = ρ ∧ h' = h) X) (p : P ⟨(List.range m).map fun i => .int (i : Nat), []⟩ ρ h) : okE (mRng1 es ρ h) P X := okE_rng1 (hes.mono (by
  rintro ws ρ' h' ⟨rfl, rfl, rfl⟩
  exact okW_derefs rfl ⟨(m : Int), rfl, by omega, by omega, p⟩))
theorem rng_at {m j : Nat} {d : D} (h : ((List.range m).map fun i => D.int (i : Nat))[j]? = some d) : j < m ∧ d = .int (j : Nat) := by
  obtain ⟨h1, h2⟩ := List.getElem?_eq_some_iff.mp h
  rw [List.length_map, List.length_range] at h1
  rw [List.getElem_map, List.getElem_range] at h2
  exact ⟨h1, h2.symm⟩
noncomputable def mixedM (tk : Fnm) : MS := (sSeq (sAsg (mCB dList (mCons (mVar 1) mNil)) (gSet 2))
    (sRet (mLc (mRng1 (mCons (mCB dLen (mCons (mVar 1) mNil)) mNil)) (gSetC 3) mYes (mMut fPopAt (mVar 2) (mCons (callN tk (mCons (mCe (mVar 0)) (mCons (mFr (mCB dLen (mCons (mVar 2) mNil))) mNil))) mNil)) [3])))
local macro_rules | `(tactic| walk_at "hv") => `(tactic| first | rfl | assumption | (exact (by assumption : _)))
local macro_rules | `(tactic| walk_at "p1") => `(tactic| first
  | with_reducible refine CM.okS_seq ?_ | with_reducible refine CM.okS_next ?_ | with_reducible refine CM.okS_asg ?_ | with_reducible refine CM.okS_ret ?_ | with_reducible refine CM.okS_drop ?_ | with_reducible refine CM.okS_aug ?_ | with_reducible refine CM.okS_cnt ?_ | with_reducible refine CM.okS_fg ?_ | with_reducible refine CM.okS_retN ?_
  | with_reducible refine CM.okE_op ?_ | with_reducible refine CM.okE_cb ?_ | with_reducible refine CM.okE_cons ?_ | with_reducible refine CM.okE_nil ?_ | with_reducible refine CM.okB_not ?_ | with_reducible refine CM.okE_c ?_ | with_reducible refine CM.okE_fr ?_ | with_reducible refine CM.okE_ce ?_ | with_reducible refine CM.okE_notV ?_ | with_reducible refine CM.okE_un ?_
  | with_reducible refine CM.okE_sl ?_ | with_reducible refine CM.okE_nopart ?_
  | ((with_reducible refine' CM.okE_var ?hv ?_); (case hv => rfl))
  | ((with_reducible refine' CM.okE_part (CM.okE_var ?hv ⟨_, ?hv2, ?_⟩)); (case hv => rfl); (case hv2 => rfl))
  | ((with_reducible refine' CM.okE_part (CM.okE_c ⟨_, ?hv2, ?_⟩)); (case hv2 => rfl))
  | ((with_reducible refine' CM.okW_eq (w := _) ?hv ?_); (case hv => (with_reducible rfl)))
  | ((with_reducible refine' CM.okW_deref ?hv ?_); (case hv => walk_at "hv")) | ((with_reducible refine' CM.okW_derefs ?hv ?_); (case hv => rfl)) | ((with_reducible refine' CM.okW_derefC ?hv ?_); (case hv => walk_at "hv")) | ((with_reducible refine' CM.okW_lstAt ?hv ?_); (case hv => walk_at "hv"))
  | with_reducible refine CM.w_add ?_ | with_reducible refine CM.w_sub ?_ | with_reducible refine CM.w_lt ?_ | with_reducible refine CM.w_le ?_ | with_reducible refine CM.w_gt ?_ | with_reducible refine CM.w_ge ?_ | with_reducible refine CM.w_addI ?_
  | with_reducible refine CM.w_mod (by omega) ?_ | with_reducible refine CM.w_div (by omega) (by rw [CM.big_eq]; omega) ?_ | with_reducible refine CM.w_mul (by rw [CM.big_eq]; omega) (by rw [CM.big_eq]; omega) (by rw [CM.big_eq]; omega) (by rw [CM.big_eq]; omega) ?_ | with_reducible refine CM.w_sq (by omega) (by omega) ?_
  | with_reducible refine CM.w_max2 ?_ | with_reducible refine CM.w_min2 ?_ | with_reducible refine CM.w_lenL ?_ | with_reducible refine CM.w_lenT ?_ | with_reducible refine CM.w_lenC ?_ | with_reducible refine CM.w_listL ?_ | with_reducible refine CM.w_listT ?_ | with_reducible refine CM.w_tupL ?_ | with_reducible refine CM.w_tupT ?_
  | ((with_reducible refine CM.okG_setC ?_); (try dsimp only [List.set, CM.fzW]))
  | ((with_reducible refine' CM.okW_ix ?hv ?_); (case hv => rfl))
  | ((with_reducible refine' CM.okB_test (CM.okE_eqn ⟨_, ?hv, ?_⟩)); (case hv => rfl))
  | ((with_reducible refine' CM.okB_testd ⟨_, ?hv, ?_⟩); (case hv => rfl)))
local macro_rules | `(tactic| walk_at "p") => `(tactic| repeat walk_at "p1")
theorem mixed_ok {h0 : Tb} {P : W → Tb → Prop} {X : Str → List (Str × D) → Tb → Prop} (hA : 0 ≤ A) (hA2 : A ≤ 1000000) (hB : 0 ≤ B) (hB2 : B ≤ 1000000) (hb : Bx b n h0 h) (hn : n ≤ 90000000) (hx : xs.length ≤ 1000) (hbl : ∀ x ∈ xs, below h.length x = true) (q : ∀ ys h', ys.Perm xs → Bx b (n + xs.length) h0 h' → P (W.fr ys) h') :
    okF (fnM false 2 2 (mixedM (fnM false 2 3 (takeM A B))) [.ce b, .lst xs] h) P X := by
  refine okF_fn rfl ?_
  show okS (mixedM (fnM false 2 3 (takeM A B)) [.cl (.ce b), .cl (.lst xs), .un, .un] h) _ _ _ _
  refine okS_seq (okS_asg (okE_cb ?_))
  walk_at "p"
  refine okG_set ?_
  show okS _ _ _ _ _
  dsimp only [List.set]
  refine okS_ret ?_
  have hbh := hb.self
  refine okE_lc1 (ds := (List.range xs.length).map fun i => .int (i : Nat)) (fun j h' acc => ∃ ls h1, h' = h1 ++ [.lst ls] ∧ ls.length + j = xs.length ∧ (acc ++ ls).Perm xs ∧ Bx b (n + j) h h1) rfl ?_ ?_ ?_
  · refine rng_ok (m := xs.length) (it := ⟨[], []⟩) hx ?_ ⟨rfl, rfl, xs, h, rfl, by omega, .refl _, hbh⟩
    walk_at "p"
    exact ⟨rfl, rfl, rfl⟩
  · rintro j d h' acc hj ⟨ls, h1, rfl, g1, g2, g3⟩
    obtain ⟨hj2, rfl⟩ := rng_at hj
    dsimp only [List.set]
    have hlen := g3.len
    have hcell : (h1 ++ [D.lst ls])[h.length]? = some (.lst ls) := by
      rw [List.getElem?_append_right (by omega), hlen, Nat.sub_self]
      rfl
    refine okE_mut (okE_var rfl (okW_lstAt hcell ?_))
    refine okE_cons (okE_take (m := ls.length) rfl hA hA2 hB hB2 rfl (g3.app (g := [D.lst ls])) (by omega) ?_ (by omega) (by omega) fun v h2 v0 v1 hb2 => ?_)
    · walk_at "p"
      exact ⟨rfl, rfl, rfl⟩
    obtain ⟨h3, rfl, hb3⟩ := hb2.unapp hbh.lt
    have hlen3 := hb3.len
    have hcell2 : (h3 ++ [D.lst ls])[h.length]? = some (.lst ls) := by
      rw [List.getElem?_append_right (by omega), hlen3, Nat.sub_self]
      rfl
    refine okE_nil (okW_lstAt hcell2 (popAt_ok (cs := ls) v0 v1 (by omega) fun hv => ⟨rfl, ls.eraseIdx v.toNat, h3, ?_, ?_, ?_, ?_⟩))
    · rw [List.set_append_right _ _ (by omega), hlen3, Nat.sub_self]
      rfl
    · rw [List.length_eraseIdx_of_lt hv]
      omega
    · rw [List.append_assoc]
      exact (List.Perm.append_left acc (perm_pop ls v.toNat hv)).trans g2
    · exact hb3
  · rintro h' acc ⟨ls, h1, rfl, g1, g2, g3⟩
    have g1 : ls = [] := by
      rw [List.length_map, List.length_range] at g1
      have : ls.length = 0 := by omega
      exact List.eq_nil_of_length_eq_zero this
    subst g1
    rw [List.append_nil] at g2
    rw [List.length_map, List.length_range] at g3
    refine cut_app g3.len (Bx.cut hbh g3) (fun _ z => by cases z) ?_ (q _ _ g2 (hb.trans g3))
    show below h.length (.lst acc) = true
    rw [below_lst, List.all_eq_true]
    exact fun x hx => hbl x (g2.mem_iff.mp hx)
theorem okE_mixed {mf : Fnm} {h0 : Tb} {k : Nat} {e : Mo W} (hmf : mf = fnM false 2 2 (mixedM (fnM false 2 3 (takeM A B)))) (hA : 0 ≤ A) (hA2 : A ≤ 1000000) (hB : 0 ≤ B) (hB2 : B ≤ 1000000) (hs : ρ[k]? = some (.cl (.ce b))) (hb : Bx b n h0 h) (hn : n ≤ 90000000)
    (he : okE (e ρ h) (fun w ρ' h' => ρ' = ρ ∧ h' = h ∧ fzW w = .lst xs) X) (hx : xs.length ≤ 1000) (hbl : ∀ x ∈ xs, below h.length x = true) (q : ∀ ys h', ys.Perm xs → Bx b (n + xs.length) h0 h' → P (W.fr ys) ρ h') :
    okE (callN mf (mCons (mCe (mVar k)) (mCons (mFr e) mNil)) ρ h) P X := by
  subst hmf
  refine okE_call (okE_cons (okE_ce (okE_var hs (okE_cons (okE_fr (he.mono ?_))))))
  rintro w ρ' h' ⟨rfl, rfl, ew⟩
  refine okE_nil ?_
  show okF (fnM false 2 2 (mixedM (fnM false 2 3 (takeM A B))) [.ce b, fzW w] h') _ _
  rw [ew]
  exact mixed_ok hA hA2 hB hB2 hb hn hx hbl fun ys h' v0 hb' => q ys h' v0 hb'
/-- [e for k in range(..)], e a text by k: the box may be drawn from -/
theorem okE_words {e : Mo W} {R : Nat → List Nat → Prop} {h0 : Tb} {q m : Nat} {es : Mo (List W)} (hi : ρ[i]? = some .un) (hb : Bx b n h0 h) (hm : m ≤ 1000)
    (hes : okE (es ρ h) (fun ws ρ' h' => ws = [.cl (.int m)] ∧ ρ' = ρ ∧ h' = h) X)
    (he : ∀ k h, k < m → Bx b (n + q * k) h0 h → okE (e (ρ.set i (.cl (.int k))) h) (fun w ρ' h' => ∃ l, w = .cl (.str (S l)) ∧ ρ' = ρ.set i (.cl (.int k)) ∧ Bx b (n + q * k + q) h0 h' ∧ R k l) X)
    (p : ∀ (ls : List (List Nat)) (h' : Tb), ls.length = m → (∀ (i : Nat) (h : i < ls.length), R i ls[i]) → Bx b (n + q * m) h0 h' → P (W.fr ((ls.map S).map .str)) ρ h') :
    okE (mLc (mRng1 es) (gSetC i) mYes e [i] ρ h) P X := by
  refine okE_lc1 (ds := (List.range m).map fun i => .int (i : Nat)) (fun j h' acc => ∃ ls : List (List Nat), acc = (ls.map S).map .str ∧ ls.length = j ∧ (∀ (i : Nat) (h : i < ls.length), R i ls[i]) ∧ Bx b (n + q * j) h0 h') hi ?_ ?_ ?_
  · exact rng_ok (it := ⟨[], []⟩) hm hes ⟨rfl, rfl, [], rfl, rfl, fun i h => absurd h (Nat.not_lt_zero i), hb⟩
  · rintro j d h' acc hj ⟨ls, rfl, g1, g2, g3⟩
    obtain ⟨hj2, rfl⟩ := rng_at hj
    refine (he j h' hj2 g3).mono ?_
    rintro w ρ' h2 ⟨l, rfl, rfl, g4, g5⟩
    refine ⟨rfl, ls ++ [l], ?_, ?_, ?_, ?_⟩
    · simp [fzW]
    · rw [List.length_append, g1]
      rfl
    · intro i h
      rw [List.getElem_append]
      split
      · exact g2 i _
      · have : i = j := by
          rw [List.length_append] at h
          have : i < ls.length + 1 := h
          omega
        subst this
        simpa [g1] using g5
    · rw [show n + q * (j + 1) = n + q * j + q by rw [Nat.mul_add, Nat.mul_one]; omega]
      exact g4
  · rintro h' acc ⟨ls, rfl, g1, g2, g3⟩
    rw [List.length_map, List.length_range] at g1 g3
    exact p _ _ g1 g2 g3
theorem w_eqi {i j : Int} {Q : W → Prop} (q : Q (.cl (.bl (decide (i = j))))) : okW (dEq (.int i) (.int j)) Q := by
  refine ⟨_, ?_, q⟩
  have h1 : ∀ x : Int, SeqAt.shaped (.int x) = true := fun x => by simp [SeqAt.shaped, PyData.canLay0, PyData.depth]
  show (if SeqAt.shaped (.int i) = true ∧ SeqAt.shaped (.int j) = true then some (PyData.eqv (.int i) (.int j)) else none).map (fun b => W.cl (.bl b)) = _
  rw [if_pos ⟨h1 _, h1 _⟩]
  have : PyData.eqv (.int i) (.int j) = decide (i = j) := by
    unfold PyData.eqv
    by_cases h : i = j
    · subst h
      simp
    · simp [h]
  rw [this]
  rfl
theorem okE_test_eqi {P : Ps Bool} {k : Nat} {i j : Int} (e : ρ[k]? = some (.cl (.int i))) (q : P (decide (i = j)) ρ h) : okE (mTest (mOp dEq (mVar k) (mC (.int j))) ρ h) P X :=
  okB_test (okE_op (okE_var e (okE_c (okW_eq rfl (okW_eq rfl (w_eqi ⟨_, rfl, q⟩))))))
end
noncomputable def columnsM (tk mx : Fnm) : MS := (sSeq (sAsg (mC (.str "abcdefghijklmnopqrstuvwxyz")) (gSetC 2))
    (sSeq (sAsg (mTup (mCons (callN tk (mCons (mCe (mVar 0)) (mCons (mFr (mC (.int 4))) mNil))) (mCons (callN tk (mCons (mCe (mVar 0)) (mCons (mFr (mC (.int 26))) mNil))) mNil))) (gTupM 2 (gsCons (gSetC 3) (gsCons (gSetC 4) gsNil))))
    (sSeq (sAsg (mBS fJoin (mC (.str "")) (mCons (mLc (mRng1 (mCons (mC (.int 8)) mNil)) (gSetC 9) mYes (mOp dIx (mVar 2) (callN tk (mCons (mCe (mVar 0)) (mCons (mFr (mC (.int 26))) mNil)))) [9]) mNil)) (gSetC 5))
    (sSeq (sAsg (callN tk (mCons (mCe (mVar 0)) (mCons (mFr (mC (.int 8))) mNil))) (gSetC 6))
    (sSeq (sAsg (mLc (mRng1 (mCons (mVar 1) mNil)) (gSetC 9) mYes (mOp dAdd (mOp dAdd (mSl (mVar 5) mNoPart (mPart (mVar 6))) (mOp dIx (mVar 2) (mOp dMod (mOp dAdd (mVar 4) (mOp dMul (mC (.int 11)) (mVar 9))) (mC (.int 26))))) (mSl (mVar 5) (mPart (mOp dAdd (mVar 6) (mC (.int 1)))) mNoPart)) [9]) (gSetC 7))
    (sSeq (sIf (mTest (mOp dEq (mVar 3) (mC (.int 0)))) (sAsg (mLc (mRng1 (mCons (mVar 1) mNil)) (gSetC 9) mYes (mOp dIx (mVar 2) (mOp dMod (mOp dAdd (mVar 4) (mOp dMul (mC (.int 3)) (mVar 9))) (mC (.int 26)))) [9]) (gSetC 7)) sNext)
    (sSeq (sIf (mTest (mOp dEq (mVar 3) (mC (.int 1)))) (sSeq (sAsg (callN tk (mCons (mCe (mVar 0)) (mCons (mFr (mC (.int 4))) mNil))) (gSetC 8))
    (sAsg (mLc (mRng1 (mCons (mVar 1) mNil)) (gSetC 9) mYes (mSl (mVar 5) mNoPart (mPart (mOp dAdd (mOp dAdd (mVar 8) (mVar 9)) (mC (.int 1))))) [9]) (gSetC 7))) sNext)
    (sSeq (sIf (mTest (mOp dEq (mVar 3) (mC (.int 2)))) (sAsg (mLc (mRng1 (mCons (mVar 1) mNil)) (gSetC 9) mYes (mOp dAdd (mOp dIx (mVar 2) (mOp dMod (mOp dAdd (mVar 4) (mOp dMul (mC (.int 7)) (mVar 9))) (mC (.int 26)))) (mSl (mVar 5) mNoPart (mPart (callN tk (mCons (mCe (mVar 0)) (mCons (mFr (mC (.int 8))) mNil)))))) [9]) (gSetC 7)) sNext)
    (sRet (callN mx (mCons (mCe (mVar 0)) (mCons (mFr (mVar 7)) mNil))))))))))))
section
variable {ρ : List Sl} {h : Tb} {P : Ps W} {X : Px} {A B : Int} {i j : Int} {b n k : Nat} {d e : D} {ds cs xs ys : List D}
local macro_rules | `(tactic| walk_at "hv") => `(tactic| first | rfl | assumption | (exact (by assumption : _)))
local macro_rules | `(tactic| walk_at "p1") => `(tactic| first
  | with_reducible refine CM.okS_seq ?_ | with_reducible refine CM.okS_next ?_ | with_reducible refine CM.okS_asg ?_ | with_reducible refine CM.okS_ret ?_ | with_reducible refine CM.okS_drop ?_ | with_reducible refine CM.okS_aug ?_ | with_reducible refine CM.okS_cnt ?_ | with_reducible refine CM.okS_fg ?_ | with_reducible refine CM.okS_retN ?_
  | with_reducible refine CM.okE_op ?_ | with_reducible refine CM.okE_cb ?_ | with_reducible refine CM.okE_cons ?_ | with_reducible refine CM.okE_nil ?_ | with_reducible refine CM.okB_not ?_ | with_reducible refine CM.okE_c ?_ | with_reducible refine CM.okE_fr ?_ | with_reducible refine CM.okE_ce ?_ | with_reducible refine CM.okE_notV ?_ | with_reducible refine CM.okE_un ?_
  | with_reducible refine CM.okE_sl ?_ | with_reducible refine CM.okE_nopart ?_
  | ((with_reducible refine' CM.okE_var ?hv ?_); (case hv => rfl))
  | ((with_reducible refine' CM.okE_part (CM.okE_var ?hv ⟨_, ?hv2, ?_⟩)); (case hv => rfl); (case hv2 => rfl))
  | ((with_reducible refine' CM.okE_part (CM.okE_c ⟨_, ?hv2, ?_⟩)); (case hv2 => rfl))
  | ((with_reducible refine' CM.okW_eq (w := _) ?hv ?_); (case hv => (with_reducible rfl)))
  | ((with_reducible refine' CM.okW_deref ?hv ?_); (case hv => walk_at "hv")) | ((with_reducible refine' CM.okW_derefs ?hv ?_); (case hv => rfl)) | ((with_reducible refine' CM.okW_derefC ?hv ?_); (case hv => walk_at "hv")) | ((with_reducible refine' CM.okW_lstAt ?hv ?_); (case hv => walk_at "hv"))
  | with_reducible refine CM.w_add ?_ | with_reducible refine CM.w_sub ?_ | with_reducible refine CM.w_lt ?_ | with_reducible refine CM.w_le ?_ | with_reducible refine CM.w_gt ?_ | with_reducible refine CM.w_ge ?_ | with_reducible refine CM.w_addI ?_
  | with_reducible refine CM.w_mod (by omega) ?_ | with_reducible refine CM.w_div (by omega) (by rw [CM.big_eq]; omega) ?_ | with_reducible refine CM.w_mul (by rw [CM.big_eq]; omega) (by rw [CM.big_eq]; omega) (by rw [CM.big_eq]; omega) (by rw [CM.big_eq]; omega) ?_ | with_reducible refine CM.w_sq (by omega) (by omega) ?_
  | with_reducible refine CM.w_max2 ?_ | with_reducible refine CM.w_min2 ?_ | with_reducible refine CM.w_lenL ?_ | with_reducible refine CM.w_lenT ?_ | with_reducible refine CM.w_lenC ?_ | with_reducible refine CM.w_listL ?_ | with_reducible refine CM.w_listT ?_ | with_reducible refine CM.w_tupL ?_ | with_reducible refine CM.w_tupT ?_
  | ((with_reducible refine CM.okG_setC ?_); (try dsimp only [List.set, CM.fzW]))
  | ((with_reducible refine' CM.okW_ix ?hv ?_); (case hv => rfl))
  | ((with_reducible refine' CM.okB_test (CM.okE_eqn ⟨_, ?hv, ?_⟩)); (case hv => rfl))
  | ((with_reducible refine' CM.okB_testd ⟨_, ?hv, ?_⟩); (case hv => rfl)))
local macro_rules | `(tactic| walk_at "p") => `(tactic| repeat walk_at "p1")
/-- what the columns are: names, each its own -/
def Cols (m : Nat) (ls : List (List Nat)) : Prop := ls.length = m ∧ ls.Nodup ∧ ∀ l ∈ ls, NmL l
def colF (b : Nat) (m : Nat) (w f : Int) (st : List Nat) (t : Nat) (ls : List (List Nat)) (s8 : Sl) : List Sl := [.cl (.ce b), .cl (.int m), .cl (.str (S lets)), .cl (.int w), .cl (.int f), .cl (.str (S st)), .cl (.int t), .cl (.lst ((ls.map S).map .str)), s8, .un]
theorem flat_one : ∀ (ls : List (List Nat)), (∀ (i : Nat) (h : i < ls.length), ls[i].length = 1 ∧ ∀ c ∈ ls[i], c ∈ lets) → ls.flatten.length = ls.length ∧ ∀ c ∈ ls.flatten, c ∈ lets
  | [], _ => ⟨rfl, fun c h => by cases h⟩
  | l :: ls, h => by
    have h0 := h 0 (Nat.zero_lt_succ _)
    obtain ⟨a, b⟩ := flat_one ls fun i hi => h (i + 1) (by simpa using hi)
    rw [List.flatten_cons]
    constructor
    · rw [List.length_append, a]
      have : l.length = 1 := h0.1
      rw [this, List.length_cons]
      omega
    · intro c hc
      rcases List.mem_append.mp hc with q | q
      · exact h0.2 c q
      · exact b c q
theorem perm_map {α β : Type} {f : α → β} (g : β → α) (hg : ∀ x, g (f x) = x) {xs : List α} {ys : List β} (h : ys.Perm (xs.map f)) : ∃ zs : List α, ys = zs.map f ∧ zs.Perm xs := by
  refine ⟨ys.map g, ?_, ?_⟩
  · rw [List.map_map]
    conv => lhs; rw [← List.map_id ys]
    refine List.map_congr_left fun y hy => ?_
    obtain ⟨x, _, rfl⟩ := List.mem_map.mp (h.mem_iff.mp hy)
    show f x = f (g (f x))
    rw [hg]
  · have z := h.map g
    rw [List.map_map] at z
    have e : xs.map (g ∘ f) = xs := by
      conv => rhs; rw [← List.map_id xs]
      exact List.map_congr_left fun x _ => hg x
    rw [e] at z
    exact z
def unS : D → List Nat
  | .str z => z.cps.toList
  | _ => []
theorem columns_ok {m : Nat} {h0 : Tb} {P : W → Tb → Prop} {X : Str → List (Str × D) → Tb → Prop} (hA : 0 ≤ A) (hA2 : A ≤ 1000000) (hB : 0 ≤ B) (hB2 : B ≤ 1000000) (hb : Bx b n h0 h) (hn : n ≤ 80000000) (hm : m ≤ 5) (q : ∀ ls h', Cols m ls → Bx b (n + 30) h0 h' → P (W.fr ((ls.map S).map .str)) h') :
    okF (fnM false 2 8 (columnsM (fnM false 2 3 (takeM A B)) (fnM false 2 2 (mixedM (fnM false 2 3 (takeM A B))))) [.ce b, .int m] h) P X := by
  refine okF_fn rfl ?_
  show okS (columnsM (fnM false 2 3 (takeM A B)) (fnM false 2 2 (mixedM (fnM false 2 3 (takeM A B)))) [.cl (.ce b), .cl (.int m), .un, .un, .un, .un, .un, .un, .un, .un] h) _ _ _ _
  have hl0 := hb.len
  unfold columnsM
  rw [letters_eq]
  walk_at "p"
  refine okE_tup (okE_cons (okE_take (m := 4) rfl hA hA2 hB hB2 rfl hb (by omega) (okE_eq rfl ⟨rfl, rfl, rfl⟩) (by omega) (by omega) fun w d1 w0 w1 hb => ?_))
  refine okE_cons (okE_take (m := 26) rfl hA hA2 hB hB2 rfl hb (by omega) (okE_eq rfl ⟨rfl, rfl, rfl⟩) (by omega) (by omega) fun f d2 f0 f1 hb => ?_)
  walk_at "p"
  refine ⟨Nat.le_of_ble_eq_true rfl, okG_eq rfl ?_⟩
  dsimp only [List.set, fzW]
  refine okS_seq (okS_asg (okE_bs (okE_c ⟨_, rfl, okE_cons ?_⟩)))
  refine okE_words (R := fun _ l => l.length = 1 ∧ ∀ c ∈ l, c ∈ lets) (q := 1) (m := 8) rfl hb (by decide) (okE_eq rfl ⟨rfl, rfl, rfl⟩) ?_ ?_
  · intro k h9 hk hb
    refine okE_op (okE_var rfl (okE_take (m := 26) rfl hA hA2 hB hB2 rfl hb (by omega) (okE_eq rfl ⟨rfl, rfl, rfl⟩) (by omega) (by omega) fun v d3 v0 v1 hb => ?_))
    refine okW_eq rfl (okW_eq rfl (w_letter v0 v1 ⟨_, rfl, rfl, hb, rfl, fun c hc => ?_⟩))
    rw [List.mem_singleton.mp hc]
    exact lt_mem v0 v1
  intro ls d3 h1 h2 hb
  obtain ⟨h3, h4⟩ := flat_one ls h2
  rw [h1] at h3
  refine okE_nil (okW_derefs rfl ?_)
  refine w_join (ls := ls) (by omega) (okG_setC ?_)
  generalize ls.flatten = st at h3 h4 ⊢
  dsimp only [List.set, fzW]
  refine okS_seq (okS_asg (okE_take (m := 8) rfl hA hA2 hB hB2 rfl hb (by omega) (okE_eq rfl ⟨rfl, rfl, rfl⟩) (by omega) (by omega) fun t d4 t0 t1 hb => ?_))
  obtain ⟨t, rfl⟩ := Int.eq_ofNat_of_zero_le t0
  refine okG_setC ?_
  dsimp only [List.set, fzW]
  refine okS_seq (okS_asg (okE_words (R := fun k l => l = (st.take t ++ [lt ((f + 11 * k) % 26)]) ++ st.drop (t + 1)) (q := 0) (m := m) rfl hb (by omega) (okE_eq rfl ⟨rfl, rfl, rfl⟩) ?_ ?_))
  · intro k h9 hk hb
    refine okE_op (okE_op ?_)
    refine okE_sl (okE_var rfl (okE_nopart (okE_part (okE_var rfl ⟨_, rfl, okW_eq rfl (w_take (by omega) ?_)⟩))))
    refine okE_op ?_
    walk_at "p"
    refine w_letter (Int.emod_nonneg _ (by decide)) (Int.emod_lt_of_pos _ (by decide)) ?_
    walk_at "p"
    have k1 : (st.take t).length ≤ 8 := by rw [List.length_take]; omega
    refine w_adds (by rw [List.length_singleton]; omega) ?_
    refine okE_sl (okE_var rfl (okE_part (okE_op ?_)))
    walk_at "p"
    refine ⟨_, rfl, okE_nopart (okW_eq rfl (w_drop (k := t + 1) (by omega) ?_))⟩
    walk_at "p"
    refine w_adds (by rw [List.length_append, List.length_singleton, List.length_drop]; omega) ?_
    exact ⟨_, rfl, rfl, hb.mono (by omega), rfl⟩
  intro ls d5 h5 h6 hb
  have c5 : Cols m ls := ⟨h5, words_ok (R := fun k l => l = (st.take t ++ [lt ((f + 11 * k) % 26)]) ++ st.drop (t + 1)) h5 h6 (fun i j l hi hj e1 e2 => by
    have z := List.append_cancel_left (List.append_cancel_right (e1.symm.trans e2))
    have z := lt_inj (Int.emod_nonneg _ (by decide)) (Int.emod_lt_of_pos _ (by decide)) (Int.emod_nonneg _ (by decide)) (Int.emod_lt_of_pos _ (by decide)) (List.singleton_inj.mp z)
    omega) (fun i l _ e => by
    subst e
    refine ⟨?_, ?_, ?_⟩
    · rw [List.length_append, List.length_append, List.length_singleton]
      omega
    · rw [List.length_append, List.length_append, List.length_singleton, List.length_take, List.length_drop]
      omega
    · intro c hc
      rcases List.mem_append.mp hc with hc | hc
      · rcases List.mem_append.mp hc with hc | hc
        · exact h4 c (List.mem_of_mem_take hc)
        · rw [List.mem_singleton.mp hc]
          exact lt_mem (Int.emod_nonneg _ (by decide)) (Int.emod_lt_of_pos _ (by decide))
      · exact h4 c (List.mem_of_mem_drop hc))⟩
  refine okG_setC ?_
  dsimp only [List.set, fzW]
  let I : Nat → List Sl → Tb → Prop := fun r ρ h => ∃ ls s8, ρ = colF b m w f st t ls s8 ∧ Cols m ls ∧ Bx b (n + r) h0 h
  refine okS_seqM (I 11) (okS_if (okE_test_eqi rfl ⟨fun _ => ?_, fun _ => okS_next ⟨ls, _, rfl, c5, hb.mono (by omega)⟩⟩)) ?_
  · refine okS_asg (okE_words (R := fun k l => l = [lt ((f + 3 * k) % 26)]) (q := 0) (m := m) rfl hb (by omega) (okE_eq rfl ⟨rfl, rfl, rfl⟩) ?_ ?_)
    · intro k h9 hk hb
      walk_at "p"
      refine w_letter (Int.emod_nonneg _ (by decide)) (Int.emod_lt_of_pos _ (by decide)) ?_
      exact ⟨_, rfl, rfl, hb.mono (by omega), rfl⟩
    · intro ls d6 h7 h8 hb
      refine okG_setC ?_
      refine ⟨ls, _, rfl, ⟨h7, words_ok (R := fun k l => l = [lt ((f + 3 * k) % 26)]) h7 h8 (fun i j l hi hj e1 e2 => ?_) (fun i l _ e => ?_)⟩, hb.mono (by omega)⟩
      · have z := lt_inj (Int.emod_nonneg _ (by decide)) (Int.emod_lt_of_pos _ (by decide)) (Int.emod_nonneg _ (by decide)) (Int.emod_lt_of_pos _ (by decide)) (List.singleton_inj.mp (e1.symm.trans e2))
        omega
      · subst e
        exact ⟨Nat.le_refl _, by rw [List.length_singleton]; omega, fun c hc => by
          rw [List.mem_singleton.mp hc]
          exact lt_mem (Int.emod_nonneg _ (by decide)) (Int.emod_lt_of_pos _ (by decide))⟩
  clear hb c5 h5 h6 ls
  rintro ρ h6 ⟨ls, s8, rfl, c6, hb⟩
  refine okS_seqM (I 12) (okS_if (okE_test_eqi rfl ⟨fun _ => ?_, fun _ => okS_next ⟨ls, _, rfl, c6, hb.mono (by omega)⟩⟩)) ?_
  · unfold colF
    refine okS_seq (okS_asg (okE_take (m := 4) rfl hA hA2 hB hB2 rfl hb (by omega) (okE_eq rfl ⟨rfl, rfl, rfl⟩) (by omega) (by omega) fun v d7 v0 v1 hb => ?_))
    obtain ⟨v, rfl⟩ := Int.eq_ofNat_of_zero_le v0
    refine okG_setC ?_
    dsimp only [List.set, fzW]
    refine okS_asg (okE_words (R := fun k l => l = st.take (v + k + 1)) (q := 0) (m := m) rfl hb (by omega) (okE_eq rfl ⟨rfl, rfl, rfl⟩) ?_ ?_)
    · intro k h9 hk hb
      refine okE_sl (okE_var rfl (okE_nopart (okE_part ?_)))
      walk_at "p"
      refine ⟨_, rfl, okW_eq rfl (w_take (k := v + k + 1) (by omega) ?_)⟩
      exact ⟨_, rfl, rfl, hb.mono (by omega), rfl⟩
    · intro ls d6 h7 h8 hb
      refine okG_setC ?_
      refine ⟨ls, _, rfl, ⟨h7, words_ok (R := fun k l => l = st.take (v + k + 1)) h7 h8 (fun i j l hi hj e1 e2 => ?_) (fun i l hi e => ?_)⟩, hb.mono (by omega)⟩
      · have z := congrArg List.length (e1.symm.trans e2)
        rw [List.length_take, List.length_take] at z
        omega
      · subst e
        exact ⟨by rw [List.length_take]; omega, by rw [List.length_take]; omega, fun c hc => h4 c (List.mem_of_mem_take hc)⟩
  clear hb c6 s8 ls
  rintro ρ h6 ⟨ls, s8, rfl, c6, hb⟩
  refine okS_seqM (I 17) (okS_if (okE_test_eqi rfl ⟨fun _ => ?_, fun _ => okS_next ⟨ls, _, rfl, c6, hb.mono (by omega)⟩⟩)) ?_
  · unfold colF
    refine okS_asg (okE_words (R := fun k l => ∃ z, l = lt ((f + 7 * k) % 26) :: z ∧ z.length ≤ 7 ∧ ∀ c ∈ z, c ∈ lets) (q := 1) (m := m) rfl hb (by omega) (okE_eq rfl ⟨rfl, rfl, rfl⟩) ?_ ?_)
    · intro k h9 hk hb
      refine okE_op ?_
      walk_at "p"
      refine w_letter (Int.emod_nonneg _ (by decide)) (Int.emod_lt_of_pos _ (by decide)) ?_
      refine okE_sl (okE_var rfl (okE_nopart (okE_part (okE_take (m := 8) rfl hA hA2 hB hB2 rfl hb (by omega) (okE_eq rfl ⟨rfl, rfl, rfl⟩) (by omega) (by omega) fun v d7 v0 v1 hb => ?_))))
      obtain ⟨v, rfl⟩ := Int.eq_ofNat_of_zero_le v0
      refine ⟨_, rfl, okW_eq rfl (w_take (by omega) ?_)⟩
      walk_at "p"
      refine w_adds (by rw [List.length_singleton, List.length_take]; omega) ?_
      exact ⟨_, rfl, rfl, hb.mono (by omega), st.take v, rfl, by rw [List.length_take]; omega, fun c hc => h4 c (List.mem_of_mem_take hc)⟩
    · intro ls d6 h7 h8 hb
      refine okG_setC ?_
      refine ⟨ls, _, rfl, ⟨h7, words_ok (R := fun k l => ∃ z, l = lt ((f + 7 * k) % 26) :: z ∧ z.length ≤ 7 ∧ ∀ c ∈ z, c ∈ lets) h7 h8 (fun i j l hi hj e1 e2 => ?_) (fun i l hi e => ?_)⟩, hb.mono (by omega)⟩
      · obtain ⟨z1, e1, _⟩ := e1
        obtain ⟨z2, e2, _⟩ := e2
        have z := lt_inj (Int.emod_nonneg _ (by decide)) (Int.emod_lt_of_pos _ (by decide)) (Int.emod_nonneg _ (by decide)) (Int.emod_lt_of_pos _ (by decide)) (List.cons.inj (e1.symm.trans e2)).1
        omega
      · obtain ⟨z, rfl, k1, k2⟩ := e
        refine ⟨by rw [List.length_cons]; omega, by rw [List.length_cons]; omega, fun c hc => ?_⟩
        rcases List.mem_cons.mp hc with rfl | hc
        · exact lt_mem (Int.emod_nonneg _ (by decide)) (Int.emod_lt_of_pos _ (by decide))
        · exact k2 c hc
  clear hb c6 s8 ls
  rintro ρ h6 ⟨ls, s8, rfl, c6, hb⟩
  unfold colF
  refine okS_ret (okE_mixed (xs := (ls.map S).map .str) rfl hA hA2 hB hB2 rfl hb (by omega) (okE_eq rfl ⟨rfl, rfl, rfl⟩) (by rw [List.length_map, List.length_map, c6.1]; omega) (fun x hx => by
    obtain ⟨z, _, rfl⟩ := List.mem_map.mp hx
    exact below_str) fun ys d7 hp hb => ?_)
  walk_at "p"
  rw [List.length_map, List.length_map, c6.1] at hb
  rw [List.map_map] at hp
  obtain ⟨ls2, e, hq⟩ := perm_map unS (fun x => rfl) hp
  subst e
  rw [← List.map_map]
  exact cut_same (by rw [hb.len, hl0]) (q ls2 d7 ⟨hq.length_eq.trans c6.1, hq.nodup_iff.mpr c6.2.1, fun l hl => c6.2.2 l (hq.mem_iff.mp hl)⟩ (hb.mono (by omega)))
end
end CM

/-! CW3: lists of names and of numbers: compared, looked through, sorted, cut; more steps. -/
namespace CM
open PySem PySem.Spec PyProof.Rows L2 SL
abbrev LS (zs : List Str) : List D := zs.map .str
theorem pds_strs : ∀ zs : List Str, pds (LS zs) = some (zs.map PyData.str)
  | [] => rfl
  | z :: zs => by
    show (pd (.str z)).bind (fun x => (pds (LS zs)).map (x :: ·)) = _
    rw [pds_strs zs]
    rfl
theorem pd_strs (zs : List Str) : pd (.lst (LS zs)) = some (.list (zs.map PyData.str)) := by
  show (pds (LS zs)).map PyData.list = _
  rw [pds_strs]
  rfl
theorem eqv_strs : ∀ zs ws : List Str, PyData.eqvAll (zs.map PyData.str) (ws.map PyData.str) = decide (zs = ws)
  | [], [] => by simp [PyData.eqvAll]
  | [], w :: ws => by simp [PyData.eqvAll]
  | z :: zs, [] => by simp [PyData.eqvAll]
  | z :: zs, w :: ws => by
    rw [List.map_cons, List.map_cons, PyData.eqvAll, eqv_strs zs ws, PyData.eqv]
    by_cases h : z = w
    · subst h
      simp
    · simp [h]
def Ascs (zs : List Str) : Prop := ∀ z ∈ zs, Asc z
theorem dEqB_L {zs ws : List Str} (h1 : Ascs zs) (h2 : Ascs ws) : dEqB (.lst (LS zs)) (.lst (LS ws)) = some (decide (zs = ws)) := by
  show dEqB0 _ _ = _
  unfold dEqB0
  rw [pd_strs, pd_strs]
  show (if _ ∧ _ then some _ else none) = _
  rw [if_pos ⟨shaped_strs h1, shaped_strs h2⟩, PyData.eqv, eqv_strs]
theorem dEqB_S {z w : Str} (h1 : Asc z) (h2 : Asc w) : dEqB (.str z) (.str w) = some (decide (z = w)) := rfl
theorem dEqB_SN {z : Str} (h1 : Asc z) : dEqB (.str z) .non = some false := by
  have h : ∀ z : Str, Asc z → SeqAt.shaped (.str z) = true := fun z h => by
    have := shaped_strs (ys := [z]) (fun x hx => by rw [List.mem_singleton.mp hx]; exact h)
    simp only [SeqAt.shaped, PyData.canLay0, PyData.depth, PyData.canLayAll0, PyData.depthAll, List.map_cons, List.map_nil, Bool.and_true] at this ⊢
    simp only [Bool.and_eq_true] at this ⊢
    exact ⟨this.1, by simp⟩
  show (if SeqAt.shaped (.str z) = true ∧ SeqAt.shaped .none = true then some (PyData.eqv (.str z) .none) else none) = _
  rw [if_pos ⟨h z h1, by simp [SeqAt.shaped, PyData.canLay0, PyData.depth]⟩, PyData.eqv]
theorem dEqB_NN : dEqB .non .non = some true := by
  show (if SeqAt.shaped .none = true ∧ SeqAt.shaped .none = true then some (PyData.eqv .none .none) else none) = _
  have h : SeqAt.shaped .none = true := by simp [SeqAt.shaped, PyData.canLay0, PyData.depth]
  rw [if_pos ⟨h, h⟩, PyData.eqv]
theorem w_eq {a b : D} {c : Bool} {Q : W → Prop} (h : dEqB a b = some c) (q : Q (.cl (.bl c))) : okW (dEq a b) Q := ⟨_, by unfold dEq; rw [h]; rfl, q⟩
theorem w_ne {a b : D} {c : Bool} {Q : W → Prop} (h : dEqB a b = some c) (q : Q (.cl (.bl (!c)))) : okW (dNe a b) Q := ⟨_, by unfold dNe; rw [h]; rfl, q⟩
theorem flats_strs : ∀ zs : List Str, flats (LS zs) = some (zs.map V.str)
  | [] => rfl
  | z :: zs => by
    show (flat (.str z)).bind (fun v => (flats (LS zs)).map (v :: ·)) = _
    rw [flats_strs zs]
    rfl
theorem inV_strs {x : Str} {ys : List Str} : inV (.str x) (ys.map V.str) = decide (x ∈ ys) := by
  unfold inV
  rw [Bool.eq_iff_iff, List.any_eq_true, decide_eq_true_eq]
  constructor
  · rintro ⟨v, hv, e⟩
    obtain ⟨y, hy, rfl⟩ := List.mem_map.mp hv
    have : y = x := by simpa [eqV] using e
    rw [← this]
    exact hy
  · intro h
    exact ⟨.str x, List.mem_map.mpr ⟨x, h, rfl⟩, by simp [eqV]⟩
theorem inV_non {ys : List Str} : inV .non (ys.map V.str) = false := by
  unfold inV
  rw [List.any_eq_false]
  intro v hv
  obtain ⟨y, _, rfl⟩ := List.mem_map.mp hv
  simp [eqV]
theorem dInB_L {z : Str} {zs : List Str} : dInB (.str z) (.lst (LS zs)) = some (decide (z ∈ zs)) := by
  show (flat (.str z)).bind (fun v => (flats (LS zs)).map fun vs => inV v vs) = _
  rw [flats_strs]
  show some (inV (.str z) (zs.map V.str)) = _
  rw [inV_strs]
theorem dInB_N {zs : List Str} : dInB .non (.lst (LS zs)) = some false := by
  show (flat .non).bind (fun v => (flats (LS zs)).map fun vs => inV v vs) = _
  rw [flats_strs]
  show some (inV .non (zs.map V.str)) = _
  rw [inV_non]
theorem w_in {a b : D} {c : Bool} {Q : W → Prop} (h : dInB a b = some c) (q : Q (.cl (.bl c))) : okW (dIn a b) Q := ⟨_, by unfold dIn; rw [h]; rfl, q⟩
theorem w_niL {z : Str} {zs : List Str} {Q : W → Prop} (q : Q (.cl (.bl (!decide (z ∈ zs))))) : okW (dNi (.str z) (.lst (LS zs))) Q := ⟨_, by
  show (dInB (.str z) (.lst (LS zs))).map (fun b => W.cl (.bl (!b))) = _
  rw [dInB_L]
  rfl, q⟩
theorem w_srtQ {d : D} {zs : List Str} {Q : W → Prop} (hd : seqD d.u = some (LS zs)) (h : zs.length < 64) (q : Q (W.fr (LS (sortS zs)))) : okW (dSrt [d]) Q := ⟨_, by
  show ((seqD d.u).bind fun ds => match strsOf ds with
      | some zs => if zs.length < 64 then some (W.fr ((sortS zs).map .str)) else none
      | none => (intsOf ds).bind fun ns => if ns.length < 64 then some (W.fr ((sortI ns).map .int)) else none) = _
  rw [hd]
  show (match strsOf (LS zs) with
      | some zs => if zs.length < 64 then some (W.fr ((sortS zs).map .str)) else none
      | none => (intsOf (LS zs)).bind fun ns => if ns.length < 64 then some (W.fr ((sortI ns).map .int)) else none) = _
  rw [strsOf_map]
  show (if _ then _ else _) = _
  rw [if_pos h], q⟩
theorem w_srt {zs : List Str} {Q : W → Prop} (h : zs.length < 64) (q : Q (W.fr (LS (sortS zs)))) : okW (dSrt [.lst (LS zs)]) Q := w_srtQ rfl h q
theorem sortS_eq {a b : List Str} : sortS a = sortS b ↔ a.Perm b := by
  constructor
  · intro h
    exact (sortS_perm a).symm.trans (h ▸ sortS_perm b)
  · intro h
    exact perm_eq (fun _ _ => leS_antisymm) ((sortS_perm a).trans (h.trans (sortS_perm b).symm)) (sortS_sorted a) (sortS_sorted b)
theorem sortS_len (a : List Str) : (sortS a).length = a.length := (sortS_perm a).length_eq
theorem sortS_mem {a : List Str} {z : Str} : z ∈ sortS a ↔ z ∈ a := (sortS_perm a).mem_iff
theorem lets_asc : ∀ c ∈ lets, c < 128 := by decide +kernel
theorem Nm.asc {z : Str} (h : Nm z) : Asc z := fun c hc => lets_asc c (h.2.2 c hc)
theorem cut_take {α : Type} (xs : List α) (k : Nat) : cutL xs none (some (k : Int)) = xs.take k := by
  unfold cutL
  rw [HT.sIx_none, HT.sIx_nat, List.drop_zero, Nat.sub_zero]
  rcases Nat.le_total k xs.length with h | h
  · rw [Nat.min_eq_left h]
  · rw [Nat.min_eq_right h, List.take_of_length_le (Nat.le_refl _), List.take_of_length_le h]
theorem cut_drop {α : Type} (xs : List α) (k : Nat) : cutL xs (some (k : Int)) none = xs.drop k := by
  unfold cutL
  rw [HT.sIx_none, HT.sIx_nat]
  rcases Nat.le_total k xs.length with h | h
  · rw [Nat.min_eq_left h]
    exact List.take_of_length_le (by rw [List.length_drop]; exact Nat.le_refl _)
  · rw [Nat.min_eq_right h, List.drop_of_length_le (Nat.le_refl _), List.drop_of_length_le h, List.take_nil]
theorem cut_mid {α : Type} (xs : List α) (a b : Nat) : cutL xs (some (a : Int)) (some (b : Int)) = (xs.drop a).take (b - a) := by
  unfold cutL
  rw [HT.sIx_nat, HT.sIx_nat]
  rcases Nat.le_total a xs.length with h | h
  · rw [Nat.min_eq_left h]
    rcases Nat.le_total b xs.length with h2 | h2
    · rw [Nat.min_eq_left h2]
    · rw [Nat.min_eq_right h2, List.take_of_length_le (by rw [List.length_drop]; exact Nat.le_refl _), List.take_of_length_le (by rw [List.length_drop]; omega)]
  · rw [Nat.min_eq_right h, List.drop_of_length_le (Nat.le_refl _), List.drop_of_length_le h, List.take_nil, List.take_nil]
theorem w_sl {ds : List D} {lo hi : Option Int} {Q : W → Prop} (q : Q (W.fr (cutL ds lo hi))) : okW (dSl (.lst ds) lo hi) Q := ⟨_, rfl, q⟩
/-! ### numbers -/
def PI (xs : List Nat) : List D := xs.map fun i : Nat => .int (i : Int)
def oI : Option Nat → D
  | none => .non
  | some i => .int (i : Nat)
theorem PI_len (xs : List Nat) : (PI xs).length = xs.length := List.length_map ..
theorem PI_at {xs : List Nat} {j : Nat} {d : D} (h : (PI xs)[j]? = some d) : ∃ i, xs[j]? = some i ∧ d = .int (i : Nat) := by
  unfold PI at h
  rw [List.getElem?_map] at h
  cases e : xs[j]? with
  | none => rw [e] at h; cases h
  | some z =>
    rw [e] at h
    cases h
    exact ⟨z, rfl, rfl⟩
theorem PI_get {xs : List Nat} {j : Nat} (h : j < xs.length) : (PI xs)[j]? = some (.int (xs[j] : Nat)) := by
  unfold PI
  rw [List.getElem?_map, List.getElem?_eq_getElem h]
  rfl
theorem below_PI {k : Nat} (xs : List Nat) : below k (.lst (PI xs)) = true := by
  rw [below_lst, List.all_eq_true]
  intro d hd
  obtain ⟨z, _, rfl⟩ := List.mem_map.mp hd
  exact below_int
theorem below_oI {k : Nat} (s : Option Nat) : below k (oI s) = true := by
  cases s with
  | none => exact below_non
  | some i => exact below_int
theorem pds_PI : ∀ xs : List Nat, pds (PI xs) = some (xs.map fun i : Nat => PyData.int (i : Int))
  | [] => rfl
  | x :: xs => by
    show (pd (.int (x : Int))).bind (fun y => (pds (PI xs)).map (y :: ·)) = _
    rw [pds_PI xs]
    rfl
theorem pd_PI (xs : List Nat) : pd (.lst (PI xs)) = some (.list (xs.map fun i : Nat => PyData.int (i : Int))) := by
  show (pds (PI xs)).map PyData.list = _
  rw [pds_PI]
  rfl
theorem canLay_ints : ∀ xs : List Nat, PyData.canLayAll0 (xs.map fun i : Nat => PyData.int (i : Int)) = true
  | [] => by simp [PyData.canLayAll0]
  | x :: xs => by simp [PyData.canLayAll0, PyData.canLay0, canLay_ints xs]
theorem depth_ints : ∀ xs : List Nat, PyData.depthAll (xs.map fun i : Nat => PyData.int (i : Int)) = 0
  | [] => by simp [PyData.depthAll]
  | x :: xs => by simp [PyData.depthAll, PyData.depth, depth_ints xs]
theorem shaped_ints (xs : List Nat) : SeqAt.shaped (.list (xs.map fun i : Nat => PyData.int (i : Int))) = true := by
  simp only [SeqAt.shaped, PyData.canLay0, PyData.depth, canLay_ints, depth_ints]
  decide
theorem eqv_ints : ∀ xs ys : List Nat, PyData.eqvAll (xs.map fun i : Nat => PyData.int (i : Int)) (ys.map fun i : Nat => PyData.int (i : Int)) = decide (xs = ys)
  | [], [] => by simp [PyData.eqvAll]
  | [], w :: ws => by simp [PyData.eqvAll]
  | z :: zs, [] => by simp [PyData.eqvAll]
  | z :: zs, w :: ws => by
    rw [List.map_cons, List.map_cons, PyData.eqvAll, eqv_ints zs ws, PyData.eqv]
    by_cases h : z = w
    · subst h
      simp
    · simp [h, Int.ofNat_inj]
theorem dEqB_PI (xs ys : List Nat) : dEqB (.lst (PI xs)) (.lst (PI ys)) = some (decide (xs = ys)) := by
  show dEqB0 _ _ = _
  unfold dEqB0
  rw [pd_PI, pd_PI]
  show (if _ ∧ _ then some _ else none) = _
  rw [if_pos ⟨shaped_ints xs, shaped_ints ys⟩, PyData.eqv, eqv_ints]
theorem flats_PI : ∀ xs : List Nat, flats (PI xs) = some (xs.map fun i : Nat => V.int (i : Int))
  | [] => rfl
  | z :: zs => by
    show (flat (.int (z : Int))).bind (fun v => (flats (PI zs)).map (v :: ·)) = _
    rw [flats_PI zs]
    rfl
theorem inV_ints {x : Nat} {ys : List Nat} : inV (.int (x : Int)) (ys.map fun i : Nat => V.int (i : Int)) = decide (x ∈ ys) := by
  unfold inV
  rw [Bool.eq_iff_iff, List.any_eq_true, decide_eq_true_eq]
  constructor
  · rintro ⟨v, hv, e⟩
    obtain ⟨y, hy, rfl⟩ := List.mem_map.mp hv
    have : (y : Int) = x := by simpa [eqV] using e
    have : y = x := by omega
    rw [← this]
    exact hy
  · intro h
    exact ⟨.int (x : Int), List.mem_map.mpr ⟨x, h, rfl⟩, by simp [eqV]⟩
theorem inV_nonI {ys : List Nat} : inV .non (ys.map fun i : Nat => V.int (i : Int)) = false := by
  unfold inV
  rw [List.any_eq_false]
  intro v hv
  obtain ⟨y, _, rfl⟩ := List.mem_map.mp hv
  simp [eqV]
theorem dInB_PI {x : Nat} {xs : List Nat} : dInB (.int (x : Int)) (.lst (PI xs)) = some (decide (x ∈ xs)) := by
  show (flat (.int (x : Int))).bind (fun v => (flats (PI xs)).map fun vs => inV v vs) = _
  rw [flats_PI]
  show some (inV (.int (x : Int)) (xs.map fun i : Nat => V.int (i : Int))) = _
  rw [inV_ints]
theorem dInB_oI {s : Option Nat} {xs : List Nat} : dInB (oI s) (.lst (PI xs)) = some (decide (∃ i, s = some i ∧ i ∈ xs)) := by
  cases s with
  | none =>
    show (flat .non).bind (fun v => (flats (PI xs)).map fun vs => inV v vs) = _
    rw [flats_PI]
    show some (inV .non (xs.map fun i : Nat => V.int (i : Int))) = _
    rw [inV_nonI]
    simp
  | some i =>
    show dInB (.int (i : Int)) (.lst (PI xs)) = _
    rw [dInB_PI]
    simp
theorem w_niPI {x : Nat} {xs : List Nat} {Q : W → Prop} (q : Q (.cl (.bl (!decide (x ∈ xs))))) : okW (dNi (.int (x : Int)) (.lst (PI xs))) Q := ⟨_, by
  show (dInB (.int (x : Int)) (.lst (PI xs))).map (fun b => W.cl (.bl (!b))) = _
  rw [dInB_PI]
  rfl, q⟩
/-- sorted numbers -/
theorem sort_nat (xs : List Nat) : ∃ ys : List Nat, sortI (xs.map fun i : Nat => (i : Int)) = ys.map (fun i : Nat => (i : Int)) ∧ ys.Perm xs ∧ ys.Pairwise (· ≤ ·) := by
  have hp : (sortI (xs.map fun i : Nat => (i : Int))).Perm (xs.map fun i : Nat => (i : Int)) := List.mergeSort_perm _ _
  obtain ⟨ys, e, hq⟩ := perm_map (f := fun i : Nat => (i : Int)) Int.toNat (fun i => Int.toNat_natCast i) hp
  refine ⟨ys, e, hq, ?_⟩
  have hs : (sortI (xs.map fun i : Nat => (i : Int))).Pairwise (fun a b => decide (a ≤ b) = true) := List.pairwise_mergeSort (le := fun a b : Int => decide (a ≤ b)) (fun a b c h1 h2 => by
    simp only [decide_eq_true_eq] at *
    omega) (fun a b => by
    simp only [Bool.or_eq_true, decide_eq_true_eq]
    omega) _
  rw [e, List.pairwise_map] at hs
  exact hs.imp fun h => by
    have := of_decide_eq_true h
    omega
theorem asc_of {ys : List Nat} (h : ys.Pairwise (· ≤ ·)) (n : ys.Nodup) : ys.Pairwise (· < ·) := (List.pairwise_and_iff.mpr ⟨h, n⟩).imp fun h => by omega
theorem strsOf_PI {x : Nat} {xs : List Nat} : strsOf (PI (x :: xs)) = none := rfl
theorem intsOf_PI : ∀ xs : List Nat, intsOf (PI xs) = some (xs.map fun i : Nat => (i : Int))
  | [] => rfl
  | x :: xs => by
    show (intsOf (PI xs)).map ((x : Int) :: ·) = _
    rw [intsOf_PI xs]
    rfl
theorem w_srtPI {xs : List Nat} {Q : W → Prop} (h : xs.length < 64) (q : ∀ ys : List Nat, ys.Perm xs → ys.Pairwise (· ≤ ·) → Q (W.fr (PI ys))) : okW (dSrt [.lst (PI xs)]) Q := by
  obtain ⟨ys, e, h1, h2⟩ := sort_nat xs
  cases xs with
  | nil =>
    have : ys = [] := List.Perm.eq_nil h1
    subst this
    exact ⟨_, rfl, q [] (.refl _) .nil⟩
  | cons x xs =>
    refine ⟨_, ?_, q ys h1 h2⟩
    show (match strsOf (PI (x :: xs)) with
      | some zs => if zs.length < 64 then some (W.fr ((sortS zs).map .str)) else none
      | none => (intsOf (PI (x :: xs))).bind fun ns => if ns.length < 64 then some (W.fr ((sortI ns).map .int)) else none) = _
    rw [strsOf_PI]
    dsimp only
    rw [intsOf_PI]
    show (if _ then _ else _) = _
    rw [if_pos (by rw [List.length_map]; exact h), e, List.map_map]
    rfl
section
variable {ρ : List Sl} {h : Tb} {P : Ps W} {X : Px} {N : List Sl → Tb → Prop} {T : Ps W} {L : Bool → List Sl → Tb → Prop} {a b c e : Mo W} {f g : D → D → Option W} {es : Mo (List W)} {C n : Str} {m : Fnm} {keep : Bool} {dvs : List D} {i : Nat} {ks : List Kd}
theorem okE_chain (q : okE (a ρ h) (fun x ρ h => okE (b ρ h) (fun y ρ h => okW (deref h x) fun dx => okW (deref h y) fun dy => ∃ k, f dx dy = some (.cl (.bl k)) ∧ (k = true → okE (c ρ h) (fun z ρ h => okW (deref h y) fun dy => okW (deref h z) fun dz => okW (g dy dz) fun w => P w ρ h) X) ∧ (k = false → P (.cl (.bl false)) ρ h)) X) X) : okE (mChain f g a b c ρ h) P X :=
  okE_bind (q.mono fun x ρ h q => okE_bind (q.mono fun y ρ h q => by
    obtain ⟨dx, e1, dy, e2, k, e3, p1, p2⟩ := q
    rw [e1, e2]
    show okE (match f dx dy with
      | some (.cl (.bl true)) => bindR (c ρ h) fun z ρ h => (deref h y).bind fun dy => (deref h z).bind fun dz => (g dy dz).map fun w => .ok w ρ h
      | some (.cl (.bl false)) => some (.ok (.cl (.bl false)) ρ h)
      | _ => none) P X
    rw [e3]
    cases k with
    | false => exact okE_some (p2 rfl)
    | true => exact okE_bind ((p1 rfl).mono fun z ρ h q => okE_opt (q.elim fun _ q => ⟨_, q.1, okE_opt (q.2.elim fun _ q => ⟨_, q.1, okE_map (q.2.elim fun _ q => ⟨_, q.1, okE_some q.2⟩)⟩)⟩))))
theorem insOf_eq {fs : List (Str × D)} : insOf C (.ins C fs) = some fs := by
  show (if C = C then some fs else none) = _
  rw [if_pos rfl]
theorem okE_fld (q : okE (a ρ h) (fun w ρ h => ∃ fs d, deref h w = some (.ins C fs) ∧ fs.lookup n = some d ∧ P (.cl d) ρ h) X) : okE (mFld C n a ρ h) P X := okE_bind (q.mono fun w ρ h q => by
  obtain ⟨fs, d, e1, e2, p⟩ := q
  rw [e1]
  show okE ((insOf C (.ins C fs)).bind fun fs => (fs.lookup n).map fun d => R.ok (W.cl d) ρ h) P X
  rw [insOf_eq]
  exact okE_map ⟨_, e2, okE_some p⟩)
theorem okT_run {ds : List D} (q : okF (m ds h) (fun w h => P w ρ h) noX) : okE (callT m ds ρ h) P X := by
  obtain ⟨w, h', e, p⟩ := q.rt
  unfold callT
  rw [e]
  exact okE_some p
theorem okE_meth (q : okE (a ρ h) (fun w ρ h => ∃ fs, deref h w = some (.ins C fs) ∧ fs.lookup n = none ∧ okE (es ρ h) (fun ws ρ h => okF (m (fzW w :: ws.map fzW) h) (fun w h => P w ρ h) noX) X) X) : okE (mMeth C n m a es ρ h) P X := okE_bind (q.mono fun w ρ h q => by
  obtain ⟨fs, e1, e2, q⟩ := q
  rw [e1]
  show okE ((insOf C (.ins C fs)).bind fun fs => if (fs.lookup n).isNone then bindR (es ρ h) fun ws ρ h => callT m (fzW w :: ws.map fzW) ρ h else none) P X
  rw [insOf_eq]
  show okE (if (fs.lookup n).isNone then bindR (es ρ h) fun ws ρ h => callT m (fzW w :: ws.map fzW) ρ h else none) P X
  rw [e2]
  exact okE_bind (q.mono fun ws ρ h q => okT_run q))
theorem okE_prop (q : okE (a ρ h) (fun w ρ h => ∃ fs, deref h w = some (.ins C fs) ∧ okF (m [fzW w] h) (fun w h => P w ρ h) noX) X) : okE (mProp C m a ρ h) P X := okE_bind (q.mono fun w ρ h q => by
  obtain ⟨fs, e1, q⟩ := q
  rw [e1]
  show okE ((insOf C (.ins C fs)).bind fun _ => callT m [fzW w] ρ h) P X
  rw [insOf_eq]
  exact okT_run q)
theorem okE_make (q : okE (es ρ h) (fun ws ρ h => okF (m (.ce h.length :: (ws.map fzW ++ dvs)) (h ++ [.ins C []])) (fun w h' => w = .cl .non ∧ okW (cutF keep h (.cl (.ce h.length)) h') fun x => P x.1 ρ x.2) noX) X) : okE (mMake keep C m dvs es ρ h) P X := okE_bind (q.mono fun ws ρ h q => by
  obtain ⟨w, h', e, rfl, x, e2, p⟩ := q.rt
  rw [e]
  dsimp only
  rw [e2]
  exact okE_some p)
theorem okS_fld (q : okE (e ρ h) (fun w ρ h => okE (a ρ h) (fun u ρ h => okW (insAt C h u) fun x => x.2.length < 1000 ∧ N ρ (h.set x.1 (.ins C (putD n (fzW w) x.2)))) X) X) : okS (sFldM C n a e ρ h) N T L X := okS_bind (q.mono fun w ρ h q => okS_bind (q.mono fun u ρ h q => okS_opt (q.elim fun x q => ⟨x, q.1, by
  dsimp only
  rw [if_pos q.2.1]
  exact ⟨_, rfl, q.2.2⟩⟩)))
theorem insAt_eq {k : Nat} {fs : List (Str × D)} (e : h[k]? = some (.ins C fs)) : insAt C h (.cl (.ce k)) = some (k, fs) := by
  show (match h[k]? with
    | some (.ins C' fs) => if C' = C then some (k, fs) else none
    | _ => none) = _
  rw [e]
  exact if_pos rfl
theorem okE_strO {z : Str} (q : okE (es ρ h) (fun ws ρ h => ∃ w fs, ws = [w] ∧ deref h w = some (.ins C fs) ∧ okF (m [fzW w] h) (fun w h => w = .cl (.str z) ∧ P (.cl (.str z)) ρ h) noX) X) : okE (mStrO C m es ρ h) P X := okE_bind (q.mono fun ws ρ h q => by
  obtain ⟨w, fs, rfl, e1, q⟩ := q
  obtain ⟨u, h', e2, rfl, p⟩ := q.rt
  show okE ((deref h w).bind fun d => (insOf C d.u).bind fun _ => (callT m [fzW w] ρ h).bind fun r => if chkS r = true then some r else none) P X
  rw [e1]
  show okE ((insOf C (.ins C fs)).bind fun _ => (callT m [fzW w] ρ h).bind fun r => if chkS r = true then some r else none) P X
  rw [insOf_eq]
  unfold callT
  rw [e2]
  exact okE_some p)
theorem okE_strA (q : okE (es ρ h) (fun ws ρ h => ∃ w fs, ws = [w] ∧ deref h w = some (.ins C fs) ∧ okF (m [fzW w] h) (fun w h => ∃ z, w = .cl (.str z) ∧ P (.cl (.str z)) ρ h) noX) X) : okE (mStrO C m es ρ h) P X := okE_bind (q.mono fun ws ρ h q => by
  obtain ⟨w, fs, rfl, e1, q⟩ := q
  obtain ⟨u, h', e2, z, rfl, p⟩ := q.rt
  show okE ((deref h w).bind fun d => (insOf C d.u).bind fun _ => (callT m [fzW w] ρ h).bind fun r => if chkS r = true then some r else none) P X
  rw [e1]
  show okE ((insOf C (.ins C fs)).bind fun _ => (callT m [fzW w] ρ h).bind fun r => if chkS r = true then some r else none) P X
  rw [insOf_eq]
  unfold callT
  rw [e2]
  exact okE_some p)
theorem okE_lenO {z : Int} (hz : 0 ≤ z ∧ z < 1000000) (q : okE (es ρ h) (fun ws ρ h => ∃ w fs, ws = [w] ∧ deref h w = some (.ins C fs) ∧ okF (m [fzW w] h) (fun w h => w = .cl (.int z) ∧ P (.cl (.int z)) ρ h) noX) X) : okE (mLenO C m es ρ h) P X := okE_bind (q.mono fun ws ρ h q => by
  obtain ⟨w, fs, rfl, e1, q⟩ := q
  obtain ⟨u, h', e2, rfl, p⟩ := q.rt
  show okE ((deref h w).bind fun d => (insOf C d.u).bind fun _ => (callT m [fzW w] ρ h).bind fun r => if chkN r = true then some r else none) P X
  rw [e1]
  show okE ((insOf C (.ins C fs)).bind fun _ => (callT m [fzW w] ρ h).bind fun r => if chkN r = true then some r else none) P X
  rw [insOf_eq]
  unfold callT
  rw [e2]
  refine ⟨.ok (.cl (.int z)) ρ h', ?_, p⟩
  show (if decide (0 ≤ z ∧ z < 1000000) = true then _ else _) = _
  rw [if_pos (decide_eq_true hz)])
/-- own == a thing of a kind that is told -/
theorem okE_eqO {z : Bool} (q : okE (a ρ h) (fun x ρ h => okE (b ρ h) (fun y ρ h => ∃ dy k fs, deref h y = some dy ∧ kd dy.u = some k ∧ k ∈ ks ∧ deref h x = some (.ins C fs) ∧ okF (m [fzW x, fzW y] h) (fun w h => w = .cl (.bl z) ∧ P (.cl (.bl z)) ρ h) noX) X) X) : okE (mEqO C ks m a b ρ h) P X := okE_bind (q.mono fun x ρ h q => okE_bind (q.mono fun y ρ h q => by
  obtain ⟨dy, k, fs, e1, e2, e3, e4, q⟩ := q
  obtain ⟨u, h', e5, rfl, p⟩ := q.rt
  show okE ((deref h y).bind fun dy => (kd dy.u).bind fun k => if decide (k ∈ ks) = true then callC chkB C m [x, y] ρ h else none) P X
  rw [e1]
  dsimp only [Option.bind_some]
  rw [e2]
  dsimp only [Option.bind_some]
  rw [if_pos (decide_eq_true e3)]
  show okE ((deref h x).bind fun d => (insOf C d.u).bind fun _ => (callT m [fzW x, fzW y] ρ h).bind fun r => if chkB r = true then some r else none) P X
  rw [e4]
  show okE ((insOf C (.ins C fs)).bind fun _ => (callT m [fzW x, fzW y] ρ h).bind fun r => if chkB r = true then some r else none) P X
  rw [insOf_eq]
  unfold callT
  rw [e5]
  exact okE_some p))
theorem okE_neO (q : okE (mEqO C ks m a b ρ h) (fun w ρ h => ∃ z, w = .cl (.bl z) ∧ P (.cl (.bl (!z))) ρ h) X) : okE (mNeO C ks m a b ρ h) P X := okE_bind (q.mono fun w ρ h q => by
  obtain ⟨z, rfl, p⟩ := q
  exact okE_some p)
theorem okE_enum {P : Ps ItM} (q : okE (es ρ h) (fun ws ρ h => ∃ w d ds, ws = [w] ∧ deref h w = some d ∧ seqD d.u = some ds ∧ ds.length ≤ 90000 ∧ P ⟨(List.range ds.length).zipWith (fun i d => .tup [.int (i : Nat), d]) ds, ckOf h w⟩ ρ h) X) : okE (mEnum es ρ h) P X := okE_bind (q.mono fun ws ρ h q => by
  obtain ⟨w, d, ds, rfl, e1, e2, h1, p⟩ := q
  show okE ((deref h w).bind fun d => (seqD d.u).bind fun ds => if ds.length ≤ 90000 then some (.ok ⟨(List.range ds.length).zipWith (fun i d => .tup [.int (i : Nat), d]) ds, ckOf h w⟩ ρ h) else none) P X
  rw [e1]
  dsimp only [Option.bind_some]
  rw [e2]
  dsimp only [Option.bind_some]
  rw [if_pos h1]
  exact okE_some p)
theorem okG_tup2 {g1 g2 : Tg} {x y : D} (q : okG (g1 (.cl x) ρ h) fun ρ h => okG (g2 (.cl y) ρ h) N) : okG (gTupM 2 (gsCons g1 (gsCons g2 gsNil)) (.cl (.tup [x, y])) ρ h) N := by
  obtain ⟨y1, e1, y2, e2, p⟩ := q
  refine ⟨y2, ?_, p⟩
  show ((g1 (.cl x) ρ h).bind fun z => (g2 (.cl y) z.1 z.2).bind fun z => some z) = _
  rw [e1]
  show ((g2 (.cl y) y1.1 y1.2).bind fun z => some z) = _
  rw [e2]
  rfl
end
theorem enum_at {α β : Type} {f : Nat → α → β} {ds : List α} {j : Nat} {d : β} (h : ((List.range ds.length).zipWith f ds)[j]? = some d) : ∃ x, ds[j]? = some x ∧ d = f j x := by
  obtain ⟨hj, e⟩ := List.getElem?_eq_some_iff.mp h
  rw [List.length_zipWith, List.length_range, Nat.min_self] at hj
  rw [List.getElem_zipWith, List.getElem_range] at e
  exact ⟨ds[j], List.getElem?_eq_getElem hj, e.symm⟩
theorem zip_at {α β γ : Type} {f : α → β → γ} {xs : List α} {ys : List β} {j : Nat} {d : γ} (h : (xs.zipWith f ys)[j]? = some d) : ∃ x y, xs[j]? = some x ∧ ys[j]? = some y ∧ d = f x y := by
  obtain ⟨hj, e⟩ := List.getElem?_eq_some_iff.mp h
  rw [List.length_zipWith] at hj
  have h1 : j < xs.length := by omega
  have h2 : j < ys.length := by omega
  rw [List.getElem_zipWith] at e
  exact ⟨xs[j], ys[j], List.getElem?_eq_getElem h1, List.getElem?_eq_getElem h2, e.symm⟩
theorem nodup_take {α : Type} {xs : List α} (hn : xs.Nodup) {j : Nat} {z : α} (h : xs[j]? = some z) : z ∉ xs.take j := by
  intro hm
  obtain ⟨hj, e⟩ := List.getElem?_eq_some_iff.mp h
  obtain ⟨i, hi, e2⟩ := List.getElem_of_mem hm
  rw [List.length_take] at hi
  rw [List.getElem_take] at e2
  unfold List.Nodup at hn
  rw [List.pairwise_iff_getElem] at hn
  exact hn i j (by omega) hj (by omega) (e2.trans e.symm)
theorem strs_at {zs : List Str} {j : Nat} {d : D} (h : (LS zs)[j]? = some d) : ∃ z, zs[j]? = some z ∧ d = .str z := by
  rw [List.getElem?_map] at h
  cases e : zs[j]? with
  | none => rw [e] at h; cases h
  | some z =>
    rw [e] at h
    cases h
    exact ⟨z, rfl, rfl⟩
end CM

/-! CW4: the drawing defs of the shapes' laws: what they answer. -/
namespace CM
open PySem PySem.Spec PyProof.Rows L2 SL
def take2M (A B C : Int) : MS := (sSeq (sIf (mTest (mOp dGt (mOp dIx (mVar 0) (mC (.int 0))) (mC (.int 0)))) (sSeq (sAsg (mOp dMod (mOp dIx (mVar 0) (mC (.int 0))) (mVar 1)) (gSetC 3))
    (sSeq (sAsg (mOp dDiv (mOp dIx (mVar 0) (mC (.int 0))) (mVar 1)) (gSubL (mVar 0) (mC (.int 0))))
    (sRet (mVar 3)))) sNext)
    (sSeq (sAsg (mOp dAdd (mOp dIx (mVar 0) (mC (.int 2))) (mC (.int 1))) (gSubL (mVar 0) (mC (.int 2))))
    (sSeq (sAsg (mOp dMod (mOp dPow (mOp dAdd (mOp dAdd (mOp dIx (mVar 0) (mC (.int 1))) (mOp dMul (mC (.int A)) (mOp dIx (mVar 0) (mC (.int 2))))) (mC (.int B))) (mC (.int 5))) (mC (.int 2147483647))) (gSetC 2))
    (sSeq (sAsg (mOp dMod (mOp dPow (mOp dAdd (mVar 2) (mOp dMul (mC (.int C)) (mOp dIx (mVar 0) (mC (.int 2))))) (mC (.int 3))) (mC (.int 2147483587))) (gSetC 2))
    (sRet (mOp dMod (mOp dDiv (mVar 2) (mC (.int 16))) (mVar 1)))))))
section
variable {ρ : List Sl} {h h0 : Tb} {P : Ps W} {X : Px} {A B C i j : Int} {b n k : Nat} {d e : D} {ds : List D} {m : Int}
theorem w_pow {Q : W → Prop} (k0 : 0 ≤ j) (k1 : j ≤ 1000000) (h1 : -18446744073709551616 < i) (h2 : i < 18446744073709551616) (q : Q (.cl (.int (i ^ j.toNat)))) : okW (dPow (.int i) (.int j)) Q := ⟨_, by show (if 0 ≤ j ∧ j ≤ 1000000 ∧ -18446744073709551616 < i ∧ i < 18446744073709551616 then some (W.cl (.int (i ^ j.toNat))) else none) = _; rw [if_pos ⟨k0, k1, h1, h2⟩], q⟩
local macro_rules | `(tactic| walk_at "hv") => `(tactic| first | rfl | assumption | (exact (by assumption : _)))
local macro_rules | `(tactic| walk_at "p1") => `(tactic| first
  | with_reducible refine CM.okS_seq ?_ | with_reducible refine CM.okS_next ?_ | with_reducible refine CM.okS_asg ?_ | with_reducible refine CM.okS_ret ?_ | with_reducible refine CM.okS_drop ?_ | with_reducible refine CM.okS_aug ?_ | with_reducible refine CM.okS_cnt ?_ | with_reducible refine CM.okS_fg ?_ | with_reducible refine CM.okS_retN ?_
  | with_reducible refine CM.okE_op ?_ | with_reducible refine CM.okE_cb ?_ | with_reducible refine CM.okE_cons ?_ | with_reducible refine CM.okE_nil ?_ | with_reducible refine CM.okB_not ?_ | with_reducible refine CM.okE_c ?_ | with_reducible refine CM.okE_fr ?_ | with_reducible refine CM.okE_ce ?_ | with_reducible refine CM.okE_notV ?_ | with_reducible refine CM.okE_un ?_
  | with_reducible refine CM.okE_sl ?_ | with_reducible refine CM.okE_nopart ?_
  | ((with_reducible refine' CM.okE_var ?hv ?_); (case hv => rfl))
  | ((with_reducible refine' CM.okE_part (CM.okE_var ?hv ⟨_, ?hv2, ?_⟩)); (case hv => rfl); (case hv2 => rfl))
  | ((with_reducible refine' CM.okE_part (CM.okE_c ⟨_, ?hv2, ?_⟩)); (case hv2 => rfl))
  | ((with_reducible refine' CM.okW_eq (w := _) ?hv ?_); (case hv => (with_reducible rfl)))
  | ((with_reducible refine' CM.okW_deref ?hv ?_); (case hv => walk_at "hv")) | ((with_reducible refine' CM.okW_derefs ?hv ?_); (case hv => rfl)) | ((with_reducible refine' CM.okW_derefC ?hv ?_); (case hv => walk_at "hv")) | ((with_reducible refine' CM.okW_lstAt ?hv ?_); (case hv => walk_at "hv"))
  | with_reducible refine CM.w_add ?_ | with_reducible refine CM.w_sub ?_ | with_reducible refine CM.w_lt ?_ | with_reducible refine CM.w_le ?_ | with_reducible refine CM.w_gt ?_ | with_reducible refine CM.w_ge ?_ | with_reducible refine CM.w_addI ?_
  | with_reducible refine CM.w_mod (by omega) ?_ | with_reducible refine CM.w_div (by omega) (by rw [CM.big_eq]; omega) ?_ | with_reducible refine CM.w_mul (by rw [CM.big_eq]; omega) (by rw [CM.big_eq]; omega) (by rw [CM.big_eq]; omega) (by rw [CM.big_eq]; omega) ?_ | with_reducible refine CM.w_sq (by omega) (by omega) ?_
  | with_reducible refine CM.w_max2 ?_ | with_reducible refine CM.w_min2 ?_ | with_reducible refine CM.w_lenL ?_ | with_reducible refine CM.w_lenT ?_ | with_reducible refine CM.w_lenC ?_ | with_reducible refine CM.w_listL ?_ | with_reducible refine CM.w_listT ?_ | with_reducible refine CM.w_tupL ?_ | with_reducible refine CM.w_tupT ?_
  | ((with_reducible refine CM.okG_setC ?_); (try dsimp only [List.set, CM.fzW]))
  | ((with_reducible refine' CM.okW_ix ?hv ?_); (case hv => rfl))
  | ((with_reducible refine' CM.okB_test (CM.okE_eqn ⟨_, ?hv, ?_⟩)); (case hv => rfl))
  | ((with_reducible refine' CM.okB_testd ⟨_, ?hv, ?_⟩); (case hv => rfl)))
local macro_rules | `(tactic| walk_at "p") => `(tactic| repeat walk_at "p1")
theorem take2_ok {P : W → Tb → Prop} {X : Str → List (Str × D) → Tb → Prop} (hA : 0 ≤ A) (hA2 : A ≤ 20000000) (hB : 0 ≤ B) (hB2 : B ≤ 1000000) (hC : 0 ≤ C) (hC2 : C ≤ 1000000) (hb : Bx b n h0 h) (hn : n ≤ 100000000) (hm : 0 < m) (hm2 : m ≤ 1000000) (q : ∀ v h', 0 ≤ v → v < m → Bx b (n + 1) h0 h' → P (.cl (.int v)) h') :
    okF (fnM false 2 2 (take2M A B C) [.ce b, .int m] h) P X := by
  obtain ⟨ds, hl, hc⟩ := hb.at_
  obtain ⟨a, s, c, rfl, h1, h2, h3, h4, h5⟩ := hl
  refine okF_fn rfl ?_
  show okS (take2M A B C [.cl (.ce b), .cl (.int m), .un, .un] h) _ _ _ _
  refine okS_seq (okS_if (okB_test (okE_op ?_)))
  walk_at "p"
  refine ⟨_, rfl, fun ht => ?_, fun ht => ?_⟩
  · have ht := of_decide_eq_true ht
    walk_at "p"
    refine okG_sub (okE_var rfl (okE_c ⟨0, rfl, ⟨_, (by show (match h[b]? with | some (.lst cs) => some (b, cs) | _ => none) = _; rw [hc]), ⟨0, rfl, ?_⟩⟩⟩))
    have hb2 : Bx b (n + 1) h0 (h.set b (.lst [.int (a / m), .int s, .int c])) := hb.put ⟨a / m, s, c, rfl, Int.ediv_nonneg h1 (by omega), h2, h3, h4, by omega⟩
    walk_at "p"
    exact cut_same (by rw [List.length_set]) (q _ _ (Int.emod_nonneg _ (by omega)) (Int.emod_lt_of_pos _ hm) hb2)
  · refine okS_next ?_
    walk_at "p"
    refine okG_sub (okE_var rfl (okE_c ⟨2, rfl, ⟨_, (by show (match h[b]? with | some (.lst cs) => some (b, cs) | _ => none) = _; rw [hc]), ⟨2, rfl, ?_⟩⟩⟩))
    have hb2 : Bx b (n + 1) h0 (h.set b (.lst [.int a, .int s, .int (c + 1)])) := hb.put ⟨a, s, c + 1, rfl, h1, h2, h3, by omega, by omega⟩
    have hc2 : (h.set b (.lst [.int a, .int s, .int (c + 1)]))[b]? = some (.lst [.int a, .int s, .int (c + 1)]) := List.getElem?_set_self hb.lt
    have hl2 : (h.set b (.lst [.int a, .int s, .int (c + 1)])).length = h.length := List.length_set ..
    show okS _ _ _ _ _
    dsimp only [fzW, List.set] at hb2 hc2 hl2 ⊢
    generalize h.set b (.lst [.int a, .int s, .int (c + 1)]) = h9 at hb2 hc2 hl2 ⊢
    generalize hcc : c + 1 = c1 at hb2 hc2 ⊢
    have k1 : 0 ≤ c1 := by omega
    have k2 : c1 ≤ 100000001 := by omega
    have k3 : 0 ≤ A * c1 := Int.mul_nonneg hA k1
    have k4 : A * c1 ≤ 20000000 * 100000001 := Int.mul_le_mul hA2 k2 k1 (by decide)
    have k5 : 0 ≤ C * c1 := Int.mul_nonneg hC k1
    have k6 : C * c1 ≤ 1000000 * 100000001 := Int.mul_le_mul hC2 k2 k1 (by decide)
    walk_at "p"
    refine w_pow (by decide) (by decide) (by omega) (by omega) ?_
    walk_at "p"
    have g1 := Int.emod_nonneg ((s + A * c1 + B) ^ (5 : Int).toNat) (b := 2147483647) (by decide)
    have g2 := Int.emod_lt_of_pos ((s + A * c1 + B) ^ (5 : Int).toNat) (b := 2147483647) (by decide)
    generalize ((s + A * c1 + B) ^ (5 : Int).toNat) % 2147483647 = r at g1 g2 ⊢
    refine w_pow (by decide) (by decide) (by omega) (by omega) ?_
    walk_at "p"
    exact cut_same hl2 (q _ _ (Int.emod_nonneg _ (by omega)) (Int.emod_lt_of_pos _ hm) hb2)
theorem okE_take2 {mf : Fnm} {k : Nat} {e : Mo W} (hmf : mf = fnM false 2 2 (take2M A B C)) (hA : 0 ≤ A) (hA2 : A ≤ 20000000) (hB : 0 ≤ B) (hB2 : B ≤ 1000000) (hC : 0 ≤ C) (hC2 : C ≤ 1000000) (hs : ρ[k]? = some (.cl (.ce b))) (hb : Bx b n h0 h) (hn : n ≤ 100000000)
    (he : okE (e ρ h) (fun w ρ' h' => ρ' = ρ ∧ h' = h ∧ w = .cl (.int m)) X) (hm : 0 < m) (hm2 : m ≤ 1000000) (q : ∀ v h', 0 ≤ v → v < m → Bx b (n + 1) h0 h' → P (.cl (.int v)) ρ h') :
    okE (callN mf (mCons (mCe (mVar k)) (mCons (mFr e) mNil)) ρ h) P X := by
  subst hmf
  refine okE_call (okE_cons (okE_ce (okE_var hs (okE_cons (okE_fr (he.mono ?_))))))
  rintro w ρ' h' ⟨rfl, rfl, rfl⟩
  exact okE_nil (take2_ok hA hA2 hB hB2 hC hC2 hb hn hm hm2 fun v h' v0 v1 hb' => q v h' v0 v1 hb')
end
/-- a def that draws: what it is called with, how it answers -/
structure Tk (tk : Fnm) : Prop where
  ok : ∀ {b n : Nat} {h0 h : Tb} {m : Int} {P : W → Tb → Prop} {X : Str → List (Str × D) → Tb → Prop}, Bx b n h0 h → n ≤ 100000000 → 0 < m → m ≤ 1000000 → (∀ v h', 0 ≤ v → v < m → Bx b (n + 1) h0 h' → P (.cl (.int v)) h') → okF (tk [.ce b, .int m] h) P X
theorem tk1 {A B : Int} (hA : 0 ≤ A) (hA2 : A ≤ 1000000) (hB : 0 ≤ B) (hB2 : B ≤ 1000000) : Tk (fnM false 2 3 (takeM A B)) := ⟨fun a b c d e => take_ok hA hA2 hB hB2 a b c d e⟩
theorem tk2 {A B C : Int} (hA : 0 ≤ A) (hA2 : A ≤ 20000000) (hB : 0 ≤ B) (hB2 : B ≤ 1000000) (hC : 0 ≤ C) (hC2 : C ≤ 1000000) : Tk (fnM false 2 2 (take2M A B C)) := ⟨fun a b c d e => take2_ok hA hA2 hB hB2 hC hC2 a b c d e⟩
section
variable {ρ : List Sl} {h h0 : Tb} {P : Ps W} {X : Px} {tk : Fnm} {b n k : Nat} {m : Int}
/-- a draw within a def -/
theorem okE_tk {e : Mo W} (t : Tk tk) (hb : Bx b n h0 h) (hs : ρ[k]? = some (.cl (.ce b))) (hn : n ≤ 100000000) (he : okE (e ρ h) (fun w ρ' h' => ρ' = ρ ∧ h' = h ∧ w = .cl (.int m)) X) (hm : 0 < m) (hm2 : m ≤ 1000000) (q : ∀ v h', 0 ≤ v → v < m → Bx b (n + 1) h0 h' → P (.cl (.int v)) ρ h') :
    okE (callN tk (mCons (mCe (mVar k)) (mCons (mFr e) mNil)) ρ h) P X := by
  refine okE_call (okE_cons (okE_ce (okE_var hs (okE_cons (okE_fr (he.mono ?_))))))
  rintro w ρ' h' ⟨rfl, rfl, rfl⟩
  exact okE_nil (t.ok hb hn hm hm2 fun v h' v0 v1 hb' => q v h' v0 v1 hb')
/-- a draw of a written number -/
theorem okE_tkc (t : Tk tk) (hb : Bx b n h0 h) (hs : ρ[k]? = some (.cl (.ce b))) (hn : n ≤ 100000000) (hm : 0 < m) (hm2 : m ≤ 1000000) (q : ∀ v h', 0 ≤ v → v < m → Bx b (n + 1) h0 h' → P (.cl (.int v)) ρ h') :
    okE (callN tk (mCons (mCe (mVar k)) (mCons (mFr (mC (.int m))) mNil)) ρ h) P X := okE_tk t hb hs hn (okE_eq rfl ⟨rfl, rfl, rfl⟩) hm hm2 q
end
end CM

/-! CW5: names, drawn positions. -/
namespace CM
open PySem PySem.Spec PyProof.Rows L2 SL
noncomputable def namesM (tk : Fnm) : MS := (sSeq (sAsg (mC (.str "abcdefghijklmnopqrstuvwxyz")) (gSetC 2))
    (sSeq (sFg [8] (sAsg (mBS fJoin (mC (.str "")) (mCons (mLc (mRng1 (mCons (mC (.int 7)) mNil)) (gSetC 8) mYes (mOp dIx (mVar 2) (callN tk (mCons (mCe (mVar 0)) (mCons (mFr (mC (.int 26))) mNil)))) [8]) mNil)) (gSetC 3)))
    (sSeq (sPar3 false false false 4 5 6 (mCons (callN tk (mCons (mCe (mVar 0)) (mCons (mFr (mC (.int 8))) mNil))) (mCons (callN tk (mCons (mCe (mVar 0)) (mCons (mFr (mC (.int 26))) mNil))) (mCons (mOp dIx (mLst (mCons (mC (.int 1)) (mCons (mC (.int 3)) (mCons (mC (.int 5)) (mCons (mC (.int 7)) (mCons (mC (.int 9)) (mCons (mC (.int 11)) (mCons (mC (.int 15)) (mCons (mC (.int 17)) mNil))))))))) (callN tk (mCons (mCe (mVar 0)) (mCons (mFr (mC (.int 8))) mNil)))) mNil))))
    (sSeq (sAsg (mLst mNil) (gSet 7))
    (sSeq (sFor (mRng1 (mCons (mVar 1) mNil)) (gSetC 8) (sSeq (sAsg (mOp dAdd (mSl (mVar 3) mNoPart (mPart (mVar 4))) (mOp dIx (mVar 2) (mOp dMod (mOp dAdd (mVar 5) (mOp dMul (mVar 6) (mVar 8))) (mC (.int 26))))) (gSetC 9))
    (sDrop (mMut fAppend (mVar 7) (mCons (mOp dAdd (mVar 9) (mSl (mVar 3) (mPart (mVar 4)) (mPart (mOp dAdd (mVar 4) (callN tk (mCons (mCe (mVar 0)) (mCons (mFr (mOp dSub (mC (.int 8)) (mVar 4))) mNil))))))) mNil)))))
    (sSeq (sIf (mAnd (mTest (mOp dGt (mVar 1) (mC (.int 1)))) (mAnd (mTest (mOp dLt (mCB dLen (mCons (mOp dIx (mVar 7) (mC (.int 0))) mNil)) (mC (.int 8)))) (mTest (mOp dEq (callN tk (mCons (mCe (mVar 0)) (mCons (mFr (mC (.int 3))) mNil))) (mC (.int 0)))))) (sAsg (mOp dAdd (mOp dIx (mVar 7) (mC (.int 0))) (mOp dIx (mVar 2) (callN tk (mCons (mCe (mVar 0)) (mCons (mFr (mC (.int 26))) mNil))))) (gSubL (mVar 7) (mC (.int 1)))) sNext)
    (sRet (mVar 7))))))))
noncomputable def pickM (tk : Fnm) : MS := (sSeq (sPar true true 3 4 (mCons (mLstRg (mVar 1)) (mCons (mLst mNil) mNil)))
    (sSeq (sFor (mRng1 (mCons (callN tk (mCons (mCe (mVar 0)) (mCons (mFr (mOp dAdd (mCB dMin2 (mCons (mVar 1) (mCons (mVar 2) mNil))) (mC (.int 1)))) mNil))) mNil)) (gSetC 5) (sDrop (mMut fAppend (mVar 4) (mCons (mMut fPopAt (mVar 3) (mCons (callN tk (mCons (mCe (mVar 0)) (mCons (mFr (mCB dLen (mCons (mVar 3) mNil))) mNil))) mNil)) mNil))))
    (sSeq (sIf (mOr (mTest (mOp dEq (mVar 3) (mLst mNil))) (mOr (mTest (mOp dGt (mCB dLen (mCons (mVar 4) mNil)) (mC (.int 4)))) (mTest (mOp dEq (callN tk (mCons (mCe (mVar 0)) (mCons (mFr (mC (.int 2))) mNil))) (mC (.int 0)))))) (sRet (mTup (mCons (mCB dSrt (mCons (mVar 4) mNil)) (mCons (mC .non) mNil)))) sNext)
    (sRet (mTup (mCons (mCB dSrt (mCons (mVar 4) mNil)) (mCons (mOp dIx (mVar 3) (callN tk (mCons (mCe (mVar 0)) (mCons (mFr (mCB dLen (mCons (mVar 3) mNil))) mNil)))) mNil)))))))
noncomputable def nearM (tk : Fnm) : MS := (sSeq (sAsg (mTup (mCons (mCe (mCB dList (mCons (mOp dIx (mVar 2) (mC (.int 0))) mNil))) (mCons (mFr (mOp dIx (mVar 2) (mC (.int 1)))) mNil))) (gTupM 2 (gsCons (gSet 3) (gsCons (gSetC 4) gsNil))))
    (sSeq (sAsg (mLc (mRng1 (mCons (mVar 1) mNil)) (gSetC 7) (mTest (mOp dNi (mVar 7) (mVar 3))) (mVar 7) [7]) (gSetC 5))
    (sSeq (sAsg (callN tk (mCons (mCe (mVar 0)) (mCons (mFr (mC (.int 4))) mNil))) (gSetC 6))
    (sSeq (sIf (mAnd (mTest (mOp dLt (mVar 6) (mC (.int 2)))) (mTest (mOp dNe (mVar 5) (mLst mNil)))) (sAsg (mCB dSrt (mCons (mOp dAdd (mVar 3) (mLst (mCons (mOp dIx (mVar 5) (callN tk (mCons (mCe (mVar 0)) (mCons (mFr (mCB dLen (mCons (mVar 5) mNil))) mNil)))) mNil))) mNil)) (gSet 3)) sNext)
    (sSeq (sIf (mAnd (mTest (mOp dEq (mVar 6) (mC (.int 2)))) (mTest (mOp dNe (mVar 3) (mLst mNil)))) (sDrop (mMut fPopAt (mVar 3) (mCons (callN tk (mCons (mCe (mVar 0)) (mCons (mFr (mCB dLen (mCons (mVar 3) mNil))) mNil))) mNil))) sNext)
    (sSeq (sAsg (mLc (mRng1 (mCons (mVar 1) mNil)) (gSetC 7) (mTest (mOp dNi (mVar 7) (mVar 3))) (mVar 7) [7]) (gSetC 5))
    (sSeq (sIf (mOr (mTest (mOp dIn (mVar 4) (mVar 3))) (mTest (mOp dEq (mVar 6) (mC (.int 3))))) (sAsg (mC .non) (gSetC 4)) sNext)
    (sSeq (sIf (mAnd (mTest (mOp dNe (mVar 5) (mLst mNil))) (mTest (mOp dEq (callN tk (mCons (mCe (mVar 0)) (mCons (mFr (mC (.int 3))) mNil))) (mC (.int 0))))) (sAsg (mOp dIx (mVar 5) (callN tk (mCons (mCe (mVar 0)) (mCons (mFr (mCB dLen (mCons (mVar 5) mNil))) mNil)))) (gSetC 4)) sNext)
    (sRet (mTup (mCons (mSl (mVar 3) mNoPart (mPart (mC (.int 5)))) (mCons (mIf (mTest (mOp dLt (mCB dLen (mCons (mVar 3) mNil)) (mC (.int 5)))) (mVar 4) (mC .non)) mNil))))))))))))
noncomputable def partsM (tk : Fnm) (pk : Fnm) (nr : Fnm) : MS := (sSeq (sPar3 true true false 3 4 5 (mCons (mLst mNil) (mCons (mLst mNil) (mCons (callN tk (mCons (mCe (mVar 0)) (mCons (mFr (mC (.int 3))) mNil))) mNil))))
    (sSeq (sFor (mRng1 (mCons (mVar 2) mNil)) (gSetC 6) (sSeq (sAsg (callN pk (mCons (mCe (mVar 0)) (mCons (mFr (mVar 1)) (mCons (mFr (mC (.int 5))) mNil)))) (gSetC 7))
    (sSeq (sIf (mAnd (mTest (mOp dGt (mVar 5) (mC (.int 0)))) (mAnd (mTest (mOp dNe (mVar 4) (mLst mNil))) (mTest (mOp dGt (callN tk (mCons (mCe (mVar 0)) (mCons (mFr (mC (.int 3))) mNil))) (mC (.int 0)))))) (sAsg (callN nr (mCons (mCe (mVar 0)) (mCons (mFr (mVar 1)) (mCons (mFr (mOp dIx (mVar 4) (callN tk (mCons (mCe (mVar 0)) (mCons (mFr (mCB dLen (mCons (mVar 4) mNil))) mNil))))) mNil)))) (gSetC 7)) sNext)
    (sSeq (sDrop (mMut fAppend (mVar 4) (mCons (mVar 7) mNil)))
    (sIf (mAnd (mTest (mOp dNiD (mVar 7) (mVar 3))) (mTest (mOp dGt (callN tk (mCons (mCe (mVar 0)) (mCons (mFr (mC (.int 5))) mNil))) (mC (.int 0))))) (sDrop (mMut fAppend (mVar 3) (mCons (mVar 7) mNil))) sNext)))))
    (sRet (mVar 3))))
noncomputable def wholeM : MS := (sRet (mOp dAdd (mCB dList (mCons (mOp dIx (mVar 0) (mC (.int 0))) mNil)) (mLc (mIU (mLst (mCons (mOp dIx (mVar 0) (mC (.int 1))) mNil))) (gSetC 1) (mTest (mOp dIsnt (mVar 1) (mC .non))) (mVar 1) [1])))
noncomputable def shapeM (tk : Fnm) (si : Fnm) : MS := (sSeq (sPar true true 3 4 (mCons (mCB dList (mCons (mOp dIx (mVar 2) (mC (.int 0))) mNil)) (mCons (mLst mNil) mNil)))
    (sSeq (sFor (mRng1 (mCons (mCB dLen (mCons (mVar 3) mNil)) mNil)) (gSetC 5) (sDrop (mMut fAppend (mVar 4) (mCons (mOp dIx (mVar 1) (mMut fPopAt (mVar 3) (mCons (callN tk (mCons (mCe (mVar 0)) (mCons (mFr (mCB dLen (mCons (mVar 3) mNil))) mNil))) mNil))) mNil))))
    (sRet (mMake false "Shape" si [] (mCons (mFr (mOp dIx (mLst (mCons (mVar 4) (mCons (mCB dTuple (mCons (mVar 4) mNil)) mNil))) (callN tk (mCons (mCe (mVar 0)) (mCons (mFr (mC (.int 2))) mNil))))) (mCons (mFr (mIf (mTest (mOp dIs (mOp dIx (mVar 2) (mC (.int 1))) (mC .non))) (mC .non) (mOp dIx (mVar 1) (mOp dIx (mVar 2) (mC (.int 1)))))) mNil))))))
section
variable {ρ : List Sl} {h h0 h1 g : Tb} {P : Ps W} {X : Px} {N : List Sl → Tb → Prop} {T : Ps W} {L : Bool → List Sl → Tb → Prop} {tk : Fnm} {b n k i j len : Nat} {m : Int} {c : D}
theorem tail_at (hl : h1.length = len) : (h1 ++ g)[len + i]? = g[i]? := by
  rw [List.getElem?_append_right (by omega)]
  congr 1
  omega
theorem tail_at0 (hl : h1.length = len) : (h1 ++ g)[len]? = g[0]? := tail_at (i := 0) hl
theorem tail_set (hl : h1.length = len) : (h1 ++ g).set (len + i) c = h1 ++ g.set i c := by
  rw [List.set_append_right _ _ (by omega)]
  congr 2
  omega
theorem tail_set0 (hl : h1.length = len) : (h1 ++ g).set len c = h1 ++ g.set 0 c := tail_set (i := 0) hl
/-- a draw, own cells behind -/
theorem okE_tkg {e : Mo W} (t : Tk tk) (hb : Bx b n h0 h1) (hs : ρ[k]? = some (.cl (.ce b))) (hn : n ≤ 100000000) (he : okE (e ρ (h1 ++ g)) (fun w ρ' h' => ρ' = ρ ∧ h' = h1 ++ g ∧ w = .cl (.int m)) X) (hm : 0 < m) (hm2 : m ≤ 1000000) (q : ∀ v h2, 0 ≤ v → v < m → Bx b (n + 1) h0 h2 → P (.cl (.int v)) ρ (h2 ++ g)) :
    okE (callN tk (mCons (mCe (mVar k)) (mCons (mFr e) mNil)) ρ (h1 ++ g)) P X := okE_tk t hb.app hs hn he hm hm2 fun v h' v0 v1 hb' => by
  obtain ⟨h2, rfl, hb2⟩ := hb'.unapp (by rw [← hb.len]; exact hb.lt)
  exact q v h2 v0 v1 hb2
theorem okE_tkcg (t : Tk tk) (hb : Bx b n h0 h1) (hs : ρ[k]? = some (.cl (.ce b))) (hn : n ≤ 100000000) (hm : 0 < m) (hm2 : m ≤ 1000000) (q : ∀ v h2, 0 ≤ v → v < m → Bx b (n + 1) h0 h2 → P (.cl (.int v)) ρ (h2 ++ g)) :
    okE (callN tk (mCons (mCe (mVar k)) (mCons (mFr (mC (.int m))) mNil)) ρ (h1 ++ g)) P X := okE_tkg t hb hs hn (okE_eq rfl ⟨rfl, rfl, rfl⟩) hm hm2 q
theorem w_slice {a : List Nat} {j k : Nat} {Q : W → Prop} (hl : a.length ≤ 100000) (q : Q (.cl (.str (S ((a.drop j).take (k - j)))))) : okW (dSl (.str (S a)) (some (j : Int)) (some (k : Int))) Q := by
  refine ⟨_, ?_, q⟩
  show (if (S a).length ≤ 100000 then some (W.cl (.str (cutS (S a) (some (j : Int)) (some (k : Int))))) else none) = _
  rw [S_len, if_pos hl]
  have : cutS (S a) (some (j : Int)) (some (k : Int)) = S ((a.drop j).take (k - j)) := by
    unfold cutS
    rw [HT.sIx_nat, HT.sIx_nat, S_cps, S_len]
    show S _ = S _
    congr 1
    have := cut_mid a j k
    unfold cutL at this
    rw [HT.sIx_nat, HT.sIx_nat] at this
    exact this
  rw [this]
theorem w_lenS {a : List Nat} {Q : W → Prop} (hl : a.length ≤ 100000) (q : Q (.cl (.int a.length))) : okW (dLen [.str (S a)]) Q := by
  refine ⟨_, ?_, q⟩
  show (if (S a).length ≤ 100000 then some (W.cl (.int ((S a).length : Int))) else none) = _
  rw [S_len, if_pos hl]
theorem w_append {cs : List D} {d : D} {Q : D × List D → Prop} (hl : cs.length < 100000) (q : Q (.non, cs ++ [d])) : okW (fAppend cs [d]) Q := ⟨_, by
  show (if cs.length < 100000 then some (D.non, cs ++ [d]) else none) = _
  rw [if_pos hl], q⟩
theorem w_ixL {ds : List D} {i : Nat} {d : D} {Q : W → Prop} (e : ds[i]? = some d) (q : Q (.cl d)) : okW (dIx (.lst ds) (.int (i : Int))) Q := ⟨_, by
  show (atI ds (i : Int)).map W.cl = _
  rw [atI_nat e]
  rfl, q⟩
theorem w_ixT {ds : List D} {i : Nat} {d : D} {Q : W → Prop} (e : ds[i]? = some d) (q : Q (.cl d)) : okW (dIx (.tup ds) (.int (i : Int))) Q := ⟨_, by
  show (atI ds (i : Int)).map W.cl = _
  rw [atI_nat e]
  rfl, q⟩
theorem below_strs' {k : Nat} (ls : List (List Nat)) : below k (.lst (ls.map (D.str ∘ S))) = true := by
  have := below_strs (k := k) (ls.map S)
  rwa [List.map_map] at this
local macro_rules | `(tactic| walk_at "hv") => `(tactic| first | rfl | assumption | (exact (by assumption : _)))
local macro_rules | `(tactic| walk_at "p1") => `(tactic| first
  | with_reducible refine CM.okS_seq ?_ | with_reducible refine CM.okS_next ?_ | with_reducible refine CM.okS_asg ?_ | with_reducible refine CM.okS_ret ?_ | with_reducible refine CM.okS_drop ?_ | with_reducible refine CM.okS_aug ?_ | with_reducible refine CM.okS_cnt ?_ | with_reducible refine CM.okS_fg ?_ | with_reducible refine CM.okS_retN ?_
  | with_reducible refine CM.okE_op ?_ | with_reducible refine CM.okE_cb ?_ | with_reducible refine CM.okE_cons ?_ | with_reducible refine CM.okE_nil ?_ | with_reducible refine CM.okB_not ?_ | with_reducible refine CM.okE_c ?_ | with_reducible refine CM.okE_fr ?_ | with_reducible refine CM.okE_ce ?_ | with_reducible refine CM.okE_notV ?_ | with_reducible refine CM.okE_un ?_
  | with_reducible refine CM.okE_sl ?_ | with_reducible refine CM.okE_nopart ?_
  | ((with_reducible refine' CM.okE_var ?hv ?_); (case hv => rfl))
  | ((with_reducible refine' CM.okE_part (CM.okE_var ?hv ⟨_, ?hv2, ?_⟩)); (case hv => rfl); (case hv2 => rfl))
  | ((with_reducible refine' CM.okE_part (CM.okE_c ⟨_, ?hv2, ?_⟩)); (case hv2 => rfl))
  | ((with_reducible refine' CM.okW_eq (w := _) ?hv ?_); (case hv => (with_reducible rfl)))
  | ((with_reducible refine' CM.okW_deref ?hv ?_); (case hv => walk_at "hv")) | ((with_reducible refine' CM.okW_derefs ?hv ?_); (case hv => rfl)) | ((with_reducible refine' CM.okW_derefC ?hv ?_); (case hv => walk_at "hv")) | ((with_reducible refine' CM.okW_lstAt ?hv ?_); (case hv => walk_at "hv"))
  | with_reducible refine CM.w_add ?_ | with_reducible refine CM.w_sub ?_ | with_reducible refine CM.w_lt ?_ | with_reducible refine CM.w_le ?_ | with_reducible refine CM.w_gt ?_ | with_reducible refine CM.w_ge ?_ | with_reducible refine CM.w_addI ?_
  | with_reducible refine CM.w_mod (by omega) ?_ | with_reducible refine CM.w_div (by omega) (by rw [CM.big_eq]; omega) ?_ | with_reducible refine CM.w_mul (by rw [CM.big_eq]; omega) (by rw [CM.big_eq]; omega) (by rw [CM.big_eq]; omega) (by rw [CM.big_eq]; omega) ?_ | with_reducible refine CM.w_sq (by omega) (by omega) ?_
  | with_reducible refine CM.w_max2 ?_ | with_reducible refine CM.w_min2 ?_ | with_reducible refine CM.w_lenL ?_ | with_reducible refine CM.w_lenT ?_ | with_reducible refine CM.w_lenC ?_ | with_reducible refine CM.w_listL ?_ | with_reducible refine CM.w_listT ?_ | with_reducible refine CM.w_tupL ?_ | with_reducible refine CM.w_tupT ?_
  | ((with_reducible refine CM.okG_setC ?_); (try dsimp only [List.set, CM.fzW]))
  | ((with_reducible refine' CM.okW_ix ?hv ?_); (case hv => rfl))
  | ((with_reducible refine' CM.okB_test (CM.okE_eqn ⟨_, ?hv, ?_⟩)); (case hv => rfl))
  | ((with_reducible refine' CM.okB_testd ⟨_, ?hv, ?_⟩); (case hv => rfl)))
local macro_rules | `(tactic| walk_at "p") => `(tactic| repeat walk_at "p1")
/-- the i-th of the drawn names begins with what parts it from the others -/
def nmR (st : List Nat) (t : Nat) (f s : Int) (i : Nat) (l : List Nat) : Prop := ∃ z, l = st.take t ++ lt ((f + s * i) % 26) :: z ∧ z.length ≤ 7 - t ∧ ∀ c ∈ z, c ∈ lets
theorem step_inj {s f : Int} (hs : s = 1 ∨ s = 3 ∨ s = 5 ∨ s = 7 ∨ s = 9 ∨ s = 11 ∨ s = 15 ∨ s = 17) {i j : Nat} (hi : i < 8) (hj : j < 8) (e : (f + s * i) % 26 = (f + s * j) % 26) : i = j := by
  rcases hs with rfl | rfl | rfl | rfl | rfl | rfl | rfl | rfl <;> omega
theorem names_ok {m : Nat} {P : W → Tb → Prop} {X : Str → List (Str × D) → Tb → Prop} (t : Tk tk) (hb : Bx b n h0 h) (hn : n ≤ 90000000) (hm0 : 1 ≤ m) (hm : m ≤ 8) (q : ∀ ls h', Cols m ls → Bx b (n + 30) h0 h' → P (W.fr ((ls.map S).map .str)) h') :
    okF (fnM false 2 8 (namesM tk) [.ce b, .int m] h) P X := by
  refine okF_fn rfl ?_
  show okS (namesM tk [.cl (.ce b), .cl (.int m), .un, .un, .un, .un, .un, .un, .un, .un] h) _ _ _ _
  have hl0 := hb.len
  have hbs := hb.self
  unfold namesM
  rw [letters_eq]
  walk_at "p"
  refine okE_bs (okE_c ⟨_, rfl, okE_cons ?_⟩)
  refine okE_words (R := fun _ l => l.length = 1 ∧ ∀ c ∈ l, c ∈ lets) (q := 1) (m := 7) rfl hbs (by decide) (okE_eq rfl ⟨rfl, rfl, rfl⟩) ?_ ?_
  · intro k h9 hk hb
    refine okE_op (okE_var rfl (okE_tkc t hb rfl (by omega) (by decide) (by decide) fun v d3 v0 v1 hb => ?_))
    refine okW_eq rfl (okW_eq rfl (w_letter v0 v1 ⟨_, rfl, rfl, hb, rfl, fun c hc => ?_⟩))
    rw [List.mem_singleton.mp hc]
    exact lt_mem v0 v1
  intro ls d3 h1 h2 hb3
  obtain ⟨h3, h4⟩ := flat_one ls h2
  rw [h1] at h3
  refine okE_nil (okW_derefs rfl ?_)
  refine w_join (ls := ls) (by omega) (okG_setC ?_)
  generalize ls.flatten = st at h3 h4 ⊢
  dsimp only [List.set, fzW]
  refine okS_seq (okS_par3 (okE_cons (okE_tkc t hb3 rfl (by omega) (by decide) (by decide) fun u h5 u0 u1 hb5 => ?_)))
  refine okE_cons (okE_tkc t hb5 rfl (by omega) (by decide) (by decide) fun f h6 f0 f1 hb6 => ?_)
  refine okE_cons (okE_op (okE_eq (w := W.fr (PI [1, 3, 5, 7, 9, 11, 15, 17])) rfl (okE_tkc t hb6 rfl (by omega) (by decide) (by decide) fun v h7 v0 v1 hb7 => ?_)))
  obtain ⟨u, rfl⟩ := Int.eq_ofNat_of_zero_le u0
  obtain ⟨v, rfl⟩ := Int.eq_ofNat_of_zero_le v0
  refine okW_eq rfl (okW_eq rfl ?_)
  have hv : v < 8 := by omega
  obtain ⟨s, hs, es⟩ : ∃ s : Nat, ((s : Int) = 1 ∨ (s : Int) = 3 ∨ (s : Int) = 5 ∨ (s : Int) = 7 ∨ (s : Int) = 9 ∨ (s : Int) = 11 ∨ (s : Int) = 15 ∨ (s : Int) = 17) ∧ (PI [1, 3, 5, 7, 9, 11, 15, 17])[v]? = some (.int (s : Int)) := by
    match v, hv with
    | 0, _ => exact ⟨1, by decide, rfl⟩
    | 1, _ => exact ⟨3, by decide, rfl⟩
    | 2, _ => exact ⟨5, by decide, rfl⟩
    | 3, _ => exact ⟨7, by decide, rfl⟩
    | 4, _ => exact ⟨9, by decide, rfl⟩
    | 5, _ => exact ⟨11, by decide, rfl⟩
    | 6, _ => exact ⟨15, by decide, rfl⟩
    | 7, _ => exact ⟨17, by decide, rfl⟩
  refine w_ixL es ?_
  refine okE_nil ⟨_, _, _, rfl, ?_⟩
  show okS _ _ _ _ _
  dsimp only [gPut, List.set, fzW]
  generalize hsi : (s : Int) = si at hs
  refine okS_seq (okS_asg (okE_eq (w := W.fr []) rfl (okG_set ?_)))
  have hl7 := hb7.len
  dsimp only [List.set]
  rw [hl7]
  have hu : u < 8 := by omega
  -- the names one by one
  refine okS_seq (okS_for (rng_ok (m := m) (it := ⟨[], []⟩) (by omega) (okE_eq rfl ⟨rfl, rfl, rfl⟩) ?_))
  refine okS_loop0 (fun j ρ h' => ∃ (ls : List (List Nat)) (h1 : Tb) (s8 s9 : Sl), ρ = [.cl (.ce b), .cl (.int m), .cl (.str (S lets)), .cl (.str (S st)), .cl (.int u), .cl (.int f), .cl (.int si), .cl (.ce h.length), s8, s9] ∧ h' = h1 ++ [.lst ((ls.map S).map .str)] ∧ ls.length = j ∧ (∀ (i : Nat) (h : i < ls.length), nmR st u f si i ls[i]) ∧ Bx b (n + 10 + j) h h1) _ 0 ⟨[], h7, _, _, rfl, rfl, rfl, (fun i h => absurd h (Nat.not_lt_zero i)), hb7.mono (by omega)⟩ ?_ ?_
  · rintro j d ρ h' hj ⟨ls, h8, s8, s9, rfl, rfl, g1, g2, g3⟩
    obtain ⟨hj2, rfl⟩ := rng_at hj
    rw [Nat.zero_add] at g1 g3 ⊢
    have hl8 := g3.len
    refine okG_setC ?_
    dsimp only [List.set, fzW]
    refine okS_seq (okS_asg ?_)
    walk_at "p"
    refine w_take (by omega) ?_
    walk_at "p"
    refine w_letter (Int.emod_nonneg _ (by decide)) (Int.emod_lt_of_pos _ (by decide)) ?_
    walk_at "p"
    refine w_adds (by rw [List.length_singleton, List.length_take]; omega) (okG_setC ?_)
    dsimp only [List.set, fzW]
    have hcell : (h8 ++ [D.lst ((ls.map S).map .str)])[h.length]? = some (.lst ((ls.map S).map .str)) := tail_at0 hl8
    refine okS_drop (okE_mut (okE_var rfl (okW_lstAt hcell (okE_cons ?_))))
    refine okE_op (okE_var rfl (okE_sl (okE_var rfl (okE_part (okE_var rfl ⟨_, rfl, okE_part (okE_op (okE_var rfl (okE_tkg (m := 8 - (u : Int)) t g3 rfl (by omega) ?_ (by omega) (by omega) fun v h9 v0 v1 hb9 => ?_)))⟩)))))
    · exact okE_op (okE_c (okE_var rfl (okW_eq rfl (okW_eq rfl (w_sub ⟨rfl, rfl, rfl⟩)))))
    obtain ⟨v, rfl⟩ := Int.eq_ofNat_of_zero_le v0
    refine okW_eq rfl (okW_eq rfl (w_add ⟨((u + v : Nat) : Int), by rw [Int.natCast_add]; rfl, okW_eq rfl (w_slice (by omega) ?_)⟩))
    refine okW_eq rfl (okW_eq rfl (w_adds (by
      rw [List.length_append, List.length_singleton, List.length_take, List.length_take, List.length_drop]
      omega) ?_))
    have hcell2 : (h9 ++ [D.lst ((ls.map S).map .str)])[h.length]? = some (.lst ((ls.map S).map .str)) := tail_at0 hb9.len
    refine okE_nil (okW_lstAt hcell2 (w_append (by rw [List.length_map, List.length_map]; omega) ?_))
    refine ⟨ls ++ [st.take u ++ [lt ((f + si * j) % 26)] ++ (st.drop u).take (u + v - u)], h9, _, _, rfl, ?_, ?_, ?_, hb9.mono (by omega)⟩
    · rw [tail_set0 hb9.len]
      simp [fzW]
    · rw [List.length_append, g1]
      rfl
    · intro i hi
      rw [List.getElem_append]
      split
      · exact g2 i _
      · have hij : i = j := by
          rw [List.length_append] at hi
          have : i < ls.length + 1 := hi
          omega
        subst hij
        refine ⟨(st.drop u).take (u + v - u), by simp, ?_, fun c hc => h4 c (List.mem_of_mem_drop (List.mem_of_mem_take hc))⟩
        rw [List.length_take]
        omega
  rintro ρ h' ⟨ls, h8, s8, s9, rfl, rfl, g1, g2, g3⟩
  rw [List.length_map, List.length_range, Nat.zero_add] at g1 g3
  have hl8 := g3.len
  have hcell : (h8 ++ [D.lst ((ls.map S).map .str)])[h.length]? = some (.lst ((ls.map S).map .str)) := tail_at0 hl8
  have nm : ∀ i l, nmR st u f si i l → NmL l := fun i l ⟨z, e, z1, z2⟩ => by
    subst e
    refine ⟨by rw [List.length_append, List.length_cons]; omega, by rw [List.length_append, List.length_cons, List.length_take]; omega, fun c hc => ?_⟩
    rcases List.mem_append.mp hc with hc | hc
    · exact h4 c (List.mem_of_mem_take hc)
    · rcases List.mem_cons.mp hc with rfl | hc
      · exact lt_mem (Int.emod_nonneg _ (by decide)) (Int.emod_lt_of_pos _ (by decide))
      · exact z2 c hc
  have inj : ∀ i j l, i < m → j < m → nmR st u f si i l → nmR st u f si j l → i = j := fun i j l hi hj ⟨z, e, _⟩ ⟨z', e', _⟩ => by
    have q := List.append_cancel_left (e.symm.trans e')
    have q := lt_inj (Int.emod_nonneg _ (by decide)) (Int.emod_lt_of_pos _ (by decide)) (Int.emod_nonneg _ (by decide)) (Int.emod_lt_of_pos _ (by decide)) (List.cons.inj q).1
    exact step_inj hs (by omega) (by omega) q
  have c1 : Cols m ls := ⟨g1, words_ok (R := nmR st u f si) g1 g2 inj fun i l _ => nm i l⟩
  have fin : ∀ (ls : List (List Nat)) h9, Cols m ls → Bx b (n + 25) h h9 → okS (sRet (mVar 7) [.cl (.ce b), .cl (.int m), .cl (.str (S lets)), .cl (.str (S st)), .cl (.int u), .cl (.int f), .cl (.int si), .cl (.ce h.length), s8, s9] (h9 ++ [.lst ((ls.map S).map .str)])) (fun ρ h' => okW (cutF false h (.cl .non) h') fun x => P x.1 x.2) (fun w ρ h' => okW (cutF false h w h') fun x => P x.1 x.2) (fun _ _ _ => False) (fun C fs ρ h' => okW (cutX false h fs h') fun x => X C fs x) := fun ls h9 hc hb9 => by
    refine okS_ret (okE_var rfl ?_)
    exact cut_own hb9.len (Bx.cut hbs hb9) (Nat.le_refl _) (tail_at0 hb9.len) (by rw [List.map_map]; exact below_strs' _) (q ls h9 hc ((hb.trans hb9).mono (by omega)))
  refine okS_seq (okS_if (okB_and (okB_test (okE_op (okE_var rfl (okE_c (okW_eq rfl (okW_eq rfl (w_gt ⟨_, rfl, fun m1 => ?_, fun _ => ?_⟩)))))))))
  · have m1 : 1 < m := by
      have := of_decide_eq_true m1
      omega
    have h0l : 0 < ls.length := by omega
    have e0 : ((ls.map S).map D.str)[0]? = some (.str (S ls[0])) := by
      rw [List.getElem?_map, List.getElem?_map, List.getElem?_eq_getElem h0l]
      rfl
    have hcellD : deref (h8 ++ [D.lst ((ls.map S).map .str)]) (.cl (.ce h.length)) = some (.lst ((ls.map S).map .str)) := hcell
    obtain ⟨w1, w2, w3⟩ := c1.2.2 _ (List.getElem_mem h0l)
    refine okB_and (okB_test (okE_op (okE_cb (okE_cons (okE_op (okE_var rfl (okE_c (okW_eq hcellD (okW_eq rfl (w_ixL (i := 0) e0 (okE_nil (okW_eq rfl (w_lenS (by omega) (okE_c (okW_eq rfl (okW_eq rfl (w_lt ⟨_, rfl, fun k1 => ?_, fun _ => ?_⟩)))))))))))))))))
    · have k1 : ls[0].length < 8 := by
        have := of_decide_eq_true k1
        omega
      refine okB_test (okE_op (okE_tkcg t g3 rfl (by omega) (by decide) (by decide) fun v h9 v0 v1 hb9 => okE_c (okW_eq rfl (okW_eq rfl (w_eqi ⟨_, rfl, fun _ => ?_, fun _ => ?_⟩)))))
      · have hcell9 : (h9 ++ [D.lst ((ls.map S).map .str)])[h.length]? = some (.lst ((ls.map S).map .str)) := tail_at0 hb9.len
        refine okS_asg (okE_op (okE_op (okE_var rfl (okE_c (okW_eq hcell9 (okW_eq rfl (w_ixL (i := 0) e0 ?_)))))))
        refine okE_op (okE_var rfl (okE_tkcg t hb9 rfl (by omega) (by decide) (by decide) fun x h10 x0 x1 hb10 => okW_eq rfl (okW_eq rfl (w_letter x0 x1 (okW_eq rfl (okW_eq rfl (w_adds (by rw [List.length_singleton]; omega) ?_)))))))
        have hcell10 : (h10 ++ [D.lst ((ls.map S).map .str)])[h.length]? = some (.lst ((ls.map S).map .str)) := tail_at0 hb10.len
        refine okG_sub (okE_var rfl (okE_c ⟨1, rfl, okW_lstAt hcell10 ⟨1, ?_, ?_⟩⟩))
        · show ixN ((ls.map S).map D.str).length 1 = some 1
          unfold ixN
          rw [if_pos (by decide), if_pos (by rw [List.length_map, List.length_map]; omega)]
          rfl
        dsimp only
        rw [tail_set0 hb10.len]
        have e1 : ((ls.map S).map D.str).set 1 (fzW (.cl (.str (S (ls[0] ++ [lt x]))))) = ((ls.set 1 (ls[0] ++ [lt x])).map S).map D.str := by
          rw [List.map_set, List.map_set]
          rfl
        show okS _ _ _ _ _
        dsimp only [List.set]
        rw [e1]
        refine fin _ h10 ?_ (hb10.mono (by omega))
        refine ⟨by rw [List.length_set]; exact g1, ?_, fun l hl => ?_⟩
        · unfold List.Nodup
          rw [List.pairwise_iff_getElem]
          intro i j hi hj hij e
          rw [List.length_set] at hi hj
          rw [List.getElem_set, List.getElem_set] at e
          have r0 := g2 0 h0l
          obtain ⟨z, ez, _⟩ := r0
          have par : ∀ (k : Nat) (hk : k < ls.length), k ≠ 0 → ls[k] ≠ ls[0] ++ [lt x] := fun k hk k0 e => by
            obtain ⟨z', ez', _⟩ := g2 k hk
            rw [ez', ez, List.append_assoc] at e
            have q := List.append_cancel_left e
            have q := lt_inj (Int.emod_nonneg _ (by decide)) (Int.emod_lt_of_pos _ (by decide)) (Int.emod_nonneg _ (by decide)) (Int.emod_lt_of_pos _ (by decide)) (List.cons.inj q).1
            exact k0 (step_inj hs (by omega) (by omega) q)
          by_cases hj1 : 1 = j
          · subst hj1
            have hi0 : i = 0 := by omega
            subst hi0
            rw [if_neg (by decide), if_pos rfl] at e
            have := congrArg List.length e
            rw [List.length_append, List.length_singleton] at this
            omega
          · rw [if_neg hj1] at e
            by_cases hi1 : 1 = i
            · rw [if_pos hi1] at e
              exact par j hj (by omega) e.symm
            · rw [if_neg hi1] at e
              have := inj i j ls[i] (by omega) (by omega) (g2 i hi) (by rw [e]; exact g2 j hj)
              omega
        · rcases List.mem_or_eq_of_mem_set hl with hl | rfl
          · exact c1.2.2 l hl
          · refine ⟨by rw [List.length_append, List.length_singleton]; omega, by rw [List.length_append, List.length_singleton]; omega, fun c hc => ?_⟩
            rcases List.mem_append.mp hc with hc | hc
            · exact w3 c hc
            · rw [List.mem_singleton.mp hc]
              exact lt_mem x0 x1
      · refine okS_next ?_
        exact fin ls h9 c1 (hb9.mono (by omega))
    · exact ⟨(fun z => nomatch z), fun _ => by
        refine okS_next ?_
        exact fin ls h8 c1 (g3.mono (by omega))⟩
  · exact ⟨(fun z => nomatch z), fun _ => by
      refine okS_next ?_
      exact fin ls h8 c1 (g3.mono (by omega))⟩
/-! drawn positions -/
structure Part (m : Nat) (fx : List Nat) (sp : Option Nat) : Prop where
  asc : fx.Pairwise (· < ·)
  lt : ∀ i ∈ fx, i < m
  len : fx.length ≤ 5
  sp : ∀ i, sp = some i → i < m ∧ i ∉ fx ∧ fx.length < 5
abbrev partD (p : List Nat × Option Nat) : D := .tup [.lst (PI p.1), oI p.2]
theorem Part.nd {m : Nat} {fx : List Nat} {sp : Option Nat} (q : Part m fx sp) : fx.Nodup := q.asc.imp fun h => by omega
theorem below_part {k : Nat} (p : List Nat × Option Nat) : below k (partD p) = true := by
  rw [below_tup]
  simp [below_PI, below_oI]
theorem pd_oI (s : Option Nat) : ∃ x, pd (oI s) = some x := by
  cases s with
  | none => exact ⟨_, rfl⟩
  | some i => exact ⟨_, rfl⟩
theorem PI_append (xs ys : List Nat) : PI (xs ++ ys) = PI xs ++ PI ys := List.map_append ..
theorem PI_erase (xs : List Nat) (i : Nat) : (PI xs).eraseIdx i = PI (xs.eraseIdx i) := by
  unfold PI
  induction xs generalizing i with
  | nil => rfl
  | cons x xs ih =>
    cases i with
    | zero => rfl
    | succ i => simp [ih]
theorem okE_lstRg {k m : Nat} (hk : ρ[k]? = some (.cl (.int (m : Int)))) (hm : m ≤ 90000) (q : P (W.fr (PI (List.range m))) ρ h) : okE (mLstRg (mVar k) ρ h) P X := okE_bind (okE_var hk (by
  show okE (if -1000000 ≤ (m : Int) ∧ (m : Int) ≤ 90000 then some (R.ok (W.fr ((List.range (m : Int).toNat).map fun i => .int (i : Nat))) ρ h) else none) P X
  rw [if_pos ⟨by omega, by omega⟩, Int.toNat_natCast]
  exact okE_some q))
theorem w_minN {i j : Nat} {Q : W → Prop} (q : Q (.cl (.int ((min i j : Nat) : Int)))) : okW (dMin2 [.int (i : Int), .int (j : Int)]) Q := by
  refine w_min2 ?_
  have : (if (j : Int) < (i : Int) then (j : Int) else (i : Int)) = ((min i j : Nat) : Int) := by
    split
    · rw [Nat.min_eq_right (by omega)]
    · rw [Nat.min_eq_left (by omega)]
  rw [this]
  exact q
theorem w_ne0 {xs : List Nat} {Q : W → Prop} (q : Q (.cl (.bl (!decide (xs = []))))) : okW (dNe (.lst (PI xs)) (.lst [])) Q := w_ne (dEqB_PI xs []) q
theorem w_eq0 {xs : List Nat} {Q : W → Prop} (q : Q (.cl (.bl (decide (xs = []))))) : okW (dEq (.lst (PI xs)) (.lst [])) Q := w_eq (dEqB_PI xs []) q
theorem pick_ok {m : Nat} {P : W → Tb → Prop} {X : Str → List (Str × D) → Tb → Prop} (t : Tk tk) (hb : Bx b n h0 h) (hn : n ≤ 90000000) (hm : m ≤ 1000) (q : ∀ fx sp h', Part m fx sp → Bx b (n + 10) h0 h' → P (.cl (partD (fx, sp))) h') :
    okF (fnM false 3 3 (pickM tk) [.ce b, .int m, .int 5] h) P X := by
  refine okF_fn rfl ?_
  show okS (pickM tk [.cl (.ce b), .cl (.int m), .cl (.int 5), .un, .un, .un] h) _ _ _ _
  have hl0 := hb.len
  have hbs := hb.self
  unfold pickM
  refine okS_seq (okS_par (okE_cons (okE_lstRg (m := m) rfl (by omega) (okE_cons (okE_eq (w := W.fr (PI [])) rfl (okE_nil ⟨_, _, rfl, ?_⟩))))))
  show okS _ _ _ _ _
  dsimp only [gPut, List.set]
  rw [List.append_assoc, List.length_append, List.length_singleton]
  dsimp only [List.cons_append, List.nil_append]
  refine okS_seq (okS_for (okE_rng1 (okE_cons (okE_tkg (m := ((min m 5 : Nat) : Int) + 1) t hbs rfl (by omega) ?_ (by omega) (by omega) fun v h1 v0 v1 hb1 => okE_nil ?_))))
  · refine okE_op (okE_cb (okE_cons (okE_var rfl (okE_cons (okE_var rfl (okE_nil (okW_eq rfl (w_minN (i := m) (j := 5) (okE_c (okW_eq rfl (okW_eq rfl (w_add ⟨rfl, rfl, rfl⟩))))))))))))
  obtain ⟨v, rfl⟩ := Int.eq_ofNat_of_zero_le v0
  refine okW_eq rfl ⟨_, rfl, by omega, by omega, ?_⟩
  rw [Int.toNat_natCast]
  refine okS_loop0 (fun j ρ h' => ∃ (fx left : List Nat) (h1 : Tb) (s5 : Sl), ρ = [.cl (.ce b), .cl (.int m), .cl (.int 5), .cl (.ce h.length), .cl (.ce (h.length + 1)), s5] ∧ h' = h1 ++ [.lst (PI left), .lst (PI fx)] ∧ fx.length = j ∧ (fx ++ left).Perm (List.range m) ∧ Bx b (n + 1 + j) h h1) _ 0 ⟨[], List.range m, h1, _, rfl, rfl, rfl, .refl _, hb1⟩ ?_ ?_
  · rintro j d ρ h' hj ⟨fx, left, h2, s5, rfl, rfl, g1, g2, g3⟩
    obtain ⟨hj2, rfl⟩ := rng_at hj
    rw [Nat.zero_add] at g1 g3 ⊢
    have hl2 := g3.len
    have hlen : fx.length + left.length = m := by
      have := g2.length_eq
      rw [List.length_append, List.length_range] at this
      exact this
    refine okG_setC ?_
    dsimp only [List.set, fzW]
    refine okS_drop (okE_mut (okE_var rfl (okW_lstAt (tail_at hl2) (okE_cons (okE_mut (okE_var rfl (okW_lstAt (tail_at0 hl2) (okE_cons (okE_tkg (m := left.length) t g3 rfl (by omega) ?_ (by omega) (by omega) fun w h3 w0 w1 hb3 => ?_)))))))))
    · exact okE_cb (okE_cons (okE_var rfl (okE_nil (okW_derefC (tail_at0 hl2) (w_lenL ⟨rfl, rfl, by rw [PI_len]⟩)))))
    have hl3 := hb3.len
    refine okE_nil (okW_lstAt (tail_at0 hl3) (popAt_ok (cs := PI left) w0 (by rw [PI_len]; exact w1) (by rw [PI_len]; omega) fun hw => ?_))
    rw [PI_len] at hw
    rw [tail_set0 hl3]
    refine okE_nil (okW_lstAt (tail_at (i := 1) hl3) (w_append (by rw [PI_len]; omega) ?_))
    rw [tail_set hl3]
    refine ⟨fx ++ [left[w.toNat]], left.eraseIdx w.toNat, h3, _, rfl, ?_, ?_, ?_, ?_⟩
    · dsimp only [List.set, fzW]
      rw [PI_erase, PI_append]
      simp [PI]
    · rw [List.length_append, g1]
      rfl
    · rw [List.append_assoc]
      exact (List.Perm.append_left fx (perm_pop left w.toNat hw)).trans g2
    · exact hb3
  rintro ρ h' ⟨fx, left, h2, s5, rfl, rfl, g1, g2, g3⟩
  rw [List.length_map, List.length_range, Nat.zero_add] at g1 g3
  have hl2 := g3.len
  have hlen : fx.length + left.length = m := by
    have := g2.length_eq
    rw [List.length_append, List.length_range] at this
    exact this
  have hnd : (fx ++ left).Nodup := g2.nodup_iff.mpr List.nodup_range
  have hmem : ∀ i ∈ fx ++ left, i < m := fun i hi => List.mem_range.mp (g2.mem_iff.mp hi)
  have done : ∀ (ys : List Nat) (sp : Option Nat) h3, ys.Perm fx → ys.Pairwise (· ≤ ·) → (∀ i, sp = some i → i ∈ left ∧ fx.length < 5) → Bx b (n + 10) h h3 → okW (cutF false h (.cl (.tup [fzW (W.fr (PI ys)), oI sp])) (h3 ++ [.lst (PI left), .lst (PI fx)])) fun x => P x.1 x.2 := fun ys sp h3 hp hs hsp hb3 => by
    refine cut_app hb3.len (Bx.cut hbs hb3) (fun _ z => by cases z) (below_part (ys, sp)) (q ys sp h3 ⟨asc_of hs (hp.nodup_iff.mpr (List.nodup_append.mp hnd).1), fun i hi => hmem i (List.mem_append.mpr (.inl (hp.mem_iff.mp hi))), by rw [hp.length_eq]; omega, fun i e => ?_⟩ (hb.trans hb3))
    obtain ⟨e1, e2⟩ := hsp i e
    exact ⟨hmem i (List.mem_append.mpr (.inr e1)), fun z => (List.nodup_append.mp hnd).2.2 i (hp.mem_iff.mp z) i e1 rfl, by rw [hp.length_eq]; exact e2⟩
  have srt : ∀ {h3 : Tb} {Q : Ps W}, h3.length = h.length → (∀ ys : List Nat, ys.Perm fx → ys.Pairwise (· ≤ ·) → Q (W.fr (PI ys)) [.cl (.ce b), .cl (.int m), .cl (.int 5), .cl (.ce h.length), .cl (.ce (h.length + 1)), s5] (h3 ++ [.lst (PI left), .lst (PI fx)])) → okE (mCB dSrt (mCons (mVar 4) mNil) [.cl (.ce b), .cl (.int m), .cl (.int 5), .cl (.ce h.length), .cl (.ce (h.length + 1)), s5] (h3 ++ [.lst (PI left), .lst (PI fx)])) Q (fun C fs ρ h' => okW (cutX false h fs h') fun x => X C fs x) := fun {h3 Q} hl3 hq =>
    okE_cb (okE_cons (okE_var rfl (okE_nil (okW_derefC (tail_at (i := 1) hl3) (w_srtPI (by omega) hq)))))
  have none_ : ∀ h3, Bx b (n + 10) h h3 → okS (sRet (mTup (mCons (mCB dSrt (mCons (mVar 4) mNil)) (mCons (mC .non) mNil))) [.cl (.ce b), .cl (.int m), .cl (.int 5), .cl (.ce h.length), .cl (.ce (h.length + 1)), s5] (h3 ++ [.lst (PI left), .lst (PI fx)])) (fun ρ h_1 => okS (sRet (mTup (mCons (mCB dSrt (mCons (mVar 4) mNil)) (mCons (mOp dIx (mVar 3) (callN tk (mCons (mCe (mVar 0)) (mCons (mFr (mCB dLen (mCons (mVar 3) mNil))) mNil)))) mNil))) ρ h_1) (fun ρ h' => okW (cutF false h (W.cl D.non) h') fun x => P x.fst x.snd) (fun w ρ h' => okW (cutF false h w h') fun x => P x.fst x.snd) (fun x x_1 x_2 => False) fun C fs ρ h' => okW (cutX false h fs h') fun x => X C fs x) (fun w ρ h' => okW (cutF false h w h') fun x => P x.fst x.snd) (fun _ _ _ => False) (fun C fs ρ h' => okW (cutX false h fs h') fun x => X C fs x) := fun h3 hb3 => by
    refine okS_ret (okE_tup (okE_cons (srt hb3.len fun ys hp hs => okE_cons (okE_c (okE_nil ⟨Nat.le_of_ble_eq_true rfl, ?_⟩)))))
    exact done ys none h3 hp hs (fun i e => by cases e) hb3
  refine okS_seq (okS_if (okB_or (okB_test (okE_op (okE_var rfl (okE_eq (w := W.fr (PI [])) rfl (okW_eq (tail_at0 hl2 : deref (h2 ++ [.lst (PI left), .lst (PI fx)]) (.cl (.ce h.length)) = some (.lst (PI left))) (okW_eq rfl (w_eq0 ⟨_, rfl, fun _ => ?_, fun l0 => ?_⟩)))))))))
  · exact ⟨fun _ => none_ h2 (g3.mono (by omega)), (fun z => nomatch z)⟩
  · have l0 : 0 < left.length := List.length_pos_iff.mpr (of_decide_eq_false l0)
    refine okB_or (okB_test (okE_op (okE_cb (okE_cons (okE_var rfl (okE_nil (okW_derefC (tail_at (i := 1) hl2) (w_lenL (okE_c (okW_eq rfl (okW_eq rfl (w_gt ⟨_, rfl, fun _ => ?_, fun k4 => ?_⟩))))))))))))
    · exact ⟨fun _ => none_ h2 (g3.mono (by omega)), (fun z => nomatch z)⟩
    · have k4 : fx.length < 5 := by
        have := of_decide_eq_false k4
        rw [PI_len] at this
        omega
      refine okB_test (okE_op (okE_tkcg t g3 rfl (by omega) (by decide) (by decide) fun w h3 w0 w1 hb3 => okE_c (okW_eq rfl (okW_eq rfl (w_eqi ⟨_, rfl, fun _ => ?_, fun _ => ?_⟩)))))
      · exact none_ h3 (hb3.mono (by omega))
      · refine okS_next ?_
        refine okS_ret (okE_tup (okE_cons (srt hb3.len fun ys hp hs => okE_cons (okE_op (okE_var rfl (okE_tkg (m := left.length) t hb3 rfl (by omega) ?_ (by omega) (by omega) fun x h4 x0 x1 hb4 => ?_))))))
        · exact okE_cb (okE_cons (okE_var rfl (okE_nil (okW_derefC (tail_at0 hb3.len) (w_lenL ⟨rfl, rfl, by rw [PI_len]⟩)))))
        obtain ⟨x, rfl⟩ := Int.eq_ofNat_of_zero_le x0
        have hx : x < left.length := by omega
        refine okW_eq (tail_at0 hb4.len : deref (h4 ++ [.lst (PI left), .lst (PI fx)]) (.cl (.ce h.length)) = some (.lst (PI left))) (okW_eq rfl (w_ixL (PI_get hx) (okE_nil ⟨Nat.le_of_ble_eq_true rfl, ?_⟩)))
        exact done ys (some left[x]) h4 hp hs (fun i e => by
          cases e
          exact ⟨List.getElem_mem hx, k4⟩) (hb4.mono (by omega))
end
end CM

/-! CW6: parts that are near, lists of parts. -/
namespace CM
open PySem PySem.Spec PyProof.Rows L2 SL
section
variable {ρ : List Sl} {h h0 h1 g : Tb} {P : Ps W} {X : Px} {N : List Sl → Tb → Prop} {T : Ps W} {L : Bool → List Sl → Tb → Prop} {tk pk nr : Fnm} {b n k i j len m : Nat} {c : D} {fx : List Nat}
local macro_rules | `(tactic| walk_at "hv") => `(tactic| first | rfl | assumption | (exact (by assumption : _)))
local macro_rules | `(tactic| walk_at "p1") => `(tactic| first
  | with_reducible refine CM.okS_seq ?_ | with_reducible refine CM.okS_next ?_ | with_reducible refine CM.okS_asg ?_ | with_reducible refine CM.okS_ret ?_ | with_reducible refine CM.okS_drop ?_ | with_reducible refine CM.okS_aug ?_ | with_reducible refine CM.okS_cnt ?_ | with_reducible refine CM.okS_fg ?_ | with_reducible refine CM.okS_retN ?_
  | with_reducible refine CM.okE_op ?_ | with_reducible refine CM.okE_cb ?_ | with_reducible refine CM.okE_cons ?_ | with_reducible refine CM.okE_nil ?_ | with_reducible refine CM.okB_not ?_ | with_reducible refine CM.okE_c ?_ | with_reducible refine CM.okE_fr ?_ | with_reducible refine CM.okE_ce ?_ | with_reducible refine CM.okE_notV ?_ | with_reducible refine CM.okE_un ?_
  | with_reducible refine CM.okE_sl ?_ | with_reducible refine CM.okE_nopart ?_
  | ((with_reducible refine' CM.okE_var ?hv ?_); (case hv => rfl))
  | ((with_reducible refine' CM.okE_part (CM.okE_var ?hv ⟨_, ?hv2, ?_⟩)); (case hv => rfl); (case hv2 => rfl))
  | ((with_reducible refine' CM.okE_part (CM.okE_c ⟨_, ?hv2, ?_⟩)); (case hv2 => rfl))
  | ((with_reducible refine' CM.okW_eq (w := _) ?hv ?_); (case hv => (with_reducible rfl)))
  | ((with_reducible refine' CM.okW_deref ?hv ?_); (case hv => walk_at "hv")) | ((with_reducible refine' CM.okW_derefs ?hv ?_); (case hv => rfl)) | ((with_reducible refine' CM.okW_derefC ?hv ?_); (case hv => walk_at "hv")) | ((with_reducible refine' CM.okW_lstAt ?hv ?_); (case hv => walk_at "hv"))
  | with_reducible refine CM.w_add ?_ | with_reducible refine CM.w_sub ?_ | with_reducible refine CM.w_lt ?_ | with_reducible refine CM.w_le ?_ | with_reducible refine CM.w_gt ?_ | with_reducible refine CM.w_ge ?_ | with_reducible refine CM.w_addI ?_
  | with_reducible refine CM.w_mod (by omega) ?_ | with_reducible refine CM.w_div (by omega) (by rw [CM.big_eq]; omega) ?_ | with_reducible refine CM.w_mul (by rw [CM.big_eq]; omega) (by rw [CM.big_eq]; omega) (by rw [CM.big_eq]; omega) (by rw [CM.big_eq]; omega) ?_ | with_reducible refine CM.w_sq (by omega) (by omega) ?_
  | with_reducible refine CM.w_max2 ?_ | with_reducible refine CM.w_min2 ?_ | with_reducible refine CM.w_lenL ?_ | with_reducible refine CM.w_lenT ?_ | with_reducible refine CM.w_lenC ?_ | with_reducible refine CM.w_listL ?_ | with_reducible refine CM.w_listT ?_ | with_reducible refine CM.w_tupL ?_ | with_reducible refine CM.w_tupT ?_
  | ((with_reducible refine CM.okG_setC ?_); (try dsimp only [List.set, CM.fzW]))
  | ((with_reducible refine' CM.okW_ix ?hv ?_); (case hv => rfl))
  | ((with_reducible refine' CM.okB_test (CM.okE_eqn ⟨_, ?hv, ?_⟩)); (case hv => rfl))
  | ((with_reducible refine' CM.okB_testd ⟨_, ?hv, ?_⟩); (case hv => rfl)))
local macro_rules | `(tactic| walk_at "p") => `(tactic| repeat walk_at "p1")
theorem filter_take {p : Nat → Bool} {m j : Nat} (hj : j < m) : (List.range (j + 1)).filter p = (List.range j).filter p ++ (if p j = true then [j] else []) := by
  rw [List.range_succ, List.filter_append]
  congr 1
  by_cases e : p j = true
  · rw [if_pos e, List.filter_cons, if_pos e]
    rfl
  · rw [if_neg e, List.filter_cons, if_neg e]
    rfl
/-- [i for i in range(many) if i not in fixed] -/
theorem free_ok {s0 s2 s4 s5 s6 : Sl} {q : Nat} (hm : m ≤ 1000) (hk : h[k]? = some (.lst (PI fx))) (p : P (W.fr (PI ((List.range m).filter fun i => !decide (i ∈ fx)))) [s0, .cl (.int m), s2, .cl (.ce k), s4, s5, s6, .un] h) :
    okE (mLc (mRng1 (mCons (mVar 1) mNil)) (gSetC 7) (mTest (mOp dNi (mVar 7) (mVar 3))) (mVar 7) [7] [s0, .cl (.int m), s2, .cl (.ce k), s4, s5, s6, .un] h) P X := by
  have hkd : deref h (.cl (.ce k)) = some (.lst (PI fx)) := hk
  refine okE_lcF (ds := (List.range m).map fun i => .int (i : Nat)) (fun j h' acc => h' = h ∧ acc = PI ((List.range j).filter fun i => !decide (i ∈ fx))) rfl ?_ ?_ ?_
  · exact rng_ok (it := ⟨[], []⟩) hm (okE_eq rfl ⟨rfl, rfl, rfl⟩) ⟨rfl, rfl, rfl, rfl⟩
  · rintro j d h' acc hj ⟨rfl, rfl⟩
    obtain ⟨hj2, rfl⟩ := rng_at hj
    refine okB_test (okE_op (okE_var rfl (okE_var rfl (okW_eq rfl (okW_eq hkd (w_niPI ⟨_, rfl, rfl, fun e => ?_, fun e => ?_⟩))))))
    · refine okE_var rfl ⟨rfl, rfl, ?_⟩
      rw [filter_take hj2, if_pos e, PI_append]
      rfl
    · refine ⟨rfl, ?_⟩
      rw [filter_take hj2, if_neg (by rw [e]; decide), List.append_nil]
  · rintro h' acc ⟨rfl, rfl⟩
    rw [List.length_map, List.length_range]
    exact p
/-- positions on the way -/
structure Fx (m : Nat) (fx : List Nat) : Prop where
  asc : fx.Pairwise (· < ·)
  lt : ∀ i ∈ fx, i < m
  len : fx.length ≤ 6
theorem near_ok {sp : Option Nat} {P : W → Tb → Prop} {X : Str → List (Str × D) → Tb → Prop} (t : Tk tk) (hb : Bx b n h0 h) (hn : n ≤ 90000000) (hm : m ≤ 1000) (hp : Part m fx sp) (q : ∀ fx sp h', Part m fx sp → Bx b (n + 10) h0 h' → P (.cl (partD (fx, sp))) h') :
    okF (fnM false 3 5 (nearM tk) [.ce b, .int m, partD (fx, sp)] h) P X := by
  refine okF_fn rfl ?_
  show okS (nearM tk [.cl (.ce b), .cl (.int m), .cl (partD (fx, sp)), .un, .un, .un, .un, .un] h) _ _ _ _
  have hl0 := hb.len
  have hbs := hb.self
  unfold nearM
  refine okS_seq (okS_asg (okE_tup (okE_cons (okE_ce (okE_cb (okE_cons (okE_op (okE_var rfl (okE_c (okW_eq rfl (okW_eq rfl (w_ixT (i := 0) rfl (okE_nil (okW_eq rfl (w_listL ?_)))))))))))))))
  refine okE_cons (okE_fr (okE_op (okE_var rfl (okE_c (okW_eq rfl (okW_eq rfl (w_ixT (i := 1) rfl (okE_nil ⟨Nat.le_of_ble_eq_true rfl, okG_tup2 (okG_set (okG_setC ?_))⟩))))))))
  dsimp only [List.set, fzW]
  -- the positions from here on: a cell behind the others
  let fr (s4 s5 s6 : Sl) (k : Nat) : List Sl := [.cl (.ce b), .cl (.int m), .cl (partD (fx, sp)), .cl (.ce k), s4, s5, s6, .un]
  have hk0 : (h ++ [D.lst (PI fx)])[h.length]? = some (.lst (PI fx)) := tail_at0 rfl
  refine okS_seq (okS_asg (free_ok (q := 0) hm hk0 (okG_setC ?_)))
  dsimp only [List.set, fzW]
  refine okS_seq (okS_asg (okE_tkcg t hbs rfl (by omega) (by decide) (by decide) fun w h1 w0 w1 hb1 => okG_setC ?_))
  dsimp only [List.set, fzW]
  have hl1 := hb1.len
  have hnd := hp.nd
  let J : Nat → List Sl → Tb → Prop := fun r ρ h' => ∃ (g : Tb) (j : Nat) (ys : List Nat) (h2 : Tb) (s5 : Sl), ρ = fr (.cl (oI sp)) s5 (.cl (.int w)) (h.length + j) ∧ h' = h2 ++ g ∧ g[j]? = some (.lst (PI ys)) ∧ Fx m ys ∧ Bx b (n + r) h h2
  -- one more
  refine okS_seqM (J 2) (okS_if (okB_and (okB_test (okE_op (okE_var rfl (okE_c (okW_eq rfl (okW_eq rfl (w_lt ⟨_, rfl, fun _ => ?_, fun _ => ?_⟩))))))))) ?_
  · refine okB_test (okE_op (okE_var rfl (okE_eq (w := W.fr (PI [])) rfl (okW_eq rfl (okW_eq rfl (w_ne0 ⟨_, rfl, fun e => ?_, fun _ => ?_⟩))))))
    · have e : (List.range m).filter (fun i => !decide (i ∈ fx)) ≠ [] := by simpa using e
      have hfr : ∀ i ∈ (List.range m).filter (fun i => !decide (i ∈ fx)), i < m ∧ i ∉ fx := fun i hi => by simpa using hi
      have hfl : ((List.range m).filter (fun i => !decide (i ∈ fx))).length ≤ 1000 := Nat.le_trans (List.length_filter_le ..) (by rw [List.length_range]; exact hm)
      generalize (List.range m).filter (fun i => !decide (i ∈ fx)) = free at e hfr hfl ⊢
      have e0 : 0 < free.length := List.length_pos_iff.mpr e
      have hk1 : deref (h1 ++ [D.lst (PI fx)]) (.cl (.ce h.length)) = some (.lst (PI fx)) := tail_at0 hl1
      refine okS_asg (okE_cb (okE_cons (okE_op (okE_var rfl (okE_lst (okE_cons (okE_op (okE_var rfl (okE_tkg (m := free.length) t hb1 rfl (by omega) ?_ (by omega) (by omega) fun x h2 x0 x1 hb2 => ?_)))))))))
      · exact okE_cb (okE_cons (okE_var rfl (okE_nil (okW_eq rfl (w_lenL ⟨rfl, rfl, by rw [PI_len]⟩)))))
      obtain ⟨x, rfl⟩ := Int.eq_ofNat_of_zero_le x0
      have hx : x < free.length := by omega
      have hk2 : deref (h2 ++ [D.lst (PI fx)]) (.cl (.ce h.length)) = some (.lst (PI fx)) := tail_at0 hb2.len
      refine okW_eq rfl (okW_eq rfl (w_ixL (PI_get hx) (okE_nil ⟨Nat.le_of_ble_eq_true rfl, okW_eq hk2 (okW_eq rfl ?_)⟩)))
      have hfx := hp.len
      refine okW_eq (w := W.fr (PI (fx ++ [free[x]]))) (by
        show (if (PI fx).length + 1 ≤ 100000 then some (W.fr (PI fx ++ [D.int (free[x] : Nat)])) else none) = _
        rw [PI_len, if_pos (by omega), PI_append]
        rfl) (okE_nil (okW_eq rfl (w_srtPI (by rw [List.length_append, List.length_singleton]; omega) fun ys hy hs => okG_set ?_)))
      dsimp only [List.set]
      obtain ⟨hx1, hx2⟩ := hfr _ (List.getElem_mem hx)
      refine ⟨[.lst (PI fx), .lst (PI ys)], 1, ys, h2, .cl (.lst (PI free)), ?_, by rw [List.append_assoc]; rfl, rfl, ⟨asc_of hs (hy.nodup_iff.mpr ?_), fun i hi => ?_, ?_⟩, hb2⟩
      · rw [List.length_append, hb2.len]
        rfl
      · rw [List.nodup_append]
        refine ⟨hnd, by simp, fun a ha c hc z => ?_⟩
        rw [List.mem_singleton.mp hc] at z
        rw [z] at ha
        exact hx2 ha
      · rcases List.mem_append.mp (hy.mem_iff.mp hi) with z | z
        · exact hp.lt i z
        · rw [List.mem_singleton.mp z]
          exact hx1
      · rw [hy.length_eq, List.length_append, List.length_singleton]
        omega
    · exact okS_next ⟨[.lst (PI fx)], 0, fx, h1, _, rfl, rfl, rfl, ⟨hp.asc, hp.lt, by have := hp.len; omega⟩, hb1.mono (by omega)⟩
  · exact ⟨(fun z => nomatch z), fun _ => okS_next ⟨[.lst (PI fx)], 0, fx, h1, _, rfl, rfl, rfl, ⟨hp.asc, hp.lt, by have := hp.len; omega⟩, hb1.mono (by omega)⟩⟩
  -- one fewer
  rintro ρ h' ⟨g, j, ys, h2, s5, rfl, rfl, hg, hy, hb2⟩
  have at_ : ∀ {h2 g : Tb} {ys : List Nat}, h2.length = h.length → g[j]? = some (.lst (PI ys)) → (h2 ++ g)[h.length + j]? = some (.lst (PI ys)) := fun e1 e2 => (tail_at e1).trans e2
  refine okS_seqM (fun ρ h' => ∃ (g : Tb) (ys : List Nat) (h2 : Tb) (s5 : Sl), ρ = fr (.cl (oI sp)) s5 (.cl (.int w)) (h.length + j) ∧ h' = h2 ++ g ∧ g[j]? = some (.lst (PI ys)) ∧ Fx m ys ∧ Bx b (n + 3) h h2) (okS_if (okB_and (okB_test (okE_op (okE_var rfl (okE_c (okW_eq rfl (okW_eq rfl (w_eqi ⟨_, rfl, fun _ => ?_, fun _ => ?_⟩))))))))) ?_
  · refine okB_test (okE_op (okE_var rfl (okE_eq (w := W.fr (PI [])) rfl (okW_eq (at_ hb2.len hg : deref (h2 ++ g) (.cl (.ce (h.length + j))) = some (.lst (PI ys))) (okW_eq rfl (w_ne0 ⟨_, rfl, fun e => ?_, fun _ => ?_⟩))))))
    · have e : ys ≠ [] := by simpa using e
      have e0 : 0 < ys.length := List.length_pos_iff.mpr e
      have hyl := hy.len
      refine okS_drop (okE_mut (okE_var rfl (okW_lstAt (at_ hb2.len hg) (okE_cons (okE_tkg (m := ys.length) t hb2 rfl (by omega) ?_ (by omega) (by omega) fun x h3 x0 x1 hb3 => ?_)))))
      · exact okE_cb (okE_cons (okE_var rfl (okE_nil (okW_derefC (at_ hb2.len hg) (w_lenL ⟨rfl, rfl, by rw [PI_len]⟩)))))
      refine okE_nil (okW_lstAt (at_ hb3.len hg) (popAt_ok (cs := PI ys) x0 (by rw [PI_len]; exact x1) (by rw [PI_len]; omega) fun hx => ?_))
      rw [tail_set hb3.len, PI_erase]
      have hjl := (List.getElem?_eq_some_iff.mp hg).1
      refine ⟨g.set j (.lst (PI (ys.eraseIdx x.toNat))), ys.eraseIdx x.toNat, h3, _, rfl, rfl, List.getElem?_set_self hjl, ⟨hy.asc.sublist (List.eraseIdx_sublist ..), fun i hi => hy.lt i ((List.eraseIdx_sublist ..).subset hi), Nat.le_trans (List.eraseIdx_sublist ..).length_le hyl⟩, hb3⟩
    · exact okS_next ⟨g, ys, h2, _, rfl, rfl, hg, hy, hb2.mono (by omega)⟩
  · exact ⟨(fun z => nomatch z), fun _ => okS_next ⟨g, ys, h2, _, rfl, rfl, hg, hy, hb2.mono (by omega)⟩⟩
  clear hb2 hy hg ys g h2
  rintro ρ h' ⟨g, ys, h2, s5, rfl, rfl, hg, hy, hb2⟩
  refine okS_seq (okS_asg (free_ok (q := 0) hm (at_ hb2.len hg) (okG_setC ?_)))
  dsimp only [List.set, fzW]
  have hfr : ∀ i ∈ (List.range m).filter (fun i => !decide (i ∈ ys)), i < m ∧ i ∉ ys := fun i hi => by simpa using hi
  have hfl : ((List.range m).filter (fun i => !decide (i ∈ ys))).length ≤ 1000 := Nat.le_trans (List.length_filter_le ..) (by rw [List.length_range]; exact hm)
  generalize (List.range m).filter (fun i => !decide (i ∈ ys)) = free at hfr hfl ⊢
  have atd : ∀ {h3 : Tb}, h3.length = h.length → deref (h3 ++ g) (.cl (.ce (h.length + j))) = some (.lst (PI ys)) := fun e1 => at_ e1 hg
  -- the span
  refine okS_seqM (fun ρ h' => ∃ sp' : Option Nat, ρ = fr (.cl (oI sp')) (.cl (.lst (PI free))) (.cl (.int w)) (h.length + j) ∧ h' = h2 ++ g ∧ ∀ i, sp' = some i → i < m ∧ i ∉ ys) (okS_if (okB_or (okB_test (okE_op (okE_var rfl (okE_var rfl (okW_eq (w := oI sp) (by cases sp <;> rfl) (okW_eq (atd hb2.len) (w_in dInB_oI ⟨_, rfl, fun _ => ?_, fun e => ?_⟩))))))))) ?_
  · exact ⟨fun _ => okS_asg (okE_c (okG_setC ⟨none, rfl, rfl, fun i e => by cases e⟩)), (fun z => nomatch z)⟩
  · have e := of_decide_eq_false e
    refine okB_test (okE_op (okE_var rfl (okE_c (okW_eq rfl (okW_eq rfl (w_eqi ⟨_, rfl, fun _ => ?_, fun _ => ?_⟩))))))
    · exact okS_asg (okE_c (okG_setC ⟨none, rfl, rfl, fun i e => by cases e⟩))
    · exact okS_next ⟨sp, rfl, rfl, fun i ei => ⟨(hp.sp i ei).1, fun z => e ⟨i, ei, z⟩⟩⟩
  rintro ρ h' ⟨sp1, rfl, rfl, hsp1⟩
  refine okS_seqM (fun ρ h' => ∃ (sp' : Option Nat) (h3 : Tb), ρ = fr (.cl (oI sp')) (.cl (.lst (PI free))) (.cl (.int w)) (h.length + j) ∧ h' = h3 ++ g ∧ (∀ i, sp' = some i → i < m ∧ i ∉ ys) ∧ Bx b (n + 5) h h3) (okS_if (okB_and (okB_test (okE_op (okE_var rfl (okE_eq (w := W.fr (PI [])) rfl (okW_eq rfl (okW_eq rfl (w_ne0 ⟨_, rfl, fun e => ?_, fun _ => ?_⟩))))))))) ?_
  · have e : free ≠ [] := by simpa using e
    have e0 : 0 < free.length := List.length_pos_iff.mpr e
    refine okB_test (okE_op (okE_tkcg t hb2 rfl (by omega) (by decide) (by decide) fun x h3 x0 x1 hb3 => okE_c (okW_eq rfl (okW_eq rfl (w_eqi ⟨_, rfl, fun _ => ?_, fun _ => ?_⟩)))))
    · refine okS_asg (okE_op (okE_var rfl (okE_tkg (m := free.length) t hb3 rfl (by omega) ?_ (by omega) (by omega) fun y h4 y0 y1 hb4 => ?_)))
      · exact okE_cb (okE_cons (okE_var rfl (okE_nil (okW_eq rfl (w_lenL ⟨rfl, rfl, by rw [PI_len]⟩)))))
      obtain ⟨y, rfl⟩ := Int.eq_ofNat_of_zero_le y0
      have hy2 : y < free.length := by omega
      refine okW_eq rfl (okW_eq rfl (w_ixL (PI_get hy2) (okG_setC ⟨some free[y], h4, rfl, rfl, fun i e => ?_, hb4⟩)))
      cases e
      exact hfr _ (List.getElem_mem hy2)
    · exact okS_next ⟨sp1, h3, rfl, rfl, hsp1, hb3.mono (by omega)⟩
  · exact ⟨(fun z => nomatch z), fun _ => okS_next ⟨sp1, h2, rfl, rfl, hsp1, hb2.mono (by omega)⟩⟩
  rintro ρ h' ⟨sp2, h3, rfl, rfl, hsp2, hb3⟩
  refine okS_ret (okE_tup (okE_cons (okE_sl (okE_var rfl (okE_nopart (okE_part (okE_c ⟨(5 : Nat), rfl, okW_eq (atd hb3.len) (w_sl ?_)⟩)))))))
  have e5 : cutL (PI ys) none (some ((5 : Nat) : Int)) = PI (ys.take 5) := by
    rw [cut_take]
    unfold PI
    rw [List.map_take]
  rw [e5]
  have fin : ∀ sp3 : Option Nat, (∀ i, sp3 = some i → i < m ∧ i ∉ ys ∧ ys.length < 5) → okW (cutF false h (.cl (partD (ys.take 5, sp3))) (h3 ++ g)) fun x => P x.1 x.2 := fun sp3 hs => by
    refine cut_app hb3.len (Bx.cut hbs hb3) (fun _ z => by cases z) (below_part (ys.take 5, sp3)) (q _ sp3 h3 ⟨hy.asc.sublist (List.take_sublist ..), fun i hi => hy.lt i (List.mem_of_mem_take hi), by rw [List.length_take]; omega, fun i e => ?_⟩ ((hb.trans hb3).mono (by omega)))
    obtain ⟨a1, a2, a3⟩ := hs i e
    exact ⟨a1, fun z => a2 (List.mem_of_mem_take z), by rw [List.length_take]; omega⟩
  refine okE_cons (okE_if (okB_test (okE_op (okE_cb (okE_cons (okE_var rfl (okE_nil (okW_derefC (at_ hb3.len hg) (w_lenL (okE_c (okW_eq rfl (okW_eq rfl (w_lt ⟨_, rfl, fun e => ?_, fun e => ?_⟩)))))))))))))
  · have e : ys.length < 5 := by
      have := of_decide_eq_true e
      rw [PI_len] at this
      omega
    exact okE_var rfl (okE_nil ⟨Nat.le_of_ble_eq_true rfl, fin sp2 fun i ei => ⟨(hsp2 i ei).1, (hsp2 i ei).2, e⟩⟩)
  · exact okE_c (okE_nil ⟨Nat.le_of_ble_eq_true rfl, fin none fun i ei => by cases ei⟩)
end
end CM

/-! CW7: drawn lists of parts. -/
namespace CM
open PySem PySem.Spec PyProof.Rows L2 SL
abbrev Pt := List Nat × Option Nat
def pdI : Option Nat → PyData
  | none => .none
  | some i => .int (i : Nat)
def pdPt (p : Pt) : PyData := .tuple [.list (p.1.map fun i : Nat => PyData.int (i : Int)), pdI p.2]
theorem pd_oI' (s : Option Nat) : pd (oI s) = some (pdI s) := by cases s <;> rfl
theorem pd_part (p : Pt) : pd (partD p) = some (pdPt p) := by
  show (pds [.lst (PI p.1), oI p.2]).map PyData.tuple = _
  show ((pd (.lst (PI p.1))).bind fun x => ((pd (oI p.2)).bind fun y => (some []).map (y :: ·)).map (x :: ·)).map PyData.tuple = _
  rw [pd_PI, pd_oI']
  rfl
theorem pds_parts : ∀ ps : List Pt, pds (ps.map partD) = some (ps.map pdPt)
  | [] => rfl
  | p :: ps => by
    show (pd (partD p)).bind (fun x => (pds (ps.map partD)).map (x :: ·)) = _
    rw [pd_part, pds_parts ps]
    rfl
theorem eqv_I (s t : Option Nat) : PyData.eqv (pdI s) (pdI t) = decide (s = t) := by
  cases s <;> cases t <;> simp [pdI, PyData.eqv]
  rw [Bool.eq_iff_iff, beq_iff_eq, decide_eq_true_eq]
  omega
theorem eqv_pt (p q : Pt) : PyData.eqv (pdPt p) (pdPt q) = decide (p = q) := by
  obtain ⟨a, s⟩ := p
  obtain ⟨b, t⟩ := q
  show PyData.eqv (.tuple _) (.tuple _) = _
  rw [PyData.eqv, PyData.eqvAll, PyData.eqvAll, PyData.eqvAll, PyData.eqv, eqv_ints, eqv_I, Bool.and_true, Bool.eq_iff_iff, Bool.and_eq_true, decide_eq_true_eq, decide_eq_true_eq, decide_eq_true_eq, Prod.mk.injEq]
theorem lay_pt (p : Pt) : PyData.canLay0 (pdPt p) = true ∧ PyData.depth (pdPt p) ≤ 2 := by
  obtain ⟨a, s⟩ := p
  unfold pdPt
  cases s <;> simp [pdI, PyData.canLay0, PyData.canLayAll0, PyData.depth, PyData.depthAll, canLay_ints, depth_ints]
theorem lay_pts : ∀ ps : List Pt, PyData.canLayAll0 (ps.map pdPt) = true ∧ PyData.depthAll (ps.map pdPt) ≤ 2
  | [] => ⟨by simp [PyData.canLayAll0], by simp [PyData.depthAll]⟩
  | p :: ps => by
    obtain ⟨a, b⟩ := lay_pt p
    obtain ⟨c, d⟩ := lay_pts ps
    rw [List.map_cons, PyData.canLayAll0, PyData.depthAll, a, c]
    exact ⟨rfl, by omega⟩
theorem shaped_pt (p : Pt) : SeqAt.shaped (pdPt p) = true := by
  obtain ⟨a, b⟩ := lay_pt p
  unfold SeqAt.shaped
  rw [a, Bool.true_and, decide_eq_true_eq]
  omega
theorem shaped_pts (ps : List Pt) : SeqAt.shaped (.list (ps.map pdPt)) = true := by
  obtain ⟨a, b⟩ := lay_pts ps
  unfold SeqAt.shaped
  rw [PyData.canLay0, PyData.depth, a, Bool.true_and, decide_eq_true_eq]
  omega
theorem dInDB_pt (p : Pt) (ps : List Pt) : dInDB (partD p) (.lst (ps.map partD)) = some (decide (p ∈ ps)) := by
  unfold dInDB
  rw [pd_part]
  show ((pds (ps.map partD)).map PyData.list).bind (fun y => match y with
    | .list ys => if SeqAt.shaped (pdPt p) = true ∧ SeqAt.shaped (.list ys) = true then some (ys.any fun z => PyData.eqv z (pdPt p)) else none
    | _ => none) = _
  rw [pds_parts]
  show (if SeqAt.shaped (pdPt p) = true ∧ SeqAt.shaped (.list (ps.map pdPt)) = true then some ((ps.map pdPt).any fun z => PyData.eqv z (pdPt p)) else none) = _
  rw [if_pos ⟨shaped_pt p, shaped_pts ps⟩]
  congr 1
  rw [Bool.eq_iff_iff, List.any_eq_true, decide_eq_true_eq]
  constructor
  · rintro ⟨x, hx, e⟩
    obtain ⟨q, hq, rfl⟩ := List.mem_map.mp hx
    rw [eqv_pt, decide_eq_true_eq] at e
    rw [← e]
    exact hq
  · intro h
    exact ⟨pdPt p, List.mem_map.mpr ⟨p, h, rfl⟩, by rw [eqv_pt, decide_eq_true rfl]⟩
theorem w_niPt {p : Pt} {ps : List Pt} {Q : W → Prop} (q : Q (.cl (.bl (!decide (p ∈ ps))))) : okW (dNiD (partD p) (.lst (ps.map partD))) Q := ⟨_, by
  unfold dNiD
  rw [dInDB_pt]
  rfl, q⟩
theorem w_nePt0 {ps : List Pt} {Q : W → Prop} (q : Q (.cl (.bl (!decide (ps = []))))) : okW (dNe (.lst (ps.map partD)) (.lst [])) Q := w_ne (by
  show ((pds (ps.map partD)).map PyData.list).bind (fun x => (some (PyData.list [])).bind fun y => if SeqAt.shaped x = true ∧ SeqAt.shaped y = true then some (PyData.eqv x y) else none) = _
  rw [pds_parts]
  show (if SeqAt.shaped (.list (ps.map pdPt)) = true ∧ SeqAt.shaped (.list []) = true then some (PyData.eqv (.list (ps.map pdPt)) (.list [])) else none) = _
  rw [if_pos ⟨shaped_pts ps, shaped_pts []⟩, PyData.eqv]
  cases ps <;> simp [PyData.eqvAll]) q
theorem below_parts {k : Nat} (ps : List Pt) : below k (.lst (ps.map partD)) = true := by
  rw [below_lst, List.all_eq_true]
  intro d hd
  obtain ⟨p, _, rfl⟩ := List.mem_map.mp hd
  exact below_part p
structure Parts (m most : Nat) (ps : List Pt) : Prop where
  ok : ∀ p ∈ ps, Part m p.1 p.2
  nd : ps.Nodup
  len : ps.length ≤ most
section
variable {ρ : List Sl} {h h0 h1 g : Tb} {P : Ps W} {X : Px} {N : List Sl → Tb → Prop} {T : Ps W} {L : Bool → List Sl → Tb → Prop} {tk pk nr : Fnm} {b n k i j len m most : Nat} {c : D} {fx : List Nat}
local macro_rules | `(tactic| walk_at "hv") => `(tactic| first | rfl | assumption | (exact (by assumption : _)))
local macro_rules | `(tactic| walk_at "p1") => `(tactic| first
  | with_reducible refine CM.okS_seq ?_ | with_reducible refine CM.okS_next ?_ | with_reducible refine CM.okS_asg ?_ | with_reducible refine CM.okS_ret ?_ | with_reducible refine CM.okS_drop ?_ | with_reducible refine CM.okS_aug ?_ | with_reducible refine CM.okS_cnt ?_ | with_reducible refine CM.okS_fg ?_ | with_reducible refine CM.okS_retN ?_
  | with_reducible refine CM.okE_op ?_ | with_reducible refine CM.okE_cb ?_ | with_reducible refine CM.okE_cons ?_ | with_reducible refine CM.okE_nil ?_ | with_reducible refine CM.okB_not ?_ | with_reducible refine CM.okE_c ?_ | with_reducible refine CM.okE_fr ?_ | with_reducible refine CM.okE_ce ?_ | with_reducible refine CM.okE_notV ?_ | with_reducible refine CM.okE_un ?_
  | with_reducible refine CM.okE_sl ?_ | with_reducible refine CM.okE_nopart ?_
  | ((with_reducible refine' CM.okE_var ?hv ?_); (case hv => rfl))
  | ((with_reducible refine' CM.okE_part (CM.okE_var ?hv ⟨_, ?hv2, ?_⟩)); (case hv => rfl); (case hv2 => rfl))
  | ((with_reducible refine' CM.okE_part (CM.okE_c ⟨_, ?hv2, ?_⟩)); (case hv2 => rfl))
  | ((with_reducible refine' CM.okW_eq (w := _) ?hv ?_); (case hv => (with_reducible rfl)))
  | ((with_reducible refine' CM.okW_deref ?hv ?_); (case hv => walk_at "hv")) | ((with_reducible refine' CM.okW_derefs ?hv ?_); (case hv => rfl)) | ((with_reducible refine' CM.okW_derefC ?hv ?_); (case hv => walk_at "hv")) | ((with_reducible refine' CM.okW_lstAt ?hv ?_); (case hv => walk_at "hv"))
  | with_reducible refine CM.w_add ?_ | with_reducible refine CM.w_sub ?_ | with_reducible refine CM.w_lt ?_ | with_reducible refine CM.w_le ?_ | with_reducible refine CM.w_gt ?_ | with_reducible refine CM.w_ge ?_ | with_reducible refine CM.w_addI ?_
  | with_reducible refine CM.w_mod (by omega) ?_ | with_reducible refine CM.w_div (by omega) (by rw [CM.big_eq]; omega) ?_ | with_reducible refine CM.w_mul (by rw [CM.big_eq]; omega) (by rw [CM.big_eq]; omega) (by rw [CM.big_eq]; omega) (by rw [CM.big_eq]; omega) ?_ | with_reducible refine CM.w_sq (by omega) (by omega) ?_
  | with_reducible refine CM.w_max2 ?_ | with_reducible refine CM.w_min2 ?_ | with_reducible refine CM.w_lenL ?_ | with_reducible refine CM.w_lenT ?_ | with_reducible refine CM.w_lenC ?_ | with_reducible refine CM.w_listL ?_ | with_reducible refine CM.w_listT ?_ | with_reducible refine CM.w_tupL ?_ | with_reducible refine CM.w_tupT ?_
  | ((with_reducible refine CM.okG_setC ?_); (try dsimp only [List.set, CM.fzW]))
  | ((with_reducible refine' CM.okW_ix ?hv ?_); (case hv => rfl))
  | ((with_reducible refine' CM.okB_test (CM.okE_eqn ⟨_, ?hv, ?_⟩)); (case hv => rfl))
  | ((with_reducible refine' CM.okB_testd ⟨_, ?hv, ?_⟩); (case hv => rfl)))
local macro_rules | `(tactic| walk_at "p") => `(tactic| repeat walk_at "p1")
theorem parts_ok {P : W → Tb → Prop} {X : Str → List (Str × D) → Tb → Prop} (t : Tk tk) (hpk : pk = fnM false 3 3 (pickM tk)) (hnr : nr = fnM false 3 5 (nearM tk)) (hb : Bx b n h0 h) (hn : n ≤ 80000000) (hm : m ≤ 1000) (hmost : most ≤ 1000)
    (q : ∀ ps h', Parts m most ps → Bx b (n + 10 + 30 * most) h0 h' → P (W.fr (ps.map partD)) h') :
    okF (fnM false 3 5 (partsM tk pk nr) [.ce b, .int m, .int most] h) P X := by
  refine okF_fn rfl ?_
  show okS (partsM tk pk nr [.cl (.ce b), .cl (.int m), .cl (.int most), .un, .un, .un, .un, .un] h) _ _ _ _
  have hl0 := hb.len
  have hbs := hb.self
  unfold partsM
  refine okS_seq (okS_par3 (okE_cons (okE_eq (w := W.fr []) rfl (okE_cons (okE_eq (w := W.fr []) rfl (okE_cons (okE_tkc t hbs rfl (by omega) (by decide) (by decide) fun mode h1 m0 m1 hb1 => okE_nil ⟨_, _, _, rfl, ?_⟩)))))))
  show okS _ _ _ _ _
  dsimp only [gPut, List.set, fzW]
  rw [List.append_assoc, List.length_append, List.length_singleton, hb1.len]
  dsimp only [List.cons_append, List.nil_append]
  refine okS_seq (okS_for (rng_ok (m := most) (it := ⟨[], []⟩) hmost (okE_eq rfl ⟨rfl, rfl, rfl⟩) ?_))
  let fr (s6 s7 : Sl) : List Sl := [.cl (.ce b), .cl (.int m), .cl (.int most), .cl (.ce h.length), .cl (.ce (h.length + 1)), .cl (.int mode), s6, s7]
  refine okS_loop0 (fun j ρ h' => ∃ (fs rs : List Pt) (h2 : Tb) (s6 s7 : Sl), ρ = fr s6 s7 ∧ h' = h2 ++ [.lst (fs.map partD), .lst (rs.map partD)] ∧ Parts m j fs ∧ rs.length = j ∧ (∀ p ∈ rs, Part m p.1 p.2) ∧ Bx b (n + 1 + 30 * j) h h2) _ 0 ⟨[], [], h1, _, _, rfl, rfl, ⟨fun p z => absurd z List.not_mem_nil, .nil, Nat.le_refl _⟩, rfl, (fun p z => absurd z List.not_mem_nil), hb1⟩ ?_ ?_
  · rintro j d ρ h' hj ⟨fs, rs, h2, s6, s7, rfl, rfl, g1, g2, g3, hb2⟩
    obtain ⟨hj2, rfl⟩ := rng_at hj
    rw [Nat.zero_add] at g1 g2 hb2 ⊢
    have hl2 := hb2.len
    refine okG_setC ?_
    dsimp only [fr, List.set, fzW]
    -- a part drawn
    refine okS_seq (okS_asg (okE_call (okE_cons (okE_ce (okE_var rfl (okE_cons (okE_fr (okE_var rfl (okE_cons (okE_fr (okE_c (okE_nil ?_))))))))))))
    subst hpk
    refine pick_ok t hb2.app (by omega) hm fun fx sp h3 hp hb3 => ?_
    obtain ⟨h4, rfl, hb4⟩ := hb3.unapp (by rw [← hb2.len]; exact hb2.lt)
    have hl4 := hb4.len
    refine okG_setC ?_
    dsimp only [List.set, fzW]
    -- or one that is near
    refine okS_seqM (fun ρ h' => ∃ (p : Pt) (h5 : Tb), ρ = fr (.cl (.int (j : Nat))) (.cl (partD p)) ∧ h' = h5 ++ [.lst (fs.map partD), .lst (rs.map partD)] ∧ Part m p.1 p.2 ∧ Bx b (n + 1 + 30 * j + 22) h h5) (okS_if (okB_and (okB_test (okE_op (okE_var rfl (okE_c (okW_eq rfl (okW_eq rfl (w_gt ⟨_, rfl, fun _ => ?_, fun _ => ?_⟩))))))))) ?_
    · refine okB_and (okB_test (okE_op (okE_var rfl (okE_eq (w := W.fr []) rfl (okW_eq (tail_at (i := 1) hl4 : deref (h4 ++ [D.lst (fs.map partD), D.lst (rs.map partD)]) (.cl (.ce (h.length + 1))) = some (.lst (rs.map partD))) (okW_eq rfl (w_nePt0 ⟨_, rfl, fun e => ?_, fun _ => ?_⟩)))))))
      · have e : rs ≠ [] := by simpa using e
        have e0 : 0 < rs.length := List.length_pos_iff.mpr e
        refine okB_test (okE_op (okE_tkcg t hb4 rfl (by omega) (by decide) (by decide) fun w h5 w0 w1 hb5 => okE_c (okW_eq rfl (okW_eq rfl (w_gt ⟨_, rfl, fun _ => ?_, fun _ => ?_⟩)))))
        · have hl5 := hb5.len
          refine okS_asg (okE_call (okE_cons (okE_ce (okE_var rfl (okE_cons (okE_fr (okE_var rfl (okE_cons (okE_fr (okE_op (okE_var rfl (okE_tkg (m := rs.length) t hb5 rfl (by omega) ?_ (by omega) (by omega) fun x h6 x0 x1 hb6 => ?_))))))))))))
          · exact okE_cb (okE_cons (okE_var rfl (okE_nil (okW_derefC (tail_at (i := 1) hl5) (w_lenL ⟨rfl, rfl, by rw [List.length_map]⟩)))))
          obtain ⟨x, rfl⟩ := Int.eq_ofNat_of_zero_le x0
          have hx : x < rs.length := by omega
          have hl6 := hb6.len
          refine okW_eq (tail_at (i := 1) hl6 : deref (h6 ++ [D.lst (fs.map partD), D.lst (rs.map partD)]) (.cl (.ce (h.length + 1))) = some (.lst (rs.map partD))) (okW_eq rfl (w_ixL (d := partD rs[x]) (by rw [List.getElem?_map, List.getElem?_eq_getElem hx]; rfl) (okE_nil ?_)))
          subst hnr
          refine near_ok t hb6.app (by omega) hm (g3 rs[x] (List.getElem_mem hx)) fun fx sp h7 hp hb7 => ?_
          obtain ⟨h8, rfl, hb8⟩ := hb7.unapp (by rw [← hb6.len]; exact hb6.lt)
          exact okG_setC ⟨(fx, sp), h8, rfl, rfl, hp, hb8.mono (by omega)⟩
        · exact okS_next ⟨(fx, sp), h5, rfl, rfl, hp, hb5.mono (by omega)⟩
      · exact ⟨(fun z => nomatch z), fun _ => okS_next ⟨(fx, sp), h4, rfl, rfl, hp, hb4.mono (by omega)⟩⟩
    · exact ⟨(fun z => nomatch z), fun _ => okS_next ⟨(fx, sp), h4, rfl, rfl, hp, hb4.mono (by omega)⟩⟩
    rintro ρ h' ⟨p, h5, rfl, rfl, hp5, hb5⟩
    have hl5 := hb5.len
    have hrl : rs.length < 100000 := by omega
    refine okS_seq (okS_drop (okE_mut (okE_var rfl (okW_lstAt (tail_at (i := 1) hl5) (okE_cons (okE_var rfl (okE_nil (okW_lstAt (tail_at (i := 1) hl5) (w_append (by rw [List.length_map]; omega) ?_)))))))))
    rw [tail_set hl5]
    have er : (rs.map partD) ++ [partD p] = (rs ++ [p]).map partD := by rw [List.map_append]; rfl
    have ef : (fs.map partD) ++ [partD p] = (fs ++ [p]).map partD := by rw [List.map_append]; rfl
    show okS _ _ _ _ _
    dsimp only [List.set, fzW]
    rw [er]
    have hrs : ∀ q ∈ rs ++ [p], Part m q.1 q.2 := fun q hq => by
      rcases List.mem_append.mp hq with z | z
      · exact g3 q z
      · rw [List.mem_singleton.mp z]
        exact hp5
    have hrn : (rs ++ [p]).length = j + 1 := by rw [List.length_append, g2, List.length_singleton]
    have same : ∀ h6, Bx b (n + 1 + 30 * j + 23) h h6 → ∃ (fs' rs' : List Pt) (h2 : Tb) (s6 s7 : Sl), fr (.cl (.int (j : Nat))) (.cl (partD p)) = fr s6 s7 ∧ h6 ++ [D.lst (fs.map partD), D.lst ((rs ++ [p]).map partD)] = h2 ++ [.lst (fs'.map partD), .lst (rs'.map partD)] ∧ Parts m (j + 1) fs' ∧ rs'.length = j + 1 ∧ (∀ p ∈ rs', Part m p.1 p.2) ∧ Bx b (n + 1 + 30 * (j + 1)) h h2 := fun h6 hb6 =>
      ⟨fs, rs ++ [p], h6, _, _, rfl, rfl, ⟨g1.ok, g1.nd, by have := g1.len; omega⟩, hrn, hrs, hb6.mono (by omega)⟩
    refine okS_if (okB_and (okB_test (okE_op (okE_var rfl (okE_var rfl (okW_eq rfl (okW_eq (tail_at0 hl5 : deref (h5 ++ [D.lst (fs.map partD), D.lst ((rs ++ [p]).map partD)]) (.cl (.ce h.length)) = some (.lst (fs.map partD))) (w_niPt ⟨_, rfl, fun e => ?_, fun _ => ?_⟩))))))))
    · have e : p ∉ fs := by simpa using e
      refine okB_test (okE_op (okE_tkcg t hb5 rfl (by omega) (by decide) (by decide) fun w h6 w0 w1 hb6 => okE_c (okW_eq rfl (okW_eq rfl (w_gt ⟨_, rfl, fun _ => ?_, fun _ => ?_⟩)))))
      · have hl6 := hb6.len
        have hfl := g1.len
        refine okS_drop (okE_mut (okE_var rfl (okW_lstAt (tail_at0 hl6) (okE_cons (okE_var rfl (okE_nil (okW_lstAt (tail_at0 hl6) (w_append (by rw [List.length_map]; omega) ?_))))))))
        rw [tail_set0 hl6]
        dsimp only [List.set, fzW]
        rw [ef]
        refine ⟨fs ++ [p], rs ++ [p], h6, _, _, rfl, rfl, ⟨fun q hq => ?_, ?_, by rw [List.length_append, List.length_singleton]; omega⟩, hrn, hrs, hb6.mono (by omega)⟩
        · rcases List.mem_append.mp hq with z | z
          · exact g1.ok q z
          · rw [List.mem_singleton.mp z]
            exact hp5
        · rw [List.nodup_append]
          refine ⟨g1.nd, by simp, fun a ha c hc z => ?_⟩
          rw [List.mem_singleton.mp hc] at z
          rw [z] at ha
          exact e ha
      · exact okS_next (same h6 (hb6.mono (by omega)))
    · exact ⟨(fun z => nomatch z), fun _ => okS_next (same h5 (hb5.mono (by omega)))⟩
  rintro ρ h' ⟨fs, rs, h2, s6, s7, rfl, rfl, g1, g2, g3, hb2⟩
  rw [List.length_map, List.length_range, Nat.zero_add] at g1 g2 hb2
  have hl2 := hb2.len
  refine okS_ret (okE_var rfl ?_)
  exact cut_own hl2 (Bx.cut hbs hb2) (Nat.le_refl _) (tail_at0 hl2) (below_parts _) (q fs h2 g1 ((hb.trans hb2).mono (by omega)))
/-- all columns of a part -/
def wholeP (p : Pt) : List Nat := p.1 ++ p.2.toList
theorem whole_ok {P : W → Tb → Prop} {X : Str → List (Str × D) → Tb → Prop} {p : Pt} (hl : p.1.length ≤ 1000) (q : P (W.fr (PI (wholeP p))) h) : okF (fnM false 1 1 wholeM [partD p] h) P X := by
  refine okF_fn rfl ?_
  show okS (wholeM [.cl (partD p), .un] h) _ _ _ _
  unfold wholeM
  refine okS_ret (okE_op (okE_cb (okE_cons (okE_op (okE_var rfl (okE_c (okW_eq rfl (okW_eq rfl (w_ixT (i := 0) rfl (okE_nil (okW_eq rfl (w_listL ?_))))))))))))
  refine okE_lcF (ds := [oI p.2]) (fun j h' acc => h' = h ∧ acc = PI ((if j = 0 then none else p.2 : Option Nat).toList)) rfl ?_ ?_ ?_
  · refine okE_iU (okE_lst (okE_cons (okE_op (okE_var rfl (okE_c (okW_eq rfl (okW_eq rfl (w_ixT (i := 1) rfl (okE_nil ⟨Nat.le_of_ble_eq_true rfl, ?_⟩)))))))))
    exact okW_eq rfl (okW_eq rfl ⟨Nat.le_of_ble_eq_true rfl, rfl, rfl, rfl, rfl⟩)
  · rintro j d h' acc hj ⟨rfl, rfl⟩
    have hj0 : j = 0 := by
      have := (List.getElem?_eq_some_iff.mp hj).1
      simpa using this
    subst hj0
    cases hj
    cases p.2 with
    | none => exact okB_test (okE_op (okE_var rfl (okE_c (okW_eq rfl (okW_eq rfl (okW_eq (w := .cl (.bl false)) rfl ⟨_, rfl, rfl, (fun z => nomatch z), fun _ => ⟨rfl, rfl⟩⟩))))))
    | some i => exact okB_test (okE_op (okE_var rfl (okE_c (okW_eq rfl (okW_eq rfl (okW_eq (w := .cl (.bl true)) rfl ⟨_, rfl, rfl, fun _ => okE_var rfl ⟨rfl, rfl, rfl⟩, (fun z => nomatch z)⟩))))))
  · rintro h' acc ⟨rfl, rfl⟩
    refine okW_eq rfl (okW_eq rfl (okW_eq (w := W.fr (PI (wholeP p))) ?_ (cut_same rfl q)))
    have h2 : p.2.toList.length ≤ 1 := by cases p.2 <;> simp
    show (if (PI p.1).length + (PI p.2.toList).length ≤ 100000 then some (W.fr (PI p.1 ++ PI p.2.toList)) else none) = _
    rw [PI_len, PI_len, if_pos (by omega), ← PI_append]
    rfl
end
end CM

/-! CX0: what the program's defs answer: names, shapes. -/
namespace CM
open PySem PySem.Spec PyProof.Rows L2 SL
/-! kinds -/
theorem w_isi {c : Cd} {ks : List Kd} {d x : D} {k : Kd} {Q : W → Prop} (hx : cdIs c x.u = true) (hk : kd d.u = some k) (hm : k ∈ ks) (q : Q (.cl (.bl (insK k c)))) : okW (dIsi c (tabK ks c) [d, x]) Q := ⟨_, by
  show (if cdIs c x.u = true then (kd d.u).bind fun k => (lookK k (tabK ks c)).map fun b => W.cl (.bl b) else none) = _
  rw [if_pos hx, hk]
  show (lookK k (tabK ks c)).map _ = _
  unfold tabK
  rw [look_map hm]
  rfl, q⟩
theorem w_isiT {cs : List Cd} {ks : List Kd} {d : D} {ds : List D} {k : Kd} {Q : W → Prop} (hx : cdsAre cs ds = true) (hk : kd d.u = some k) (hm : k ∈ ks) (q : Q (.cl (.bl (cs.any (insK k))))) : okW (dIsiT cs (tabKT ks cs) [d, .tup ds]) Q := ⟨_, by
  show (if cdsAre cs ds = true then (kd d.u).bind fun k => (lookK k (tabKT ks cs)).map fun b => W.cl (.bl b) else none) = _
  rw [if_pos hx, hk]
  show (lookK k (tabKT ks cs)).map _ = _
  unfold tabKT
  rw [look_map hm]
  rfl, q⟩
def nmB (z : Str) : Bool := decide (1 ≤ z.cps.toList.length) && decide (z.cps.toList.length ≤ 8) && z.cps.toList.all fun c => decide (c ∈ lets)
theorem nmB_iff {z : Str} : nmB z = true ↔ Nm z := by
  unfold nmB Nm NmL
  simp only [Bool.and_eq_true, decide_eq_true_eq, List.all_eq_true]
  rw [and_assoc]
def nmD : D → Bool
  | .str z => nmB z
  | _ => false
theorem blsOf_map (bs : List Bool) : blsOf (bs.map .bl) = some bs := by
  induction bs with
  | nil => rfl
  | cons b bs ih =>
    show (blsOf (bs.map .bl)).map (b :: ·) = _
    rw [ih]
    rfl
def spD : Option Str → D
  | none => .non
  | some z => .str z
abbrev shF (fx : List Str) (sp : Option Str) : List (Str × D) := [(("fixed_columns" : Str), .lst (LS (sortS fx))), (("span_column" : Str), spD sp)]
def shD (fx : List Str) (sp : Option Str) : D := .ins "Shape" (shF fx sp)
structure ShOk (fx : List Str) (sp : Option Str) : Prop where
  len : fx.length ≤ 5
  nd : fx.Nodup
  nm : ∀ z ∈ fx, Nm z
  sp : ∀ z, sp = some z → Nm z ∧ z ∉ fx ∧ fx.length < 5
/-- all columns of a shape -/
def shC (fx : List Str) (sp : Option Str) : List Str := sortS (sortS fx ++ sp.toList)
theorem shC_len (fx : List Str) (sp : Option Str) : (shC fx sp).length = fx.length + sp.toList.length := by
  unfold shC
  rw [sortS_len, List.length_append, sortS_len]
section
variable {ρ : List Sl} {h : Tb} {X : Str → List (Str × D) → Tb → Prop} {P : W → Tb → Prop} {ks : List Kd} {rz : Bool} {z : Str} {d0 d d1 : D} {k : Kd} {n : Nat} {fx : List Str} {sp : Option Str}
local macro_rules | `(tactic| walk_at "hv") => `(tactic| first | rfl | assumption | (exact (by assumption : _)))
local macro_rules | `(tactic| walk_at "p1") => `(tactic| first
  | with_reducible refine CM.okS_seq ?_ | with_reducible refine CM.okS_next ?_ | with_reducible refine CM.okS_asg ?_ | with_reducible refine CM.okS_ret ?_ | with_reducible refine CM.okS_drop ?_ | with_reducible refine CM.okS_aug ?_ | with_reducible refine CM.okS_cnt ?_ | with_reducible refine CM.okS_fg ?_ | with_reducible refine CM.okS_retN ?_
  | with_reducible refine CM.okE_op ?_ | with_reducible refine CM.okE_cb ?_ | with_reducible refine CM.okE_cons ?_ | with_reducible refine CM.okE_nil ?_ | with_reducible refine CM.okB_not ?_ | with_reducible refine CM.okE_c ?_ | with_reducible refine CM.okE_fr ?_ | with_reducible refine CM.okE_ce ?_ | with_reducible refine CM.okE_notV ?_ | with_reducible refine CM.okE_un ?_
  | with_reducible refine CM.okE_sl ?_ | with_reducible refine CM.okE_nopart ?_
  | ((with_reducible refine' CM.okE_var ?hv ?_); (case hv => rfl))
  | ((with_reducible refine' CM.okE_part (CM.okE_var ?hv ⟨_, ?hv2, ?_⟩)); (case hv => rfl); (case hv2 => rfl))
  | ((with_reducible refine' CM.okE_part (CM.okE_c ⟨_, ?hv2, ?_⟩)); (case hv2 => rfl))
  | ((with_reducible refine' CM.okW_eq (w := _) ?hv ?_); (case hv => (with_reducible rfl)))
  | ((with_reducible refine' CM.okW_deref ?hv ?_); (case hv => walk_at "hv")) | ((with_reducible refine' CM.okW_derefs ?hv ?_); (case hv => rfl)) | ((with_reducible refine' CM.okW_derefC ?hv ?_); (case hv => walk_at "hv")) | ((with_reducible refine' CM.okW_lstAt ?hv ?_); (case hv => walk_at "hv"))
  | with_reducible refine CM.w_add ?_ | with_reducible refine CM.w_sub ?_ | with_reducible refine CM.w_lt ?_ | with_reducible refine CM.w_le ?_ | with_reducible refine CM.w_gt ?_ | with_reducible refine CM.w_ge ?_ | with_reducible refine CM.w_addI ?_
  | with_reducible refine CM.w_mod (by omega) ?_ | with_reducible refine CM.w_div (by omega) (by rw [CM.big_eq]; omega) ?_ | with_reducible refine CM.w_mul (by rw [CM.big_eq]; omega) (by rw [CM.big_eq]; omega) (by rw [CM.big_eq]; omega) (by rw [CM.big_eq]; omega) ?_ | with_reducible refine CM.w_sq (by omega) (by omega) ?_
  | with_reducible refine CM.w_max2 ?_ | with_reducible refine CM.w_min2 ?_ | with_reducible refine CM.w_lenL ?_ | with_reducible refine CM.w_lenT ?_ | with_reducible refine CM.w_lenC ?_ | with_reducible refine CM.w_listL ?_ | with_reducible refine CM.w_listT ?_ | with_reducible refine CM.w_tupL ?_ | with_reducible refine CM.w_tupT ?_
  | ((with_reducible refine CM.okG_setC ?_); (try dsimp only [List.set, CM.fzW]))
  | ((with_reducible refine' CM.okW_ix ?hv ?_); (case hv => rfl))
  | ((with_reducible refine' CM.okB_test (CM.okE_eqn ⟨_, ?hv, ?_⟩)); (case hv => rfl))
  | ((with_reducible refine' CM.okB_testd ⟨_, ?hv, ?_⟩); (case hv => rfl)))
local macro_rules | `(tactic| walk_at "p") => `(tactic| repeat walk_at "p1")
theorem okW_d1 {w : W} {Q : List D → Prop} (e : deref h w = some d) (q : Q [d]) : okW (derefs h [w]) Q := ⟨[d], by
  show ((deref h w).bind fun d => (some []).bind fun ds => some (d :: ds)) = _
  rw [e]
  rfl, q⟩
theorem okW_d2 {w u : W} {Q : List D → Prop} (e : deref h w = some d) (e2 : deref h u = some d1) (q : Q [d, d1]) : okW (derefs h [w, u]) Q := ⟨[d, d1], by
  show ((deref h w).bind fun d => ((deref h u).bind fun d => (some []).bind fun ds => some (d :: ds)).bind fun ds => some (d :: ds)) = _
  rw [e, e2]
  rfl, q⟩
theorem w_lenS' {Q : W → Prop} (hu : d.u = .str z) (hl : z.length ≤ 100000) (q : Q (.cl (.int z.cps.toList.length))) : okW (dLen [d]) Q := ⟨_, by
  show (match d.u with
    | .str z => if z.length ≤ 100000 then some (W.cl (.int z.length)) else none
    | .lst ds => some (W.cl (.int ds.length))
    | .tup ds => some (W.cl (.int ds.length))
    | .scr ds => some (W.cl (.int ds.length))
    | _ => none) = _
  rw [hu]
  show (if z.length ≤ 100000 then some (W.cl (.int z.length)) else none) = _
  rw [if_pos hl, SL.len_str], q⟩
theorem w_lenQ {ds : List D} {Q : W → Prop} (hu : seqD d.u = some ds) (q : Q (.cl (.int ds.length))) : okW (dLen [d]) Q := by
  refine ⟨.cl (.int ds.length), ?_, q⟩
  unfold seqD at hu
  show (match d.u with
    | .str z => if z.length ≤ 100000 then some (W.cl (.int z.length)) else none
    | .lst ds => some (W.cl (.int ds.length))
    | .tup ds => some (W.cl (.int ds.length))
    | .scr ds => some (W.cl (.int ds.length))
    | _ => none) = _
  split at hu
  · rename_i e
    cases hu
    rw [e]
  · rename_i e
    cases hu
    rw [e]
  · cases hu
theorem is_name_ok (hd : deref h (.cl d0) = some d) (hk : kd d.u = some k) (hm : k ∈ ks) (hl : ∀ z, d.u = .str z → z.length ≤ 100000) (p : P (.cl (.bl (nmD d.u))) h) : okF (CP.m_is_name ks rz [d0] h) P X := by
  unfold CP.m_is_name
  refine okF_fn rfl ?_
  show okS (CP.b_is_name ks rz [.cl d0, .un] h) _ _ _ _
  unfold CP.b_is_name
  refine okS_seq (okS_if (okB_or (okB_not (okB_tru (okE_cb (okE_cons (okE_var rfl (okE_cons (okE_c (okE_nil (okW_d2 hd rfl (w_isi rfl hk hm ⟨_, _, rfl, rfl, ?_⟩))))))))))))
  by_cases hs : ∃ z, d.u = .str z
  · obtain ⟨z, hu⟩ := hs
    rw [hu] at hk p
    cases hk
    refine ⟨(fun e => nomatch e), fun _ => okB_not (okB_test (okE_chain (okE_c (okE_cb (okE_cons (okE_var rfl (okE_nil (okW_d1 hd (w_lenS' hu (hl z hu) (okW_eq rfl (okW_eq rfl ⟨_, rfl, fun h0 => ?_, fun h0 => ?_⟩)))))))))))⟩
    · have h0 : 1 ≤ z.cps.toList.length := by
        have := of_decide_eq_true h0
        omega
      refine okE_c (okW_eq rfl (okW_eq rfl (w_le ⟨_, rfl, fun h8 => ?_, fun h8 => ?_⟩)))
      · have h8 : ¬ z.cps.toList.length ≤ 8 := by
          intro c
          have : decide ((z.cps.toList.length : Int) ≤ 8) = true := decide_eq_true (by omega)
          rw [this] at h8
          cases h8
        refine okS_ret (okE_c (cut_same rfl ?_))
        have : nmD (.str z) = false := by
          show nmB z = false
          unfold nmB
          rw [decide_eq_false h8, Bool.and_false, Bool.false_and]
        rw [this] at p
        exact p
      · have h8 : z.cps.toList.length ≤ 8 := by
          by_cases c : z.cps.toList.length ≤ 8
          · exact c
          · have : decide ((z.cps.toList.length : Int) ≤ 8) = false := decide_eq_false (by omega)
            rw [this] at h8
            cases h8
        refine okS_next (okS_ret (okE_cb (okE_cons (okE_lc (okE_iU (okE_var rfl (okW_eq hd (okW_eq (w := z.cps.toList.map fun c => D.str ⟨#[c]⟩) (by rw [hu]; rfl) ⟨by rw [List.length_map]; omega, rfl, ?_⟩))))))))
        have hck : ∀ (j : Nat) (ρ : List Sl) (h' : Tb) (acc : List D), ρ = [.cl d0, .un] ∧ h' = h ∧ (∃ bs : List Bool, acc = bs.map .bl ∧ bs = (z.cps.toList.take j).map fun c => decide (c ∈ lets)) → ckOk (ckOf h (.cl d0)) h' := by
          rintro j ρ h' acc ⟨_, rfl, _⟩
          exact ck_of
        refine okE_loopC (fun j ρ h' acc => ρ = [.cl d0, .un] ∧ h' = h ∧ (∃ bs : List Bool, acc = bs.map .bl ∧ bs = (z.cps.toList.take j).map fun c => decide (c ∈ lets))) hck _ 0 ⟨rfl, rfl, [], rfl, rfl⟩ ?_ ?_
        · rintro j d ρ h' acc hj ⟨rfl, rfl, bs, rfl, hbs⟩
          rw [Nat.zero_add] at hbs ⊢
          rw [List.getElem?_map] at hj
          cases hc : z.cps.toList[j]? with
          | none => rw [hc] at hj; cases hj
          | some c =>
            rw [hc] at hj
            cases hj
            refine okG_setC (okE_eq rfl ⟨fun _ => ?_, (fun e => nomatch e)⟩)
            refine okE_op (okE_var rfl (okE_c (okW_eq rfl (okW_eq rfl (w_in (c := decide (c ∈ lets)) ?_ ⟨rfl, rfl, bs ++ [decide (c ∈ lets)], by simp [fzW], ?_⟩)))))
            · rw [letters_eq]
              show some (decide (c ∈ (S lets).cps.toList)) = _
              rw [S_cps]
            · obtain ⟨hj2, e⟩ := List.getElem?_eq_some_iff.mp hc
              rw [hbs, List.take_succ_eq_append_getElem hj2, e, List.map_append]
              rfl
        · rintro ρ h' acc ⟨rfl, rfl, bs, rfl, hbs⟩
          rw [List.length_map, Nat.zero_add, List.take_of_length_le (Nat.le_refl _)] at hbs
          refine okE_nil (okW_eq rfl (okW_eq (w := .cl (.bl (nmB z))) ?_ (cut_same rfl p)))
          show (blsOf (bs.map .bl)).map (fun bs => W.cl (.bl (bs.all id))) = _
          rw [blsOf_map]
          have : bs.all id = nmB z := by
            rw [hbs]
            unfold nmB
            rw [decide_eq_true h0, decide_eq_true h8, List.all_map]
            rfl
          show some (W.cl (.bl (bs.all id))) = _
          rw [this]
    · have h0 : ¬ 1 ≤ z.cps.toList.length := fun c => by
        have : decide ((0 : Int) < z.cps.toList.length) = true := decide_eq_true (by omega)
        rw [this] at h0
        cases h0
      refine ⟨false, rfl, fun _ => ?_, (fun e => nomatch e)⟩
      refine okS_ret (okE_c (cut_same rfl ?_))
      have : nmD (.str z) = false := by
        show nmB z = false
        unfold nmB
        rw [decide_eq_false h0, Bool.false_and, Bool.false_and]
      rw [this] at p
      exact p
  · have hb : insK k (.ty "str") = false := by
      cases k with
      | b T =>
        have hT : T ≠ "str" := by
          rintro rfl
          apply hs
          generalize d.u = e at hk
          cases e <;> first | exact ⟨_, rfl⟩ | (exfalso; revert hk; simp [kd])
        show (decide (T = "str") || (decide (T = "bool") && decide (("str" : String) = "int"))) = false
        rw [decide_eq_false hT]
        simp
      | own C => rfl
      | exc C =>
        show decide ("str" ∈ basesT C) = false
        unfold basesT
        split
        · decide
        · split <;> decide
      | fn => rfl
    rw [hb]
    refine ⟨fun _ => ⟨fun _ => okS_ret (okE_c (cut_same rfl ?_)), (fun e => nomatch e)⟩, (fun e => nomatch e)⟩
    have : nmD d.u = false := by
      generalize d.u = e at hs
      cases e <;> first | rfl | exact absurd ⟨_, rfl⟩ hs
    rw [this] at p
    exact p
theorem is_list_ok (hd : deref h (.cl d0) = some d) (hk : kd d.u = some k) (hm : k ∈ ks) (p : P (.cl (.bl (insK k (.ty "list") || insK k (.ty "tuple")))) h) : okF (CP.m_is_list ks rz [d0] h) P X := by
  unfold CP.m_is_list
  refine okF_fn rfl ?_
  show okS (CP.b_is_list ks rz [.cl d0] h) _ _ _ _
  unfold CP.b_is_list
  refine okS_ret (okE_cb (okE_cons (okE_var rfl (okE_cons (okE_tup (okE_cons (okE_c (okE_cons (okE_c (okE_nil ⟨Nat.le_of_ble_eq_true rfl, okE_nil (okW_d2 hd rfl (w_isiT rfl hk hm (cut_same rfl ?_)))⟩))))))))))
  rw [List.any_cons, List.any_cons, List.any_nil, Bool.or_false]
  exact p
end
end CM

/-! CX1: a shape made; what it tells. -/
namespace CM
open PySem PySem.Spec PyProof.Rows L2 SL
section
variable {ρ : List Sl} {h : Tb} {X : Str → List (Str × D) → Tb → Prop} {P : W → Tb → Prop} {ks : List Kd} {rz : Bool} {z : Str} {d0 d d1 e0 : D} {k : Kd} {n : Nat} {fx gx : List Str} {sp sq : Option Str}
local macro_rules | `(tactic| walk_at "hv") => `(tactic| first | rfl | assumption | (exact (by assumption : _)))
local macro_rules | `(tactic| walk_at "p1") => `(tactic| first
  | with_reducible refine CM.okS_seq ?_ | with_reducible refine CM.okS_next ?_ | with_reducible refine CM.okS_asg ?_ | with_reducible refine CM.okS_ret ?_ | with_reducible refine CM.okS_drop ?_ | with_reducible refine CM.okS_aug ?_ | with_reducible refine CM.okS_cnt ?_ | with_reducible refine CM.okS_fg ?_ | with_reducible refine CM.okS_retN ?_
  | with_reducible refine CM.okE_op ?_ | with_reducible refine CM.okE_cb ?_ | with_reducible refine CM.okE_cons ?_ | with_reducible refine CM.okE_nil ?_ | with_reducible refine CM.okB_not ?_ | with_reducible refine CM.okE_c ?_ | with_reducible refine CM.okE_fr ?_ | with_reducible refine CM.okE_ce ?_ | with_reducible refine CM.okE_notV ?_ | with_reducible refine CM.okE_un ?_
  | with_reducible refine CM.okE_sl ?_ | with_reducible refine CM.okE_nopart ?_
  | ((with_reducible refine' CM.okE_var ?hv ?_); (case hv => rfl))
  | ((with_reducible refine' CM.okE_part (CM.okE_var ?hv ⟨_, ?hv2, ?_⟩)); (case hv => rfl); (case hv2 => rfl))
  | ((with_reducible refine' CM.okE_part (CM.okE_c ⟨_, ?hv2, ?_⟩)); (case hv2 => rfl))
  | ((with_reducible refine' CM.okW_eq (w := _) ?hv ?_); (case hv => (with_reducible rfl)))
  | ((with_reducible refine' CM.okW_deref ?hv ?_); (case hv => walk_at "hv")) | ((with_reducible refine' CM.okW_derefs ?hv ?_); (case hv => rfl)) | ((with_reducible refine' CM.okW_derefC ?hv ?_); (case hv => walk_at "hv")) | ((with_reducible refine' CM.okW_lstAt ?hv ?_); (case hv => walk_at "hv"))
  | with_reducible refine CM.w_add ?_ | with_reducible refine CM.w_sub ?_ | with_reducible refine CM.w_lt ?_ | with_reducible refine CM.w_le ?_ | with_reducible refine CM.w_gt ?_ | with_reducible refine CM.w_ge ?_ | with_reducible refine CM.w_addI ?_
  | with_reducible refine CM.w_mod (by omega) ?_ | with_reducible refine CM.w_div (by omega) (by rw [CM.big_eq]; omega) ?_ | with_reducible refine CM.w_mul (by rw [CM.big_eq]; omega) (by rw [CM.big_eq]; omega) (by rw [CM.big_eq]; omega) (by rw [CM.big_eq]; omega) ?_ | with_reducible refine CM.w_sq (by omega) (by omega) ?_
  | with_reducible refine CM.w_max2 ?_ | with_reducible refine CM.w_min2 ?_ | with_reducible refine CM.w_lenL ?_ | with_reducible refine CM.w_lenT ?_ | with_reducible refine CM.w_lenC ?_ | with_reducible refine CM.w_listL ?_ | with_reducible refine CM.w_listT ?_ | with_reducible refine CM.w_tupL ?_ | with_reducible refine CM.w_tupT ?_
  | ((with_reducible refine CM.okG_setC ?_); (try dsimp only [List.set, CM.fzW]))
  | ((with_reducible refine' CM.okW_ix ?hv ?_); (case hv => rfl))
  | ((with_reducible refine' CM.okB_test (CM.okE_eqn ⟨_, ?hv, ?_⟩)); (case hv => rfl))
  | ((with_reducible refine' CM.okB_testd ⟨_, ?hv, ?_⟩); (case hv => rfl)))
local macro_rules | `(tactic| walk_at "p") => `(tactic| repeat walk_at "p1")
theorem seq_two {ds : List D} (hu : seqD d.u = some ds) : d.u = .lst ds ∨ d.u = .tup ds := by
  unfold seqD at hu
  split at hu
  · cases hu
    exact .inl (by assumption)
  · cases hu
    exact .inr (by assumption)
  · cases hu
theorem dInB_Q (hu : seqD d.u = some (LS fx)) : dInB (.str z) d = some (decide (z ∈ fx)) := by
  have hf : (flat (.str z)).bind (fun v => (flats (LS fx)).map fun vs => inV v vs) = some (decide (z ∈ fx)) := by
    rw [flats_strs]
    show some (inV (.str z) (fx.map V.str)) = _
    rw [inV_strs]
  unfold dInB
  rcases seq_two hu with e | e
  · rw [e]
    exact hf
  · rw [e]
    exact hf
theorem dInB_QN (hu : seqD d.u = some (LS fx)) : dInB .non d = some false := by
  have hf : (flat .non).bind (fun v => (flats (LS fx)).map fun vs => inV v vs) = some false := by
    rw [flats_strs]
    show some (inV .non (fx.map V.str)) = _
    rw [inV_non]
  unfold dInB
  rcases seq_two hu with e | e
  · rw [e]
    exact hf
  · rw [e]
    exact hf
theorem w_slQ {ds : List D} {lo hi : Option Int} {Q : W → Prop} (hu : seqD d.u = some ds) (q : ∀ w e, (∀ h, deref h w = some e) → seqD e.u = some (cutL ds lo hi) → Q w) : okW (dSl d lo hi) Q := by
  unfold dSl
  rcases seq_two hu with e | e
  · rw [e]
    exact ⟨_, rfl, q _ (.lst _) (fun _ => rfl) rfl⟩
  · rw [e]
    exact ⟨_, rfl, q _ (.tup _) (fun _ => rfl) rfl⟩
theorem kd_seq {ds : List D} (hu : seqD d.u = some ds) : kd d.u = some (.b "list") ∨ kd d.u = some (.b "tuple") := by
  rcases seq_two hu with e | e <;> rw [e]
  · exact .inl rfl
  · exact .inr rfl
/-- kinds that are told -/
structure KsOk (ks : List Kd) : Prop where
  s : Kd.b "str" ∈ ks
  l : Kd.b "list" ∈ ks
  t : Kd.b "tuple" ∈ ks
theorem is_seq_ok {ds : List D} (hks : KsOk ks) (hd : deref h (.cl d0) = some d) (hu : seqD d.u = some ds) (p : P (.cl (.bl true)) h) : okF (CP.m_is_list ks rz [d0] h) P X := by
  rcases kd_seq hu with e | e
  · exact is_list_ok hd e hks.l p
  · exact is_list_ok hd e hks.t p
theorem is_nm_ok (hks : KsOk ks) (hz : Nm z) (p : P (.cl (.bl true)) h) : okF (CP.m_is_name ks rz [.str z] h) P X := by
  refine is_name_ok (d := .str z) rfl rfl hks.s (fun w e => ?_) ?_
  · cases e
    rw [SL.len_str]
    have := hz.2.1
    show z.cps.toList.length ≤ _
    omega
  · show P (.cl (.bl (nmB z))) h
    rw [nmB_iff.mpr hz]
    exact p
theorem putD_span {x v : D} : putD "span_column" v [(("fixed_columns" : Str), x)] = [(("fixed_columns" : Str), x), (("span_column" : Str), v)] := by
  unfold putD
  rw [if_neg (by decide +kernel)]
  rfl
theorem shape_init (hks : KsOk ks) (hs : h[n]? = some (.ins "Shape" [])) (hd : deref h (.cl d0) = some d) (hu : seqD d.u = some (LS fx)) (ok : ShOk fx sp) (p : P (.cl .non) (h.set n (shD fx sp))) : okF (CP.m_Shape_D_init_D ks rz [.ce n, d0, spD sp] h) P X := by
  unfold CP.m_Shape_D_init_D
  refine okF_fn rfl ?_
  show okS (CP.b_Shape_D_init_D ks rz [.cl (.ce n), .cl d0, .cl (spD sp), .un, .un] h) _ _ _ _
  unfold CP.b_Shape_D_init_D
  have h5 := ok.len
  have hl : (LS fx).length = fx.length := List.length_map ..
  refine okS_seq (okS_no (okB_or (okB_not (okB_tru (okE_call (okE_cons (okE_fr (okE_var rfl (okE_nil (is_seq_ok hks hd hu ⟨.bl true, true, rfl, rfl, (fun e => nomatch e), fun _ => ?_⟩))))))))))
  refine okB_test (okE_op (okE_cb (okE_cons (okE_var rfl (okE_nil (okW_d1 hd (w_lenQ hu (okE_c (okW_eq rfl (okW_eq rfl (w_gt ⟨_, rfl, decide_eq_false (by omega), okS_next ?_⟩)))))))))))
  refine okS_seq (okS_for (okE_enum (okE_cons (okE_var rfl (okE_nil ⟨_, d, _, rfl, hd, hu, by omega, ?_⟩)))))
  refine okS_loop (fun j ρ h' => h' = h ∧ ∃ s3 s4, ρ = [.cl (.ce n), .cl d0, .cl (spD sp), s3, s4]) ?_ _ 0 ⟨rfl, _, _, rfl⟩ ?_ ?_
  · rintro j ρ h' ⟨rfl, _⟩
    exact ck_of
  · rintro j d ρ h' hj ⟨rfl, s3, s4, rfl⟩
    obtain ⟨x, hx, rfl⟩ := enum_at hj
    obtain ⟨z, hz, rfl⟩ := strs_at hx
    have hm : z ∈ fx := List.mem_of_getElem? hz
    refine okG_tup2 (okG_setC (okG_setC ?_))
    dsimp only [List.set, fzW]
    refine okS_seq (okS_no (okB_not (okB_tru (okE_call (okE_cons (okE_fr (okE_var rfl (okE_nil (is_nm_ok hks (ok.nm z hm) ⟨.bl true, true, rfl, rfl, rfl, okS_next ?_⟩)))))))))
    refine okS_no (okB_test (okE_op (okE_var rfl (okE_sl (okE_var rfl (okE_nopart (okE_part (okE_var rfl ⟨_, rfl, okW_eq hd (w_slQ hu fun w e he hue => okW_eq rfl (okW_eq (he _) ?_))⟩))))))))
    rw [cut_take, ← List.map_take] at hue
    exact w_in (dInB_Q hue) ⟨_, rfl, decide_eq_false (nodup_take ok.nd hz), okS_next ⟨rfl, _, _, rfl⟩⟩
  · rintro ρ h' ⟨rfl, s3, s4, rfl⟩
    have tail : okS (sSeq (sFldM "Shape" "fixed_columns" (mVar 0) (mCB dSrt (mCons (mVar 1) mNil))) (sFldM "Shape" "span_column" (mVar 0) (mVar 2)) [.cl (.ce n), .cl d0, .cl (spD sp), s3, s4] h') (fun ρ h'' => okW (cutF false h' (.cl .non) h'') fun x => P x.1 x.2) (fun w ρ h'' => okW (cutF false h' w h'') fun x => P x.1 x.2) (fun _ _ _ => False) (fun C fs ρ h'' => okW (cutX false h' fs h'') fun x => X C fs x) := by
      refine okS_seq (okS_fld (okE_cb (okE_cons (okE_var rfl (okE_nil (okW_d1 hd (w_srtQ hu (by omega) (okE_var rfl (okW_eq (insAt_eq hs) ⟨by show (0 : Nat) < 1000; decide, ?_⟩)))))))))
      have hn := (List.getElem?_eq_some_iff.mp hs).1
      refine okS_fld (okE_var rfl (okE_var rfl (okW_eq (insAt_eq (List.getElem?_set_self hn)) ⟨by show (1 : Nat) < 1000; decide, cut_same (by rw [List.length_set, List.length_set]) ?_⟩)))
      have e2 : putD "fixed_columns" (fzW (W.fr (LS (sortS fx)))) [] = [(("fixed_columns" : Str), D.lst (LS (sortS fx)))] := rfl
      show P (.cl .non) (((h'.set n _).set n (.ins "Shape" (putD "span_column" (spD sp) (putD "fixed_columns" (fzW (W.fr (LS (sortS fx)))) [])))))
      rw [List.set_set, e2, putD_span]
      exact p
    cases sp with
    | none =>
      refine okS_seq (okS_no (okB_and (okE_eq (w := false) rfl ⟨(fun q => nomatch q), fun _ => ⟨rfl, okS_next ?_⟩⟩)))
      refine okS_seq (okS_no (okB_test (okE_op (okE_var rfl (okE_var rfl (okW_eq rfl (okW_eq hd (w_in (dInB_QN hu) ⟨_, rfl, rfl, okS_next ?_⟩))))))))
      refine okS_seq (okS_no (okB_and (okE_eq (w := false) rfl ⟨(fun q => nomatch q), fun _ => ⟨rfl, okS_next ?_⟩⟩)))
      exact tail
    | some z =>
      obtain ⟨z1, z2, z3⟩ := ok.sp z rfl
      refine okS_seq (okS_no (okB_and (okE_eq (w := true) rfl ⟨fun _ => ?_, (fun q => nomatch q)⟩)))
      refine okB_not (okB_tru (okE_call (okE_cons (okE_fr (okE_var rfl (okE_nil (is_nm_ok hks z1 ⟨.bl true, true, rfl, rfl, rfl, okS_next ?_⟩)))))))
      refine okS_seq (okS_no (okB_test (okE_op (okE_var rfl (okE_var rfl (okW_eq rfl (okW_eq hd (w_in (dInB_Q hu) ⟨_, rfl, decide_eq_false z2, okS_next ?_⟩))))))))
      refine okS_seq (okS_no (okB_and (okE_eq (w := true) rfl ⟨fun _ => ?_, (fun q => nomatch q)⟩)))
      refine okB_test (okE_op (okE_cb (okE_cons (okE_var rfl (okE_nil (okW_d1 hd (w_lenQ hu (okE_c (okW_eq rfl (okW_eq rfl (w_eqi ⟨_, rfl, decide_eq_false (by omega), okS_next ?_⟩)))))))))))
      exact tail
/-- Shape(..) -/
theorem okE_shape {P : Ps W} {X : Px} {es : Mo (List W)} {dvs : List D} (hks : KsOk ks) (q : okE (es ρ h) (fun ws ρ h => ∃ d0 d fx sp, ws.map fzW ++ dvs = [d0, spD sp] ∧ deref h (.cl d0) = some d ∧ seqD d.u = some (LS fx) ∧ ShOk fx sp ∧ P (.nw (shD fx sp)) ρ h) X) : okE (mMake false "Shape" (CP.m_Shape_D_init_D ks rz) dvs es ρ h) P X := okE_make (q.mono fun ws ρ h q => by
  obtain ⟨d0, d, fx, sp, e, hd, hu, ok, p⟩ := q
  rw [e]
  have hd2 : deref (h ++ [.ins "Shape" []]) (.cl d0) = some d := by
    by_cases hc : ∃ m, d0 = .ce m
    · obtain ⟨m, rfl⟩ := hc
      have hd : h[m]? = some d := hd
      show (h ++ [D.ins "Shape" []])[m]? = some d
      rw [List.getElem?_append_left (List.getElem?_eq_some_iff.mp hd).1]
      exact hd
    · have := top_ne (h := h) (d := d0) (fun m z => hc ⟨m, z⟩)
      have e2 := top_ne (h := h ++ [.ins "Shape" []]) (d := d0) (fun m z => hc ⟨m, z⟩)
      show top _ d0 = _
      rw [e2]
      rw [← this]
      exact hd
  refine shape_init hks (tail_at0 rfl) hd2 hu ok ⟨rfl, ?_⟩
  rw [List.set_append_right _ _ (Nat.le_refl _), Nat.sub_self]
  refine cut_own (h1 := h) (g := [shD fx sp]) rfl okCut_refl (Nat.le_refl _) (tail_at0 rfl) ?_ p
  show below h.length (.ins "Shape" (shF fx sp)) = true
  rw [below_ins]
  have h1 : below h.length (.lst (LS (sortS fx))) = true := below_strs (sortS fx)
  have h2 : below h.length (spD sp) = true := by cases sp <;> first | exact below_non | exact below_str
  simp [h1, h2])
end
end CM

/-! CX2: what a shape tells. -/
namespace CM
open PySem PySem.Spec PyProof.Rows L2 SL
section
variable {ρ : List Sl} {h : Tb} {P : Ps W} {X : Px} {a : Mo W} {ms : List (Mo W)} {acc : Str}
theorem okE_js0 (q : P (.cl (.str acc)) ρ h) : okE (mJs [] acc ρ h) P X := okE_some q
theorem okE_js {m : Mo W} (q : okE (m ρ h) (fun w ρ h => ∃ d y, deref h w = some d ∧ d.u = .str y ∧ (acc ++ y).length ≤ 100000 ∧ okE (mJs ms (acc ++ y) ρ h) P X) X) : okE (mJs (m :: ms) acc ρ h) P X := okE_bind (q.mono fun w ρ h q => by
  obtain ⟨d, y, e, e2, e3, q⟩ := q
  show okE (match (deref h w).map D.u with
    | some (.str y) => if (acc ++ y).length ≤ 100000 then mJs ms (acc ++ y) ρ h else none
    | _ => none) P X
  rw [e]
  show okE (match some d.u with
    | some (.str y) => if (acc ++ y).length ≤ 100000 then mJs ms (acc ++ y) ρ h else none
    | _ => none) P X
  rw [e2]
  show okE (if (acc ++ y).length ≤ 100000 then mJs ms (acc ++ y) ρ h else none) P X
  rw [if_pos e3]
  exact q)
theorem okE_fmt (q : okE (a ρ h) (fun w ρ h => ∃ z, deref h w = some (.str z) ∧ z.length ≤ 100000 ∧ P (.cl (.str z)) ρ h) X) : okE (mFmt a ρ h) P X := okE_bind (q.mono fun w ρ h q => by
  obtain ⟨z, e, e2, p⟩ := q
  show okE (match (deref h w).map D.u with
    | some (.str z) => if z.length ≤ 100000 then some (.ok (.cl (.str z)) ρ h) else none
    | _ => none) P X
  rw [e]
  show okE (if z.length ≤ 100000 then some (.ok (.cl (.str z)) ρ h) else none) P X
  rw [if_pos e2]
  exact okE_some p)
end
/-! what repr tells -/
structure Good (b k : Nat) (x : PyData) : Prop where
  s : x.showable = true
  l : x.leavesShort 60 = true
  b : x.bulk ≤ b
  d : x.depth ≤ k
theorem Good.mono {b k b' k' : Nat} {x : PyData} (g : Good b k x) (h1 : b ≤ b') (h2 : k ≤ k') : Good b' k' x := ⟨g.s, g.l, Nat.le_trans g.b h1, Nat.le_trans g.d h2⟩
theorem good_str {z : Str} (hz : Nm z) : Good 8 0 (.str z) := ⟨by simp [PyData.showable], by
  rw [PyData.leavesShort, List.all_eq_true]
  intro c hc
  have := hz.asc c hc
  rw [decide_eq_true_eq]
  omega, by
  rw [PyData.bulk]
  exact hz.2.1, by simp [PyData.depth]⟩
theorem good_non : Good 0 0 .none := ⟨by simp [PyData.showable], by simp [PyData.leavesShort], by simp [PyData.bulk], by simp [PyData.depth]⟩
theorem good_all {b k : Nat} : ∀ {xs : List PyData}, (∀ x ∈ xs, Good b k x) → PyData.showableAll xs = true ∧ PyData.leavesShortAll 60 xs = true ∧ PyData.bulkAll xs ≤ xs.length * (b + 1) ∧ PyData.depthAll xs ≤ k
  | [], _ => ⟨by simp [PyData.showableAll], by simp [PyData.leavesShortAll], by simp [PyData.bulkAll], by simp [PyData.depthAll]⟩
  | x :: xs, h => by
    obtain ⟨h1, h2, h3, h4⟩ := good_all (xs := xs) fun y hy => h y (List.mem_cons_of_mem _ hy)
    obtain ⟨g1, g2, g3, g4⟩ := h x (List.mem_cons_self ..)
    refine ⟨by rw [PyData.showableAll, g1, h1]; rfl, by rw [PyData.leavesShortAll, g2, h2]; rfl, ?_, by rw [PyData.depthAll]; omega⟩
    rw [PyData.bulkAll, List.length_cons, Nat.add_mul, Nat.one_mul]
    omega
theorem good_list {b k : Nat} {xs : List PyData} (h : ∀ x ∈ xs, Good b k x) : Good (xs.length * (b + 1)) (k + 1) (.list xs) := by
  obtain ⟨h1, h2, h3, h4⟩ := good_all h
  exact ⟨by rw [PyData.showable]; exact h1, by rw [PyData.leavesShort]; exact h2, by rw [PyData.bulk]; exact h3, by rw [PyData.depth]; omega⟩
theorem good_names {zs : List Str} (h : ∀ z ∈ zs, Nm z) (hl : zs.length ≤ 100) : Good 900 1 (.list (zs.map PyData.str)) := (good_list (b := 8) (k := 0) fun x hx => by
  obtain ⟨z, hz, rfl⟩ := List.mem_map.mp hx
  exact good_str (h z hz)).mono (by rw [List.length_map]; omega) (Nat.le_refl _)
def pdS : Option Str → PyData
  | none => .none
  | some z => .str z
theorem pd_spD (s : Option Str) : pd (spD s) = some (pdS s) := by cases s <;> rfl
theorem good_sp {s : Option Str} (h : ∀ z, s = some z → Nm z) : Good 8 0 (pdS s) := by
  cases s with
  | none => exact good_non.mono (by omega) (Nat.le_refl _)
  | some z => exact good_str (h z rfl)
theorem w_repr {d : D} {x : PyData} {b k : Nat} {Q : W → Prop} (hx : pd d = some x) (g : Good b k x) (hb : b ≤ 1600) (hk : k ≤ 60) (q : x.shown.length ≤ 100000 → Q (.cl (.str x.shown))) : okW (dRepr [d]) Q := by
  have hs : showsB x = true := by
    unfold showsB
    rw [g.s, g.l, decide_eq_true (Nat.le_trans g.b (by omega)), decide_eq_true (Nat.le_trans g.d hk)]
    rfl
  have hl : x.shown.length ≤ 100000 := by
    have := PyData.shown_le_bulk 60 (by decide) x g.l
    have := g.b
    omega
  refine ⟨.cl (.str x.shown), ?_, q hl⟩
  show (pd d).bind (fun x => if showsB x = true then some (W.cl (.str x.shown)) else none) = _
  rw [hx]
  show (if showsB x = true then some (W.cl (.str x.shown)) else none) = _
  rw [if_pos hs]
theorem ne_same {z w : Str} {Q : W → Prop} (q : Q (.cl (.bl (!decide (z = w))))) : okW (dNe (.str z) (.str w)) Q := w_ne (a := .str z) (b := .str w) rfl q
section
variable {ρ : List Sl} {h : Tb} {X : Str → List (Str × D) → Tb → Prop} {P : W → Tb → Prop} {ks : List Kd} {rz : Bool} {z : Str} {d0 d d1 e0 : D} {k : Kd} {n : Nat} {fx gx : List Str} {sp sq : Option Str}
local macro_rules | `(tactic| walk_at "hv") => `(tactic| first | rfl | assumption | (exact (by assumption : _)))
local macro_rules | `(tactic| walk_at "p1") => `(tactic| first
  | with_reducible refine CM.okS_seq ?_ | with_reducible refine CM.okS_next ?_ | with_reducible refine CM.okS_asg ?_ | with_reducible refine CM.okS_ret ?_ | with_reducible refine CM.okS_drop ?_ | with_reducible refine CM.okS_aug ?_ | with_reducible refine CM.okS_cnt ?_ | with_reducible refine CM.okS_fg ?_ | with_reducible refine CM.okS_retN ?_
  | with_reducible refine CM.okE_op ?_ | with_reducible refine CM.okE_cb ?_ | with_reducible refine CM.okE_cons ?_ | with_reducible refine CM.okE_nil ?_ | with_reducible refine CM.okB_not ?_ | with_reducible refine CM.okE_c ?_ | with_reducible refine CM.okE_fr ?_ | with_reducible refine CM.okE_ce ?_ | with_reducible refine CM.okE_notV ?_ | with_reducible refine CM.okE_un ?_
  | with_reducible refine CM.okE_sl ?_ | with_reducible refine CM.okE_nopart ?_
  | ((with_reducible refine' CM.okE_var ?hv ?_); (case hv => rfl))
  | ((with_reducible refine' CM.okE_part (CM.okE_var ?hv ⟨_, ?hv2, ?_⟩)); (case hv => rfl); (case hv2 => rfl))
  | ((with_reducible refine' CM.okE_part (CM.okE_c ⟨_, ?hv2, ?_⟩)); (case hv2 => rfl))
  | ((with_reducible refine' CM.okW_eq (w := _) ?hv ?_); (case hv => (with_reducible rfl)))
  | ((with_reducible refine' CM.okW_deref ?hv ?_); (case hv => walk_at "hv")) | ((with_reducible refine' CM.okW_derefs ?hv ?_); (case hv => rfl)) | ((with_reducible refine' CM.okW_derefC ?hv ?_); (case hv => walk_at "hv")) | ((with_reducible refine' CM.okW_lstAt ?hv ?_); (case hv => walk_at "hv"))
  | with_reducible refine CM.w_add ?_ | with_reducible refine CM.w_sub ?_ | with_reducible refine CM.w_lt ?_ | with_reducible refine CM.w_le ?_ | with_reducible refine CM.w_gt ?_ | with_reducible refine CM.w_ge ?_ | with_reducible refine CM.w_addI ?_
  | with_reducible refine CM.w_mod (by omega) ?_ | with_reducible refine CM.w_div (by omega) (by rw [CM.big_eq]; omega) ?_ | with_reducible refine CM.w_mul (by rw [CM.big_eq]; omega) (by rw [CM.big_eq]; omega) (by rw [CM.big_eq]; omega) (by rw [CM.big_eq]; omega) ?_ | with_reducible refine CM.w_sq (by omega) (by omega) ?_
  | with_reducible refine CM.w_max2 ?_ | with_reducible refine CM.w_min2 ?_ | with_reducible refine CM.w_lenL ?_ | with_reducible refine CM.w_lenT ?_ | with_reducible refine CM.w_lenC ?_ | with_reducible refine CM.w_listL ?_ | with_reducible refine CM.w_listT ?_ | with_reducible refine CM.w_tupL ?_ | with_reducible refine CM.w_tupT ?_
  | ((with_reducible refine CM.okG_setC ?_); (try dsimp only [List.set, CM.fzW]))
  | ((with_reducible refine' CM.okW_ix ?hv ?_); (case hv => rfl))
  | ((with_reducible refine' CM.okB_test (CM.okE_eqn ⟨_, ?hv, ?_⟩)); (case hv => rfl))
  | ((with_reducible refine' CM.okB_testd ⟨_, ?hv, ?_⟩); (case hv => rfl)))
local macro_rules | `(tactic| walk_at "p") => `(tactic| repeat walk_at "p1")
theorem sh_fixed : (shF fx sp).lookup ("fixed_columns" : Str) = some (D.lst (LS (sortS fx))) := rfl
theorem sh_span : (shF fx sp).lookup ("span_column" : Str) = some (spD sp) := by
  have h : (("span_column" : Str) == ("fixed_columns" : Str)) = false := by decide +kernel
  show List.lookup _ [_, _] = _
  rw [List.lookup_cons, h]
  rfl
theorem shape_span (hd : deref h (.cl d0) = some (shD fx sp)) (p : P (.cl (spD sp)) h) : okF (CP.m_Shape_span ks rz [d0] h) P X := by
  unfold CP.m_Shape_span
  refine okF_fn rfl ?_
  show okS (CP.b_Shape_span ks rz [.cl d0] h) _ _ _ _
  unfold CP.b_Shape_span
  exact okS_ret (okE_fld (okE_var rfl ⟨_, _, hd, sh_span, cut_same rfl p⟩))
theorem shape_fixed (hd : deref h (.cl d0) = some (shD fx sp)) (p : P (W.fr (LS (sortS fx))) h) : okF (CP.m_Shape_fixed ks rz [d0] h) P X := by
  unfold CP.m_Shape_fixed
  refine okF_fn rfl ?_
  show okS (CP.b_Shape_fixed ks rz [.cl d0] h) _ _ _ _
  unfold CP.b_Shape_fixed
  exact okS_ret (okE_cb (okE_cons (okE_fld (okE_var rfl ⟨_, _, hd, sh_fixed, okE_nil (okW_eq rfl (w_listL (cut_same rfl p)))⟩))))
theorem w_addLL {zs ws : List Str} {Q : W → Prop} (h : zs.length + ws.length ≤ 100000) (q : Q (W.fr (LS (zs ++ ws)))) : okW (dAdd (.lst (LS zs)) (.lst (LS ws))) Q := by
  refine ⟨_, ?_, q⟩
  show (if (LS zs).length + (LS ws).length ≤ 100000 then some (W.fr (LS zs ++ LS ws)) else none) = _
  rw [List.length_map, List.length_map, if_pos h]
  show some (W.fr (zs.map D.str ++ ws.map D.str)) = some (W.fr ((zs ++ ws).map D.str))
  rw [List.map_append]
theorem shape_columns (hl : fx.length ≤ 50) (hd : deref h (.cl d0) = some (shD fx sp)) (p : P (W.fr (LS (shC fx sp))) h) : okF (CP.m_Shape_columns ks rz [d0] h) P X := by
  unfold CP.m_Shape_columns
  refine okF_fn rfl ?_
  show okS (CP.b_Shape_columns ks rz [.cl d0] h) _ _ _ _
  unfold CP.b_Shape_columns
  have hl2 := sortS_len fx
  refine okS_ret (okE_cb (okE_cons (okE_op (okE_fld (okE_var rfl ⟨_, _, hd, sh_fixed, ?_⟩)))))
  refine okE_if (okB_test (okE_op (okE_fld (okE_var rfl ⟨_, _, hd, sh_span, okE_c (okW_eq (w := spD sp) (by cases sp <;> rfl) (okW_eq rfl ?_))⟩))))
  cases sp with
  | none => exact okW_eq (w := .cl (.bl true)) rfl ⟨_, rfl, fun _ => okE_eq (w := W.fr (LS [])) rfl (okW_eq rfl (okW_eq rfl (w_addLL (by simp; omega) (okE_nil (okW_eq rfl (w_srt (by simp; omega) (cut_same rfl p))))))), (fun e => nomatch e)⟩
  | some z => exact okW_eq (w := .cl (.bl false)) rfl ⟨_, rfl, (fun e => nomatch e), fun _ => okE_lst (okE_cons (okE_fld (okE_var rfl ⟨_, _, hd, sh_span, okE_nil ⟨Nat.le_of_ble_eq_true rfl, okW_eq rfl (okW_eq rfl (w_addLL (ws := [z]) (by simp; omega) (okE_nil (okW_eq rfl (w_srt (by simp; omega) (cut_same rfl p))))))⟩⟩)))⟩
theorem shape_len (hl : fx.length ≤ 50) (hd : deref h (.cl d0) = some (shD fx sp)) (p : P (.cl (.int ((fx.length + sp.toList.length : Nat) : Int))) h) : okF (CP.m_Shape_D_len_D ks rz [d0] h) P X := by
  unfold CP.m_Shape_D_len_D
  refine okF_fn rfl ?_
  show okS (CP.b_Shape_D_len_D ks rz [.cl d0] h) _ _ _ _
  unfold CP.b_Shape_D_len_D
  refine okS_ret (okE_cb (okE_cons (okE_meth (okE_var rfl ⟨_, hd, rfl, okE_nil (shape_columns hl hd (okE_nil (okW_eq rfl (w_lenL (cut_same rfl ?_)))))⟩))))
  rw [List.length_map, shC_len]
  exact p
theorem Nm.sorted (hf : ∀ z ∈ fx, Nm z) : Ascs (sortS fx) := fun z hz => (hf z (sortS_mem.mp hz)).asc
theorem sp_eq {s t : Option Str} (h1 : ∀ z, s = some z → Asc z) (h2 : ∀ z, t = some z → Asc z) : dEqB (spD s) (spD t) = some (decide (s = t)) := by
  cases s with
  | none =>
    cases t with
    | none => exact dEqB_NN
    | some z =>
      have hz : SeqAt.shaped (.str z) = true := by
        have := shaped_strs (ys := [z]) (fun x hx => by rw [List.mem_singleton.mp hx]; exact h2 z rfl)
        simp only [SeqAt.shaped, PyData.canLay0, PyData.depth, PyData.canLayAll0, PyData.depthAll, List.map_cons, List.map_nil, Bool.and_true] at this ⊢
        simp only [Bool.and_eq_true] at this ⊢
        exact ⟨this.1, by simp⟩
      show (if SeqAt.shaped .none = true ∧ SeqAt.shaped (.str z) = true then some (PyData.eqv .none (.str z)) else none) = _
      rw [if_pos ⟨by simp [SeqAt.shaped, PyData.canLay0, PyData.depth], hz⟩, PyData.eqv]
      rfl
  | some z =>
    cases t with
    | none => exact dEqB_SN (h1 z rfl)
    | some w =>
      show some (decide (z = w)) = _
      simp
theorem shape_eq (hx : Kd.own "Shape" ∈ ks) (ok : ShOk fx sp) (ok2 : ShOk gx sq) (hd : deref h (.cl d0) = some (shD fx sp)) (hd1 : deref h (.cl d1) = some (shD gx sq)) (p : P (.cl (.bl (decide (sortS fx = sortS gx) && decide (sp = sq)))) h) : okF (CP.m_Shape_D_eq_D ks rz [d0, d1] h) P X := by
  unfold CP.m_Shape_D_eq_D
  refine okF_fn rfl ?_
  show okS (CP.b_Shape_D_eq_D ks rz [.cl d0, .cl d1] h) _ _ _ _
  unfold CP.b_Shape_D_eq_D
  refine okS_seq (okS_no (okB_not (okB_tru (okE_cb (okE_cons (okE_var rfl (okE_cons (okE_c (okE_nil (okW_d2 hd1 rfl (w_isi (k := .own "Shape") rfl rfl hx ⟨_, true, rfl, ?_, rfl, okS_next ?_⟩)))))))))))
  · show dTru (.bl (decide (("Shape" : Str) = "Shape"))) = some true
    rw [decide_eq_true rfl]
    rfl
  refine okS_ret (okE_andV (okB_test (okE_op (okE_fld (okE_var rfl ⟨_, _, hd, sh_fixed, okE_fld (okE_var rfl ⟨_, _, hd1, sh_fixed, okW_eq rfl (okW_eq rfl (w_eq (dEqB_L (Nm.sorted ok.nm) (Nm.sorted ok2.nm)) ⟨_, rfl, fun e => ?_, fun e => ?_⟩))⟩)⟩)))))
  · refine okE_op (okE_fld (okE_var rfl ⟨_, _, hd, sh_span, okE_fld (okE_var rfl ⟨_, _, hd1, sh_span, okW_eq (by cases sp <;> rfl : deref h (.cl (spD sp)) = some (spD sp)) (okW_eq (by cases sq <;> rfl : deref h (.cl (spD sq)) = some (spD sq)) (w_eq (sp_eq (fun z e => (ok.sp z e).1.asc) fun z e => (ok2.sp z e).1.asc) (cut_same rfl ?_)))⟩)⟩))
    rw [e] at p
    rw [Bool.true_and] at p
    exact p
  · rw [e, Bool.false_and] at p
    exact cut_same rfl p
theorem shape_eq_odd {k : Kd} (hd0 : deref h (.cl d0) = some d) (hd1 : deref h (.cl d1) = some e0) (hk : kd e0.u = some k) (hx : k ∈ ks) (hn : k ≠ .own "Shape") (hn2 : ∀ C, k ≠ .exc C) (p : P (.cl (.bl false)) h) : okF (CP.m_Shape_D_eq_D ks rz [d0, d1] h) P X := by
  unfold CP.m_Shape_D_eq_D
  refine okF_fn rfl ?_
  show okS (CP.b_Shape_D_eq_D ks rz [.cl d0, .cl d1] h) _ _ _ _
  unfold CP.b_Shape_D_eq_D
  have hb : insK k (.own "Shape") = false := by
    cases k with
    | b T => rfl
    | own C => exact decide_eq_false fun e => hn (by rw [e])
    | exc C => exact absurd rfl (hn2 C)
    | fn => rfl
  refine okS_seq (okS_yes (okB_not (okB_tru (okE_cb (okE_cons (okE_var rfl (okE_cons (okE_c (okE_nil (okW_d2 hd1 rfl (w_isi rfl hk hx ⟨_, false, rfl, ?_, rfl, okS_ret (okE_c (cut_same rfl p))⟩)))))))))))
  rw [hb]
  rfl
theorem joinL_props {sep : List Nat} (h1 : sep.length = 1) (h2 : ∀ c ∈ sep, c < 128) : ∀ ls : List (List Nat), (∀ l ∈ ls, l.length ≤ 8 ∧ ∀ c ∈ l, c < 128) → (TL.joinL sep ls).length ≤ 9 * ls.length ∧ ∀ c ∈ TL.joinL sep ls, c < 128
  | [], _ => ⟨Nat.zero_le _, fun c h => by cases h⟩
  | [p], h => by
    have hp := h p (List.mem_cons_self ..)
    refine ⟨?_, hp.2⟩
    show p.length ≤ 9 * 1
    omega
  | p :: q :: r, h => by
    have hp := h p (List.mem_cons_self ..)
    obtain ⟨i1, i2⟩ := joinL_props h1 h2 (q :: r) fun l hl => h l (List.mem_cons_of_mem _ hl)
    simp only [TL.joinL, List.length_append, List.length_cons] at i1 i2 ⊢
    refine ⟨by omega, fun c hc => ?_⟩
    rcases List.mem_append.mp hc with hc | hc
    · exact hp.2 c hc
    · rcases List.mem_append.mp hc with hc | hc
      · exact h2 c hc
      · exact i2 c hc
theorem join_plus {zs : List Str} (h : ∀ z ∈ zs, Nm z) : (Txt.join "+" zs).length ≤ 9 * zs.length ∧ Asc (Txt.join "+" zs) := by
  have e := TL.tl_join "+" zs
  have e2 : TL.tl ("+" : Str) = [43] := by decide +kernel
  rw [e2] at e
  have p := joinL_props (sep := [43]) rfl (by decide) (zs.map TL.tl) fun l hl => by
    obtain ⟨z, hz, rfl⟩ := List.mem_map.mp hl
    exact ⟨(h z hz).2.1, (h z hz).asc⟩
  rw [List.length_map] at p
  rw [← e] at p
  rw [TL.join_eq, SL.len_str]
  exact p
theorem w_joinP {zs : List Str} {Q : W → Prop} (h : ∀ z ∈ zs, Nm z) (hl : zs.length ≤ 50) (q : Q (.cl (.str (Txt.join "+" zs)))) : okW (fJoin "+" [.lst (LS zs)]) Q := by
  refine ⟨_, ?_, q⟩
  show ((strsOf (LS zs)).bind fun zs => if (zs.map (·.length)).sum + zs.length * (("+" : Str).length) ≤ 16777216 then some (W.cl (.str (Txt.join "+" zs))) else none) = _
  rw [strsOf_map]
  show (if (zs.map (·.length)).sum + zs.length * (("+" : Str).length) ≤ 16777216 then some (W.cl (.str (Txt.join "+" zs))) else none) = _
  have e : (zs.map (·.length)).sum ≤ 8 * zs.length := by
    clear q hl
    induction zs with
    | nil => exact Nat.le_refl _
    | cons z zs ih =>
      rw [List.map_cons, List.sum_cons, List.length_cons]
      have := ih fun x hx => h x (List.mem_cons_of_mem _ hx)
      have h8 := (h z (List.mem_cons_self ..)).2.1
      rw [← SL.len_str] at h8
      omega
  have e2 : (("+" : Str).length) = 1 := by decide +kernel
  rw [if_pos (by rw [e2]; omega)]
theorem len_add (a b : Str) : (a ++ b).length = a.length + b.length := by
  obtain ⟨x, rfl⟩ := S_of a
  obtain ⟨y, rfl⟩ := S_of b
  rw [S_add, S_len, S_len, S_len, List.length_append]
/-- the text of a shape -/
def shH (fx : List Str) : Str := if fx = [] then ("-" : Str) else Txt.join "+" fx
def shE : Option Str → Str
  | none => ("" : Str)
  | some z => (":" : Str) ++ z
def shT (fx : List Str) (sp : Option Str) : Str := shH (sortS fx) ++ shE sp
theorem emp_add (a : Str) : Str.empty ++ a = a := by
  obtain ⟨x, rfl⟩ := S_of a
  have e : Str.empty = S [] := rfl
  rw [e, S_add]
  rfl
theorem len_nm (hz : Nm z) : z.length ≤ 8 := by
  rw [SL.len_str]
  exact hz.2.1
theorem len_head (hf : ∀ z ∈ gx, Nm z) (hl : gx.length ≤ 50) : (shH gx).length ≤ 450 := by
  unfold shH
  split
  · decide
  · have := (join_plus hf).1
    omega
theorem len_tail (hs : ∀ z, sp = some z → Nm z) : (shE sp).length ≤ 9 := by
  cases sp with
  | none => decide
  | some z =>
    show ((":" : Str) ++ z).length ≤ 9
    rw [len_add]
    have := len_nm (hs z rfl)
    have e : ((":" : Str).length) = 1 := by decide +kernel
    omega
theorem shape_str (ok : ShOk fx sp) (hd : deref h (.cl d0) = some (shD fx sp)) (p : P (.cl (.str (shT fx sp))) h) : okF (CP.m_Shape_D_str_D ks rz [d0] h) P X := by
  unfold CP.m_Shape_D_str_D
  refine okF_fn rfl ?_
  show okS (CP.b_Shape_D_str_D ks rz [.cl d0, .un, .un] h) _ _ _ _
  unfold CP.b_Shape_D_str_D
  have h5 := ok.len
  have hsl := sortS_len fx
  have hn : ∀ z ∈ sortS fx, Nm z := fun z hz => ok.nm z (sortS_mem.mp hz)
  have h1 := len_head hn (by omega)
  have h2 := len_tail fun z e => (ok.sp z e).1
  refine okS_seqM (fun ρ h' => ρ = [.cl d0, .cl (.str (shH (sortS fx))), .un] ∧ h' = h) (okS_asg (okE_if (okB_test (okE_op (okE_fld (okE_var rfl ⟨_, _, hd, sh_fixed, okE_eq (w := W.fr (LS [])) rfl (okW_eq rfl (okW_eq rfl (w_ne (dEqB_L (Nm.sorted ok.nm) (fun _ z => absurd z List.not_mem_nil)) ⟨_, rfl, fun e => ?_, fun e => ?_⟩)))⟩)))))) ?_
  · have e : sortS fx ≠ [] := by simpa using e
    refine okE_bs (okE_c ⟨_, rfl, okE_cons (okE_fld (okE_var rfl ⟨_, _, hd, sh_fixed, okE_nil (okW_eq rfl (w_joinP hn (by omega) (okG_setC ⟨?_, rfl⟩)))⟩))⟩)
    unfold shH
    rw [if_neg e]
    rfl
  · have e : sortS fx = [] := by simpa using e
    refine okE_c (okG_setC ⟨?_, rfl⟩)
    unfold shH
    rw [if_pos e]
    rfl
  rintro ρ h' ⟨rfl, rfl⟩
  refine okS_seqM (fun ρ h'' => ρ = [.cl d0, .cl (.str (shH (sortS fx))), .cl (.str (shE sp))] ∧ h'' = h') (okS_asg (okE_if (okB_test (okE_op (okE_fld (okE_var rfl ⟨_, _, hd, sh_span, okE_c (okW_eq (w := spD sp) (by cases sp <;> rfl) (okW_eq rfl ?_))⟩)))))) ?_
  · cases sp with
    | none => exact okW_eq (w := .cl (.bl true)) rfl ⟨_, rfl, fun _ => okE_c (okG_setC ⟨rfl, rfl⟩), (fun e => nomatch e)⟩
    | some z =>
      refine okW_eq (w := .cl (.bl false)) rfl ⟨_, rfl, (fun e => nomatch e), fun _ => ?_⟩
      have hz := len_nm (ok.sp z rfl).1
      have e1 : ((":" : Str).length) = 1 := by decide +kernel
      have h2 : ((":" : Str) ++ z).length ≤ 9 := h2
      refine okE_js (okE_c ⟨_, (":" : Str), rfl, rfl, by rw [emp_add, e1]; decide, okE_js (okE_fmt (okE_fld (okE_var rfl ⟨_, _, hd, sh_span, z, rfl, by omega, _, z, rfl, rfl, by rw [emp_add]; omega, okE_js0 (okG_setC ⟨?_, rfl⟩)⟩)))⟩)
      rw [emp_add]
      rfl
  rintro ρ h'' ⟨rfl, rfl⟩
  refine okS_ret (okE_js (okE_fmt (okE_var rfl ⟨_, rfl, by omega, _, _, rfl, rfl, by rw [emp_add]; omega, okE_js (okE_fmt (okE_var rfl ⟨_, rfl, by omega, _, _, rfl, rfl, by rw [emp_add, len_add]; omega, okE_js0 (cut_same rfl ?_)⟩))⟩)))
  rw [emp_add]
  exact p
theorem shape_repr (ok : ShOk fx sp) (hd : deref h (.cl d0) = some (shD fx sp)) (p : ∀ z, P (.cl (.str z)) h) : okF (CP.m_Shape_D_repr_D ks rz [d0] h) P X := by
  unfold CP.m_Shape_D_repr_D
  refine okF_fn rfl ?_
  show okS (CP.b_Shape_D_repr_D ks rz [.cl d0] h) _ _ _ _
  unfold CP.b_Shape_D_repr_D
  have h5 := ok.len
  have hsl := sortS_len fx
  have hn : ∀ z ∈ sortS fx, Nm z := fun z hz => ok.nm z (sortS_mem.mp hz)
  have g1 := good_names hn (by omega)
  have g2 := good_sp fun z e => (ok.sp z e).1
  have b1 := PyData.shown_le_bulk 60 (by decide) _ g1.l
  have b2 := PyData.shown_le_bulk 60 (by decide) _ g2.l
  have c1 := g1.b
  have c2 := g2.b
  have e1 : (("Shape(" : Str).length) = 6 := by decide +kernel
  have e2 : ((", " : Str).length) = 2 := by decide +kernel
  have e3 : ((")" : Str).length) = 1 := by decide +kernel
  refine okS_ret (okE_js (okE_c ⟨_, ("Shape(" : Str), rfl, rfl, by rw [emp_add]; omega, ?_⟩))
  refine okE_js (okE_cb (okE_cons (okE_fld (okE_var rfl ⟨_, _, hd, sh_fixed, okE_nil (okW_eq rfl (w_repr (pd_strs _) g1 (by omega) (by omega) fun l1 => ⟨_, _, rfl, rfl, by rw [emp_add, len_add]; omega, ?_⟩))⟩))))
  refine okE_js (okE_c ⟨_, (", " : Str), rfl, rfl, by rw [emp_add, len_add, len_add]; omega, ?_⟩)
  refine okE_js (okE_cb (okE_cons (okE_fld (okE_var rfl ⟨_, _, hd, sh_span, okE_nil (okW_d1 (d := spD sp) (by cases sp <;> rfl) (w_repr (pd_spD _) g2 (by omega) (by omega) fun l1 => ⟨_, _, rfl, rfl, by rw [emp_add, len_add, len_add, len_add]; omega, ?_⟩))⟩))))
  refine okE_js (okE_c ⟨_, (")" : Str), rfl, rfl, by rw [emp_add, len_add, len_add, len_add, len_add]; omega, ?_⟩)
  exact okE_js0 (cut_same rfl (p _))
end
end CM

/-! CX3: shapes drawn by positions of names. -/
namespace CM
open PySem PySem.Spec PyProof.Rows L2 SL
def nm (ls : List (List Nat)) (i : Nat) : Str := S (ls.getD i [])
section
variable {ls : List (List Nat)} {m i j : Nat} {p : Pt}
theorem nm_eq (hi : i < ls.length) : nm ls i = S ls[i] := by
  unfold nm
  rw [List.getD_eq_getElem?_getD, List.getElem?_eq_getElem hi]
  rfl
theorem nm_at (hi : i < ls.length) : (LS (ls.map S))[i]? = some (.str (nm ls i)) := by
  rw [nm_eq hi, List.getElem?_map, List.getElem?_map, List.getElem?_eq_getElem hi]
  rfl
theorem nm_nm (c : Cols m ls) (hi : i < m) : Nm (nm ls i) := by
  have hi : i < ls.length := by rw [c.1]; exact hi
  rw [nm_eq hi]
  exact c.2.2 _ (List.getElem_mem hi)
theorem nm_inj (c : Cols m ls) (hi : i < m) (hj : j < m) (e : nm ls i = nm ls j) : i = j := by
  have hi : i < ls.length := by rw [c.1]; exact hi
  have hj : j < ls.length := by rw [c.1]; exact hj
  rw [nm_eq hi, nm_eq hj] at e
  have e := S_inj e
  rcases Nat.lt_trichotomy i j with z | z | z
  · exact absurd e (List.pairwise_iff_getElem.mp c.2.1 i j hi hj z)
  · exact z
  · exact absurd e.symm (List.pairwise_iff_getElem.mp c.2.1 j i hj hi z)
/-- positions of a shape, in any sequence -/
structure PtU (m : Nat) (p : Pt) : Prop where
  nd : p.1.Nodup
  lt : ∀ i ∈ p.1, i < m
  len : p.1.length ≤ 5
  sp : ∀ i, p.2 = some i → i < m ∧ i ∉ p.1 ∧ p.1.length < 5
theorem Part.u {fx : List Nat} {sp : Option Nat} (q : Part m fx sp) : PtU m (fx, sp) := ⟨q.nd, q.lt, q.len, q.sp⟩
abbrev fxP (ls : List (List Nat)) (p : Pt) : List Str := p.1.map (nm ls)
abbrev spP (ls : List (List Nat)) (p : Pt) : Option Str := p.2.map (nm ls)
def shP (ls : List (List Nat)) (p : Pt) : D := shD (fxP ls p) (spP ls p)
theorem PtU.sh (c : Cols m ls) (q : PtU m p) : ShOk (fxP ls p) (spP ls p) where
  len := by rw [List.length_map]; exact q.len
  nd := by
    unfold List.Nodup
    rw [List.pairwise_map]
    exact q.nd.imp_of_mem fun {a b} ha hb hab e => hab (nm_inj c (q.lt a ha) (q.lt b hb) e)
  nm := fun z hz => by
    obtain ⟨i, hi, rfl⟩ := List.mem_map.mp hz
    exact nm_nm c (q.lt i hi)
  sp := fun z hz => by
    obtain ⟨i, hi, rfl⟩ := Option.map_eq_some_iff.mp hz
    obtain ⟨h1, h2, h3⟩ := q.sp i hi
    refine ⟨nm_nm c h1, fun hm => ?_, by rw [List.length_map]; exact h3⟩
    obtain ⟨k, hk, e⟩ := List.mem_map.mp hm
    rw [nm_inj c (q.lt k hk) h1 e] at hk
    exact h2 hk
theorem below_shD {k : Nat} (fx : List Str) (sp : Option Str) : below k (shD fx sp) = true := by
  show below k (.ins "Shape" (shF fx sp)) = true
  rw [below_ins]
  have h1 : below k (.lst (LS (sortS fx))) = true := below_strs (sortS fx)
  have h2 : below k (spD sp) = true := by cases sp <;> first | exact below_non | exact below_str
  simp [h1, h2]
theorem shD_perm {fx gx : List Str} {sp : Option Str} (h : fx.Perm gx) : shD fx sp = shD gx sp := by
  unfold shD shF
  rw [sortS_eq.mpr h]
end
section
variable {ρ : List Sl} {h h0 h1 g : Tb} {N : List Sl → Tb → Prop} {T : Ps W} {L : Bool → List Sl → Tb → Prop} {tk si : Fnm} {b n k i j len m most : Nat} {c : D} {ks : List Kd} {rz : Bool} {ls : List (List Nat)} {p : Pt}
local macro_rules | `(tactic| walk_at "hv") => `(tactic| first | rfl | assumption | (exact (by assumption : _)))
local macro_rules | `(tactic| walk_at "p1") => `(tactic| first
  | with_reducible refine CM.okS_seq ?_ | with_reducible refine CM.okS_next ?_ | with_reducible refine CM.okS_asg ?_ | with_reducible refine CM.okS_ret ?_ | with_reducible refine CM.okS_drop ?_ | with_reducible refine CM.okS_aug ?_ | with_reducible refine CM.okS_cnt ?_ | with_reducible refine CM.okS_fg ?_ | with_reducible refine CM.okS_retN ?_
  | with_reducible refine CM.okE_op ?_ | with_reducible refine CM.okE_cb ?_ | with_reducible refine CM.okE_cons ?_ | with_reducible refine CM.okE_nil ?_ | with_reducible refine CM.okB_not ?_ | with_reducible refine CM.okE_c ?_ | with_reducible refine CM.okE_fr ?_ | with_reducible refine CM.okE_ce ?_ | with_reducible refine CM.okE_notV ?_ | with_reducible refine CM.okE_un ?_
  | with_reducible refine CM.okE_sl ?_ | with_reducible refine CM.okE_nopart ?_
  | ((with_reducible refine' CM.okE_var ?hv ?_); (case hv => rfl))
  | ((with_reducible refine' CM.okE_part (CM.okE_var ?hv ⟨_, ?hv2, ?_⟩)); (case hv => rfl); (case hv2 => rfl))
  | ((with_reducible refine' CM.okE_part (CM.okE_c ⟨_, ?hv2, ?_⟩)); (case hv2 => rfl))
  | ((with_reducible refine' CM.okW_eq (w := _) ?hv ?_); (case hv => (with_reducible rfl)))
  | ((with_reducible refine' CM.okW_deref ?hv ?_); (case hv => walk_at "hv")) | ((with_reducible refine' CM.okW_derefs ?hv ?_); (case hv => rfl)) | ((with_reducible refine' CM.okW_derefC ?hv ?_); (case hv => walk_at "hv")) | ((with_reducible refine' CM.okW_lstAt ?hv ?_); (case hv => walk_at "hv"))
  | with_reducible refine CM.w_add ?_ | with_reducible refine CM.w_sub ?_ | with_reducible refine CM.w_lt ?_ | with_reducible refine CM.w_le ?_ | with_reducible refine CM.w_gt ?_ | with_reducible refine CM.w_ge ?_ | with_reducible refine CM.w_addI ?_
  | with_reducible refine CM.w_mod (by omega) ?_ | with_reducible refine CM.w_div (by omega) (by rw [CM.big_eq]; omega) ?_ | with_reducible refine CM.w_mul (by rw [CM.big_eq]; omega) (by rw [CM.big_eq]; omega) (by rw [CM.big_eq]; omega) (by rw [CM.big_eq]; omega) ?_ | with_reducible refine CM.w_sq (by omega) (by omega) ?_
  | with_reducible refine CM.w_max2 ?_ | with_reducible refine CM.w_min2 ?_ | with_reducible refine CM.w_lenL ?_ | with_reducible refine CM.w_lenT ?_ | with_reducible refine CM.w_lenC ?_ | with_reducible refine CM.w_listL ?_ | with_reducible refine CM.w_listT ?_ | with_reducible refine CM.w_tupL ?_ | with_reducible refine CM.w_tupT ?_
  | ((with_reducible refine CM.okG_setC ?_); (try dsimp only [List.set, CM.fzW]))
  | ((with_reducible refine' CM.okW_ix ?hv ?_); (case hv => rfl))
  | ((with_reducible refine' CM.okB_test (CM.okE_eqn ⟨_, ?hv, ?_⟩)); (case hv => rfl))
  | ((with_reducible refine' CM.okB_testd ⟨_, ?hv, ?_⟩); (case hv => rfl)))
local macro_rules | `(tactic| walk_at "p") => `(tactic| repeat walk_at "p1")
theorem w_ixP {ds : List D} {v : Int} {d : D} {Q : W → Prop} (v0 : 0 ≤ v) (e : ds[v.toNat]? = some d) (q : Q (.cl d)) : okW (dIx (.lst ds) (.int v)) Q := by
  obtain ⟨v, rfl⟩ := Int.eq_ofNat_of_zero_le v0
  rw [Int.toNat_natCast] at e
  exact w_ixL e q
/-- None if part[1] is None else names[part[1]] -/
theorem okE_spN {P : Ps W} {X : Px} {a b : Nat} (c : Cols m ls) (u : PtU m p) (ha : ρ[a]? = some (.cl (partD p))) (hb : ρ[b]? = some (.cl (.lst (LS (ls.map S))))) (q : P (.cl (spD (spP ls p))) ρ h) :
    okE (mIf (mTest (mOp dIs (mOp dIx (mVar a) (mC (.int 1))) (mC .non))) (mC .non) (mOp dIx (mVar b) (mOp dIx (mVar a) (mC (.int 1)))) ρ h) P X := by
  refine okE_if (okB_test (okE_op (okE_op (okE_var ha (okE_c (okW_eq rfl (okW_eq rfl (w_ixT (i := 1) rfl (okE_c (okW_eq (w := oI p.2) (by cases p.2 <;> rfl) (okW_eq rfl ?_)))))))))) )
  obtain ⟨fx, sp⟩ := p
  cases sp with
  | none => exact okW_eq (w := .cl (.bl true)) rfl ⟨_, rfl, fun _ => okE_c q, (fun e => nomatch e)⟩
  | some i =>
    have hi : i < ls.length := by rw [c.1]; exact (u.sp i rfl).1
    exact okW_eq (w := .cl (.bl false)) rfl ⟨_, rfl, (fun e => nomatch e), fun _ => okE_op (okE_var hb (okE_op (okE_var ha (okE_c (okW_eq rfl (okW_eq rfl (w_ixT (i := 1) rfl (okW_eq rfl (okW_eq rfl (w_ixL (nm_at hi) q)))))))))) ⟩
theorem shape_draw {P : W → Tb → Prop} {X : Str → List (Str × D) → Tb → Prop} (t : Tk tk) (hks : KsOk ks) (hsi : si = CP.m_Shape_D_init_D ks rz) (hb : Bx b n h0 h) (hn : n ≤ 90000000) (c : Cols m ls) (u : PtU m p) (q : ∀ h', Bx b (n + 10) h0 h' → P (.nw (shP ls p)) h') :
    okF (fnM false 3 3 (shapeM tk si) [.ce b, .lst (LS (ls.map S)), partD p] h) P X := by
  refine okF_fn rfl ?_
  show okS (shapeM tk si [.cl (.ce b), .cl (.lst (LS (ls.map S))), .cl (partD p), .un, .un, .un] h) _ _ _ _
  have hl0 := hb.len
  have hbs := hb.self
  have hpl := u.len
  unfold shapeM
  refine okS_seq (okS_par (okE_cons (okE_cb (okE_cons (okE_op (okE_var rfl (okE_c (okW_eq rfl (okW_eq rfl (w_ixT (i := 0) rfl (okE_nil (okW_eq rfl (w_listL (okE_cons (okE_eq (w := W.fr []) rfl (okE_nil ⟨_, _, rfl, ?_⟩))))))))))))))))
  show okS _ _ _ _ _
  dsimp only [gPut, List.set]
  rw [List.append_assoc, List.length_append, List.length_singleton]
  dsimp only [List.cons_append, List.nil_append]
  refine okS_seq (okS_for (rng_ok (m := p.1.length) (it := ⟨[], []⟩) (by omega) (okE_cons (okE_cb (okE_cons (okE_var rfl (okE_nil (okW_derefC (tail_at0 rfl) (w_lenL (okE_nil ⟨by rw [PI_len], rfl, rfl⟩)))))))) ?_))
  refine okS_loop0 (fun j ρ h' => ∃ (dn left : List Nat) (h1 : Tb) (s5 : Sl), ρ = [.cl (.ce b), .cl (.lst (LS (ls.map S))), .cl (partD p), .cl (.ce h.length), .cl (.ce (h.length + 1)), s5] ∧ h' = h1 ++ [.lst (PI left), .lst (LS (dn.map (nm ls)))] ∧ dn.length = j ∧ (dn ++ left).Perm p.1 ∧ Bx b (n + j) h h1) _ 0 ⟨[], p.1, h, _, rfl, rfl, rfl, .refl _, hbs⟩ ?_ ?_
  · rintro j d ρ h' hj ⟨dn, left, h2, s5, rfl, rfl, g1, g2, g3⟩
    obtain ⟨hj2, rfl⟩ := rng_at hj
    rw [Nat.zero_add] at g1 g3 ⊢
    have hl2 := g3.len
    have hlen : dn.length + left.length = p.1.length := by
      have := g2.length_eq
      rw [List.length_append] at this
      exact this
    refine okG_setC ?_
    dsimp only [List.set, fzW]
    refine okS_drop (okE_mut (okE_var rfl (okW_lstAt (tail_at hl2) (okE_cons (okE_op (okE_var rfl (okE_mut (okE_var rfl (okW_lstAt (tail_at0 hl2) (okE_cons (okE_tkg (m := left.length) t g3 rfl (by omega) ?_ (by omega) (by omega) fun w h3 w0 w1 hb3 => ?_)))))))))))
    · exact okE_cb (okE_cons (okE_var rfl (okE_nil (okW_derefC (tail_at0 hl2) (w_lenL ⟨rfl, rfl, by rw [PI_len]⟩)))))
    have hl3 := hb3.len
    refine okE_nil (okW_lstAt (tail_at0 hl3) (popAt_ok (cs := PI left) w0 (by rw [PI_len]; exact w1) (by rw [PI_len]; omega) fun hw => ?_))
    rw [PI_len] at hw
    rw [tail_set0 hl3]
    have hm : left[w.toNat] ∈ p.1 := g2.mem_iff.mp (List.mem_append_right _ (List.getElem_mem hw))
    have hi : left[w.toNat] < ls.length := by rw [c.1]; exact u.lt _ hm
    have e1 : (PI left)[w.toNat]'(by rw [PI_len]; exact hw) = .int (left[w.toNat] : Nat) := by
      have := PI_get hw
      rw [List.getElem?_eq_getElem (by rw [PI_len]; exact hw)] at this
      exact Option.some.inj this
    rw [e1]
    refine okW_eq rfl (okW_eq rfl (w_ixL (nm_at hi) (okE_nil (okW_lstAt (tail_at (i := 1) hl3) (w_append (by rw [List.length_map, List.length_map]; omega) ?_)))))
    rw [tail_set hl3]
    refine ⟨dn ++ [left[w.toNat]], left.eraseIdx w.toNat, h3, _, rfl, ?_, ?_, ?_, hb3⟩
    · dsimp only [List.set, fzW]
      rw [PI_erase, List.map_append]
      simp
    · rw [List.length_append, g1]
      rfl
    · rw [List.append_assoc]
      exact (List.Perm.append_left dn (perm_pop left w.toNat hw)).trans g2
  rintro ρ h' ⟨dn, left, h2, s5, rfl, rfl, g1, g2, g3⟩
  rw [List.length_map, List.length_range, Nat.zero_add] at g1 g3
  have hl2 := g3.len
  have hleft : left = [] := by
    have := g2.length_eq
    rw [List.length_append] at this
    exact List.eq_nil_of_length_eq_zero (by omega)
  subst hleft
  rw [List.append_nil] at g2
  have hu : PtU m (dn, p.2) := ⟨g2.nodup_iff.mpr u.nd, fun i hi => u.lt i (g2.mem_iff.mp hi), by rw [g2.length_eq]; exact u.len, fun i e => by
    obtain ⟨a1, a2, a3⟩ := u.sp i e
    exact ⟨a1, fun z => a2 (g2.mem_iff.mp z), by rw [g2.length_eq]; exact a3⟩⟩
  have hsh : shD (dn.map (nm ls)) (spP ls p) = shP ls p := shD_perm (g2.map _)
  subst hsi
  refine okS_ret (okE_shape hks (okE_cons (okE_fr (okE_op (okE_lst (okE_cons (okE_var rfl (okE_cons (okE_cb (okE_cons (okE_var rfl (okE_nil (okW_derefC (tail_at (i := 1) hl2) (w_tupL (okE_nil ⟨Nat.le_of_ble_eq_true rfl, ?_⟩)))))))))))))))
  refine okE_tkcg t g3 rfl (by omega) (by decide) (by decide) fun v h3 v0 v1 hb3 => ?_
  have hl3 := hb3.len
  have fin : ∀ d0 : D, deref (h3 ++ [.lst (PI []), .lst (LS (dn.map (nm ls)))]) (.cl d0) = some (.lst (LS (dn.map (nm ls)))) ∨ d0 = .tup (LS (dn.map (nm ls))) → okE (mCons (mFr (mIf (mTest (mOp dIs (mOp dIx (mVar 2) (mC (.int 1))) (mC .non))) (mC .non) (mOp dIx (mVar 1) (mOp dIx (mVar 2) (mC (.int 1)))))) mNil [.cl (.ce b), .cl (.lst (LS (ls.map S))), .cl (partD p), .cl (.ce h.length), .cl (.ce (h.length + 1)), s5] (h3 ++ [.lst (PI []), .lst (LS (dn.map (nm ls)))])) (fun ws ρ h_1 => (fun ws ρ h' => ∃ d0 d fx sp, ws.map fzW ++ [] = [d0, spD sp] ∧ deref h' (.cl d0) = some d ∧ seqD d.u = some (LS fx) ∧ ShOk fx sp ∧ okW (cutF false h (.nw (shD fx sp)) h') fun x => P x.1 x.2) (W.cl d0 :: ws) ρ h_1) (fun C fs ρ h' => okW (cutX false h fs h') fun x => X C fs x) := fun d0 hd0 => by
    refine okE_cons (okE_fr (okE_spN c u rfl rfl (okE_nil ?_)))
    have cut : okW (cutF false h (.nw (shD (dn.map (nm ls)) (spP ls p))) (h3 ++ [.lst (PI []), .lst (LS (dn.map (nm ls)))])) fun x => P x.1 x.2 := by
      refine cut_app hl3 (Bx.cut hbs hb3) (fun _ z => by cases z) (below_shD _ _) ?_
      rw [hsh]
      exact q h3 ((hb.trans hb3).mono (by omega))
    rcases hd0 with e | rfl
    · exact ⟨d0, _, dn.map (nm ls), spP ls p, rfl, e, rfl, hu.sh c, cut⟩
    · exact ⟨_, .tup (LS (dn.map (nm ls))), dn.map (nm ls), spP ls p, rfl, rfl, rfl, hu.sh c, cut⟩
  have hv : v = 0 ∨ v = 1 := by omega
  rcases hv with rfl | rfl
  · exact okW_eq rfl (okW_eq rfl (w_ixP (d := .ce (h.length + 1)) (by decide) rfl (fin _ (.inl (tail_at (i := 1) hl3)))))
  · exact okW_eq rfl (okW_eq rfl (w_ixP (d := .tup (LS (dn.map (nm ls)))) (by decide) rfl (fin _ (.inr rfl))))
end
end CM

/-! the plain runs of the defs of searchorders_k04_shapes_told -/
namespace K04
open PySem PySem.Spec PyProof.Rows L2 SL CM
abbrev KS : List Kd := [.b "NoneType", .b "bool", .b "int", .b "str", .b "list", .b "tuple", .b "dict", .own "Shape"]
noncomputable def b_Shape_sets : MS := (sRet (mIf (mTest (mOp dIs (mFld "Shape" "span_column" (mVar 0)) (mC .non))) (mLst (mCons (mCe (mMeth "Shape" "fixed" (CP.m_Shape_fixed KS false) (mVar 0) mNil)) mNil)) (mLst (mCons (mCe (mMeth "Shape" "fixed" (CP.m_Shape_fixed KS false) (mVar 0) mNil)) (mCons (mCe (mMeth "Shape" "columns" (CP.m_Shape_columns KS false) (mVar 0) mNil)) mNil)))))
noncomputable def m_Shape_sets : Fnm := fnM true 1 0 b_Shape_sets
noncomputable def b_l_law_cell : MS := (sSeq (sIf (mTest (mOp dLt (mVar 1) (mCB dLen (mCons (mVar 0) mNil)))) (sRet (mOp dIx (mVar 0) (mVar 1))) sNext)
    (sRet (mOp dAdd (mOp dMul (mC (.int 15490301)) (mVar 1)) (mC (.int 83)))))
noncomputable def m_l_law_cell : Fnm := fnM false 2 0 b_l_law_cell
noncomputable def b_l_law_bag : MS := (sRet (mLst (mCons (mCB dMax2 (mCons (mC (.int 0)) (mCons (mOp dSub (mVar 0) (mOp dPow (mC (.int 10)) (mC (.int 18)))) mNil))) (mCons (mOp dMod (mVar 0) (mC (.int 2147483629))) (mCons (mC (.int 0)) mNil)))))
noncomputable def m_l_law_bag : Fnm := fnM false 1 0 b_l_law_bag
noncomputable def b_l_law_take : MS := (sSeq (sIf (mTest (mOp dGt (mOp dIx (mVar 0) (mC (.int 0))) (mC (.int 0)))) (sSeq (sAsg (mOp dMod (mOp dIx (mVar 0) (mC (.int 0))) (mVar 1)) (gSetC 3))
    (sSeq (sAsg (mOp dDiv (mOp dIx (mVar 0) (mC (.int 0))) (mVar 1)) (gSubL (mVar 0) (mC (.int 0))))
    (sRet (mVar 3)))) sNext)
    (sSeq (sAsg (mOp dAdd (mOp dIx (mVar 0) (mC (.int 2))) (mC (.int 1))) (gSubL (mVar 0) (mC (.int 2))))
    (sSeq (sAsg (mOp dMod (mOp dPow (mOp dAdd (mOp dAdd (mOp dIx (mVar 0) (mC (.int 1))) (mOp dMul (mC (.int 15490301)) (mOp dIx (mVar 0) (mC (.int 2))))) (mC (.int 83))) (mC (.int 5))) (mC (.int 2147483647))) (gSetC 2))
    (sSeq (sAsg (mOp dMod (mOp dPow (mOp dAdd (mVar 2) (mOp dMul (mC (.int 104347)) (mOp dIx (mVar 0) (mC (.int 2))))) (mC (.int 3))) (mC (.int 2147483587))) (gSetC 2))
    (sRet (mOp dMod (mOp dDiv (mVar 2) (mC (.int 16))) (mVar 1)))))))
noncomputable def m_l_law_take : Fnm := fnM false 2 2 b_l_law_take
noncomputable def b_l_law_names : MS := (sSeq (sAsg (mC (.str "abcdefghijklmnopqrstuvwxyz")) (gSetC 2))
    (sSeq (sFg [8] (sAsg (mBS fJoin (mC (.str "")) (mCons (mLc (mRng1 (mCons (mC (.int 7)) mNil)) (gSetC 8) mYes (mOp dIx (mVar 2) (callN m_l_law_take (mCons (mCe (mVar 0)) (mCons (mFr (mC (.int 26))) mNil)))) [8]) mNil)) (gSetC 3)))
    (sSeq (sPar3 false false false 4 5 6 (mCons (callN m_l_law_take (mCons (mCe (mVar 0)) (mCons (mFr (mC (.int 8))) mNil))) (mCons (callN m_l_law_take (mCons (mCe (mVar 0)) (mCons (mFr (mC (.int 26))) mNil))) (mCons (mOp dIx (mLst (mCons (mC (.int 1)) (mCons (mC (.int 3)) (mCons (mC (.int 5)) (mCons (mC (.int 7)) (mCons (mC (.int 9)) (mCons (mC (.int 11)) (mCons (mC (.int 15)) (mCons (mC (.int 17)) mNil))))))))) (callN m_l_law_take (mCons (mCe (mVar 0)) (mCons (mFr (mC (.int 8))) mNil)))) mNil))))
    (sSeq (sAsg (mLst mNil) (gSet 7))
    (sSeq (sFor (mRng1 (mCons (mVar 1) mNil)) (gSetC 8) (sSeq (sAsg (mOp dAdd (mSl (mVar 3) mNoPart (mPart (mVar 4))) (mOp dIx (mVar 2) (mOp dMod (mOp dAdd (mVar 5) (mOp dMul (mVar 6) (mVar 8))) (mC (.int 26))))) (gSetC 9))
    (sDrop (mMut fAppend (mVar 7) (mCons (mOp dAdd (mVar 9) (mSl (mVar 3) (mPart (mVar 4)) (mPart (mOp dAdd (mVar 4) (callN m_l_law_take (mCons (mCe (mVar 0)) (mCons (mFr (mOp dSub (mC (.int 8)) (mVar 4))) mNil))))))) mNil)))))
    (sSeq (sIf (mAnd (mTest (mOp dGt (mVar 1) (mC (.int 1)))) (mAnd (mTest (mOp dLt (mCB dLen (mCons (mOp dIx (mVar 7) (mC (.int 0))) mNil)) (mC (.int 8)))) (mTest (mOp dEq (callN m_l_law_take (mCons (mCe (mVar 0)) (mCons (mFr (mC (.int 3))) mNil))) (mC (.int 0)))))) (sAsg (mOp dAdd (mOp dIx (mVar 7) (mC (.int 0))) (mOp dIx (mVar 2) (callN m_l_law_take (mCons (mCe (mVar 0)) (mCons (mFr (mC (.int 26))) mNil))))) (gSubL (mVar 7) (mC (.int 1)))) sNext)
    (sRet (mVar 7))))))))
noncomputable def m_l_law_names : Fnm := fnM false 2 8 b_l_law_names
noncomputable def b_l_law_pick : MS := (sSeq (sPar true true 3 4 (mCons (mLstRg (mVar 1)) (mCons (mLst mNil) mNil)))
    (sSeq (sFor (mRng1 (mCons (callN m_l_law_take (mCons (mCe (mVar 0)) (mCons (mFr (mOp dAdd (mCB dMin2 (mCons (mVar 1) (mCons (mVar 2) mNil))) (mC (.int 1)))) mNil))) mNil)) (gSetC 5) (sDrop (mMut fAppend (mVar 4) (mCons (mMut fPopAt (mVar 3) (mCons (callN m_l_law_take (mCons (mCe (mVar 0)) (mCons (mFr (mCB dLen (mCons (mVar 3) mNil))) mNil))) mNil)) mNil))))
    (sSeq (sIf (mOr (mTest (mOp dEq (mVar 3) (mLst mNil))) (mOr (mTest (mOp dGt (mCB dLen (mCons (mVar 4) mNil)) (mC (.int 4)))) (mTest (mOp dEq (callN m_l_law_take (mCons (mCe (mVar 0)) (mCons (mFr (mC (.int 2))) mNil))) (mC (.int 0)))))) (sRet (mTup (mCons (mCB dSrt (mCons (mVar 4) mNil)) (mCons (mC .non) mNil)))) sNext)
    (sRet (mTup (mCons (mCB dSrt (mCons (mVar 4) mNil)) (mCons (mOp dIx (mVar 3) (callN m_l_law_take (mCons (mCe (mVar 0)) (mCons (mFr (mCB dLen (mCons (mVar 3) mNil))) mNil)))) mNil)))))))
noncomputable def m_l_law_pick : Fnm := fnM false 3 3 b_l_law_pick
noncomputable def b_l_law_near : MS := (sSeq (sAsg (mTup (mCons (mCe (mCB dList (mCons (mOp dIx (mVar 2) (mC (.int 0))) mNil))) (mCons (mFr (mOp dIx (mVar 2) (mC (.int 1)))) mNil))) (gTupM 2 (gsCons (gSet 3) (gsCons (gSetC 4) gsNil))))
    (sSeq (sAsg (mLc (mRng1 (mCons (mVar 1) mNil)) (gSetC 7) (mTest (mOp dNi (mVar 7) (mVar 3))) (mVar 7) [7]) (gSetC 5))
    (sSeq (sAsg (callN m_l_law_take (mCons (mCe (mVar 0)) (mCons (mFr (mC (.int 4))) mNil))) (gSetC 6))
    (sSeq (sIf (mAnd (mTest (mOp dLt (mVar 6) (mC (.int 2)))) (mTest (mOp dNe (mVar 5) (mLst mNil)))) (sAsg (mCB dSrt (mCons (mOp dAdd (mVar 3) (mLst (mCons (mOp dIx (mVar 5) (callN m_l_law_take (mCons (mCe (mVar 0)) (mCons (mFr (mCB dLen (mCons (mVar 5) mNil))) mNil)))) mNil))) mNil)) (gSet 3)) sNext)
    (sSeq (sIf (mAnd (mTest (mOp dEq (mVar 6) (mC (.int 2)))) (mTest (mOp dNe (mVar 3) (mLst mNil)))) (sDrop (mMut fPopAt (mVar 3) (mCons (callN m_l_law_take (mCons (mCe (mVar 0)) (mCons (mFr (mCB dLen (mCons (mVar 3) mNil))) mNil))) mNil))) sNext)
    (sSeq (sAsg (mLc (mRng1 (mCons (mVar 1) mNil)) (gSetC 7) (mTest (mOp dNi (mVar 7) (mVar 3))) (mVar 7) [7]) (gSetC 5))
    (sSeq (sIf (mOr (mTest (mOp dIn (mVar 4) (mVar 3))) (mTest (mOp dEq (mVar 6) (mC (.int 3))))) (sAsg (mC .non) (gSetC 4)) sNext)
    (sSeq (sIf (mAnd (mTest (mOp dNe (mVar 5) (mLst mNil))) (mTest (mOp dEq (callN m_l_law_take (mCons (mCe (mVar 0)) (mCons (mFr (mC (.int 3))) mNil))) (mC (.int 0))))) (sAsg (mOp dIx (mVar 5) (callN m_l_law_take (mCons (mCe (mVar 0)) (mCons (mFr (mCB dLen (mCons (mVar 5) mNil))) mNil)))) (gSetC 4)) sNext)
    (sRet (mTup (mCons (mSl (mVar 3) mNoPart (mPart (mC (.int 5)))) (mCons (mIf (mTest (mOp dLt (mCB dLen (mCons (mVar 3) mNil)) (mC (.int 5)))) (mVar 4) (mC .non)) mNil))))))))))))
noncomputable def m_l_law_near : Fnm := fnM false 3 5 b_l_law_near
noncomputable def b_l_law_parts : MS := (sSeq (sPar3 true true false 3 4 5 (mCons (mLst mNil) (mCons (mLst mNil) (mCons (callN m_l_law_take (mCons (mCe (mVar 0)) (mCons (mFr (mC (.int 3))) mNil))) mNil))))
    (sSeq (sFor (mRng1 (mCons (mVar 2) mNil)) (gSetC 6) (sSeq (sAsg (callN m_l_law_pick (mCons (mCe (mVar 0)) (mCons (mFr (mVar 1)) (mCons (mFr (mC (.int 5))) mNil)))) (gSetC 7))
    (sSeq (sIf (mAnd (mTest (mOp dGt (mVar 5) (mC (.int 0)))) (mAnd (mTest (mOp dNe (mVar 4) (mLst mNil))) (mTest (mOp dGt (callN m_l_law_take (mCons (mCe (mVar 0)) (mCons (mFr (mC (.int 3))) mNil))) (mC (.int 0)))))) (sAsg (callN m_l_law_near (mCons (mCe (mVar 0)) (mCons (mFr (mVar 1)) (mCons (mFr (mOp dIx (mVar 4) (callN m_l_law_take (mCons (mCe (mVar 0)) (mCons (mFr (mCB dLen (mCons (mVar 4) mNil))) mNil))))) mNil)))) (gSetC 7)) sNext)
    (sSeq (sDrop (mMut fAppend (mVar 4) (mCons (mVar 7) mNil)))
    (sIf (mAnd (mTest (mOp dNiD (mVar 7) (mVar 3))) (mTest (mOp dGt (callN m_l_law_take (mCons (mCe (mVar 0)) (mCons (mFr (mC (.int 5))) mNil))) (mC (.int 0))))) (sDrop (mMut fAppend (mVar 3) (mCons (mVar 7) mNil))) sNext)))))
    (sRet (mVar 3))))
noncomputable def m_l_law_parts : Fnm := fnM false 3 5 b_l_law_parts
noncomputable def b_l_law_whole : MS := (sRet (mOp dAdd (mCB dList (mCons (mOp dIx (mVar 0) (mC (.int 0))) mNil)) (mLc (mIU (mLst (mCons (mOp dIx (mVar 0) (mC (.int 1))) mNil))) (gSetC 1) (mTest (mOp dIsnt (mVar 1) (mC .non))) (mVar 1) [1])))
noncomputable def m_l_law_whole : Fnm := fnM false 1 1 b_l_law_whole
noncomputable def b_l_law_shape : MS := (sSeq (sPar true true 3 4 (mCons (mCB dList (mCons (mOp dIx (mVar 2) (mC (.int 0))) mNil)) (mCons (mLst mNil) mNil)))
    (sSeq (sFor (mRng1 (mCons (mCB dLen (mCons (mVar 3) mNil)) mNil)) (gSetC 5) (sDrop (mMut fAppend (mVar 4) (mCons (mOp dIx (mVar 1) (mMut fPopAt (mVar 3) (mCons (callN m_l_law_take (mCons (mCe (mVar 0)) (mCons (mFr (mCB dLen (mCons (mVar 3) mNil))) mNil))) mNil))) mNil))))
    (sRet (mMake false "Shape" (CP.m_Shape_D_init_D KS false) [] (mCons (mFr (mOp dIx (mLst (mCons (mVar 4) (mCons (mCB dTuple (mCons (mVar 4) mNil)) mNil))) (callN m_l_law_take (mCons (mCe (mVar 0)) (mCons (mFr (mC (.int 2))) mNil))))) (mCons (mFr (mIf (mTest (mOp dIs (mOp dIx (mVar 2) (mC (.int 1))) (mC .non))) (mC .non) (mOp dIx (mVar 1) (mOp dIx (mVar 2) (mC (.int 1)))))) mNil))))))
noncomputable def m_l_law_shape : Fnm := fnM false 3 3 b_l_law_shape
noncomputable def b_l_law_told_right : MS := (sSeq (sAsg (mCB dSrt (mCons (mLc (mIU (mOp dIx (mVar 2) (mC (.int 0)))) (gSetC 10) mYes (mOp dIx (mVar 1) (mVar 10)) [10]) mNil)) (gSetC 3))
    (sSeq (sAsg (mIf (mTest (mOp dIs (mOp dIx (mVar 2) (mC (.int 1))) (mC .non))) (mC .non) (mOp dIx (mVar 1) (mOp dIx (mVar 2) (mC (.int 1))))) (gSetC 4))
    (sSeq (sAsg (mCB dSrt (mCons (mOp dAdd (mVar 3) (mLc (mIU (mLst (mCons (mVar 4) mNil))) (gSetC 11) (mTest (mOp dIsnt (mVar 11) (mC .non))) (mVar 11) [11])) mNil)) (gSetC 5))
    (sSeq (sAsg (mOp dAdd (mIf (mTest (mOp dNe (mVar 3) (mLst mNil))) (mBS fJoin (mC (.str "+")) (mCons (mVar 3) mNil)) (mC (.str "-"))) (mIf (mTest (mOp dIs (mVar 4) (mC .non))) (mC (.str "")) (mOp dAdd (mC (.str ":")) (mVar 4)))) (gSetC 6))
    (sSeq (sAsg (mIf (mTest (mOp dIs (mVar 4) (mC .non))) (mLst (mCons (mVar 3) mNil)) (mLst (mCons (mVar 3) (mCons (mVar 5) mNil)))) (gSetC 7))
    (sSeq (sFor (mRng1 (mCons (mC (.int 2)) mNil)) (gSetC 8) (sSeq (sAsg (mLst (mCons (mCe (mMeth "Shape" "fixed" (CP.m_Shape_fixed KS false) (mVar 0) mNil)) (mCons (mCe (mMeth "Shape" "columns" (CP.m_Shape_columns KS false) (mVar 0) mNil)) (mCons (mCe (mMeth "Shape" "sets" m_Shape_sets (mVar 0) mNil)) mNil)))) (gSetC 9))
    (sSeq (sIf (mOr (mTest (mOp dNe (mCBS dRepr (mCons (mVar 9) mNil)) (mCB dRepr (mCons (mLst (mCons (mVar 3) (mCons (mVar 5) (mCons (mVar 7) mNil)))) mNil)))) (mTest (mOp dNe (mCB dRepr (mCons (mProp "Shape" (CP.m_Shape_span KS false) (mVar 0)) mNil)) (mCB dRepr (mCons (mVar 4) mNil))))) (sRet (mC (.bl false))) sNext)
    (sSeq (sIf (mOr (mTest (mOp dNe (mLenO "Shape" (CP.m_Shape_D_len_D KS false) (mCons (mVar 0) mNil)) (mCB dLen (mCons (mVar 5) mNil)))) (mTest (mOp dNe (mStrO "Shape" (CP.m_Shape_D_str_D KS false) (mCons (mVar 0) mNil)) (mVar 6)))) (sRet (mC (.bl false))) sNext)
    (sSeq (sDrop (mMut fAppend (mOp dIx (mOp dIx (mVar 9) (mC (.int 2))) (mC (.int 0))) (mCons (mC (.str "late")) mNil)))
    (sSeq (sDrop (mMut fAppend (mOp dIx (mVar 9) (mC (.int 2))) (mCons (mLst mNil) mNil)))
    (sSeq (sDrop (mMut fAppend (mOp dIx (mVar 9) (mC (.int 0))) (mCons (mC (.int 1)) mNil)))
    (sDrop (mMut0 fReverse (mOp dIx (mVar 9) (mC (.int 1))))))))))))
    (sRet (mC (.bl true)))))))))
noncomputable def m_l_law_told_right : Fnm := fnM false 3 9 b_l_law_told_right
noncomputable def b_l_law_others : MS := (sSeq (sAsg (mTup (mCons (mCe (mLst mNil)) (mCons (mFr (callN m_l_law_whole (mCons (mFr (mVar 2)) mNil))) mNil))) (gTupM 2 (gsCons (gSet 3) (gsCons (gSetC 4) gsNil))))
    (sSeq (sFor (mIU (mOp dIx (mVar 2) (mC (.int 0)))) (gSetC 5) (sSeq (sAsg (mLc (mIU (mOp dIx (mVar 2) (mC (.int 0)))) (gSetC 7) (mTest (mOp dNe (mVar 7) (mVar 5))) (mVar 7) [7]) (gSetC 6))
    (sSeq (sDrop (mMut fAppend (mVar 3) (mCons (mTup (mCons (mVar 6) (mCons (mOp dIx (mVar 2) (mC (.int 1))) mNil))) mNil)))
    (sDrop (mMut fAppend (mVar 3) (mCons (mTup (mCons (mVar 6) (mCons (mVar 5) mNil))) mNil))))))
    (sSeq (sFor (mIU (mLc (mRng1 (mCons (mCB dLen (mCons (mVar 1) mNil)) mNil)) (gSetC 7) (mTest (mOp dNi (mVar 7) (mVar 4))) (mVar 7) [7])) (gSetC 5) (sSeq (sIf (mOr (mTest (mOp dLt (mCB dLen (mCons (mVar 4) mNil)) (mC (.int 5)))) (mTest (mOp dIsnt (mOp dIx (mVar 2) (mC (.int 1))) (mC .non)))) (sDrop (mMut fAppend (mVar 3) (mCons (mTup (mCons (mOp dIx (mVar 2) (mC (.int 0))) (mCons (mVar 5) mNil))) mNil))) sNext)
    (sIf (mTest (mOp dLt (mCB dLen (mCons (mVar 4) mNil)) (mC (.int 5)))) (sDrop (mMut fAppend (mVar 3) (mCons (mTup (mCons (mOp dAdd (mOp dIx (mVar 2) (mC (.int 0))) (mLst (mCons (mVar 5) mNil))) (mCons (mOp dIx (mVar 2) (mC (.int 1))) mNil))) mNil))) sNext)))
    (sSeq (sIf (mTest (mOp dIsnt (mOp dIx (mVar 2) (mC (.int 1))) (mC .non))) (sSeq (sDrop (mMut fAppend (mVar 3) (mCons (mTup (mCons (mOp dIx (mVar 2) (mC (.int 0))) (mCons (mC .non) mNil))) mNil)))
    (sDrop (mMut fAppend (mVar 3) (mCons (mTup (mCons (mVar 4) (mCons (mC .non) mNil))) mNil)))) sNext)
    (sRet (mLc (mIU (mVar 3)) (gSetC 7) (mTest (mOp dLt (mCB dLen (mCons (callN m_l_law_whole (mCons (mFr (mVar 7)) mNil)) mNil)) (mC (.int 6)))) (callN m_l_law_shape (mCons (mCe (mVar 0)) (mCons (mFr (mVar 1)) (mCons (mFr (mVar 7)) mNil)))) [7]))))))
noncomputable def m_l_law_others : Fnm := fnM false 3 5 b_l_law_others
noncomputable def b_law : MS := (sSeq (sFor (mRng1 (mCons (mCB dMax2 (mCons (mC (.int 2)) (mCons (mCB dMin2 (mCons (mC (.int 8)) (mCons (mCB dLen (mCons (mVar 0) mNil)) mNil))) mNil))) mNil)) (gSetC 1) (sSeq (sAsg (callN m_l_law_bag (mCons (mFr (callN m_l_law_cell (mCons (mFr (mVar 0)) (mCons (mFr (mVar 1)) mNil)))) mNil)) (gSet 2))
    (sSeq (sAsg (callN m_l_law_names (mCons (mCe (mVar 2)) (mCons (mFr (mOp dAdd (mC (.int 1)) (callN m_l_law_take (mCons (mCe (mVar 2)) (mCons (mFr (mC (.int 8))) mNil))))) mNil))) (gSetC 3))
    (sFor (mIU (mOp dAdd (callN m_l_law_parts (mCons (mCe (mVar 2)) (mCons (mFr (mCB dLen (mCons (mVar 3) mNil))) (mCons (mFr (mC (.int 6))) mNil)))) (mLst (mCons (mTup (mCons (mLst mNil) (mCons (mC .non) mNil))) mNil)))) (gSetC 4) (sSeq (sAsg (mUn dRev (mLc (mIU (mOp dIx (mVar 4) (mC (.int 0)))) (gSetC 10) mYes (mOp dIx (mVar 3) (mVar 10)) [10])) (gSet 5))
    (sSeq (sAsg (mIf (mTest (mOp dIs (mOp dIx (mVar 4) (mC (.int 1))) (mC .non))) (mC .non) (mOp dIx (mVar 3) (mOp dIx (mVar 4) (mC (.int 1))))) (gSetC 6))
    (sSeq (sAsg (mLst (mCons (mMake false "Shape" (CP.m_Shape_D_init_D KS false) [] (mCons (mFr (mVar 5)) (mCons (mFr (mVar 6)) mNil))) (mCons (callN m_l_law_shape (mCons (mCe (mVar 2)) (mCons (mFr (mVar 3)) (mCons (mFr (mVar 4)) mNil)))) (mCons (mMake false "Shape" (CP.m_Shape_D_init_D KS false) [] (mCons (mFr (mCB dTuple (mCons (mVar 5) mNil))) (mCons (mFr (mVar 6)) mNil))) mNil)))) (gSet 7))
    (sSeq (sIf (mTest (mOp dIs (mOp dIx (mVar 4) (mC (.int 1))) (mC .non))) (sDrop (mMut fAppend (mVar 7) (mCons (mMake false "Shape" (CP.m_Shape_D_init_D KS false) [D.non] (mCons (mFr (mVar 5)) mNil)) mNil))) sNext)
    (sSeq (sDrop (mMut fAppend (mVar 5) (mCons (mC (.str "late")) mNil)))
    (sSeq (sFor (mIU (mVar 7)) (gSetC 8) (sSeq (sIf (mNot (mTru (callN m_l_law_told_right (mCons (mFr (mVar 8)) (mCons (mFr (mVar 3)) (mCons (mFr (mVar 4)) mNil)))))) (sRet (mC (.bl false))) sNext)
    (sSeq (sIf (mTest (mOp dNe (mLc (mIU (mVar 7)) (gSetC 11) (mOr (mTest (mOp dIsntB (mEqO "Shape" KS (CP.m_Shape_D_eq_D KS false) (mVar 11) (mVar 8)) (mC (.bl true)))) (mTest (mNeO "Shape" KS (CP.m_Shape_D_eq_D KS false) (mVar 11) (mVar 8)))) (mVar 11) [11]) (mLst mNil))) (sRet (mC (.bl false))) sNext)
    (sSeq (sIf (mTest (mOp dNe (mLc (mIU (callN m_l_law_others (mCons (mCe (mVar 2)) (mCons (mFr (mVar 3)) (mCons (mFr (mVar 4)) mNil))))) (gSetC 11) (mOr (mTest (mEqO "Shape" KS (CP.m_Shape_D_eq_D KS false) (mVar 11) (mVar 8))) (mNot (mTest (mNeO "Shape" KS (CP.m_Shape_D_eq_D KS false) (mVar 11) (mVar 8))))) (mVar 11) [11]) (mLst mNil))) (sRet (mC (.bl false))) sNext)
    (sSeq (sAsg (mLst (mCons (mC .non) (mCons (mC (.bl true)) (mCons (mC (.int 0)) (mCons (mStrO "Shape" (CP.m_Shape_D_str_D KS false) (mCons (mVar 8) mNil)) (mCons (mMeth "Shape" "fixed" (CP.m_Shape_fixed KS false) (mVar 8) mNil) (mCons (mMeth "Shape" "sets" m_Shape_sets (mVar 8) mNil) (mCons (mCB dTuple (mCons (mMeth "Shape" "columns" (CP.m_Shape_columns KS false) (mVar 8) mNil) mNil)) (mCons mDNew (mCons (mLenO "Shape" (CP.m_Shape_D_len_D KS false) (mCons (mVar 8) mNil)) mNil)))))))))) (gSetC 9))
    (sIf (mTest (mOp dNe (mLc (mIU (mVar 9)) (gSetC 12) (mOr (mTest (mEqO "Shape" KS (CP.m_Shape_D_eq_D KS false) (mVar 8) (mVar 12))) (mNot (mTest (mNeO "Shape" KS (CP.m_Shape_D_eq_D KS false) (mVar 8) (mVar 12))))) (mVar 12) [12]) (mLst mNil))) (sRet (mC (.bl false))) sNext))))))
    (sIf (mNot (mTru (mCB (dIsi (.ty "str") (tabK KS (.ty "str"))) (mCons (mStrO "Shape" (CP.m_Shape_D_repr_D KS false) (mCons (mOp dIx (mVar 7) (mC (.int 0))) mNil)) (mCons (mC (.ty "str")) mNil))))) (sRet (mC (.bl false))) sNext)))))))))))
    (sRet (mC (.bl true))))
noncomputable def m_law : Fnm := fnM false 1 12 b_law
end K04

/-! the plain law of k04: a shape told right -/
namespace K04
open PySem PySem.Spec PyProof.Rows L2 SL CM
theorem ksok : KsOk KS := ⟨by decide +kernel, by decide +kernel, by decide +kernel⟩
section
variable {ρ : List Sl} {h h0 h1 g : Tb} {N : List Sl → Tb → Prop} {T : Ps W} {L : Bool → List Sl → Tb → Prop} {tk si : Fnm} {b n k i j len m most : Nat} {d0 : D} {ks : List Kd} {rz : Bool} {ls : List (List Nat)} {p : Pt} {fx : List Str} {sp : Option Str}
local macro_rules | `(tactic| walk_at "hv") => `(tactic| first | rfl | assumption | (exact (by assumption : _)))
local macro_rules | `(tactic| walk_at "p1") => `(tactic| first
  | with_reducible refine CM.okS_seq ?_ | with_reducible refine CM.okS_next ?_ | with_reducible refine CM.okS_asg ?_ | with_reducible refine CM.okS_ret ?_ | with_reducible refine CM.okS_drop ?_ | with_reducible refine CM.okS_aug ?_ | with_reducible refine CM.okS_cnt ?_ | with_reducible refine CM.okS_fg ?_ | with_reducible refine CM.okS_retN ?_
  | with_reducible refine CM.okE_op ?_ | with_reducible refine CM.okE_cb ?_ | with_reducible refine CM.okE_cons ?_ | with_reducible refine CM.okE_nil ?_ | with_reducible refine CM.okB_not ?_ | with_reducible refine CM.okE_c ?_ | with_reducible refine CM.okE_fr ?_ | with_reducible refine CM.okE_ce ?_ | with_reducible refine CM.okE_notV ?_ | with_reducible refine CM.okE_un ?_
  | with_reducible refine CM.okE_sl ?_ | with_reducible refine CM.okE_nopart ?_
  | ((with_reducible refine' CM.okE_var ?hv ?_); (case hv => rfl))
  | ((with_reducible refine' CM.okE_part (CM.okE_var ?hv ⟨_, ?hv2, ?_⟩)); (case hv => rfl); (case hv2 => rfl))
  | ((with_reducible refine' CM.okE_part (CM.okE_c ⟨_, ?hv2, ?_⟩)); (case hv2 => rfl))
  | ((with_reducible refine' CM.okW_eq (w := _) ?hv ?_); (case hv => (with_reducible rfl)))
  | ((with_reducible refine' CM.okW_deref ?hv ?_); (case hv => walk_at "hv")) | ((with_reducible refine' CM.okW_derefs ?hv ?_); (case hv => rfl)) | ((with_reducible refine' CM.okW_derefC ?hv ?_); (case hv => walk_at "hv")) | ((with_reducible refine' CM.okW_lstAt ?hv ?_); (case hv => walk_at "hv"))
  | with_reducible refine CM.w_add ?_ | with_reducible refine CM.w_sub ?_ | with_reducible refine CM.w_lt ?_ | with_reducible refine CM.w_le ?_ | with_reducible refine CM.w_gt ?_ | with_reducible refine CM.w_ge ?_ | with_reducible refine CM.w_addI ?_
  | with_reducible refine CM.w_mod (by omega) ?_ | with_reducible refine CM.w_div (by omega) (by rw [CM.big_eq]; omega) ?_ | with_reducible refine CM.w_mul (by rw [CM.big_eq]; omega) (by rw [CM.big_eq]; omega) (by rw [CM.big_eq]; omega) (by rw [CM.big_eq]; omega) ?_ | with_reducible refine CM.w_sq (by omega) (by omega) ?_
  | with_reducible refine CM.w_max2 ?_ | with_reducible refine CM.w_min2 ?_ | with_reducible refine CM.w_lenL ?_ | with_reducible refine CM.w_lenT ?_ | with_reducible refine CM.w_lenC ?_ | with_reducible refine CM.w_listL ?_ | with_reducible refine CM.w_listT ?_ | with_reducible refine CM.w_tupL ?_ | with_reducible refine CM.w_tupT ?_
  | ((with_reducible refine CM.okG_setC ?_); (try dsimp only [List.set, CM.fzW]))
  | ((with_reducible refine' CM.okW_ix ?hv ?_); (case hv => rfl))
  | ((with_reducible refine' CM.okB_test (CM.okE_eqn ⟨_, ?hv, ?_⟩)); (case hv => rfl))
  | ((with_reducible refine' CM.okB_testd ⟨_, ?hv, ?_⟩); (case hv => rfl)))
local macro_rules | `(tactic| walk_at "p") => `(tactic| repeat walk_at "p1")
theorem cut_keep {w : W} {Q : W × Tb → Prop} (q : Q (w, h1)) : okW (cutF true h w h1) Q := ⟨_, by unfold cutF; rw [if_pos (.inl rfl)], q⟩
/-- the cells that sets() leaves -/
def setG (fx : List Str) (sp : Option Str) : Tb := .lst (LS (sortS fx)) :: (match sp with
  | none => []
  | some _ => [.lst (LS (shC fx sp))])
def setD (n : Nat) : Option Str → List D
  | none => [.ce n]
  | some _ => [.ce n, .ce (n + 1)]
theorem sets_ok {P : W → Tb → Prop} {X : Str → List (Str × D) → Tb → Prop} (hl : fx.length ≤ 50) (hd : ∀ g, deref (h ++ g) (.cl d0) = some (shD fx sp)) (q : P (W.fr (setD h.length sp)) (h ++ setG fx sp)) : okF (m_Shape_sets [d0] h) P X := by
  unfold m_Shape_sets
  refine okF_fn rfl ?_
  show okS (b_Shape_sets [.cl d0] h) _ _ _ _
  unfold b_Shape_sets
  have hd0 := hd []
  rw [List.append_nil] at hd0
  refine okS_ret (okE_if (okB_test (okE_op (okE_fld (okE_var rfl ⟨_, _, hd0, sh_span, okE_c (okW_eq (w := spD sp) (by cases sp <;> rfl) (okW_eq rfl ?_))⟩)))))
  cases sp with
  | none =>
    refine okW_eq (w := .cl (.bl true)) rfl ⟨_, rfl, fun _ => ?_, (fun e => nomatch e)⟩
    refine okE_lst (okE_cons (okE_ce (okE_meth (okE_var rfl ⟨_, hd0, rfl, okE_nil (shape_fixed hd0 (okE_nil ⟨Nat.le_of_ble_eq_true rfl, cut_keep q⟩))⟩))))
  | some z =>
    refine okW_eq (w := .cl (.bl false)) rfl ⟨_, rfl, (fun e => nomatch e), fun _ => ?_⟩
    refine okE_lst (okE_cons (okE_ce (okE_meth (okE_var rfl ⟨_, hd0, rfl, okE_nil (shape_fixed hd0 (okE_cons (okE_ce (okE_meth (okE_var rfl ⟨_, hd [_], rfl, okE_nil (shape_columns hl (hd [_]) (okE_nil ⟨Nat.le_of_ble_eq_true rfl, cut_keep ?_⟩))⟩)))))⟩))))
    rw [List.append_assoc, List.length_append, List.length_singleton]
    exact q
/-- [names[at] for at in part[0]] -/
theorem okE_namesAt {P : Ps W} {X : Px} {a b i : Nat} (c : Cols m ls) (u : PtU m p) (ha : ρ[a]? = some (.cl (partD p))) (hb : ρ[b]? = some (.cl (.lst (LS (ls.map S))))) (hi : ρ[i]? = some .un) (hbi : i ≠ b) (q : P (W.fr (LS (fxP ls p))) ρ h) :
    okE (mLc (mIU (mOp dIx (mVar a) (mC (.int 0)))) (gSetC i) mYes (mOp dIx (mVar b) (mVar i)) [i] ρ h) P X := by
  refine okE_lc1 (ds := PI p.1) (fun j h' acc => h' = h ∧ acc = LS ((p.1.take j).map (nm ls))) hi ?_ ?_ ?_
  · refine okE_iU (okE_op (okE_var ha (okE_c (okW_eq rfl (okW_eq rfl (w_ixT (i := 0) rfl (okW_eq rfl (okW_eq rfl ⟨?_, rfl, rfl, rfl, rfl⟩))))))))
    have := u.len
    rw [PI_len]
    omega
  · rintro j d h' acc hj ⟨rfl, rfl⟩
    obtain ⟨x, hx, rfl⟩ := PI_at hj
    have hm : x ∈ p.1 := List.mem_of_getElem? hx
    have hil : i < ρ.length := (List.getElem?_eq_some_iff.mp hi).1
    refine okE_op (okE_var (by rw [List.getElem?_set_ne hbi]; exact hb) (okE_var (List.getElem?_set_self hil) (okW_eq rfl (okW_eq rfl (w_ixL (nm_at (by rw [c.1]; exact u.lt x hm)) ⟨rfl, rfl, ?_⟩)))))
    obtain ⟨hj2, e⟩ := List.getElem?_eq_some_iff.mp hx
    rw [List.take_succ_eq_append_getElem hj2, e]
    simp [fzW]
  · rintro h' acc ⟨rfl, rfl⟩
    rw [PI_len, List.take_of_length_le (Nat.le_refl _)]
    exact q
/-- [one for one in [span] if one is not None] -/
theorem okE_one {P : Ps W} {X : Px} {a i : Nat} {s : Option Str} (ha : ρ[a]? = some (.cl (spD s))) (hi : ρ[i]? = some .un) (q : P (W.fr (LS s.toList)) ρ h) :
    okE (mLc (mIU (mLst (mCons (mVar a) mNil))) (gSetC i) (mTest (mOp dIsnt (mVar i) (mC .non))) (mVar i) [i] ρ h) P X := by
  have hil : i < ρ.length := (List.getElem?_eq_some_iff.mp hi).1
  refine okE_lcF (ds := [spD s]) (fun j h' acc => h' = h ∧ acc = LS ((if j = 0 then none else s : Option Str).toList)) hi ?_ ?_ ?_
  · refine okE_iU (okE_lst (okE_cons (okE_var ha (okE_nil ⟨Nat.le_of_ble_eq_true rfl, okW_eq rfl (okW_eq rfl ⟨Nat.le_of_ble_eq_true rfl, rfl, rfl, rfl, rfl⟩)⟩))))
  · rintro j d h' acc hj ⟨rfl, rfl⟩
    have hj0 : j = 0 := by
      have := (List.getElem?_eq_some_iff.mp hj).1
      simpa using this
    subst hj0
    cases hj
    cases s with
    | none => exact okB_test (okE_op (okE_var (List.getElem?_set_self hil) (okE_c (okW_eq rfl (okW_eq rfl (okW_eq (w := .cl (.bl false)) rfl ⟨_, rfl, rfl, (fun z => nomatch z), fun _ => ⟨rfl, rfl⟩⟩))))))
    | some i => exact okB_test (okE_op (okE_var (List.getElem?_set_self hil) (okE_c (okW_eq rfl (okW_eq rfl (okW_eq (w := .cl (.bl true)) rfl ⟨_, rfl, rfl, fun _ => okE_var (List.getElem?_set_self hil) ⟨rfl, rfl, rfl⟩, (fun z => nomatch z)⟩))))))
  · rintro h' acc ⟨rfl, rfl⟩
    exact q
end
end K04

/-! the plain law of k04: a shape told right -/
namespace K04
open PySem PySem.Spec PyProof.Rows L2 SL CM
def setsD (fx : List Str) : Option Str → D
  | none => .lst [.lst (LS (sortS fx))]
  | some z => .lst [.lst (LS (sortS fx)), .lst (LS (shC fx (some z)))]
section
variable {ρ : List Sl} {h h0 h1 g : Tb} {N : List Sl → Tb → Prop} {T : Ps W} {L : Bool → List Sl → Tb → Prop} {X : Px} {tk si : Fnm} {b n k i j len m most : Nat} {d0 d : D} {ks : List Kd} {rz : Bool} {ls : List (List Nat)} {p : Pt} {fx : List Str} {sp : Option Str}
local macro_rules | `(tactic| walk_at "hv") => `(tactic| first | rfl | assumption | (exact (by assumption : _)))
local macro_rules | `(tactic| walk_at "p1") => `(tactic| first
  | with_reducible refine CM.okS_seq ?_ | with_reducible refine CM.okS_next ?_ | with_reducible refine CM.okS_asg ?_ | with_reducible refine CM.okS_ret ?_ | with_reducible refine CM.okS_drop ?_ | with_reducible refine CM.okS_aug ?_ | with_reducible refine CM.okS_cnt ?_ | with_reducible refine CM.okS_fg ?_ | with_reducible refine CM.okS_retN ?_
  | with_reducible refine CM.okE_op ?_ | with_reducible refine CM.okE_cb ?_ | with_reducible refine CM.okE_cons ?_ | with_reducible refine CM.okE_nil ?_ | with_reducible refine CM.okB_not ?_ | with_reducible refine CM.okE_c ?_ | with_reducible refine CM.okE_fr ?_ | with_reducible refine CM.okE_ce ?_ | with_reducible refine CM.okE_notV ?_ | with_reducible refine CM.okE_un ?_
  | with_reducible refine CM.okE_sl ?_ | with_reducible refine CM.okE_nopart ?_
  | ((with_reducible refine' CM.okE_var ?hv ?_); (case hv => rfl))
  | ((with_reducible refine' CM.okE_part (CM.okE_var ?hv ⟨_, ?hv2, ?_⟩)); (case hv => rfl); (case hv2 => rfl))
  | ((with_reducible refine' CM.okE_part (CM.okE_c ⟨_, ?hv2, ?_⟩)); (case hv2 => rfl))
  | ((with_reducible refine' CM.okW_eq (w := _) ?hv ?_); (case hv => (with_reducible rfl)))
  | ((with_reducible refine' CM.okW_deref ?hv ?_); (case hv => walk_at "hv")) | ((with_reducible refine' CM.okW_derefs ?hv ?_); (case hv => rfl)) | ((with_reducible refine' CM.okW_derefC ?hv ?_); (case hv => walk_at "hv")) | ((with_reducible refine' CM.okW_lstAt ?hv ?_); (case hv => walk_at "hv"))
  | with_reducible refine CM.w_add ?_ | with_reducible refine CM.w_sub ?_ | with_reducible refine CM.w_lt ?_ | with_reducible refine CM.w_le ?_ | with_reducible refine CM.w_gt ?_ | with_reducible refine CM.w_ge ?_ | with_reducible refine CM.w_addI ?_
  | with_reducible refine CM.w_mod (by omega) ?_ | with_reducible refine CM.w_div (by omega) (by rw [CM.big_eq]; omega) ?_ | with_reducible refine CM.w_mul (by rw [CM.big_eq]; omega) (by rw [CM.big_eq]; omega) (by rw [CM.big_eq]; omega) (by rw [CM.big_eq]; omega) ?_ | with_reducible refine CM.w_sq (by omega) (by omega) ?_
  | with_reducible refine CM.w_max2 ?_ | with_reducible refine CM.w_min2 ?_ | with_reducible refine CM.w_lenL ?_ | with_reducible refine CM.w_lenT ?_ | with_reducible refine CM.w_lenC ?_ | with_reducible refine CM.w_listL ?_ | with_reducible refine CM.w_listT ?_ | with_reducible refine CM.w_tupL ?_ | with_reducible refine CM.w_tupT ?_
  | ((with_reducible refine CM.okG_setC ?_); (try dsimp only [List.set, CM.fzW]))
  | ((with_reducible refine' CM.okW_ix ?hv ?_); (case hv => rfl))
  | ((with_reducible refine' CM.okB_test (CM.okE_eqn ⟨_, ?hv, ?_⟩)); (case hv => rfl))
  | ((with_reducible refine' CM.okB_testd ⟨_, ?hv, ?_⟩); (case hv => rfl)))
local macro_rules | `(tactic| walk_at "p") => `(tactic| repeat walk_at "p1")
theorem snapWs_strs {g : Nat → Option D} : ∀ zs : List Str, snapWs g (LS zs) = some (LS zs)
  | [] => by simp only [List.map_nil, snapWs]
  | z :: zs => by
    simp only [List.map_cons, snapWs, snapW, snapWs_strs zs, Option.bind_some, Option.map_some]
theorem snapN_strs {h : Tb} (n : Nat) (zs : List Str) : snapN h n (.lst (LS zs)) = some (.lst (LS zs)) := by
  cases n <;> simp only [snapN, snapW, snapWs_strs, Option.map_some]
theorem okW_snap1 {w : W} {Q : List D → Prop} (e : snapV h w = some d) (q : Q [d]) : okW (snaps h [w]) Q := ⟨[d], by
  show ((snapV h w).bind fun d => (some []).bind fun ds => some (d :: ds)) = _
  rw [e]
  rfl, q⟩
/-- what fixed(), columns(), sets() left in the cells -/
structure Cl3 (a q : Nat) (fx : List Str) (sp : Option Str) (g : Tb) : Prop where
  q3 : 3 ≤ q
  c0 : g[0]? = some (.lst (LS (sortS fx)))
  c1 : g[1]? = some (.lst (LS (shC fx sp)))
  c2 : g[2]? = some (.lst (LS (sortS fx)))
  cq : g[q]? = some (.lst (setD (a + 2) sp))
  c3 : ∀ z, sp = some z → g[3]? = some (.lst (LS (shC fx sp)))
theorem snap_found {a q : Nat} (hc : Cl3 a q fx sp g) (ha : h.length = a) : snapV (h ++ g) (.cl (.lst [.ce a, .ce (a + 1), .ce (a + q)])) = some (.lst [.lst (LS (sortS fx)), .lst (LS (shC fx sp)), setsD fx sp]) := by
  have e0 : (h ++ g)[a]? = some (.lst (LS (sortS fx))) := (tail_at0 ha).trans hc.c0
  have e1 : (h ++ g)[a + 1]? = some (.lst (LS (shC fx sp))) := (tail_at ha).trans hc.c1
  have e2 : (h ++ g)[a + 2]? = some (.lst (LS (sortS fx))) := (tail_at ha).trans hc.c2
  have eq : (h ++ g)[a + q]? = some (.lst (setD (a + 2) sp)) := (tail_at ha).trans hc.cq
  have hs : snapN (h ++ g) 5 (.lst (setD (a + 2) sp)) = some (setsD fx sp) := by
    show snapW (fun k => ((h ++ g)[k]?).bind (snapN (h ++ g) 4)) _ = _
    cases sp with
    | none => simp only [setD, setsD, snapW, snapWs, e2, Option.bind_some, Option.map_some, snapN_strs]
    | some z =>
      have e3 : (h ++ g)[a + 2 + 1]? = some (.lst (LS (shC fx (some z)))) := (tail_at (i := 3) ha).trans (hc.c3 z rfl)
      simp only [setD, setsD, snapW, snapWs, e2, e3, Option.bind_some, Option.map_some, snapN_strs]
  show snapW (fun k => ((h ++ g)[k]?).bind (snapN (h ++ g) 5)) _ = _
  simp only [fzW, snapW, snapWs, e0, e1, eq, Option.bind_some, Option.map_some, snapN_strs]
  rw [hs]
  rfl
def pdSets (fx : List Str) : Option Str → PyData
  | none => .list [.list ((sortS fx).map PyData.str)]
  | some z => .list [.list ((sortS fx).map PyData.str), .list ((shC fx (some z)).map PyData.str)]
theorem pd_found : pd (.lst [.lst (LS (sortS fx)), .lst (LS (shC fx sp)), setsD fx sp]) = some (.list [.list ((sortS fx).map PyData.str), .list ((shC fx sp).map PyData.str), pdSets fx sp]) := by
  cases sp <;> simp only [pd_lst, pds, setsD, pds_strs, Option.map_some, Option.bind_some, pdSets]
theorem shC_mem (ok : ShOk fx sp) : ∀ z ∈ shC fx sp, Nm z := fun z hz => by
  rcases List.mem_append.mp (sortS_mem.mp hz) with hz | hz
  · exact ok.nm z (sortS_mem.mp hz)
  · exact (ok.sp z (by cases sp <;> simp_all)).1
theorem good_found (ok : ShOk fx sp) : Good 1600 3 (.list [.list ((sortS fx).map PyData.str), .list ((shC fx sp).map PyData.str), pdSets fx sp]) := by
  have h5 := ok.len
  have hs := sortS_len fx
  have hc := shC_len fx sp
  have h1 : sp.toList.length ≤ 1 := by cases sp <;> simp
  have gn : ∀ zs : List Str, (∀ z ∈ zs, Nm z) → zs.length ≤ 6 → Good 54 1 (.list (zs.map PyData.str)) := fun zs hz hl => (good_list (b := 8) (k := 0) fun x hx => by
    obtain ⟨z, hz2, rfl⟩ := List.mem_map.mp hx
    exact good_str (hz z hz2)).mono (by rw [List.length_map]; omega) (Nat.le_refl _)
  have ga := gn _ (fun z hz => ok.nm z (sortS_mem.mp hz)) (by omega : (sortS fx).length ≤ 6)
  have gb := gn _ (shC_mem ok) (by omega)
  refine (good_list (b := 110) (k := 2) fun x hx => ?_).mono (by simp) (Nat.le_refl _)
  rcases List.mem_cons.mp hx with rfl | hx
  · exact ga.mono (by omega) (by omega)
  rcases List.mem_cons.mp hx with rfl | hx
  · exact gb.mono (by omega) (by omega)
  rw [List.mem_singleton.mp hx]
  cases sp with
  | none =>
    refine (good_list (b := 54) (k := 1) fun x hx => ?_).mono (by simp) (Nat.le_refl _)
    rw [List.mem_singleton.mp hx]
    exact ga
  | some z =>
    refine (good_list (b := 54) (k := 1) fun x hx => ?_).mono (by simp) (Nat.le_refl _)
    rcases List.mem_cons.mp hx with rfl | hx
    · exact ga
    · rw [List.mem_singleton.mp hx]
      exact gb
theorem w_neI {i j : Int} {Q : W → Prop} (q : Q (.cl (.bl (!decide (i = j))))) : okW (dNe (.int i) (.int j)) Q := by
  refine w_ne (c := decide (i = j)) ?_ q
  have h : ∀ i : Int, SeqAt.shaped (.int i) = true := fun i => by simp [SeqAt.shaped, PyData.canLay0, PyData.depth]
  show (if SeqAt.shaped (.int i) = true ∧ SeqAt.shaped (.int j) = true then some (PyData.eqv (.int i) (.int j)) else none) = _
  rw [if_pos ⟨h i, h j⟩, PyData.eqv]
  congr 1
abbrev frT (ls : List (List Nat)) (p : Pt) (fx : List Str) (sp : Option Str) (s8 s9 : Sl) : List Sl := [.cl (shD fx sp), .cl (.lst (LS (ls.map S))), .cl (partD p), .cl (.lst (LS (sortS fx))), .cl (spD sp), .cl (.lst (LS (shC fx sp))), .cl (.str (shT fx sp)), .cl (setsD fx sp), s8, s9, .un, .un]
noncomputable def turnM : MS := (sSeq (sAsg (mLst (mCons (mCe (mMeth "Shape" "fixed" (CP.m_Shape_fixed KS false) (mVar 0) mNil)) (mCons (mCe (mMeth "Shape" "columns" (CP.m_Shape_columns KS false) (mVar 0) mNil)) (mCons (mCe (mMeth "Shape" "sets" m_Shape_sets (mVar 0) mNil)) mNil)))) (gSetC 9))
    (sSeq (sIf (mOr (mTest (mOp dNe (mCBS dRepr (mCons (mVar 9) mNil)) (mCB dRepr (mCons (mLst (mCons (mVar 3) (mCons (mVar 5) (mCons (mVar 7) mNil)))) mNil)))) (mTest (mOp dNe (mCB dRepr (mCons (mProp "Shape" (CP.m_Shape_span KS false) (mVar 0)) mNil)) (mCB dRepr (mCons (mVar 4) mNil))))) (sRet (mC (.bl false))) sNext)
    (sSeq (sIf (mOr (mTest (mOp dNe (mLenO "Shape" (CP.m_Shape_D_len_D KS false) (mCons (mVar 0) mNil)) (mCB dLen (mCons (mVar 5) mNil)))) (mTest (mOp dNe (mStrO "Shape" (CP.m_Shape_D_str_D KS false) (mCons (mVar 0) mNil)) (mVar 6)))) (sRet (mC (.bl false))) sNext)
    (sSeq (sDrop (mMut fAppend (mOp dIx (mOp dIx (mVar 9) (mC (.int 2))) (mC (.int 0))) (mCons (mC (.str "late")) mNil)))
    (sSeq (sDrop (mMut fAppend (mOp dIx (mVar 9) (mC (.int 2))) (mCons (mLst mNil) mNil)))
    (sSeq (sDrop (mMut fAppend (mOp dIx (mVar 9) (mC (.int 0))) (mCons (mC (.int 1)) mNil)))
    (sDrop (mMut0 fReverse (mOp dIx (mVar 9) (mC (.int 1)))))))))))
theorem told_turn {s8 s9 : Sl} (ok : ShOk fx sp) (hN : ∀ s9 g, N (frT ls p fx sp s8 s9) (h ++ g)) : okS (turnM (frT ls p fx sp s8 s9) h) N T L X := by
  have h5 := ok.len
  have hsl := sortS_len fx
  have hcl := shC_len fx sp
  have hs1 : sp.toList.length ≤ 1 := by cases sp <;> simp
  unfold turnM
  let q := 2 + (setG fx sp).length
  let G : Tb := .lst (LS (sortS fx)) :: .lst (LS (shC fx sp)) :: (setG fx sp ++ [.lst (setD (h.length + 2) sp)])
  have hc : Cl3 h.length q fx sp G := by
    cases sp with
    | none => exact ⟨Nat.le_of_ble_eq_true rfl, rfl, rfl, rfl, rfl, fun z e => by cases e⟩
    | some z => exact ⟨Nat.le_of_ble_eq_true rfl, rfl, rfl, rfl, rfl, fun z e => rfl⟩
  refine okS_seq (okS_asg (okE_lst (okE_cons (okE_ce (okE_meth (okE_var rfl ⟨_, rfl, rfl, okE_nil (shape_fixed rfl ?_)⟩))))))
  refine okE_cons (okE_ce (okE_meth (okE_var rfl ⟨_, rfl, rfl, okE_nil (shape_columns (by omega) rfl ?_)⟩)))
  refine okE_cons (okE_ce (okE_meth (okE_var rfl ⟨_, rfl, rfl, okE_nil (sets_ok (by omega) (fun _ => rfl) ?_)⟩)))
  refine okE_nil ⟨Nat.le_of_ble_eq_true rfl, okG_setC ?_⟩
  dsimp only [List.set, List.map, fzW]
  have eG : h ++ [D.lst (LS (sortS fx))] ++ [D.lst (LS (shC fx sp))] ++ setG fx sp ++ [.lst (setD (h ++ [D.lst (LS (sortS fx))] ++ [D.lst (LS (shC fx sp))]).length sp)] = h ++ G := by
    simp [G, List.append_assoc]
  have eq : (h ++ [D.lst (LS (sortS fx))] ++ [D.lst (LS (shC fx sp))] ++ setG fx sp).length = h.length + q := by
    simp [q]
    omega
  have e1 : (h ++ [D.lst (LS (sortS fx))]).length = h.length + 1 := by simp
  rw [eG, eq, e1]
  generalize G = g0 at hc ⊢
  generalize q = q0 at hc ⊢
  clear eG eq e1 q G
  have hq3 := hc.q3
  have k0 : (h ++ g0)[h.length]? = some (.lst (LS (sortS fx))) := (tail_at0 rfl).trans hc.c0
  have k1 : (h ++ g0)[h.length + 1]? = some (.lst (LS (shC fx sp))) := (tail_at rfl).trans hc.c1
  have gf := good_found ok
  have gs := good_sp fun z e => (ok.sp z e).1
  -- the texts
  refine okS_seq (okS_no (okB_or (okB_test (okE_op (okE_cbS (okE_cons (okE_var rfl (okE_nil (okW_snap1 (snap_found hc rfl) (w_repr pd_found gf (by omega) (by omega) fun _ => ⟨rfl, ?_⟩))))))))))
  refine okE_cb (okE_cons (okE_lst (okE_cons (okE_var rfl (okE_cons (okE_var rfl (okE_cons (okE_var rfl (okE_nil ⟨Nat.le_of_ble_eq_true rfl, okE_nil (okW_eq rfl (w_repr pd_found gf (by omega) (by omega) fun _ => ?_))⟩)))))))))
  refine okW_eq rfl (okW_eq rfl (ne_same ⟨_, rfl, (fun e => by rw [decide_eq_true rfl] at e; cases e), fun _ => ?_⟩))
  refine okB_test (okE_op (okE_cb (okE_cons (okE_prop (okE_var rfl ⟨_, rfl, shape_span rfl (okE_nil (okW_d1 (d := spD sp) (by cases sp <;> rfl) (w_repr (pd_spD sp) gs (by omega) (by omega) fun _ => ?_)))⟩)))))
  refine okE_cb (okE_cons (okE_var rfl (okE_nil (okW_d1 (d := spD sp) (by cases sp <;> rfl) (w_repr (pd_spD sp) gs (by omega) (by omega) fun _ => ?_)))))
  refine okW_eq rfl (okW_eq rfl (ne_same ⟨_, rfl, by rw [decide_eq_true rfl]; rfl, okS_next ?_⟩))
  -- the number and the text
  refine okS_seq (okS_no (okB_or (okB_test (okE_op (okE_lenO (z := ((fx.length + sp.toList.length : Nat) : Int)) (by omega) (okE_cons (okE_var rfl (okE_nil ⟨_, _, rfl, rfl, shape_len (by omega) rfl ⟨rfl, ?_⟩⟩))))))))
  refine okE_cb (okE_cons (okE_var rfl (okE_nil (okW_eq rfl (w_lenL (okW_eq rfl (okW_eq rfl (w_neI ⟨_, rfl, fun e => ?_, fun _ => ?_⟩))))))))
  · rw [List.length_map, hcl, decide_eq_true rfl] at e
    cases e
  refine okB_test (okE_op (okE_strO (okE_cons (okE_var rfl (okE_nil ⟨_, _, rfl, rfl, shape_str ok rfl ⟨rfl, okE_var rfl (okW_eq rfl (okW_eq rfl (ne_same ⟨_, rfl, by rw [decide_eq_true rfl]; rfl, okS_next ?_⟩)))⟩⟩)))))
  -- what was told is changed
  have kq : ∀ g1 : Tb, g1[q0]? = g0[q0]? → (h ++ g1)[h.length + q0]? = some (.lst (setD (h.length + 2) sp)) := fun g1 e => (tail_at rfl).trans (e.trans hc.cq)
  have sh : (setD (h.length + 2) sp)[0]? = some (.ce (h.length + 2)) := by cases sp <;> rfl
  have sl : (setD (h.length + 2) sp).length < 100000 := by cases sp <;> (show (_ : Nat) < _; simp [setD])
  refine okS_seq (okS_drop (okE_mut (okE_op (okE_op (okE_var rfl (okE_c (okW_eq rfl (okW_eq rfl (w_ixL (i := 2) rfl (okE_c (okW_eq (kq g0 rfl : deref (h ++ g0) (.cl (.ce (h.length + q0))) = some (.lst (setD (h.length + 2) sp))) (okW_eq rfl (w_ixL (i := 0) sh ?_)))))))))))))
  have k2 : (h ++ g0)[h.length + 2]? = some (.lst (LS (sortS fx))) := (tail_at rfl).trans hc.c2
  refine okW_lstAt k2 (okE_cons (okE_c (okE_nil (okW_lstAt k2 (w_append (by rw [List.length_map]; omega) ?_)))))
  rw [tail_set rfl]
  refine okS_seq (okS_drop (okE_mut (okE_op (okE_var rfl (okE_c (okW_eq rfl (okW_eq rfl (w_ixL (i := 2) rfl ?_))))))))
  have kq1 := kq (g0.set 2 (.lst (LS (sortS fx) ++ [.str "late"]))) (List.getElem?_set_ne (by omega))
  refine okW_lstAt kq1 (okE_cons (okE_eq (w := W.fr []) rfl (okE_nil (okW_lstAt kq1 (w_append sl ?_)))))
  rw [tail_set rfl]
  refine okS_seq (okS_drop (okE_mut (okE_op (okE_var rfl (okE_c (okW_eq rfl (okW_eq rfl (w_ixL (i := 0) rfl ?_))))))))
  have k0' : ∀ c2 cq, (h ++ (g0.set 2 c2).set q0 cq)[h.length]? = some (.lst (LS (sortS fx))) := fun c2 cq => by
    rw [tail_at0 rfl, List.getElem?_set_ne (by omega), List.getElem?_set_ne (by omega)]
    exact hc.c0
  refine okW_lstAt (k0' _ _) (okE_cons (okE_c (okE_nil (okW_lstAt (k0' _ _) (w_append (by rw [List.length_map]; omega) ?_)))))
  rw [tail_set0 rfl]
  refine okS_drop (okE_mut0 (okE_op (okE_var rfl (okE_c (okW_eq rfl (okW_eq rfl (w_ixL (i := 1) rfl ?_)))))))
  have k1' : ∀ c2 cq c0, (h ++ ((g0.set 2 c2).set q0 cq).set 0 c0)[h.length + 1]? = some (.lst (LS (shC fx sp))) := fun c2 cq c0 => by
    rw [tail_at rfl, List.getElem?_set_ne (by omega), List.getElem?_set_ne (by omega), List.getElem?_set_ne (by omega)]
    exact hc.c1
  refine okW_lstAt (k1' _ _ _) (okW_eq rfl ?_)
  rw [tail_set rfl]
  exact hN _ _
end
end K04

/-! the plain law of k04: a shape told right, whole -/
namespace K04
open PySem PySem.Spec PyProof.Rows L2 SL CM
section
variable {ρ : List Sl} {h h0 h1 g : Tb} {N : List Sl → Tb → Prop} {T : Ps W} {L : Bool → List Sl → Tb → Prop} {tk si : Fnm} {b n k i j len m most : Nat} {d0 d : D} {ks : List Kd} {rz : Bool} {ls : List (List Nat)} {p : Pt} {fx : List Str} {sp : Option Str}
local macro_rules | `(tactic| walk_at "hv") => `(tactic| first | rfl | assumption | (exact (by assumption : _)))
local macro_rules | `(tactic| walk_at "p1") => `(tactic| first
  | with_reducible refine CM.okS_seq ?_ | with_reducible refine CM.okS_next ?_ | with_reducible refine CM.okS_asg ?_ | with_reducible refine CM.okS_ret ?_ | with_reducible refine CM.okS_drop ?_ | with_reducible refine CM.okS_aug ?_ | with_reducible refine CM.okS_cnt ?_ | with_reducible refine CM.okS_fg ?_ | with_reducible refine CM.okS_retN ?_
  | with_reducible refine CM.okE_op ?_ | with_reducible refine CM.okE_cb ?_ | with_reducible refine CM.okE_cons ?_ | with_reducible refine CM.okE_nil ?_ | with_reducible refine CM.okB_not ?_ | with_reducible refine CM.okE_c ?_ | with_reducible refine CM.okE_fr ?_ | with_reducible refine CM.okE_ce ?_ | with_reducible refine CM.okE_notV ?_ | with_reducible refine CM.okE_un ?_
  | with_reducible refine CM.okE_sl ?_ | with_reducible refine CM.okE_nopart ?_
  | ((with_reducible refine' CM.okE_var ?hv ?_); (case hv => rfl))
  | ((with_reducible refine' CM.okE_part (CM.okE_var ?hv ⟨_, ?hv2, ?_⟩)); (case hv => rfl); (case hv2 => rfl))
  | ((with_reducible refine' CM.okE_part (CM.okE_c ⟨_, ?hv2, ?_⟩)); (case hv2 => rfl))
  | ((with_reducible refine' CM.okW_eq (w := _) ?hv ?_); (case hv => (with_reducible rfl)))
  | ((with_reducible refine' CM.okW_deref ?hv ?_); (case hv => walk_at "hv")) | ((with_reducible refine' CM.okW_derefs ?hv ?_); (case hv => rfl)) | ((with_reducible refine' CM.okW_derefC ?hv ?_); (case hv => walk_at "hv")) | ((with_reducible refine' CM.okW_lstAt ?hv ?_); (case hv => walk_at "hv"))
  | with_reducible refine CM.w_add ?_ | with_reducible refine CM.w_sub ?_ | with_reducible refine CM.w_lt ?_ | with_reducible refine CM.w_le ?_ | with_reducible refine CM.w_gt ?_ | with_reducible refine CM.w_ge ?_ | with_reducible refine CM.w_addI ?_
  | with_reducible refine CM.w_mod (by omega) ?_ | with_reducible refine CM.w_div (by omega) (by rw [CM.big_eq]; omega) ?_ | with_reducible refine CM.w_mul (by rw [CM.big_eq]; omega) (by rw [CM.big_eq]; omega) (by rw [CM.big_eq]; omega) (by rw [CM.big_eq]; omega) ?_ | with_reducible refine CM.w_sq (by omega) (by omega) ?_
  | with_reducible refine CM.w_max2 ?_ | with_reducible refine CM.w_min2 ?_ | with_reducible refine CM.w_lenL ?_ | with_reducible refine CM.w_lenT ?_ | with_reducible refine CM.w_lenC ?_ | with_reducible refine CM.w_listL ?_ | with_reducible refine CM.w_listT ?_ | with_reducible refine CM.w_tupL ?_ | with_reducible refine CM.w_tupT ?_
  | ((with_reducible refine CM.okG_setC ?_); (try dsimp only [List.set, CM.fzW]))
  | ((with_reducible refine' CM.okW_ix ?hv ?_); (case hv => rfl))
  | ((with_reducible refine' CM.okB_test (CM.okE_eqn ⟨_, ?hv, ?_⟩)); (case hv => rfl))
  | ((with_reducible refine' CM.okB_testd ⟨_, ?hv, ?_⟩); (case hv => rfl)))
local macro_rules | `(tactic| walk_at "p") => `(tactic| repeat walk_at "p1")
theorem w_addS {x y : Str} {Q : W → Prop} (h : x.length + y.length ≤ 100000) (q : Q (.cl (.str (x ++ y)))) : okW (dAdd (.str x) (.str y)) Q := ⟨_, by
  show (if x.length + y.length ≤ 100000 then some (W.cl (.str (x ++ y))) else none) = _
  rw [if_pos h], q⟩
theorem add_emp (a : Str) : a ++ ("" : Str) = a := by
  obtain ⟨x, rfl⟩ := S_of a
  have e : ("" : Str) = S [] := by decide +kernel
  rw [e, S_add, List.append_nil]
theorem okE_headT {P : Ps W} {X : Px} {a : Nat} {gx : List Str} (hn : ∀ z ∈ gx, Nm z) (hl : gx.length ≤ 50) (ha : ρ[a]? = some (.cl (.lst (LS gx)))) (q : P (.cl (.str (shH gx))) ρ h) :
    okE (mIf (mTest (mOp dNe (mVar a) (mLst mNil))) (mBS fJoin (mC (.str "+")) (mCons (mVar a) mNil)) (mC (.str "-")) ρ h) P X := by
  refine okE_if (okB_test (okE_op (okE_var ha (okE_eq (w := W.fr (LS [])) rfl (okW_eq rfl (okW_eq rfl (w_ne (dEqB_L (fun z hz => (hn z hz).asc) (fun _ z => absurd z List.not_mem_nil)) ⟨_, rfl, fun e => ?_, fun e => ?_⟩)))))))
  · have e : gx ≠ [] := by simpa using e
    refine okE_bs (okE_c ⟨_, rfl, okE_cons (okE_var ha (okE_nil (okW_eq rfl (w_joinP hn hl ?_))))⟩)
    unfold shH at q
    rw [if_neg e] at q
    exact q
  · have e : gx = [] := by simpa using e
    refine okE_c ?_
    unfold shH at q
    rw [if_pos e] at q
    exact q
theorem okE_tailT {P : Ps W} {X : Px} {a : Nat} (hn : ∀ z, sp = some z → Nm z) (ha : ρ[a]? = some (.cl (spD sp))) (q : P (.cl (.str (shE sp))) ρ h) :
    okE (mIf (mTest (mOp dIs (mVar a) (mC .non))) (mC (.str "")) (mOp dAdd (mC (.str ":")) (mVar a)) ρ h) P X := by
  refine okE_if (okB_test (okE_op (okE_var ha (okE_c (okW_eq (w := spD sp) (by cases sp <;> rfl) (okW_eq rfl ?_))))))
  cases sp with
  | none => exact okW_eq (w := .cl (.bl true)) rfl ⟨_, rfl, fun _ => okE_c q, (fun e => nomatch e)⟩
  | some z =>
    have hz := len_nm (hn z rfl)
    have e1 : ((":" : Str).length) = 1 := by decide +kernel
    exact okW_eq (w := .cl (.bl false)) rfl ⟨_, rfl, (fun e => nomatch e), fun _ => okE_op (okE_c (okE_var ha (okW_eq rfl (okW_eq rfl (w_addS (by omega) q)))))⟩
theorem told_ok {P : W → Tb → Prop} {X : Str → List (Str × D) → Tb → Prop} (c : Cols m ls) (u : PtU m p) (q : P (.cl (.bl true)) h) : okF (m_l_law_told_right [shP ls p, .lst (LS (ls.map S)), partD p] h) P X := by
  have ok := u.sh c
  unfold m_l_law_told_right
  refine okF_fn rfl ?_
  show okS (b_l_law_told_right [.cl (shP ls p), .cl (.lst (LS (ls.map S))), .cl (partD p), .un, .un, .un, .un, .un, .un, .un, .un, .un] h) _ _ _ _
  unfold b_l_law_told_right
  have h5 := ok.len
  have h5' := u.len
  have hsl := sortS_len (fxP ls p)
  have hcl := shC_len (fxP ls p) (spP ls p)
  have hs1 : (spP ls p).toList.length ≤ 1 := by cases spP ls p <;> simp
  have hn : ∀ z ∈ sortS (fxP ls p), Nm z := fun z hz => ok.nm z (sortS_mem.mp hz)
  have l1 := len_head hn (by omega)
  have l2 := len_tail fun z e => (ok.sp z e).1
  refine okS_seq (okS_asg (okE_cb (okE_cons (okE_namesAt c u rfl rfl rfl (by decide) (okE_nil (okW_eq rfl (w_srt (by omega) (okG_setC ?_))))))))
  dsimp only [List.set, fzW]
  refine okS_seq (okS_asg (okE_spN c u rfl rfl (okG_setC ?_)))
  dsimp only [List.set, fzW]
  refine okS_seq (okS_asg (okE_cb (okE_cons (okE_op (okE_var rfl (okE_one rfl rfl (okW_eq rfl (okW_eq rfl (w_addLL (by omega) (okE_nil (okW_eq rfl (w_srt (by rw [List.length_append]; omega) (okG_setC ?_)))))))))))))
  dsimp only [List.set, fzW]
  generalize he : spP ls p = sp at ok hs1 l2 hcl ⊢
  generalize hx : fxP ls p = fx at ok h5 hsl hn l1 hcl ⊢
  have hsh : shP ls p = shD fx sp := by rw [← he, ← hx]; rfl
  rw [hsh]
  -- the text
  have rest : ∀ t : Str, t = shT fx sp → (okS ((sSeq (sAsg (mIf (mTest (mOp dIs (mVar 4) (mC .non))) (mLst (mCons (mVar 3) mNil)) (mLst (mCons (mVar 3) (mCons (mVar 5) mNil)))) (gSetC 7))
    (sSeq (sFor (mRng1 (mCons (mC (.int 2)) mNil)) (gSetC 8) turnM)
    (sRet (mC (.bl true))))) [.cl (shD fx sp), .cl (.lst (LS (ls.map S))), .cl (partD p), .cl (.lst (LS (sortS fx))), .cl (spD sp), .cl (.lst (LS (shC fx sp))), .cl (.str t), .un, .un, .un, .un, .un] h) (fun ρ h' => okW (cutF false h (.cl .non) h') fun x => P x.1 x.2) (fun w ρ h' => okW (cutF false h w h') fun x => P x.1 x.2) (fun _ _ _ => False) (fun C fs ρ h' => okW (cutX false h fs h') fun x => X C fs x)) := by
    rintro t rfl
    refine okS_seqM (fun ρ h' => ρ = frT ls p fx sp .un .un ∧ h' = h) (okS_asg (okE_if (okB_test (okE_op (okE_var rfl (okE_c (okW_eq (w := spD sp) (by cases sp <;> rfl) (okW_eq rfl ?_)))))))) ?_
    · cases sp with
      | none => exact okW_eq (w := .cl (.bl true)) rfl ⟨_, rfl, fun _ => okE_lst (okE_cons (okE_var rfl (okE_nil ⟨Nat.le_of_ble_eq_true rfl, okG_setC ⟨rfl, rfl⟩⟩))), (fun e => nomatch e)⟩
      | some z => exact okW_eq (w := .cl (.bl false)) rfl ⟨_, rfl, (fun e => nomatch e), fun _ => okE_lst (okE_cons (okE_var rfl (okE_cons (okE_var rfl (okE_nil ⟨Nat.le_of_ble_eq_true rfl, okG_setC ⟨rfl, rfl⟩⟩)))))⟩
    rintro ρ h' ⟨rfl, rfl⟩
    refine okS_seq (okS_for (rng_ok (m := 2) (it := ⟨[], []⟩) (by decide) (okE_eq rfl ⟨rfl, rfl, rfl⟩) ?_))
    refine okS_loop0 (fun j ρ h'' => ∃ s8 s9 g, ρ = frT ls p fx sp s8 s9 ∧ h'' = h' ++ g) _ 0 ⟨_, _, [], rfl, (List.append_nil _).symm⟩ ?_ ?_
    · rintro j d ρ h'' hj ⟨s8, s9, g, rfl, rfl⟩
      refine okG_setC ?_
      dsimp only [List.set, fzW]
      refine told_turn (ls := ls) (p := p) ok fun s9 g' => ⟨_, s9, g ++ g', rfl, by rw [List.append_assoc]⟩
    · rintro ρ h'' ⟨s8, s9, g, rfl, rfl⟩
      exact okS_ret (okE_c (cut_app rfl okCut_refl (fun _ z => by cases z) below_bl q))
  refine okS_seq (okS_asg (okE_op (okE_headT hn (by omega) rfl (okE_tailT (fun z e => (ok.sp z e).1) rfl (okW_eq rfl (okW_eq rfl (w_addS (by omega) (okG_setC ?_))))))))
  exact rest _ rfl
end
end K04

/-! the plain law of k04: shapes that differ -/
namespace K04
open PySem PySem.Spec PyProof.Rows L2 SL CM
section
variable {ρ : List Sl} {h h0 h1 g : Tb} {N : List Sl → Tb → Prop} {T : Ps W} {L : Bool → List Sl → Tb → Prop} {X : Px} {tk si : Fnm} {b n k i j len m most : Nat} {d0 d : D} {ks : List Kd} {rz : Bool} {ls : List (List Nat)} {p q : Pt} {qs : List Pt} {fx : List Str} {sp : Option Str} {e : Mo W}
local macro_rules | `(tactic| walk_at "hv") => `(tactic| first | rfl | assumption | (exact (by assumption : _)))
local macro_rules | `(tactic| walk_at "p1") => `(tactic| first
  | with_reducible refine CM.okS_seq ?_ | with_reducible refine CM.okS_next ?_ | with_reducible refine CM.okS_asg ?_ | with_reducible refine CM.okS_ret ?_ | with_reducible refine CM.okS_drop ?_ | with_reducible refine CM.okS_aug ?_ | with_reducible refine CM.okS_cnt ?_ | with_reducible refine CM.okS_fg ?_ | with_reducible refine CM.okS_retN ?_
  | with_reducible refine CM.okE_op ?_ | with_reducible refine CM.okE_cb ?_ | with_reducible refine CM.okE_cons ?_ | with_reducible refine CM.okE_nil ?_ | with_reducible refine CM.okB_not ?_ | with_reducible refine CM.okE_c ?_ | with_reducible refine CM.okE_fr ?_ | with_reducible refine CM.okE_ce ?_ | with_reducible refine CM.okE_notV ?_ | with_reducible refine CM.okE_un ?_
  | with_reducible refine CM.okE_sl ?_ | with_reducible refine CM.okE_nopart ?_
  | ((with_reducible refine' CM.okE_var ?hv ?_); (case hv => rfl))
  | ((with_reducible refine' CM.okE_part (CM.okE_var ?hv ⟨_, ?hv2, ?_⟩)); (case hv => rfl); (case hv2 => rfl))
  | ((with_reducible refine' CM.okE_part (CM.okE_c ⟨_, ?hv2, ?_⟩)); (case hv2 => rfl))
  | ((with_reducible refine' CM.okW_eq (w := _) ?hv ?_); (case hv => (with_reducible rfl)))
  | ((with_reducible refine' CM.okW_deref ?hv ?_); (case hv => walk_at "hv")) | ((with_reducible refine' CM.okW_derefs ?hv ?_); (case hv => rfl)) | ((with_reducible refine' CM.okW_derefC ?hv ?_); (case hv => walk_at "hv")) | ((with_reducible refine' CM.okW_lstAt ?hv ?_); (case hv => walk_at "hv"))
  | with_reducible refine CM.w_add ?_ | with_reducible refine CM.w_sub ?_ | with_reducible refine CM.w_lt ?_ | with_reducible refine CM.w_le ?_ | with_reducible refine CM.w_gt ?_ | with_reducible refine CM.w_ge ?_ | with_reducible refine CM.w_addI ?_
  | with_reducible refine CM.w_mod (by omega) ?_ | with_reducible refine CM.w_div (by omega) (by rw [CM.big_eq]; omega) ?_ | with_reducible refine CM.w_mul (by rw [CM.big_eq]; omega) (by rw [CM.big_eq]; omega) (by rw [CM.big_eq]; omega) (by rw [CM.big_eq]; omega) ?_ | with_reducible refine CM.w_sq (by omega) (by omega) ?_
  | with_reducible refine CM.w_max2 ?_ | with_reducible refine CM.w_min2 ?_ | with_reducible refine CM.w_lenL ?_ | with_reducible refine CM.w_lenT ?_ | with_reducible refine CM.w_lenC ?_ | with_reducible refine CM.w_listL ?_ | with_reducible refine CM.w_listT ?_ | with_reducible refine CM.w_tupL ?_ | with_reducible refine CM.w_tupT ?_
  | ((with_reducible refine CM.okG_setC ?_); (try dsimp only [List.set, CM.fzW]))
  | ((with_reducible refine' CM.okW_ix ?hv ?_); (case hv => rfl))
  | ((with_reducible refine' CM.okB_test (CM.okE_eqn ⟨_, ?hv, ?_⟩)); (case hv => rfl))
  | ((with_reducible refine' CM.okB_testd ⟨_, ?hv, ?_⟩); (case hv => rfl)))
local macro_rules | `(tactic| walk_at "p") => `(tactic| repeat walk_at "p1")
/-- a shape of these columns that is another one -/
def Ot (m : Nat) (p q : Pt) : Prop := PtU m q ∧ (q.1.length ≠ p.1.length ∨ q.2 ≠ p.2)
theorem okS_addP {k : Nat} (hk : ρ[k]? = some (.cl (.ce h.length))) (hl : qs.length < 1000) (he : okE (e ρ (h ++ [.lst (qs.map partD)])) (fun w ρ' h' => ρ' = ρ ∧ h' = h ++ [.lst (qs.map partD)] ∧ fzW w = partD q) X) (hN : N ρ (h ++ [.lst ((qs ++ [q]).map partD)])) :
    okS (sDrop (mMut fAppend (mVar k) (mCons e mNil)) ρ (h ++ [.lst (qs.map partD)])) N T L X := by
  refine okS_drop (okE_mut (okE_var hk (okW_lstAt (tail_at0 rfl) (okE_cons (he.mono ?_)))))
  rintro w ρ' h' ⟨rfl, rfl, e⟩
  refine okE_nil (okW_lstAt (tail_at0 rfl) ?_)
  rw [List.map_cons, List.map_nil, e]
  refine w_append (by rw [List.length_map]; omega) ?_
  rw [tail_set0 rfl]
  rw [List.map_append] at hN
  exact hN
theorem PtU.fewer {m x : Nat} (u : PtU m p) (hx : x ∈ p.1) : Ot m p (p.1.filter (fun i => !decide (i = x)), p.2) ∧ Ot m p (p.1.filter (fun i => !decide (i = x)), some x) := by
  have hs : (p.1.filter (fun i => !decide (i = x))).Sublist p.1 := List.filter_sublist
  have hl : (p.1.filter (fun i => !decide (i = x))).length < p.1.length := List.length_filter_lt_length_iff_exists.mpr ⟨x, hx, by simp⟩
  have h5 := u.len
  have a1 : ∀ i ∈ p.1.filter (fun i => !decide (i = x)), i < m := fun i hi => u.lt i (hs.subset hi)
  refine ⟨⟨⟨u.nd.sublist hs, a1, by show (p.1.filter _).length ≤ 5; omega, fun i e => ?_⟩, .inl (by show (p.1.filter _).length ≠ _; omega)⟩, ⟨⟨u.nd.sublist hs, a1, by show (p.1.filter _).length ≤ 5; omega, fun i e => ?_⟩, .inl (by show (p.1.filter _).length ≠ _; omega)⟩⟩
  · obtain ⟨b1, b2, b3⟩ := u.sp i e
    exact ⟨b1, fun z => b2 (hs.subset z), by show (p.1.filter _).length < 5; omega⟩
  · cases e
    exact ⟨u.lt x hx, by simp, by show (p.1.filter _).length < 5; omega⟩
theorem Ot.span {m y : Nat} (u : PtU m p) (hy : y < m) (hw : y ∉ wholeP p) (h5 : p.1.length < 5) : Ot m p (p.1, some y) := by
  refine ⟨⟨u.nd, u.lt, u.len, fun i e => ?_⟩, .inr fun e => ?_⟩
  · cases e
    exact ⟨hy, fun z => hw (List.mem_append_left _ z), h5⟩
  · exact hw (List.mem_append_right _ (by rw [← e]; simp))
theorem Ot.more {m y : Nat} (u : PtU m p) (hy : y < m) (hw : y ∉ wholeP p) (h5 : (wholeP p).length < 5) : Ot m p (p.1 ++ [y], p.2) := by
  unfold wholeP at h5
  rw [List.length_append] at h5
  refine ⟨⟨?_, fun i hi => ?_, by show (p.1 ++ [y]).length ≤ 5; rw [List.length_append, List.length_singleton]; omega, fun i e => ?_⟩, .inl (by show (p.1 ++ [y]).length ≠ _; rw [List.length_append, List.length_singleton]; omega)⟩
  · show (p.1 ++ [y]).Nodup
    rw [List.nodup_append]
    refine ⟨u.nd, by simp, fun a ha c hc z => ?_⟩
    rw [List.mem_singleton.mp hc] at z
    rw [z] at ha
    exact hw (List.mem_append_left _ ha)
  · rcases List.mem_append.mp hi with z | z
    · exact u.lt i z
    · rw [List.mem_singleton.mp z]
      exact hy
  · have e : p.2 = some i := e
    obtain ⟨b1, b2, b3⟩ := u.sp i e
    have h1 : p.2.toList.length = 1 := by rw [e]; rfl
    refine ⟨b1, fun z => ?_, by show (p.1 ++ [y]).length < 5; rw [List.length_append, List.length_singleton]; omega⟩
    rcases List.mem_append.mp z with z | z
    · exact b2 z
    · rw [List.mem_singleton.mp z] at e
      exact hw (List.mem_append_right _ (by rw [e]; simp))
theorem Ot.none {m i : Nat} (u : PtU m p) (hs : p.2 = some i) : Ot m p (p.1, none) ∧ Ot m p (wholeP p, none) := by
  obtain ⟨b1, b2, b3⟩ := u.sp i hs
  have hw : wholeP p = p.1 ++ [i] := by
    unfold wholeP
    rw [hs]
    rfl
  refine ⟨⟨⟨u.nd, u.lt, u.len, fun i e => by cases e⟩, .inr (by rw [hs]; simp)⟩, ⟨⟨?_, fun a ha => ?_, ?_, fun i e => by cases e⟩, .inr (by rw [hs]; simp)⟩⟩
  · show (wholeP p).Nodup
    rw [hw, List.nodup_append]
    refine ⟨u.nd, by simp, fun a ha c hc z => ?_⟩
    rw [List.mem_singleton.mp hc] at z
    rw [z] at ha
    exact b2 ha
  · have ha : a ∈ wholeP p := ha
    rw [hw] at ha
    rcases List.mem_append.mp ha with z | z
    · exact u.lt a z
    · rw [List.mem_singleton.mp z]
      exact b1
  · show (wholeP p).length ≤ 5
    rw [hw, List.length_append, List.length_singleton]
    omega
theorem oI_sp {s : Option Nat} : deref h (.cl (oI s)) = some (oI s) := by cases s <;> rfl
theorem others_ok {P : W → Tb → Prop} {X : Str → List (Str × D) → Tb → Prop} (t : Tk m_l_law_take) (hb : Bx b n h0 h) (hn : n ≤ 50000000) (c : Cols m ls) (hm : m ≤ 8) (u : PtU m p)
    (q : ∀ (rs : List Pt) h', (∀ r ∈ rs, Ot m p r) → rs.length ≤ 100 → Bx b (n + 1000) h0 h' → P (W.fr (rs.map (shP ls))) h') : okF (m_l_law_others [.ce b, .lst (LS (ls.map S)), partD p] h) P X := by
  unfold m_l_law_others
  refine okF_fn rfl ?_
  show okS (b_l_law_others [.cl (.ce b), .cl (.lst (LS (ls.map S))), .cl (partD p), .un, .un, .un, .un, .un] h) _ _ _ _
  unfold b_l_law_others
  have hl0 := hb.len
  have hbs := hb.self
  have h5 := u.len
  have hwl : (wholeP p).length = p.1.length + p.2.toList.length := by unfold wholeP; rw [List.length_append]
  have hs1 : p.2.toList.length ≤ 1 := by cases p.2 <;> simp
  refine okS_seq (okS_asg (okE_tup (okE_cons (okE_ce (okE_eq (w := W.fr []) rfl (okE_cons (okE_fr (okE_call (okE_cons (okE_fr (okE_var rfl (okE_nil ?_)))))))))))) 
  refine whole_ok (by omega) (okE_nil ⟨Nat.le_of_ble_eq_true rfl, okG_tup2 (okG_set (okG_setC ?_))⟩)
  dsimp only [List.set, fzW]
  let fr (s5 s6 : Sl) : List Sl := [.cl (.ce b), .cl (.lst (LS (ls.map S))), .cl (partD p), .cl (.ce h.length), .cl (.lst (PI (wholeP p))), s5, s6, .un]
  let J (k : Nat) (s6 : Sl) (ρ : List Sl) (h' : Tb) : Prop := ∃ (qs : List Pt) (s5 : Sl), ρ = fr s5 s6 ∧ h' = h ++ [.lst (qs.map partD)] ∧ (∀ r ∈ qs, Ot m p r) ∧ qs.length ≤ k
  have add : ∀ {qs : List Pt} {r : Pt}, (∀ r ∈ qs, Ot m p r) → Ot m p r → ∀ x ∈ qs ++ [r], Ot m p x := fun h1 h2 x hx => by
    rcases List.mem_append.mp hx with z | z
    · exact h1 x z
    · rw [List.mem_singleton.mp z]
      exact h2
  -- one column fewer
  refine okS_seqM (fun ρ h' => ∃ s6, J 10 s6 ρ h') (okS_for (okE_iU (okE_op (okE_var rfl (okE_c (okW_eq rfl (okW_eq rfl (w_ixT (i := 0) rfl (okW_eq rfl (okW_eq rfl ⟨by rw [PI_len]; omega, ?_⟩)))))))))) ?_
  · refine okS_loop0 (fun j ρ h' => ∃ s6, J (2 * j) s6 ρ h') _ 0 ⟨_, [], _, rfl, rfl, (fun r z => absurd z List.not_mem_nil), Nat.le_refl _⟩ ?_ ?_
    · rintro j d ρ h' hj ⟨s6, qs, s5, rfl, rfl, g1, g2⟩
      obtain ⟨x, hx, rfl⟩ := PI_at hj
      have hm2 : x ∈ p.1 := List.mem_of_getElem? hx
      have hjl := (List.getElem?_eq_some_iff.mp hx).1
      rw [Nat.zero_add] at g2 ⊢
      refine okG_setC ?_
      dsimp only [fr, List.set, fzW]
      refine okS_seq (okS_asg ?_)
      refine okE_lcF (ds := PI p.1) (fun k h' acc => h' = h ++ [D.lst (qs.map partD)] ∧ acc = PI ((p.1.take k).filter fun i => !decide (i = x))) rfl ?_ ?_ ?_
      · exact okE_iU (okE_op (okE_var rfl (okE_c (okW_eq rfl (okW_eq rfl (w_ixT (i := 0) rfl (okW_eq rfl (okW_eq rfl ⟨by rw [PI_len]; omega, rfl, rfl, rfl, rfl⟩))))))))
      · rintro k d h' acc hk ⟨rfl, rfl⟩
        obtain ⟨y, hy, rfl⟩ := PI_at hk
        obtain ⟨hk2, ey⟩ := List.getElem?_eq_some_iff.mp hy
        have et : (p.1.take (k + 1)).filter (fun i => !decide (i = x)) = (p.1.take k).filter (fun i => !decide (i = x)) ++ (if !decide (y = x) then [y] else []) := by
          rw [List.take_succ_eq_append_getElem hk2, ey, List.filter_append]
          congr 1
          by_cases z : y = x <;> simp [z]
        refine okB_test (okE_op (okE_var rfl (okE_var rfl (okW_eq rfl (okW_eq rfl (w_neI ⟨_, rfl, rfl, fun e => ?_, fun e => ?_⟩))))))
        · have e : y ≠ x := by
            intro z
            rw [z, decide_eq_true rfl] at e
            cases e
          refine okE_var rfl ⟨rfl, rfl, ?_⟩
          rw [et, decide_eq_false e, PI_append]
          rfl
        · have e : y = x := by
            by_cases z : y = x
            · exact z
            · rw [decide_eq_false (fun z2 => z (by omega))] at e
              cases e
          refine ⟨rfl, ?_⟩
          rw [et, decide_eq_true e]
          simp
      rintro h' acc ⟨rfl, rfl⟩
      rw [PI_len, List.take_of_length_le (Nat.le_refl _)]
      obtain ⟨o1, o2⟩ := PtU.fewer u hm2
      generalize p.1.filter (fun i => !decide (i = x)) = fw at o1 o2 ⊢
      refine okG_setC ?_
      dsimp only [List.set, fzW]
      refine okS_seq (okS_addP (q := (fw, p.2)) rfl (by omega) ?_ ?_)
      · refine okE_tup (okE_cons (okE_var rfl (okE_cons (okE_op (okE_var rfl (okE_c (okW_eq rfl (okW_eq rfl (w_ixT (i := 1) rfl (okE_nil ⟨Nat.le_of_ble_eq_true rfl, rfl, rfl, rfl⟩))))))))))
      refine okS_addP (q := (fw, some x)) rfl (by rw [List.length_append, List.length_singleton]; omega) ?_ ?_
      · refine okE_tup (okE_cons (okE_var rfl (okE_cons (okE_var rfl (okE_nil ⟨Nat.le_of_ble_eq_true rfl, rfl, rfl, rfl⟩)))))
      exact ⟨_, _, _, rfl, rfl, add (add g1 o1) o2, by rw [List.length_append, List.length_append, List.length_singleton, List.length_singleton]; omega⟩
    · rintro ρ h' ⟨s6, qs, s5, rfl, rfl, g1, g2⟩
      rw [PI_len, Nat.zero_add] at g2
      exact ⟨s6, qs, s5, rfl, rfl, g1, by omega⟩
  rintro ρ h' ⟨s6, qs0, s5, rfl, rfl, g1, g2⟩
  have hll : (LS (ls.map S)).length = m := by rw [List.length_map, List.length_map]; exact c.1
  -- one more, another span
  refine okS_seqM (J 26 s6) (okS_for (okE_iU ?_)) ?_
  · refine okE_lcF (ds := (List.range m).map fun i => .int (i : Nat)) (fun j h' acc => h' = h ++ [D.lst (qs0.map partD)] ∧ acc = PI ((List.range j).filter fun i => !decide (i ∈ wholeP p))) rfl ?_ ?_ ?_
    · exact rng_ok (it := ⟨[], []⟩) (by omega) (okE_cons (okE_cb (okE_cons (okE_var rfl (okE_nil (okW_eq rfl (w_lenL (okE_nil ⟨by rw [hll], rfl, rfl⟩)))))))) ⟨rfl, rfl, rfl, rfl⟩
    · rintro j d h' acc hj ⟨rfl, rfl⟩
      obtain ⟨hj2, rfl⟩ := rng_at hj
      refine okB_test (okE_op (okE_var rfl (okE_var rfl (okW_eq rfl (okW_eq rfl (w_niPI ⟨_, rfl, rfl, fun e => ?_, fun e => ?_⟩))))))
      · refine okE_var rfl ⟨rfl, rfl, ?_⟩
        rw [filter_take hj2, if_pos e, PI_append]
        rfl
      · refine ⟨rfl, ?_⟩
        rw [filter_take hj2, if_neg (by rw [e]; decide), List.append_nil]
    rintro h' acc ⟨rfl, rfl⟩
    rw [List.length_map, List.length_range]
    have hfr : ∀ i ∈ (List.range m).filter (fun i => !decide (i ∈ wholeP p)), i < m ∧ i ∉ wholeP p := fun i hi => by simpa using hi
    have hfl : ((List.range m).filter (fun i => !decide (i ∈ wholeP p))).length ≤ 8 := Nat.le_trans (List.length_filter_le ..) (by rw [List.length_range]; exact hm)
    generalize (List.range m).filter (fun i => !decide (i ∈ wholeP p)) = free at hfr hfl ⊢
    refine okW_eq rfl (okW_eq rfl ⟨by rw [PI_len]; omega, ?_⟩)
    refine okS_loop0 (fun j ρ h' => J (10 + 2 * j) s6 ρ h') _ 0 ⟨qs0, s5, rfl, rfl, g1, g2⟩ ?_ ?_
    · rintro j d ρ h' hj ⟨qs, s5, rfl, rfl, g1, g2⟩
      obtain ⟨y, hy, rfl⟩ := PI_at hj
      obtain ⟨y1, y2⟩ := hfr y (List.mem_of_getElem? hy)
      have hjl := (List.getElem?_eq_some_iff.mp hy).1
      rw [Nat.zero_add] at g2 ⊢
      refine okG_setC ?_
      dsimp only [fr, List.set, fzW]
      have lt5 : ∀ {N T L X} {m1 m2 : MS} {ρ : List Sl} {h : Tb}, ρ[4]? = some (.cl (.lst (PI (wholeP p)))) → ((wholeP p).length < 5 → okS (m1 ρ h) N T L X) → (¬ (wholeP p).length < 5 → okS (m2 ρ h) N T L X) → okS (sIf (mTest (mOp dLt (mCB dLen (mCons (mVar 4) mNil)) (mC (.int 5)))) m1 m2 ρ h) N T L X := fun hk a1 a2 => by
        refine okS_if (okB_test (okE_op (okE_cb (okE_cons (okE_var hk (okE_nil (okW_eq rfl (w_lenL (okE_c (okW_eq rfl (okW_eq rfl (w_lt ⟨_, rfl, fun e => ?_, fun e => ?_⟩))))))))))))
        · have := of_decide_eq_true e
          rw [PI_len] at this
          exact a1 (by omega)
        · have := of_decide_eq_false e
          rw [PI_len] at this
          exact a2 (by omega)
      have second : ∀ qs : List Pt, (∀ r ∈ qs, Ot m p r) → qs.length ≤ 10 + 2 * j + 1 → okS (sIf (mTest (mOp dLt (mCB dLen (mCons (mVar 4) mNil)) (mC (.int 5)))) (sDrop (mMut fAppend (mVar 3) (mCons (mTup (mCons (mOp dAdd (mOp dIx (mVar 2) (mC (.int 0))) (mLst (mCons (mVar 5) mNil))) (mCons (mOp dIx (mVar 2) (mC (.int 1))) mNil))) mNil))) sNext [.cl (.ce b), .cl (.lst (LS (ls.map S))), .cl (partD p), .cl (.ce h.length), .cl (.lst (PI (wholeP p))), .cl (.int (y : Nat)), s6, .un] (h ++ [.lst (qs.map partD)])) (fun ρ h' => J (10 + 2 * (j + 1)) s6 ρ h') (fun w ρ h' => okW (cutF false h w h') fun x => P x.1 x.2) (fun b ρ h' => if b = true then J 26 s6 ρ h' else J (10 + 2 * (j + 1)) s6 ρ h') (fun C fs ρ h' => okW (cutX false h fs h') fun x => X C fs x) := fun qs g1 g2 => by
        refine lt5 rfl (fun w5 => ?_) fun _ => okS_next ⟨qs, _, rfl, rfl, g1, by omega⟩
        refine okS_addP (q := (p.1 ++ [y], p.2)) rfl (by omega) ?_ ⟨_, _, rfl, rfl, add g1 (Ot.more u y1 y2 w5), by rw [List.length_append, List.length_singleton]; omega⟩
        refine okE_tup (okE_cons (okE_op (okE_op (okE_var rfl (okE_c (okW_eq rfl (okW_eq rfl (w_ixT (i := 0) rfl (okE_lst (okE_cons (okE_var rfl (okE_nil ⟨Nat.le_of_ble_eq_true rfl, okW_eq rfl (okW_eq rfl ?_)⟩))))))))))))
        refine okW_eq (w := W.fr (PI (p.1 ++ [y]))) ?_ ?_
        rotate_left
        · refine okE_cons (okE_op (okE_var rfl (okE_c (okW_eq rfl (okW_eq rfl (w_ixT (i := 1) rfl (okE_nil ⟨Nat.le_of_ble_eq_true rfl, rfl, rfl, rfl⟩)))))))
        show (if (PI p.1).length + 1 ≤ 100000 then some (W.fr (PI p.1 ++ [D.int (y : Nat)])) else none) = _
        rw [PI_len, if_pos (by omega), PI_append]
        rfl
      have put : p.1.length < 5 → okS (sDrop (mMut fAppend (mVar 3) (mCons (mTup (mCons (mOp dIx (mVar 2) (mC (.int 0))) (mCons (mVar 5) mNil))) mNil)) [.cl (.ce b), .cl (.lst (LS (ls.map S))), .cl (partD p), .cl (.ce h.length), .cl (.lst (PI (wholeP p))), .cl (.int (y : Nat)), s6, .un] (h ++ [.lst (qs.map partD)])) (fun ρ h' => ρ = [.cl (.ce b), .cl (.lst (LS (ls.map S))), .cl (partD p), .cl (.ce h.length), .cl (.lst (PI (wholeP p))), .cl (.int (y : Nat)), s6, .un] ∧ ∃ qs : List Pt, h' = h ++ [.lst (qs.map partD)] ∧ (∀ r ∈ qs, Ot m p r) ∧ qs.length ≤ 10 + 2 * j + 1) (fun w ρ h' => okW (cutF false h w h') fun x => P x.1 x.2) (fun b ρ h' => if b = true then J 26 s6 ρ h' else J (10 + 2 * (j + 1)) s6 ρ h') (fun C fs ρ h' => okW (cutX false h fs h') fun x => X C fs x) := fun p5 => by
        refine okS_addP (q := (p.1, some y)) rfl (by omega) ?_ ⟨rfl, _, rfl, add g1 (Ot.span u y1 y2 p5), by rw [List.length_append, List.length_singleton]; omega⟩
        refine okE_tup (okE_cons (okE_op (okE_var rfl (okE_c (okW_eq rfl (okW_eq rfl (w_ixT (i := 0) rfl (okE_cons (okE_var rfl (okE_nil ⟨Nat.le_of_ble_eq_true rfl, rfl, rfl, rfl⟩))))))))))
      refine okS_seqM (fun ρ h' => ρ = [.cl (.ce b), .cl (.lst (LS (ls.map S))), .cl (partD p), .cl (.ce h.length), .cl (.lst (PI (wholeP p))), .cl (.int (y : Nat)), s6, .un] ∧ ∃ qs : List Pt, h' = h ++ [.lst (qs.map partD)] ∧ (∀ r ∈ qs, Ot m p r) ∧ qs.length ≤ 10 + 2 * j + 1) ?_ ?_
      · refine okS_if (okB_or (okB_test (okE_op (okE_cb (okE_cons (okE_var rfl (okE_nil (okW_eq rfl (w_lenL (okE_c (okW_eq rfl (okW_eq rfl (w_lt ⟨_, rfl, fun e => ?_, fun e => ?_⟩)))))))))))))
        · have e := of_decide_eq_true e
          rw [PI_len] at e
          exact ⟨fun _ => put (by omega), (fun z => nomatch z)⟩
        · refine okB_test (okE_op (okE_op (okE_var rfl (okE_c (okW_eq rfl (okW_eq rfl (w_ixT (i := 1) rfl (okE_c (okW_eq oI_sp (okW_eq rfl ?_))))))))))
          cases hsp : p.2 with
          | none => exact okW_eq (w := .cl (.bl false)) rfl ⟨_, rfl, (fun e => nomatch e), fun _ => okS_next ⟨rfl, qs, rfl, g1, by omega⟩⟩
          | some i => exact okW_eq (w := .cl (.bl true)) rfl ⟨_, rfl, fun _ => put (u.sp i hsp).2.2, (fun e => nomatch e)⟩
      rintro ρ h' ⟨rfl, qs, rfl, g1, g2⟩
      exact second qs g1 g2
    · rintro ρ h' ⟨qs, s5, rfl, rfl, g1, g2⟩
      rw [PI_len, Nat.zero_add] at g2
      exact ⟨qs, s5, rfl, rfl, g1, by omega⟩
  rintro ρ h' ⟨qs, s5, rfl, rfl, g1, g2⟩
  -- no span
  refine okS_seqM (J 28 s6) ?_ ?_
  · refine okS_if (okB_test (okE_op (okE_op (okE_var rfl (okE_c (okW_eq rfl (okW_eq rfl (w_ixT (i := 1) rfl (okE_c (okW_eq oI_sp (okW_eq rfl ?_)))))))))))
    cases hsp : p.2 with
    | none => exact okW_eq (w := .cl (.bl false)) rfl ⟨_, rfl, (fun e => nomatch e), fun _ => okS_next ⟨qs, _, rfl, rfl, g1, by omega⟩⟩
    | some i =>
      obtain ⟨o1, o2⟩ := Ot.none u hsp
      refine okW_eq (w := .cl (.bl true)) rfl ⟨_, rfl, fun _ => ?_, (fun e => nomatch e)⟩
      refine okS_seq (okS_addP (q := (p.1, none)) rfl (by omega) ?_ ?_)
      · refine okE_tup (okE_cons (okE_op (okE_var rfl (okE_c (okW_eq rfl (okW_eq rfl (w_ixT (i := 0) rfl (okE_cons (okE_c (okE_nil ⟨Nat.le_of_ble_eq_true rfl, rfl, rfl, rfl⟩))))))))))
      refine okS_addP (q := (wholeP p, none)) rfl (by rw [List.length_append, List.length_singleton]; omega) ?_ ⟨_, _, rfl, rfl, add (add g1 o1) o2, by rw [List.length_append, List.length_append, List.length_singleton, List.length_singleton]; omega⟩
      refine okE_tup (okE_cons (okE_var rfl (okE_cons (okE_c (okE_nil ⟨Nat.le_of_ble_eq_true rfl, rfl, rfl, rfl⟩)))))
  rintro ρ h' ⟨qs, s5, rfl, rfl, g1, g2⟩
  -- the shapes of them
  refine okS_ret (okE_lc (okE_iU (okE_var rfl (okW_eq (tail_at0 rfl : deref (h ++ [D.lst (qs.map partD)]) (.cl (.ce h.length)) = some (.lst (qs.map partD))) (okW_eq rfl ⟨by rw [List.length_map]; omega, rfl, ?_⟩)))))
  refine okE_loopC (fun j ρ h' acc => ρ = fr s5 s6 ∧ ∃ (h1 : Tb) (rs : List Pt), h' = h1 ++ [.lst (qs.map partD)] ∧ acc = rs.map (shP ls) ∧ (∀ r ∈ rs, Ot m p r) ∧ rs.length ≤ j ∧ Bx b (n + 10 * j) h h1) ?_ _ 0 ⟨rfl, h, [], rfl, rfl, (fun r z => absurd z List.not_mem_nil), Nat.le_refl _, hbs⟩ ?_ ?_
  · rintro k ρ h' acc ⟨_, h1, rs, rfl, _, _, _, hb1⟩
    have e : ckOf (h ++ [D.lst (qs.map partD)]) (.cl (.ce h.length)) = [(h.length, .lst (qs.map partD))] := by
      show (match (h ++ [D.lst (qs.map partD)])[h.length]? with
        | some c => [(h.length, c)]
        | none => []) = _
      rw [tail_at0 rfl]
      rfl
    rw [e]
    intro x hx
    rw [List.mem_singleton.mp hx]
    exact tail_at0 hb1.len
  · rintro j d ρ h' acc hj ⟨rfl, h1, rs, rfl, rfl, k1, k2, hb1⟩
    rw [Nat.zero_add] at k2 hb1 ⊢
    rw [List.getElem?_map] at hj
    cases hr : qs[j]? with
    | none => rw [hr] at hj; cases hj
    | some r =>
      rw [hr] at hj
      cases hj
      have hjl := (List.getElem?_eq_some_iff.mp hr).1
      have o := g1 r (List.mem_of_getElem? hr)
      have o5 := o.1.len
      refine okG_setC ?_
      dsimp only [fr, List.set, fzW]
      refine okB_test (okE_op (okE_cb (okE_cons (okE_call (okE_cons (okE_fr (okE_var rfl (okE_nil (whole_ok (by omega) (okE_nil (okW_eq rfl (w_lenL (okE_c (okW_eq rfl (okW_eq rfl (w_lt ⟨_, rfl, fun e => ?_, fun e => ?_⟩))))))))))))))))
      · refine okE_call (okE_cons (okE_ce (okE_var rfl (okE_cons (okE_fr (okE_var rfl (okE_cons (okE_fr (okE_var rfl (okE_nil ?_))))))))))
        refine shape_draw t ksok rfl hb1.app (by omega) c o.1 fun h2 hb2 => ?_
        obtain ⟨h3, rfl, hb3⟩ := hb2.unapp (by rw [← hb1.len]; exact hb1.lt)
        refine ⟨rfl, h3, rs ++ [r], rfl, by simp [fzW], add k1 o, by rw [List.length_append, List.length_singleton]; omega, hb3.mono (by omega)⟩
      · exact ⟨rfl, h1, rs, rfl, rfl, k1, by omega, hb1.mono (by omega)⟩
  rintro ρ h' acc ⟨rfl, h1, rs, rfl, rfl, k1, k2, hb1⟩
  rw [List.length_map, Nat.zero_add] at k2 hb1
  refine cut_app hb1.len (Bx.cut hbs hb1) (fun _ z => by cases z) ?_ (q rs h1 k1 (by omega) ((hb.trans hb1).mono (by omega)))
  show below h.length (.lst (rs.map (shP ls))) = true
  rw [below_lst, List.all_eq_true]
  intro d hd
  obtain ⟨r, _, rfl⟩ := List.mem_map.mp hd
  exact below_shD _ _
end
end K04

/-! the plain law of k04: one shape compared -/
namespace K04
open PySem PySem.Spec PyProof.Rows L2 SL CM
section
variable {ρ : List Sl} {h h0 h1 g : Tb} {N : List Sl → Tb → Prop} {T : Ps W} {L : Bool → List Sl → Tb → Prop} {X : Px} {tk si : Fnm} {b n k i j len m most : Nat} {d0 d1 d : D} {ks : List Kd} {rz : Bool} {ls : List (List Nat)} {p q : Pt} {qs : List Pt} {fx gx : List Str} {sp sq : Option Str} {e : Mo W}
local macro_rules | `(tactic| walk_at "hv") => `(tactic| first | rfl | assumption | (exact (by assumption : _)))
local macro_rules | `(tactic| walk_at "p1") => `(tactic| first
  | with_reducible refine CM.okS_seq ?_ | with_reducible refine CM.okS_next ?_ | with_reducible refine CM.okS_asg ?_ | with_reducible refine CM.okS_ret ?_ | with_reducible refine CM.okS_drop ?_ | with_reducible refine CM.okS_aug ?_ | with_reducible refine CM.okS_cnt ?_ | with_reducible refine CM.okS_fg ?_ | with_reducible refine CM.okS_retN ?_
  | with_reducible refine CM.okE_op ?_ | with_reducible refine CM.okE_cb ?_ | with_reducible refine CM.okE_cons ?_ | with_reducible refine CM.okE_nil ?_ | with_reducible refine CM.okB_not ?_ | with_reducible refine CM.okE_c ?_ | with_reducible refine CM.okE_fr ?_ | with_reducible refine CM.okE_ce ?_ | with_reducible refine CM.okE_notV ?_ | with_reducible refine CM.okE_un ?_
  | with_reducible refine CM.okE_sl ?_ | with_reducible refine CM.okE_nopart ?_
  | ((with_reducible refine' CM.okE_var ?hv ?_); (case hv => rfl))
  | ((with_reducible refine' CM.okE_part (CM.okE_var ?hv ⟨_, ?hv2, ?_⟩)); (case hv => rfl); (case hv2 => rfl))
  | ((with_reducible refine' CM.okE_part (CM.okE_c ⟨_, ?hv2, ?_⟩)); (case hv2 => rfl))
  | ((with_reducible refine' CM.okW_eq (w := _) ?hv ?_); (case hv => (with_reducible rfl)))
  | ((with_reducible refine' CM.okW_deref ?hv ?_); (case hv => walk_at "hv")) | ((with_reducible refine' CM.okW_derefs ?hv ?_); (case hv => rfl)) | ((with_reducible refine' CM.okW_derefC ?hv ?_); (case hv => walk_at "hv")) | ((with_reducible refine' CM.okW_lstAt ?hv ?_); (case hv => walk_at "hv"))
  | with_reducible refine CM.w_add ?_ | with_reducible refine CM.w_sub ?_ | with_reducible refine CM.w_lt ?_ | with_reducible refine CM.w_le ?_ | with_reducible refine CM.w_gt ?_ | with_reducible refine CM.w_ge ?_ | with_reducible refine CM.w_addI ?_
  | with_reducible refine CM.w_mod (by omega) ?_ | with_reducible refine CM.w_div (by omega) (by rw [CM.big_eq]; omega) ?_ | with_reducible refine CM.w_mul (by rw [CM.big_eq]; omega) (by rw [CM.big_eq]; omega) (by rw [CM.big_eq]; omega) (by rw [CM.big_eq]; omega) ?_ | with_reducible refine CM.w_sq (by omega) (by omega) ?_
  | with_reducible refine CM.w_max2 ?_ | with_reducible refine CM.w_min2 ?_ | with_reducible refine CM.w_lenL ?_ | with_reducible refine CM.w_lenT ?_ | with_reducible refine CM.w_lenC ?_ | with_reducible refine CM.w_listL ?_ | with_reducible refine CM.w_listT ?_ | with_reducible refine CM.w_tupL ?_ | with_reducible refine CM.w_tupT ?_
  | ((with_reducible refine CM.okG_setC ?_); (try dsimp only [List.set, CM.fzW]))
  | ((with_reducible refine' CM.okW_ix ?hv ?_); (case hv => rfl))
  | ((with_reducible refine' CM.okB_test (CM.okE_eqn ⟨_, ?hv, ?_⟩)); (case hv => rfl))
  | ((with_reducible refine' CM.okB_testd ⟨_, ?hv, ?_⟩); (case hv => rfl)))
local macro_rules | `(tactic| walk_at "p") => `(tactic| repeat walk_at "p1")
theorem shape_same {P : W → Tb → Prop} {X : Str → List (Str × D) → Tb → Prop} (hx : Kd.own "Shape" ∈ ks) (ok : ShOk fx sp) (hd : deref h (.cl d0) = some (shD fx sp)) (hd1 : deref h (.cl d1) = some (shD fx sp)) (p : P (.cl (.bl true)) h) : okF (CP.m_Shape_D_eq_D ks rz [d0, d1] h) P X := shape_eq hx ok ok hd hd1 (by
  rw [decide_eq_true rfl, decide_eq_true rfl]
  exact p)
theorem shape_other {P : W → Tb → Prop} {X : Str → List (Str × D) → Tb → Prop} (hx : Kd.own "Shape" ∈ ks) (c : Cols m ls) (u : PtU m p) (o : Ot m p q) (hd : deref h (.cl d0) = some (shP ls q)) (hd1 : deref h (.cl d1) = some (shP ls p)) (pr : P (.cl (.bl false)) h) : okF (CP.m_Shape_D_eq_D ks rz [d0, d1] h) P X := shape_eq hx (o.1.sh c) (u.sh c) hd hd1 (by
  have e : (decide (sortS (fxP ls q) = sortS (fxP ls p)) && decide (spP ls q = spP ls p)) = false := by
    rcases o.2 with h1 | h1
    · rw [decide_eq_false, Bool.false_and]
      intro z
      have := congrArg List.length z
      rw [sortS_len, sortS_len, List.length_map, List.length_map] at this
      exact h1 this
    · rw [decide_eq_false (p := spP ls q = spP ls p), Bool.and_false]
      intro z
      apply h1
      unfold spP at z
      cases hq : q.2 with
      | none =>
        cases hp : p.2 with
        | none => rfl
        | some i => rw [hq, hp] at z; cases z
      | some j =>
        cases hp : p.2 with
        | none => rw [hq, hp] at z; cases z
        | some i =>
          rw [hq, hp] at z
          rw [nm_inj c (o.1.sp j hq).1 (u.sp i hp).1 (Option.some.inj z)]
  rw [e]
  exact pr)
abbrev frL (ns : List Int) (s1 : Sl) (b : Nat) (ls : List (List Nat)) (p : Pt) (k5 : Nat) (sp : Option Str) (k7 : Nat) (s8 s9 : Sl) : List Sl := [.cl (.scr ns), s1, .cl (.ce b), .cl (.lst (LS (ls.map S))), .cl (partD p), .cl (.ce k5), .cl (spD sp), .cl (.ce k7), s8, s9, .un, .un, .un]
noncomputable def madeM : MS := (sSeq (sIf (mNot (mTru (callN m_l_law_told_right (mCons (mFr (mVar 8)) (mCons (mFr (mVar 3)) (mCons (mFr (mVar 4)) mNil)))))) (sRet (mC (.bl false))) sNext)
    (sSeq (sIf (mTest (mOp dNe (mLc (mIU (mVar 7)) (gSetC 11) (mOr (mTest (mOp dIsntB (mEqO "Shape" KS (CP.m_Shape_D_eq_D KS false) (mVar 11) (mVar 8)) (mC (.bl true)))) (mTest (mNeO "Shape" KS (CP.m_Shape_D_eq_D KS false) (mVar 11) (mVar 8)))) (mVar 11) [11]) (mLst mNil))) (sRet (mC (.bl false))) sNext)
    (sSeq (sIf (mTest (mOp dNe (mLc (mIU (callN m_l_law_others (mCons (mCe (mVar 2)) (mCons (mFr (mVar 3)) (mCons (mFr (mVar 4)) mNil))))) (gSetC 11) (mOr (mTest (mEqO "Shape" KS (CP.m_Shape_D_eq_D KS false) (mVar 11) (mVar 8))) (mNot (mTest (mNeO "Shape" KS (CP.m_Shape_D_eq_D KS false) (mVar 11) (mVar 8))))) (mVar 11) [11]) (mLst mNil))) (sRet (mC (.bl false))) sNext)
    (sSeq (sAsg (mLst (mCons (mC .non) (mCons (mC (.bl true)) (mCons (mC (.int 0)) (mCons (mStrO "Shape" (CP.m_Shape_D_str_D KS false) (mCons (mVar 8) mNil)) (mCons (mMeth "Shape" "fixed" (CP.m_Shape_fixed KS false) (mVar 8) mNil) (mCons (mMeth "Shape" "sets" m_Shape_sets (mVar 8) mNil) (mCons (mCB dTuple (mCons (mMeth "Shape" "columns" (CP.m_Shape_columns KS false) (mVar 8) mNil) mNil)) (mCons mDNew (mCons (mLenO "Shape" (CP.m_Shape_D_len_D KS false) (mCons (mVar 8) mNil)) mNil)))))))))) (gSetC 9))
    (sIf (mTest (mOp dNe (mLc (mIU (mVar 9)) (gSetC 12) (mOr (mTest (mEqO "Shape" KS (CP.m_Shape_D_eq_D KS false) (mVar 8) (mVar 12))) (mNot (mTest (mNeO "Shape" KS (CP.m_Shape_D_eq_D KS false) (mVar 8) (mVar 12))))) (mVar 12) [12]) (mLst mNil))) (sRet (mC (.bl false))) sNext)))))
theorem ownS : Kd.own "Shape" ∈ KS := by decide +kernel
/-- if [..] != []: none came -/
theorem okS_none {e : Mo W} {m1 m2 : MS} (he : okE (e ρ h) (fun w ρ h => w = W.fr [] ∧ okS (m2 ρ h) N T L X) X) : okS (sIf (mTest (mOp dNe e (mLst mNil))) m1 m2 ρ h) N T L X := okS_no (okB_test (okE_op (he.mono fun w ρ h q => by
  obtain ⟨rfl, q⟩ := q
  exact okE_eq (w := W.fr []) rfl (okW_eq rfl (okW_eq rfl (w_ne0 (xs := []) ⟨_, rfl, rfl, q⟩))))))
theorem made_turn {ns : List Int} {s1 s9 : Sl} {k5 k7 j7 r : Nat} (t : Tk m_l_law_take) (hb : Bx b n h0 h1) (hn : n ≤ 40000000) (c : Cols m ls) (hm : m ≤ 8) (u : PtU m p) (hk7 : k7 = h0.length + j7) (hg : g[j7]? = some (.lst (List.replicate r (shP ls p)))) (hr : r ≤ 10)
    (hN : ∀ s9 h2 g', Bx b (n + 1000) h0 h2 → N (frL ns s1 b ls p k5 (spP ls p) k7 (.cl (shP ls p)) s9) (h2 ++ (g ++ g'))) : okS (madeM (frL ns s1 b ls p k5 (spP ls p) k7 (.cl (shP ls p)) s9) (h1 ++ g)) N T L X := by
  have ok := u.sh c
  have h5 := ok.len
  have hs1 : (spP ls p).toList.length ≤ 1 := by cases spP ls p <;> simp
  unfold madeM
  refine okS_seq (okS_no (okB_not (okB_tru (okE_call (okE_cons (okE_fr (okE_var rfl (okE_cons (okE_fr (okE_var rfl (okE_cons (okE_fr (okE_var rfl (okE_nil (told_ok c u ⟨.bl true, true, rfl, rfl, rfl, okS_next ?_⟩)))))))))))))))
  -- the made ones are alike
  refine okS_seq (okS_none ?_)
  have k7e : deref (h1 ++ g) (.cl (.ce k7)) = some (.lst (List.replicate r (shP ls p))) := by
    rw [hk7]
    exact (tail_at hb.len).trans hg
  refine okE_lc (okE_iU (okE_var rfl (okW_eq k7e (okW_eq rfl ⟨by rw [List.length_replicate]; omega, rfl, ?_⟩))))
  refine okE_loopC (fun j ρ h' acc => ρ = frL ns s1 b ls p k5 (spP ls p) k7 (.cl (shP ls p)) s9 ∧ h' = h1 ++ g ∧ acc = []) ?_ _ 0 ⟨rfl, rfl, rfl⟩ ?_ ?_
  · rintro k ρ h' acc ⟨_, rfl, _⟩
    show ckOk (ckOf (h1 ++ g) (.cl (.ce k7))) (h1 ++ g)
    exact ck_of
  · rintro j d ρ h' acc hj ⟨rfl, rfl, rfl⟩
    have hd : d = shP ls p := List.eq_of_mem_replicate (List.mem_of_getElem? hj)
    subst hd
    refine okG_setC ?_
    dsimp only [List.set, fzW]
    refine okB_or (okB_test (okE_op (okE_eqO (okE_var rfl (okE_var rfl ⟨_, _, _, rfl, rfl, ownS, rfl, shape_same ownS ok rfl rfl ⟨rfl, okE_c (okW_eq rfl (okW_eq rfl (okW_eq (w := .cl (.bl false)) rfl ⟨_, rfl, (fun e => nomatch e), fun _ => ?_⟩)))⟩⟩)))))
    refine okB_test (okE_neO (okE_eqO (okE_var rfl (okE_var rfl ⟨_, _, _, rfl, rfl, ownS, rfl, shape_same ownS ok rfl rfl ⟨rfl, _, rfl, _, rfl, (fun e => nomatch e), fun _ => ⟨rfl, rfl, rfl⟩⟩⟩))))
  rintro ρ h' acc ⟨rfl, rfl, rfl⟩
  refine ⟨rfl, okS_next ?_⟩
  -- the others are not
  refine okS_seq (okS_none ?_)
  refine okE_lc (okE_iU (okE_call (okE_cons (okE_ce (okE_var rfl (okE_cons (okE_fr (okE_var rfl (okE_cons (okE_fr (okE_var rfl (okE_nil ?_))))))))))) )
  refine others_ok t hb.app (by omega) c hm u fun rs h' hrs hrl hb2 => ?_
  obtain ⟨h2, rfl, hb3⟩ := hb2.unapp (by rw [← hb.len]; exact hb.lt)
  refine okW_eq rfl (okW_eq rfl ⟨by rw [List.length_map]; omega, rfl, ?_⟩)
  refine okE_loopC0 (fun j ρ h' acc => ρ = frL ns s1 b ls p k5 (spP ls p) k7 (.cl (shP ls p)) s9 ∧ h' = h2 ++ g ∧ acc = []) _ 0 ⟨rfl, rfl, rfl⟩ ?_ ?_
  · rintro j d ρ h' acc hj ⟨rfl, rfl, rfl⟩
    obtain ⟨r, hr, rfl⟩ := List.mem_map.mp (List.mem_of_getElem? hj)
    have o := hrs r hr
    refine okG_setC ?_
    dsimp only [List.set, fzW]
    refine okB_or (okB_test (okE_eqO (okE_var rfl (okE_var rfl ⟨_, _, _, rfl, rfl, ownS, rfl, shape_other ownS c u o rfl rfl ⟨rfl, _, rfl, (fun e => nomatch e), fun _ => ?_⟩⟩))))
    refine okB_not (okB_test (okE_neO (okE_eqO (okE_var rfl (okE_var rfl ⟨_, _, _, rfl, rfl, ownS, rfl, shape_other ownS c u o rfl rfl ⟨rfl, _, rfl, _, rfl, (fun e => nomatch e), fun _ => ⟨rfl, rfl, rfl⟩⟩⟩)))))
  rintro ρ h' acc ⟨rfl, rfl, rfl⟩
  refine ⟨rfl, okS_next ?_⟩
  -- nor is anything else
  refine okS_seq (okS_asg (okE_lst (okE_cons (okE_c (okE_cons (okE_c (okE_cons (okE_c (okE_cons (okE_strO (okE_cons (okE_var rfl (okE_nil ⟨_, _, rfl, rfl, shape_str ok rfl ⟨rfl, ?_⟩⟩)))))))))))))
  refine okE_cons (okE_meth (okE_var rfl ⟨_, rfl, rfl, okE_nil (shape_fixed rfl (okE_cons (okE_meth (okE_var rfl ⟨_, rfl, rfl, okE_nil (sets_ok (by omega) (fun _ => rfl) ?_)⟩))))⟩))
  refine okE_cons (okE_cb (okE_cons (okE_meth (okE_var rfl ⟨_, rfl, rfl, okE_nil (shape_columns (by omega) rfl (okE_nil (okW_eq rfl (w_tupL ?_))))⟩))))
  refine okE_cons (okE_eq (w := W.nw (.dK [])) rfl (okE_cons (okE_lenO (z := (((fxP ls p).length + (spP ls p).toList.length : Nat) : Int)) (by omega) (okE_cons (okE_var rfl (okE_nil ⟨_, _, rfl, rfl, shape_len (by omega) rfl ⟨rfl, okE_nil ⟨Nat.le_of_ble_eq_true rfl, okG_setC ?_⟩⟩⟩))))))
  dsimp only [List.set, List.map, fzW]
  rw [List.append_assoc]
  refine okS_none (okE_lc (okE_iU (okE_var rfl (okW_eq rfl (okW_eq rfl ⟨Nat.le_of_ble_eq_true rfl, rfl, ?_⟩)))))
  have kinds : ∀ d ∈ [D.non, .bl true, .int 0, .str (shT (fxP ls p) (spP ls p)), .lst (LS (sortS (fxP ls p))), .lst (setD (h2 ++ g).length (spP ls p)), .tup (LS (shC (fxP ls p) (spP ls p))), .dK [], .int (((fxP ls p).length + (spP ls p).toList.length : Nat) : Int)], ∃ T, kd d.u = some (.b T) ∧ Kd.b T ∈ KS ∧ ∀ h, deref h (.cl d) = some d := fun d hd => by
    simp only [List.mem_cons, List.not_mem_nil, or_false] at hd
    rcases hd with rfl | rfl | rfl | rfl | rfl | rfl | rfl | rfl | rfl <;> exact ⟨_, rfl, by decide +kernel, fun _ => rfl⟩
  generalize hod : [D.non, .bl true, .int 0, .str (shT (fxP ls p) (spP ls p)), .lst (LS (sortS (fxP ls p))), .lst (setD (h2 ++ g).length (spP ls p)), .tup (LS (shC (fxP ls p) (spP ls p))), .dK [], .int (((fxP ls p).length + (spP ls p).toList.length : Nat) : Int)] = odds at kinds ⊢
  refine okE_loopC0 (fun j ρ h' acc => ρ = frL ns s1 b ls p k5 (spP ls p) k7 (.cl (shP ls p)) (.cl (.lst odds)) ∧ h' = h2 ++ (g ++ setG (fxP ls p) (spP ls p)) ∧ acc = []) _ 0 ⟨rfl, rfl, rfl⟩ ?_ ?_
  · rintro j d ρ h' acc hj ⟨rfl, rfl, rfl⟩
    obtain ⟨T, t1, t2, t3⟩ := kinds d (List.mem_of_getElem? hj)
    refine okG_setC ?_
    dsimp only [List.set, fzW]
    have odd : ∀ {P : W → Tb → Prop} {X : Str → List (Str × D) → Tb → Prop} {h : Tb}, P (.cl (.bl false)) h → okF (CP.m_Shape_D_eq_D KS false [shP ls p, d] h) P X := fun q => shape_eq_odd (d := shP ls p) (e0 := d) rfl (t3 _) t1 t2 (fun z => nomatch z) (fun _ z => nomatch z) q
    refine okB_or (okB_test (okE_eqO (okE_var rfl (okE_var rfl ⟨_, _, _, t3 _, t1, t2, rfl, odd ⟨rfl, _, rfl, (fun e => nomatch e), fun _ => ?_⟩⟩))))
    refine okB_not (okB_test (okE_neO (okE_eqO (okE_var rfl (okE_var rfl ⟨_, _, _, t3 _, t1, t2, rfl, odd ⟨rfl, _, rfl, _, rfl, (fun e => nomatch e), fun _ => ⟨rfl, rfl, rfl⟩⟩⟩)))))
  rintro ρ h' acc ⟨rfl, rfl, rfl⟩
  exact ⟨rfl, okS_next (hN _ _ _ hb3)⟩
end
end K04

/-! the plain law of k04: one part -/
namespace K04
open PySem PySem.Spec PyProof.Rows L2 SL CM
section
variable {ρ : List Sl} {h h0 h1 g : Tb} {N : List Sl → Tb → Prop} {T : Ps W} {L : Bool → List Sl → Tb → Prop} {X : Px} {tk si : Fnm} {b n k i j len m most : Nat} {d0 d1 d : D} {ks : List Kd} {rz : Bool} {ls : List (List Nat)} {p q : Pt} {qs : List Pt} {fx gx : List Str} {sp sq : Option Str} {e : Mo W}
local macro_rules | `(tactic| walk_at "hv") => `(tactic| first | rfl | assumption | (exact (by assumption : _)))
local macro_rules | `(tactic| walk_at "p1") => `(tactic| first
  | with_reducible refine CM.okS_seq ?_ | with_reducible refine CM.okS_next ?_ | with_reducible refine CM.okS_asg ?_ | with_reducible refine CM.okS_ret ?_ | with_reducible refine CM.okS_drop ?_ | with_reducible refine CM.okS_aug ?_ | with_reducible refine CM.okS_cnt ?_ | with_reducible refine CM.okS_fg ?_ | with_reducible refine CM.okS_retN ?_
  | with_reducible refine CM.okE_op ?_ | with_reducible refine CM.okE_cb ?_ | with_reducible refine CM.okE_cons ?_ | with_reducible refine CM.okE_nil ?_ | with_reducible refine CM.okB_not ?_ | with_reducible refine CM.okE_c ?_ | with_reducible refine CM.okE_fr ?_ | with_reducible refine CM.okE_ce ?_ | with_reducible refine CM.okE_notV ?_ | with_reducible refine CM.okE_un ?_
  | with_reducible refine CM.okE_sl ?_ | with_reducible refine CM.okE_nopart ?_
  | ((with_reducible refine' CM.okE_var ?hv ?_); (case hv => rfl))
  | ((with_reducible refine' CM.okE_part (CM.okE_var ?hv ⟨_, ?hv2, ?_⟩)); (case hv => rfl); (case hv2 => rfl))
  | ((with_reducible refine' CM.okE_part (CM.okE_c ⟨_, ?hv2, ?_⟩)); (case hv2 => rfl))
  | ((with_reducible refine' CM.okW_eq (w := _) ?hv ?_); (case hv => (with_reducible rfl)))
  | ((with_reducible refine' CM.okW_deref ?hv ?_); (case hv => walk_at "hv")) | ((with_reducible refine' CM.okW_derefs ?hv ?_); (case hv => rfl)) | ((with_reducible refine' CM.okW_derefC ?hv ?_); (case hv => walk_at "hv")) | ((with_reducible refine' CM.okW_lstAt ?hv ?_); (case hv => walk_at "hv"))
  | with_reducible refine CM.w_add ?_ | with_reducible refine CM.w_sub ?_ | with_reducible refine CM.w_lt ?_ | with_reducible refine CM.w_le ?_ | with_reducible refine CM.w_gt ?_ | with_reducible refine CM.w_ge ?_ | with_reducible refine CM.w_addI ?_
  | with_reducible refine CM.w_mod (by omega) ?_ | with_reducible refine CM.w_div (by omega) (by rw [CM.big_eq]; omega) ?_ | with_reducible refine CM.w_mul (by rw [CM.big_eq]; omega) (by rw [CM.big_eq]; omega) (by rw [CM.big_eq]; omega) (by rw [CM.big_eq]; omega) ?_ | with_reducible refine CM.w_sq (by omega) (by omega) ?_
  | with_reducible refine CM.w_max2 ?_ | with_reducible refine CM.w_min2 ?_ | with_reducible refine CM.w_lenL ?_ | with_reducible refine CM.w_lenT ?_ | with_reducible refine CM.w_lenC ?_ | with_reducible refine CM.w_listL ?_ | with_reducible refine CM.w_listT ?_ | with_reducible refine CM.w_tupL ?_ | with_reducible refine CM.w_tupT ?_
  | ((with_reducible refine CM.okG_setC ?_); (try dsimp only [List.set, CM.fzW]))
  | ((with_reducible refine' CM.okW_ix ?hv ?_); (case hv => rfl))
  | ((with_reducible refine' CM.okB_test (CM.okE_eqn ⟨_, ?hv, ?_⟩)); (case hv => rfl))
  | ((with_reducible refine' CM.okB_testd ⟨_, ?hv, ?_⟩); (case hv => rfl)))
local macro_rules | `(tactic| walk_at "p") => `(tactic| repeat walk_at "p1")
abbrev frP (ns : List Int) (s1 : Sl) (b : Nat) (ls : List (List Nat)) (p : Pt) (s5 s6 s7 s8 s9 : Sl) : List Sl := [.cl (.scr ns), s1, .cl (.ce b), .cl (.lst (LS (ls.map S))), .cl (partD p), s5, s6, s7, s8, s9, .un, .un, .un]
noncomputable def partTM : MS := (sSeq (sAsg (mUn dRev (mLc (mIU (mOp dIx (mVar 4) (mC (.int 0)))) (gSetC 10) mYes (mOp dIx (mVar 3) (mVar 10)) [10])) (gSet 5))
    (sSeq (sAsg (mIf (mTest (mOp dIs (mOp dIx (mVar 4) (mC (.int 1))) (mC .non))) (mC .non) (mOp dIx (mVar 3) (mOp dIx (mVar 4) (mC (.int 1))))) (gSetC 6))
    (sSeq (sAsg (mLst (mCons (mMake false "Shape" (CP.m_Shape_D_init_D KS false) [] (mCons (mFr (mVar 5)) (mCons (mFr (mVar 6)) mNil))) (mCons (callN m_l_law_shape (mCons (mCe (mVar 2)) (mCons (mFr (mVar 3)) (mCons (mFr (mVar 4)) mNil)))) (mCons (mMake false "Shape" (CP.m_Shape_D_init_D KS false) [] (mCons (mFr (mCB dTuple (mCons (mVar 5) mNil))) (mCons (mFr (mVar 6)) mNil))) mNil)))) (gSet 7))
    (sSeq (sIf (mTest (mOp dIs (mOp dIx (mVar 4) (mC (.int 1))) (mC .non))) (sDrop (mMut fAppend (mVar 7) (mCons (mMake false "Shape" (CP.m_Shape_D_init_D KS false) [D.non] (mCons (mFr (mVar 5)) mNil)) mNil))) sNext)
    (sSeq (sDrop (mMut fAppend (mVar 5) (mCons (mC (.str "late")) mNil)))
    (sSeq (sFor (mIU (mVar 7)) (gSetC 8) madeM)
    (sIf (mNot (mTru (mCB (dIsi (.ty "str") (tabK KS (.ty "str"))) (mCons (mStrO "Shape" (CP.m_Shape_D_repr_D KS false) (mCons (mOp dIx (mVar 7) (mC (.int 0))) mNil)) (mCons (mC (.ty "str")) mNil))))) (sRet (mC (.bl false))) sNext)))))))
theorem ShOk_perm (ok : ShOk fx sp) (h : gx.Perm fx) : ShOk gx sp := ⟨by rw [h.length_eq]; exact ok.len, h.nodup_iff.mpr ok.nd, fun z hz => ok.nm z (h.mem_iff.mp hz), fun z e => by
  obtain ⟨a, b, c⟩ := ok.sp z e
  exact ⟨a, fun y => b (h.mem_iff.mp y), by rw [h.length_eq]; exact c⟩⟩
theorem kstr : insK (.b "str") (.ty "str") = true := by decide +kernel
theorem strIn : Kd.b "str" ∈ KS := by decide +kernel
theorem part_turn {ns : List Int} {s1 s5 s6 s7 s8 s9 : Sl} (t : Tk m_l_law_take) (hb : Bx b n h0 h1) (hn : n ≤ 30000000) (c : Cols m ls) (hm : m ≤ 8) (u : PtU m p)
    (hN : ∀ s5 s6 s7 s8 s9 h2 g', Bx b (n + 5000) h0 h2 → N (frP ns s1 b ls p s5 s6 s7 s8 s9) (h2 ++ (g ++ g'))) : okS (partTM (frP ns s1 b ls p s5 s6 s7 s8 s9) (h1 ++ g)) N T L X := by
  have ok := u.sh c
  have okr : ShOk (fxP ls p).reverse (spP ls p) := ShOk_perm ok (List.reverse_perm _)
  have hsh : shD (fxP ls p).reverse (spP ls p) = shP ls p := shD_perm (List.reverse_perm _)
  have hl1 := hb.len
  have h5 := ok.len
  unfold partTM
  refine okS_seq (okS_asg (okE_un (okE_namesAt c u rfl rfl rfl (by decide) (okW_eq rfl (okW_eq (w := W.fr (LS (fxP ls p).reverse)) (by
    show some (W.fr ((fxP ls p).map D.str).reverse) = some (W.fr ((fxP ls p).reverse.map D.str))
    rw [List.map_reverse]) (okG_set ?_))))))
  dsimp only [List.set]
  rw [List.append_assoc, List.length_append, hl1]
  refine okS_seq (okS_asg (okE_spN c u rfl rfl (okG_setC ?_)))
  dsimp only [List.set, fzW]
  have k5a : ∀ {h3 : Tb} {d : D} {g3 : Tb}, h3.length = h0.length → (h3 ++ (g ++ d :: g3))[h0.length + g.length]? = some d := fun e => by
    rw [tail_at e, List.getElem?_append_right (Nat.le_refl _), Nat.sub_self]
    rfl
  refine okS_seq (okS_asg (okE_lst (okE_cons (okE_shape ksok (okE_cons (okE_fr (okE_var rfl (okE_cons (okE_fr (okE_var rfl (okE_nil ⟨_, _, _, spP ls p, rfl, k5a hl1, rfl, okr, ?_⟩)))))))))))
  refine okE_cons (okE_call (okE_cons (okE_ce (okE_var rfl (okE_cons (okE_fr (okE_var rfl (okE_cons (okE_fr (okE_var rfl (okE_nil ?_)))))))))))
  refine shape_draw t ksok rfl hb.app (by omega) c u fun h2 hb2 => ?_
  obtain ⟨h3, rfl, hb3⟩ := hb2.unapp (by rw [← hb.len]; exact hb.lt)
  have hl3 := hb3.len
  refine okE_cons (okE_shape ksok (okE_cons (okE_fr (okE_cb (okE_cons (okE_var rfl (okE_nil (okW_derefC (k5a hl3) (w_tupL (okE_cons (okE_fr (okE_var rfl (okE_nil ⟨_, .tup (LS (fxP ls p).reverse), _, spP ls p, rfl, rfl, rfl, okr, okE_nil ⟨Nat.le_of_ble_eq_true rfl, okG_set ?_⟩⟩)))))))))))))
  dsimp only [List.set, List.map, fzW]
  rw [hsh, List.append_assoc, List.append_assoc, List.length_append, List.length_append, List.length_singleton, hl3]
  dsimp only [List.cons_append, List.nil_append]
  have e7 : h0.length + (g.length + 1) = h0.length + g.length + 1 := by omega
  have k7a : ∀ {h3 : Tb} {d5 d : D} {g3 : Tb}, h3.length = h0.length → (h3 ++ (g ++ d5 :: d :: g3))[h0.length + (g.length + 1)]? = some d := fun e => by
    rw [tail_at e, List.getElem?_append_right (by omega)]
    have : g.length + 1 - g.length = 1 := by omega
    rw [this]
    rfl
  -- the span left out
  refine okS_seqM (fun ρ h' => ∃ r, 1 ≤ r ∧ r ≤ 4 ∧ ρ = frL ns s1 b ls p (h0.length + g.length) (spP ls p) (h0.length + (g.length + 1)) s8 s9 ∧ h' = h3 ++ (g ++ [.lst (LS (fxP ls p).reverse), .lst (List.replicate r (shP ls p))])) ?_ ?_
  · have e3 : [shP ls p, shP ls p, shP ls p] = List.replicate 3 (shP ls p) := rfl
    rw [e3]
    refine okS_if (okB_test (okE_op (okE_op (okE_var rfl (okE_c (okW_eq rfl (okW_eq rfl (w_ixT (i := 1) rfl (okE_c (okW_eq oI_sp (okW_eq rfl ?_)))))))))))
    cases hsp : p.2 with
    | some i => exact okW_eq (w := .cl (.bl false)) rfl ⟨_, rfl, (fun e => nomatch e), fun _ => okS_next ⟨3, by decide, by decide, rfl, rfl⟩⟩
    | none =>
      refine okW_eq (w := .cl (.bl true)) rfl ⟨_, rfl, fun _ => ?_, (fun e => nomatch e)⟩
      have esp : spP ls p = none := by unfold spP; rw [hsp]; rfl
      refine okS_drop (okE_mut (okE_var rfl (okW_lstAt (k7a hl3) (okE_cons (okE_shape ksok (okE_cons (okE_fr (okE_var rfl (okE_nil ⟨_, _, (fxP ls p).reverse, none, rfl, k5a hl3, rfl, esp ▸ okr, okE_nil (okW_lstAt (k7a hl3) (w_append (by rw [List.length_replicate]; decide) ?_))⟩)))))))))
      refine ⟨4, by decide, by decide, rfl, ?_⟩
      rw [tail_set hl3, List.set_append_right _ _ (by omega)]
      have : g.length + 1 - g.length = 1 := by omega
      rw [this]
      dsimp only [List.set, fzW]
      rw [esp] at hsh
      rw [hsh]
      rfl
  rintro ρ h' ⟨r, r1, r10, rfl, rfl⟩
  -- what was passed in changes
  refine okS_seq (okS_drop (okE_mut (okE_var rfl (okW_lstAt (k5a hl3) (okE_cons (okE_c (okE_nil (okW_lstAt (k5a hl3) (w_append (by rw [List.length_map, List.length_reverse]; omega) ?_)))))))))
  rw [tail_set hl3, List.set_append_right _ _ (Nat.le_refl _), Nat.sub_self]
  dsimp only [List.set, fzW]
  generalize LS (fxP ls p).reverse ++ [D.str "late"] = late
  -- the made ones
  have k7d : ∀ {h4 g3 : Tb}, h4.length = h0.length → deref (h4 ++ (g ++ D.lst late :: D.lst (List.replicate r (shP ls p)) :: g3)) (.cl (.ce (h0.length + (g.length + 1)))) = some (.lst (List.replicate r (shP ls p))) := fun e => k7a e
  refine okS_seqM (fun ρ h' => ∃ s8 s9 h4 g', ρ = frL ns s1 b ls p (h0.length + g.length) (spP ls p) (h0.length + (g.length + 1)) s8 s9 ∧ h' = h4 ++ (g ++ D.lst late :: D.lst (List.replicate r (shP ls p)) :: g') ∧ Bx b (n + 5000) h0 h4) ?_ ?_
  · refine okS_for (okE_iU (okE_var rfl (okW_eq (k7d hl3) (okW_eq rfl ⟨by rw [List.length_replicate]; omega, ?_⟩))))
    refine okS_loop (fun j ρ h' => ∃ s8 s9 h4 g', ρ = frL ns s1 b ls p (h0.length + g.length) (spP ls p) (h0.length + (g.length + 1)) s8 s9 ∧ h' = h4 ++ (g ++ D.lst late :: D.lst (List.replicate r (shP ls p)) :: g') ∧ Bx b (n + 11 + 1000 * j) h0 h4) ?_ _ 0 ⟨_, _, h3, [], rfl, rfl, hb3.mono (by omega)⟩ ?_ ?_
    · rintro k ρ h' ⟨s8, s9, h4, g', _, rfl, hb4⟩
      have e : ckOf (h3 ++ (g ++ [D.lst late, D.lst (List.replicate r (shP ls p))])) (.cl (.ce (h0.length + (g.length + 1)))) = [(h0.length + (g.length + 1), .lst (List.replicate r (shP ls p)))] := by
        show (match (h3 ++ (g ++ [D.lst late, D.lst (List.replicate r (shP ls p))]))[h0.length + (g.length + 1)]? with
          | some c => [(h0.length + (g.length + 1), c)]
          | none => []) = _
        rw [k7a hl3]
      show ckOk (ckOf (h3 ++ (g ++ [D.lst late, D.lst (List.replicate r (shP ls p))])) (.cl (.ce (h0.length + (g.length + 1))))) _
      rw [e]
      intro x hx
      rw [List.mem_singleton.mp hx]
      exact k7a hb4.len
    · rintro j d ρ h' hj ⟨s8, s9, h4, g', rfl, rfl, hb4⟩
      have hjl := (List.getElem?_eq_some_iff.mp hj).1
      rw [List.length_replicate] at hjl
      rw [Nat.zero_add] at hb4 ⊢
      have hd : d = shP ls p := List.eq_of_mem_replicate (List.mem_of_getElem? hj)
      subst hd
      refine okG_setC ?_
      dsimp only [List.set, fzW]
      refine made_turn (j7 := g.length + 1) (r := r) t hb4 (by omega) c hm u rfl ?_ (by omega) fun s9 h5 g2 hb5 => ?_
      · rw [List.getElem?_append_right (by omega)]
        have : g.length + 1 - g.length = 1 := by omega
        rw [this]
        rfl
      · exact ⟨_, s9, h5, g' ++ g2, rfl, by rw [List.append_assoc]; rfl, hb5.mono (by omega)⟩
    · rintro ρ h' ⟨s8, s9, h4, g', rfl, rfl, hb4⟩
      rw [List.length_replicate, Nat.zero_add] at hb4
      exact ⟨s8, s9, h4, g', rfl, rfl, hb4.mono (by omega)⟩
  rintro ρ h' ⟨s8, s9, h4, g', rfl, rfl, hb4⟩
  have m0 : (List.replicate r (shP ls p))[0]? = some (shP ls p) := by
    rw [List.getElem?_replicate, if_pos (by omega)]
  refine okS_no (okB_not (okB_tru (okE_cb (okE_cons (okE_strA (okE_cons (okE_op (okE_var rfl (okE_c (okW_eq (k7d hb4.len) (okW_eq rfl (w_ixL (i := 0) m0 (okE_nil ⟨_, _, rfl, rfl, shape_repr ok rfl fun z => ⟨z, rfl, okE_cons (okE_c (okE_nil (okW_d2 (d := .str z) (d1 := .ty "str") rfl rfl (w_isi (k := .b "str") rfl rfl strIn ⟨_, true, rfl, ?_, rfl, okS_next ?_⟩))))⟩⟩)))))))))))))
  · rw [kstr]
    rfl
  exact hN _ _ _ _ _ h4 _ hb4
end
end K04

/-! the plain law of k04 -/
namespace K04
open PySem PySem.Spec PyProof.Rows L2 SL CM
section
variable {ρ : List Sl} {h h0 h1 g : Tb} {N : List Sl → Tb → Prop} {T : Ps W} {L : Bool → List Sl → Tb → Prop} {X : Px} {b n k i j len m most : Nat} {ls : List (List Nat)} {p q : Pt} {qs : List Pt}
local macro_rules | `(tactic| walk_at "hv") => `(tactic| first | rfl | assumption | (exact (by assumption : _)))
local macro_rules | `(tactic| walk_at "p1") => `(tactic| first
  | with_reducible refine CM.okS_seq ?_ | with_reducible refine CM.okS_next ?_ | with_reducible refine CM.okS_asg ?_ | with_reducible refine CM.okS_ret ?_ | with_reducible refine CM.okS_drop ?_ | with_reducible refine CM.okS_aug ?_ | with_reducible refine CM.okS_cnt ?_ | with_reducible refine CM.okS_fg ?_ | with_reducible refine CM.okS_retN ?_
  | with_reducible refine CM.okE_op ?_ | with_reducible refine CM.okE_cb ?_ | with_reducible refine CM.okE_cons ?_ | with_reducible refine CM.okE_nil ?_ | with_reducible refine CM.okB_not ?_ | with_reducible refine CM.okE_c ?_ | with_reducible refine CM.okE_fr ?_ | with_reducible refine CM.okE_ce ?_ | with_reducible refine CM.okE_notV ?_ | with_reducible refine CM.okE_un ?_
  | with_reducible refine CM.okE_sl ?_ | with_reducible refine CM.okE_nopart ?_
  | ((with_reducible refine' CM.okE_var ?hv ?_); (case hv => rfl))
  | ((with_reducible refine' CM.okE_part (CM.okE_var ?hv ⟨_, ?hv2, ?_⟩)); (case hv => rfl); (case hv2 => rfl))
  | ((with_reducible refine' CM.okE_part (CM.okE_c ⟨_, ?hv2, ?_⟩)); (case hv2 => rfl))
  | ((with_reducible refine' CM.okW_eq (w := _) ?hv ?_); (case hv => (with_reducible rfl)))
  | ((with_reducible refine' CM.okW_deref ?hv ?_); (case hv => walk_at "hv")) | ((with_reducible refine' CM.okW_derefs ?hv ?_); (case hv => rfl)) | ((with_reducible refine' CM.okW_derefC ?hv ?_); (case hv => walk_at "hv")) | ((with_reducible refine' CM.okW_lstAt ?hv ?_); (case hv => walk_at "hv"))
  | with_reducible refine CM.w_add ?_ | with_reducible refine CM.w_sub ?_ | with_reducible refine CM.w_lt ?_ | with_reducible refine CM.w_le ?_ | with_reducible refine CM.w_gt ?_ | with_reducible refine CM.w_ge ?_ | with_reducible refine CM.w_addI ?_
  | with_reducible refine CM.w_mod (by omega) ?_ | with_reducible refine CM.w_div (by omega) (by rw [CM.big_eq]; omega) ?_ | with_reducible refine CM.w_mul (by rw [CM.big_eq]; omega) (by rw [CM.big_eq]; omega) (by rw [CM.big_eq]; omega) (by rw [CM.big_eq]; omega) ?_ | with_reducible refine CM.w_sq (by omega) (by omega) ?_
  | with_reducible refine CM.w_max2 ?_ | with_reducible refine CM.w_min2 ?_ | with_reducible refine CM.w_lenL ?_ | with_reducible refine CM.w_lenT ?_ | with_reducible refine CM.w_lenC ?_ | with_reducible refine CM.w_listL ?_ | with_reducible refine CM.w_listT ?_ | with_reducible refine CM.w_tupL ?_ | with_reducible refine CM.w_tupT ?_
  | ((with_reducible refine CM.okG_setC ?_); (try dsimp only [List.set, CM.fzW]))
  | ((with_reducible refine' CM.okW_ix ?hv ?_); (case hv => rfl))
  | ((with_reducible refine' CM.okB_test (CM.okE_eqn ⟨_, ?hv, ?_⟩)); (case hv => rfl))
  | ((with_reducible refine' CM.okB_testd ⟨_, ?hv, ?_⟩); (case hv => rfl)))
local macro_rules | `(tactic| walk_at "p") => `(tactic| repeat walk_at "p1")
theorem tk : Tk m_l_law_take := tk2 (A := 15490301) (B := 83) (C := 104347) (by decide) (by decide) (by decide) (by decide) (by decide) (by decide)
noncomputable def cellTM : MS := (sSeq (sAsg (callN m_l_law_bag (mCons (mFr (callN m_l_law_cell (mCons (mFr (mVar 0)) (mCons (mFr (mVar 1)) mNil)))) mNil)) (gSet 2))
    (sSeq (sAsg (callN m_l_law_names (mCons (mCe (mVar 2)) (mCons (mFr (mOp dAdd (mC (.int 1)) (callN m_l_law_take (mCons (mCe (mVar 2)) (mCons (mFr (mC (.int 8))) mNil))))) mNil))) (gSetC 3))
    (sFor (mIU (mOp dAdd (callN m_l_law_parts (mCons (mCe (mVar 2)) (mCons (mFr (mCB dLen (mCons (mVar 3) mNil))) (mCons (mFr (mC (.int 6))) mNil)))) (mLst (mCons (mTup (mCons (mLst mNil) (mCons (mC .non) mNil))) mNil)))) (gSetC 4) partTM)))
theorem cell_turn {ns : List Int} {s2 s3 s4 s5 s6 s7 s8 s9 : Sl} (hi : i < 1000) (hN : ∀ s2 s3 s4 s5 s6 s7 s8 s9 h', N [.cl (.scr ns), .cl (.int i), s2, s3, s4, s5, s6, s7, s8, s9, .un, .un, .un] h') : okS (cellTM [.cl (.scr ns), .cl (.int i), s2, s3, s4, s5, s6, s7, s8, s9, .un, .un, .un] h) N T L X := by
  unfold cellTM
  refine okS_seq (okS_asg (okE_call (okE_cons (okE_fr (okE_call (okE_cons (okE_fr (okE_var rfl (okE_cons (okE_fr (okE_var rfl (okE_nil ?_))))))))))))
  refine cell_ok (A := 15490301) (B := 83) (by omega) (by decide) (by decide) fun v => okE_nil ?_
  refine box_ok fun ds hds => okG_set ?_
  dsimp only [List.set]
  have hb : Bx h.length 0 (h ++ [D.lst ds]) (h ++ [D.lst ds]) := Bx.refl (tail_at0 rfl) hds
  generalize h ++ [D.lst ds] = H at hb ⊢
  generalize h.length = b at hb ⊢
  refine okS_seq (okS_asg (okE_call (okE_cons (okE_ce (okE_var rfl (okE_cons (okE_fr (okE_op (okE_c (okE_tkc tk hb rfl (by omega) (by decide) (by decide) fun v h2 v0 v1 hb2 => ?_))))))))))
  obtain ⟨v, rfl⟩ := Int.eq_ofNat_of_zero_le v0
  refine okW_eq rfl (okW_eq rfl (w_add (okE_nil ?_)))
  show okF (m_l_law_names [.ce b, .int (1 + (v : Int))] h2) _ _
  rw [show (1 : Int) + (v : Int) = ((1 + v : Nat) : Int) by rw [Int.natCast_add]; rfl]
  refine names_ok tk hb2 (by omega) (by omega) (by omega) fun ls h3 c hb3 => okG_setC ?_
  have hm : 1 + v ≤ 8 := by omega
  generalize 1 + v = m at c hm
  dsimp only [List.set, fzW]
  have hll : (LS (ls.map S)).length = m := by rw [List.length_map, List.length_map]; exact c.1
  refine okS_for (okE_iU (okE_op (okE_call (okE_cons (okE_ce (okE_var rfl (okE_cons (okE_fr (okE_cb (okE_cons (okE_var rfl (okE_nil (okW_eq rfl (w_lenL (okE_cons (okE_fr (okE_c (okE_nil ?_))))))))))))))))))
  show okF (m_l_law_parts [.ce b, .int ((LS (ls.map S)).length : Nat), .int 6] h3) _ _
  rw [hll]
  refine parts_ok (m := m) (most := 6) tk rfl rfl hb3 (by omega) (by omega) (by decide) fun ps h4 hps hb4 => ?_
  refine okE_eq (w := W.fr [partD ([], none)]) rfl (okW_eq rfl (okW_eq rfl ?_))
  have hpl := hps.len
  refine okW_eq (w := W.fr ((ps ++ [([], none)]).map partD)) ?_ ?_
  · show (if (ps.map partD).length + 1 ≤ 100000 then some (W.fr (ps.map partD ++ [partD ([], none)])) else none) = _
    rw [List.length_map, if_pos (by omega), List.map_append]
    rfl
  refine okW_eq rfl (okW_eq rfl ⟨by rw [List.length_map, List.length_append, List.length_singleton]; omega, ?_⟩)
  have hq : ∀ p ∈ ps ++ [([], none)], PtU m p := fun p hp => by
    rcases List.mem_append.mp hp with z | z
    · exact (hps.ok p z).u
    · rw [List.mem_singleton.mp z]
      exact ⟨.nil, fun i z => absurd z List.not_mem_nil, Nat.zero_le _, fun i z => by cases z⟩
  have hql : (ps ++ [([], none)]).length ≤ 7 := by rw [List.length_append, List.length_singleton]; omega
  generalize ps ++ [([], none)] = qs at hq hql ⊢
  refine okS_loop0 (fun j ρ h' => ∃ (s4 s5 s6 s7 s8 s9 : Sl) (h5 g : Tb), ρ = [.cl (.scr ns), .cl (.int i), .cl (.ce b), .cl (.lst (LS (ls.map S))), s4, s5, s6, s7, s8, s9, .un, .un, .un] ∧ h' = h5 ++ g ∧ Bx b (1000 + 5000 * j) H h5) _ 0 ⟨_, _, _, _, _, _, h4, [], rfl, (List.append_nil _).symm, hb4.mono (by omega)⟩ ?_ ?_
  · rintro j d ρ h' hj ⟨s4, s5, s6, s7, s8, s9, h5, g, rfl, rfl, hb5⟩
    have hjl := (List.getElem?_eq_some_iff.mp hj).1
    rw [List.length_map] at hjl
    obtain ⟨p, hp, rfl⟩ := List.mem_map.mp (List.mem_of_getElem? hj)
    rw [Nat.zero_add] at hb5 ⊢
    refine okG_setC ?_
    dsimp only [List.set, fzW]
    exact part_turn tk hb5 (by omega) c hm (hq p hp) fun s5 s6 s7 s8 s9 h6 g' hb6 => ⟨_, _, _, _, _, _, h6, g ++ g', rfl, rfl, hb6.mono (by omega)⟩
  · rintro ρ h' ⟨s4, s5, s6, s7, s8, s9, h5, g, rfl, rfl, hb5⟩
    exact hN _ _ _ _ _ _ _ _ _
theorem law_f (ns : List Int) : okF (m_law [.scr ns] []) (fun w o => w = .cl (.bl true)) noX := by
  unfold m_law
  refine okF_fn rfl ?_
  show okS (b_law [.cl (.scr ns), .un, .un, .un, .un, .un, .un, .un, .un, .un, .un, .un, .un] []) _ _ _ _
  unfold b_law
  refine okS_seq (okS_for (okE_rng1 ?_))
  walk_at "p"
  have hn : (if (if (ns.length : Int) < 8 then (ns.length : Int) else 8) > 2 then (if (ns.length : Int) < 8 then (ns.length : Int) else 8) else 2) ≤ 8 ∧ 0 ≤ (if (if (ns.length : Int) < 8 then (ns.length : Int) else 8) > 2 then (if (ns.length : Int) < 8 then (ns.length : Int) else 8) else 2) := by
    split <;> split <;> omega
  refine ⟨_, rfl, by omega, by omega, ?_⟩
  generalize (if (if (ns.length : Int) < 8 then (ns.length : Int) else 8) > 2 then (if (ns.length : Int) < 8 then (ns.length : Int) else 8) else 2) = n at hn ⊢
  refine okS_loop0 (fun j ρ h' => ∃ s1 s2 s3 s4 s5 s6 s7 s8 s9, ρ = [.cl (.scr ns), s1, s2, s3, s4, s5, s6, s7, s8, s9, .un, .un, .un]) _ 0 ⟨_, _, _, _, _, _, _, _, _, rfl⟩ ?_ ?_
  · rintro j d ρ h' hj ⟨s1, s2, s3, s4, s5, s6, s7, s8, s9, rfl⟩
    obtain ⟨i, hi, rfl⟩ := List.mem_map.mp (List.mem_of_getElem? hj)
    have hi2 := List.mem_range.mp hi
    refine okG_setC ?_
    dsimp only [List.set, fzW]
    exact cell_turn (by omega) fun s2 s3 s4 s5 s6 s7 s8 s9 h' => ⟨_, _, _, _, _, _, _, _, _, rfl⟩
  · rintro ρ h' ⟨s1, s2, s3, s4, s5, s6, s7, s8, s9, rfl⟩
    exact okS_ret (okE_c (cut_app (h1 := []) rfl okCut_refl (fun _ z => by cases z) below_bl rfl))
end
theorem law_ok (ns : List Int) (hl : ns.length ≤ 63) : ∃ o, m_law [.scr ns] [] = some (.rt (.cl (.bl true)) o) := by
  obtain ⟨w, o, e, rfl⟩ := (law_f ns).rt
  exact ⟨o, e⟩
end K04

/-! the defs of searchorders_k04_shapes_told keep their plain runs -/
namespace K04
open PySem PySem.Spec PyProof.Rows L2 SL CM
structure KF (K : PySem.W.Frag) : Prop where
  k0 : OwnK K "Shape"
  k1 : NoAttr K (He.ga K "Shape") "span_column"
  k2 : Tab K (fun t => PySem.W.kitOne K t (cdV K (.ty "str"))) (tabK KS (.ty "str"))
  k3 : Tab K (fun t => PySem.W.kitAny K t (([.ty "list", .ty "tuple"] : List Cd).map (cdV K))) (tabKT KS [.ty "list", .ty "tuple"])
  k4 : NoAttr K (He.ga K "Shape") "fixed_columns"
  k5 : Tab K (fun t => PySem.W.kitOne K t (cdV K (.own "Shape"))) (tabK KS (.own "Shape"))
  k6 : EqKs K "Shape" KS
abbrev sp_is_name (K : PySem.W.Frag) : Sp := spM K (CP.m_is_name KS false)
def t_is_name (K : PySem.W.Frag) : TS := (tSeq (tIfS (tOr (tNot (tTruK K (tCB (vIsi K) (tCons (tVar 0) (tCons (tC (.ty "str")) tNil))))) (tNot (tTest (tChain (uLt K) uLe (tC (.int 0)) (tCB (uLen K) (tCons (tVar 0) tNil)) (tC (.int (8))))))) (tRet (tC (.bl false))) tNext)
    (tRet (tCB (rAllL K) (tCons (tLc (iU K (tVar 0)) (gName 1) tYes (tOp (uIn K) (tVar 1) (tC (.str "abcdefghijklmnopqrstuvwxyz"))) [1]) tNil))))
theorem si_is_name {K : PySem.W.Frag} {WW : WX} (kf : KF K) : SimS K WW (t_is_name K) (CP.b_is_name KS false) := (sim_seq (sim_ifs (sim_or (sim_not (sim_tru (sim_cb (o_isi kf.k2) (sim_cons sim_var (sim_cons (sim_c fun _ _ _ => .ty _) sim_nil))))) (sim_not (sim_test (sim_chain o_lt o_le (sim_c fun _ _ _ => .int _) (sim_cb o_len (sim_cons sim_var sim_nil)) (sim_c fun _ _ _ => .int _))))) (sim_ret (sim_c fun _ _ _ => .bl _)) sim_next)
    (sim_ret (sim_cb o_all (sim_cons (sim_lc (sim_iU sim_var) sim_gnameC (ok_name (by decide)) sim_yes (sim_op o_in sim_var (sim_c fun _ _ _ => .str _))) sim_nil))))
theorem len_is_name {K : PySem.W.Frag} {vs : List V} {H : Hp} {Q : VK} {E : XK} (h : sp_is_name K vs H Q E) : vs.length = ["value"].length := len_spM (ps := ["value"]) (fun _ _ _ h => len_fnM h) h
theorem pure_is_name {K : PySem.W.Frag} (kf : KF K) (vs : List V) (H : Hp) (Q : VK) (E : XK) (h : sp_is_name K vs H Q E) : t_is_name K { nx := fun _ H' => Q .non H', rt := Q } (L2.start ["value", "letter"] vs) H := pure_fnM (n := 1) (k := 1) rfl (si_is_name kf) h
abbrev sp_is_list (K : PySem.W.Frag) : Sp := spM K (CP.m_is_list KS false)
def t_is_list (K : PySem.W.Frag) : TS := (tRet (tCB (vIsi K) (tCons (tVar 0) (tCons (tTup (tCons (tC (.ty "list")) (tCons (tC (.ty "tuple")) tNil))) tNil))))
theorem si_is_list {K : PySem.W.Frag} {WW : WX} (kf : KF K) : SimS K WW (t_is_list K) (CP.b_is_list KS false) := (sim_ret (sim_cb (o_isiT kf.k3) (sim_cons sim_var (sim_cons (sim_tup (sim_cons (sim_c fun _ _ _ => .ty _) (sim_cons (sim_c fun _ _ _ => .ty _) sim_nil))) sim_nil))))
theorem len_is_list {K : PySem.W.Frag} {vs : List V} {H : Hp} {Q : VK} {E : XK} (h : sp_is_list K vs H Q E) : vs.length = ["value"].length := len_spM (ps := ["value"]) (fun _ _ _ h => len_fnM h) h
theorem pure_is_list {K : PySem.W.Frag} (kf : KF K) (vs : List V) (H : Hp) (Q : VK) (E : XK) (h : sp_is_list K vs H Q E) : t_is_list K { nx := fun _ H' => Q .non H', rt := Q } (L2.start ["value"] vs) H := pure_fnM (n := 1) (k := 0) rfl (si_is_list kf) h
abbrev sp_Shape_D_init_D (K : PySem.W.Frag) : Sp := spM K (CP.m_Shape_D_init_D KS false)
def t_Shape_D_init_D (K : PySem.W.Frag) : TS := (tSeq (tIfS (tOr (tNot (tTruK K (tCall (sp_is_list K) [] E0 (tCons (tVar 1) tNil)))) (tTest (tOp SL.rGt (tCB (uLen K) (tCons (tVar 1) tNil)) (tC (.int (5)))))) tNever tNext)
    (tSeq (tFor (iEnumB K (tCons (tVar 1) tNil)) (gTup K 2 (gCons (gName 3) (gCons (gName 4) gNil))) (tSeq (tIfS (tNot (tTruK K (tCall (sp_is_name K) [] E0 (tCons (tVar 4) tNil)))) tNever tNext)
    (tIfS (tTest (tOp (uIn K) (tVar 4) (tSl (uSl K) (tVar 1) tNoPart (tPart (tVar 3))))) tNever tNext)))
    (tSeq (tIfS (tAnd (tTest (tOp uIsnt (tVar 2) (tC .non))) (tNot (tTruK K (tCall (sp_is_name K) [] E0 (tCons (tVar 2) tNil))))) tNever tNext)
    (tSeq (tIfS (tTest (tOp (uIn K) (tVar 2) (tVar 1))) tNever tNext)
    (tSeq (tIfS (tAnd (tTest (tOp uIsnt (tVar 2) (tC .non))) (tTest (tOp (uEq K) (tCB (uLen K) (tCons (tVar 1) tNil)) (tC (.int (5)))))) tNever tNext)
    (tSeq (sFld K (tVar 0) (tCB (rSrt K) (tCons (tVar 1) tNil)) "fixed_columns")
    (sFld K (tVar 0) (tVar 2) "span_column")))))))
theorem si_Shape_D_init_D {K : PySem.W.Frag} {WW : WX} (kf : KF K) : SimS K WW (t_Shape_D_init_D K) (CP.b_Shape_D_init_D KS false) := (sim_seq (sim_ifs (sim_or (sim_not (sim_tru (sim_call (sim_cons (sim_fr sim_var) sim_nil)))) (sim_test (sim_op o_gt (sim_cb o_len (sim_cons sim_var sim_nil)) (sim_c fun _ _ _ => .int _)))) sim_rz0 sim_next)
    (sim_seq (sim_for (sim_enum (sim_cons sim_var sim_nil)) (sim_gtup (sim_gcons sim_gnameC (sim_gcons sim_gnameC sim_gnil))) (sim_seq (sim_ifs (sim_not (sim_tru (sim_call (sim_cons (sim_fr sim_var) sim_nil)))) sim_rz0 sim_next)
    (sim_ifs (sim_test (sim_op o_in sim_var (sim_sl sim_var sim_nopart (sim_part sim_var)))) sim_rz0 sim_next)))
    (sim_seq (sim_ifs (sim_and (sim_test (sim_op o_isnt sim_var (sim_c fun _ _ _ => .non))) (sim_not (sim_tru (sim_call (sim_cons (sim_fr sim_var) sim_nil))))) sim_rz0 sim_next)
    (sim_seq (sim_ifs (sim_test (sim_op o_in sim_var sim_var)) sim_rz0 sim_next)
    (sim_seq (sim_ifs (sim_and (sim_test (sim_op o_isnt sim_var (sim_c fun _ _ _ => .non))) (sim_test (sim_op o_eq (sim_cb o_len (sim_cons sim_var sim_nil)) (sim_c fun _ _ _ => .int _)))) sim_rz0 sim_next)
    (sim_seq (sim_sfld kf.k0.cls kf.k4 sim_var (sim_cb o_srt (sim_cons sim_var sim_nil)))
    (sim_sfld kf.k0.cls kf.k1 sim_var sim_var)))))))
theorem len_Shape_D_init_D {K : PySem.W.Frag} {vs : List V} {H : Hp} {Q : VK} {E : XK} (h : sp_Shape_D_init_D K vs H Q E) : vs.length = ["self", "fixed", "span"].length := len_spM (ps := ["self", "fixed", "span"]) (fun _ _ _ h => len_fnM h) h
theorem pure_Shape_D_init_D {K : PySem.W.Frag} (kf : KF K) (vs : List V) (H : Hp) (Q : VK) (E : XK) (h : sp_Shape_D_init_D K vs H Q E) : t_Shape_D_init_D K { nx := fun _ H' => Q .non H', rt := Q } (L2.start ["self", "fixed", "span", "at", "column"] vs) H := pure_fnM (n := 3) (k := 2) rfl (si_Shape_D_init_D kf) h
abbrev sp_Shape_span (K : PySem.W.Frag) : Sp := spM K (CP.m_Shape_span KS false)
def t_Shape_span (K : PySem.W.Frag) : TS := (tRet (tFld K (tVar 0) "span_column"))
theorem si_Shape_span {K : PySem.W.Frag} {WW : WX} (kf : KF K) : SimS K WW (t_Shape_span K) (CP.b_Shape_span KS false) := (sim_ret (sim_fld kf.k0.cls kf.k1 sim_var))
theorem len_Shape_span {K : PySem.W.Frag} {vs : List V} {H : Hp} {Q : VK} {E : XK} (h : sp_Shape_span K vs H Q E) : vs.length = ["self"].length := len_spM (ps := ["self"]) (fun _ _ _ h => len_fnM h) h
theorem pure_Shape_span {K : PySem.W.Frag} (kf : KF K) (vs : List V) (H : Hp) (Q : VK) (E : XK) (h : sp_Shape_span K vs H Q E) : t_Shape_span K { nx := fun _ H' => Q .non H', rt := Q } (L2.start ["self"] vs) H := pure_fnM (n := 1) (k := 0) rfl (si_Shape_span kf) h
abbrev sp_Shape_fixed (K : PySem.W.Frag) : Sp := spM K (CP.m_Shape_fixed KS false)
def t_Shape_fixed (K : PySem.W.Frag) : TS := (tRet (tCB (uList K) (tCons (tFld K (tVar 0) "fixed_columns") tNil)))
theorem si_Shape_fixed {K : PySem.W.Frag} {WW : WX} (kf : KF K) : SimS K WW (t_Shape_fixed K) (CP.b_Shape_fixed KS false) := (sim_ret (sim_cb o_list (sim_cons (sim_fld kf.k0.cls kf.k4 sim_var) sim_nil)))
theorem len_Shape_fixed {K : PySem.W.Frag} {vs : List V} {H : Hp} {Q : VK} {E : XK} (h : sp_Shape_fixed K vs H Q E) : vs.length = ["self"].length := len_spM (ps := ["self"]) (fun _ _ _ h => len_fnM h) h
theorem pure_Shape_fixed {K : PySem.W.Frag} (kf : KF K) (vs : List V) (H : Hp) (Q : VK) (E : XK) (h : sp_Shape_fixed K vs H Q E) : t_Shape_fixed K { nx := fun _ H' => Q .non H', rt := Q } (L2.start ["self"] vs) H := pure_fnM (n := 1) (k := 0) rfl (si_Shape_fixed kf) h
abbrev sp_Shape_columns (K : PySem.W.Frag) : Sp := spM K (CP.m_Shape_columns KS false)
def t_Shape_columns (K : PySem.W.Frag) : TS := (tRet (tCB (rSrt K) (tCons (tOp (uAdd K) (tFld K (tVar 0) "fixed_columns") (tIf (tTest (tOp uIs (tFld K (tVar 0) "span_column") (tC .non))) (tLst tNil) (tLst (tCons (tFld K (tVar 0) "span_column") tNil)))) tNil)))
theorem si_Shape_columns {K : PySem.W.Frag} {WW : WX} (kf : KF K) : SimS K WW (t_Shape_columns K) (CP.b_Shape_columns KS false) := (sim_ret (sim_cb o_srt (sim_cons (sim_op o_add (sim_fld kf.k0.cls kf.k4 sim_var) (sim_if (sim_test (sim_op o_is (sim_fld kf.k0.cls kf.k1 sim_var) (sim_c fun _ _ _ => .non))) (sim_lst sim_nil) (sim_lst (sim_cons (sim_fld kf.k0.cls kf.k1 sim_var) sim_nil)))) sim_nil)))
theorem len_Shape_columns {K : PySem.W.Frag} {vs : List V} {H : Hp} {Q : VK} {E : XK} (h : sp_Shape_columns K vs H Q E) : vs.length = ["self"].length := len_spM (ps := ["self"]) (fun _ _ _ h => len_fnM h) h
theorem pure_Shape_columns {K : PySem.W.Frag} (kf : KF K) (vs : List V) (H : Hp) (Q : VK) (E : XK) (h : sp_Shape_columns K vs H Q E) : t_Shape_columns K { nx := fun _ H' => Q .non H', rt := Q } (L2.start ["self"] vs) H := pure_fnM (n := 1) (k := 0) rfl (si_Shape_columns kf) h
abbrev sp_Shape_sets (K : PySem.W.Frag) : Sp := spM K m_Shape_sets
def t_Shape_sets (K : PySem.W.Frag) : TS := (tRet (tIf (tTest (tOp uIs (tFld K (tVar 0) "span_column") (tC .non))) (tLst (tCons (tMeth (He.ga K "Shape") "fixed" (sp_Shape_fixed K) [] E0 (tVar 0) tNil) tNil)) (tLst (tCons (tMeth (He.ga K "Shape") "fixed" (sp_Shape_fixed K) [] E0 (tVar 0) tNil) (tCons (tMeth (He.ga K "Shape") "columns" (sp_Shape_columns K) [] E0 (tVar 0) tNil) tNil)))))
theorem si_Shape_sets {K : PySem.W.Frag} {WW : WX} (kf : KF K) : SimS K WW (t_Shape_sets K) b_Shape_sets := (sim_ret (sim_if (sim_test (sim_op o_is (sim_fld kf.k0.cls kf.k1 sim_var) (sim_c fun _ _ _ => .non))) (sim_lst (sim_cons (sim_ce (sim_meth sim_var sim_nil)) sim_nil)) (sim_lst (sim_cons (sim_ce (sim_meth sim_var sim_nil)) (sim_cons (sim_ce (sim_meth sim_var sim_nil)) sim_nil)))))
theorem len_Shape_sets {K : PySem.W.Frag} {vs : List V} {H : Hp} {Q : VK} {E : XK} (h : sp_Shape_sets K vs H Q E) : vs.length = ["self"].length := len_spM (ps := ["self"]) (fun _ _ _ h => len_fnM h) h
theorem pure_Shape_sets {K : PySem.W.Frag} (kf : KF K) (vs : List V) (H : Hp) (Q : VK) (E : XK) (h : sp_Shape_sets K vs H Q E) : t_Shape_sets K { nx := fun _ H' => Q .non H', rt := Q } (L2.start ["self"] vs) H := pure_fnM (n := 1) (k := 0) rfl (si_Shape_sets kf) h
abbrev sp_Shape_D_len_D (K : PySem.W.Frag) : Sp := spM K (CP.m_Shape_D_len_D KS false)
def t_Shape_D_len_D (K : PySem.W.Frag) : TS := (tRet (tCB (uLen K) (tCons (tMeth (He.ga K "Shape") "columns" (sp_Shape_columns K) [] E0 (tVar 0) tNil) tNil)))
theorem si_Shape_D_len_D {K : PySem.W.Frag} {WW : WX} (kf : KF K) : SimS K WW (t_Shape_D_len_D K) (CP.b_Shape_D_len_D KS false) := (sim_ret (sim_cb o_len (sim_cons (sim_meth sim_var sim_nil) sim_nil)))
theorem len_Shape_D_len_D {K : PySem.W.Frag} {vs : List V} {H : Hp} {Q : VK} {E : XK} (h : sp_Shape_D_len_D K vs H Q E) : vs.length = ["self"].length := len_spM (ps := ["self"]) (fun _ _ _ h => len_fnM h) h
theorem pure_Shape_D_len_D {K : PySem.W.Frag} (kf : KF K) (vs : List V) (H : Hp) (Q : VK) (E : XK) (h : sp_Shape_D_len_D K vs H Q E) : t_Shape_D_len_D K { nx := fun _ H' => Q .non H', rt := Q } (L2.start ["self"] vs) H := pure_fnM (n := 1) (k := 0) rfl (si_Shape_D_len_D kf) h
abbrev sp_Shape_D_eq_D (K : PySem.W.Frag) : Sp := spM K (CP.m_Shape_D_eq_D KS false)
def t_Shape_D_eq_D (K : PySem.W.Frag) : TS := (tSeq (tIfS (tNot (tTruK K (tCB (vIsi K) (tCons (tVar 1) (tCons (tC (.ref (He.ga K "Shape"))) tNil))))) (tRet (tC (.bl false))) tNext)
    (tRet (tAndV (tOp (uEq K) (tFld K (tVar 0) "fixed_columns") (tFld K (tVar 1) "fixed_columns")) (tOp (uEq K) (tFld K (tVar 0) "span_column") (tFld K (tVar 1) "span_column")))))
theorem si_Shape_D_eq_D {K : PySem.W.Frag} {WW : WX} (kf : KF K) : SimS K WW (t_Shape_D_eq_D K) (CP.b_Shape_D_eq_D KS false) := (sim_seq (sim_ifs (sim_not (sim_tru (sim_cb (o_isi kf.k5) (sim_cons sim_var (sim_cons (sim_c fun _ _ _ => .glo _) sim_nil))))) (sim_ret (sim_c fun _ _ _ => .bl _)) sim_next)
    (sim_ret (sim_andV (sim_op o_eq (sim_fld kf.k0.cls kf.k4 sim_var) (sim_fld kf.k0.cls kf.k4 sim_var)) (sim_op o_eq (sim_fld kf.k0.cls kf.k1 sim_var) (sim_fld kf.k0.cls kf.k1 sim_var)))))
theorem len_Shape_D_eq_D {K : PySem.W.Frag} {vs : List V} {H : Hp} {Q : VK} {E : XK} (h : sp_Shape_D_eq_D K vs H Q E) : vs.length = ["self", "other"].length := len_spM (ps := ["self", "other"]) (fun _ _ _ h => len_fnM h) h
theorem pure_Shape_D_eq_D {K : PySem.W.Frag} (kf : KF K) (vs : List V) (H : Hp) (Q : VK) (E : XK) (h : sp_Shape_D_eq_D K vs H Q E) : t_Shape_D_eq_D K { nx := fun _ H' => Q .non H', rt := Q } (L2.start ["self", "other"] vs) H := pure_fnM (n := 2) (k := 0) rfl (si_Shape_D_eq_D kf) h
abbrev sp_Shape_D_str_D (K : PySem.W.Frag) : Sp := spM K (CP.m_Shape_D_str_D KS false)
def t_Shape_D_str_D (K : PySem.W.Frag) : TS := (tSeq (tAsg (tIf (tTest (tOp (uNe K) (tFld K (tVar 0) "fixed_columns") (tLst tNil))) (tBM K "str" (rJoin K) (tC (.str "+")) (tCons (tFld K (tVar 0) "fixed_columns") tNil)) (tC (.str "-"))) (gName 1))
    (tSeq (tAsg (tIf (tTest (tOp uIs (tFld K (tVar 0) "span_column") (tC .non))) (tC (.str "")) (fun σ H Q => tJs [(tC (.str ":")), (tFmt (tFld K (tVar 0) "span_column"))] Str.empty σ H fun out H1 => Q (.str out) H1)) (gName 2))
    (tRet (fun σ H Q => tJs [(tFmt (tVar 1)), (tFmt (tVar 2))] Str.empty σ H fun out H1 => Q (.str out) H1))))
theorem si_Shape_D_str_D {K : PySem.W.Frag} {WW : WX} (kf : KF K) : SimS K WW (t_Shape_D_str_D K) (CP.b_Shape_D_str_D KS false) := (sim_seq (sim_asg (sim_if (sim_test (sim_op o_ne (sim_fld kf.k0.cls kf.k4 sim_var) (sim_lst sim_nil))) (sim_bs rfl o_join (sim_c fun _ _ _ => .str _) (sim_cons (sim_fld kf.k0.cls kf.k4 sim_var) sim_nil)) (sim_c fun _ _ _ => .str _)) sim_gnameC)
    (sim_seq (sim_asg (sim_if (sim_test (sim_op o_is (sim_fld kf.k0.cls kf.k1 sim_var) (sim_c fun _ _ _ => .non))) (sim_c fun _ _ _ => .str _) (sim_js (.cons (sim_c fun _ _ _ => .str _) (.cons (sim_fmt (sim_fld kf.k0.cls kf.k1 sim_var)) .nil)) Str.empty)) sim_gnameC)
    (sim_ret (sim_js (.cons (sim_fmt sim_var) (.cons (sim_fmt sim_var) .nil)) Str.empty))))
theorem len_Shape_D_str_D {K : PySem.W.Frag} {vs : List V} {H : Hp} {Q : VK} {E : XK} (h : sp_Shape_D_str_D K vs H Q E) : vs.length = ["self"].length := len_spM (ps := ["self"]) (fun _ _ _ h => len_fnM h) h
theorem pure_Shape_D_str_D {K : PySem.W.Frag} (kf : KF K) (vs : List V) (H : Hp) (Q : VK) (E : XK) (h : sp_Shape_D_str_D K vs H Q E) : t_Shape_D_str_D K { nx := fun _ H' => Q .non H', rt := Q } (L2.start ["self", "head", "tail"] vs) H := pure_fnM (n := 1) (k := 2) rfl (si_Shape_D_str_D kf) h
abbrev sp_Shape_D_repr_D (K : PySem.W.Frag) : Sp := spM K (CP.m_Shape_D_repr_D KS false)
def t_Shape_D_repr_D (K : PySem.W.Frag) : TS := (tRet (fun σ H Q => tJs [(tC (.str "Shape(")), (tCB (SL.uRepr K) (tCons (tFld K (tVar 0) "fixed_columns") tNil)), (tC (.str ", ")), (tCB (SL.uRepr K) (tCons (tFld K (tVar 0) "span_column") tNil)), (tC (.str ")"))] Str.empty σ H fun out H1 => Q (.str out) H1))
theorem si_Shape_D_repr_D {K : PySem.W.Frag} {WW : WX} (kf : KF K) : SimS K WW (t_Shape_D_repr_D K) (CP.b_Shape_D_repr_D KS false) := (sim_ret (sim_js (.cons (sim_c fun _ _ _ => .str _) (.cons (sim_cb o_repr (sim_cons (sim_fld kf.k0.cls kf.k4 sim_var) sim_nil)) (.cons (sim_c fun _ _ _ => .str _) (.cons (sim_cb o_repr (sim_cons (sim_fld kf.k0.cls kf.k1 sim_var) sim_nil)) (.cons (sim_c fun _ _ _ => .str _) .nil))))) Str.empty))
theorem len_Shape_D_repr_D {K : PySem.W.Frag} {vs : List V} {H : Hp} {Q : VK} {E : XK} (h : sp_Shape_D_repr_D K vs H Q E) : vs.length = ["self"].length := len_spM (ps := ["self"]) (fun _ _ _ h => len_fnM h) h
theorem pure_Shape_D_repr_D {K : PySem.W.Frag} (kf : KF K) (vs : List V) (H : Hp) (Q : VK) (E : XK) (h : sp_Shape_D_repr_D K vs H Q E) : t_Shape_D_repr_D K { nx := fun _ H' => Q .non H', rt := Q } (L2.start ["self"] vs) H := pure_fnM (n := 1) (k := 0) rfl (si_Shape_D_repr_D kf) h
abbrev sp_l_law_cell (K : PySem.W.Frag) : Sp := spM K m_l_law_cell
def t_l_law_cell (K : PySem.W.Frag) : TS := (tSeq (tIfS (tTest (tOp (uLt K) (tVar 1) (tCB (uLen K) (tCons (tVar 0) tNil)))) (tRet (tOp (uIx K) (tVar 0) (tVar 1))) tNext)
    (tRet (tOp (uAdd K) (tOp (uMul K) (tC (.int 15490301)) (tVar 1)) (tC (.int 83)))))
theorem si_l_law_cell {K : PySem.W.Frag} {WW : WX} (kf : KF K) : SimS K WW (t_l_law_cell K) b_l_law_cell := (sim_seq (sim_ifs (sim_test (sim_op o_lt sim_var (sim_cb o_len (sim_cons sim_var sim_nil)))) (sim_ret (sim_op o_ix sim_var sim_var)) sim_next)
    (sim_ret (sim_op o_add (sim_op o_mul (sim_c fun _ _ _ => .int _) sim_var) (sim_c fun _ _ _ => .int _))))
theorem len_l_law_cell {K : PySem.W.Frag} {vs : List V} {H : Hp} {Q : VK} {E : XK} (h : sp_l_law_cell K vs H Q E) : vs.length = ["_law_script", "_law_index"].length := len_spM (ps := ["_law_script", "_law_index"]) (fun _ _ _ h => len_fnM h) h
theorem pure_l_law_cell {K : PySem.W.Frag} (kf : KF K) (vs : List V) (H : Hp) (Q : VK) (E : XK) (h : sp_l_law_cell K vs H Q E) : t_l_law_cell K { nx := fun _ H' => Q .non H', rt := Q } (L2.start ["_law_script", "_law_index"] vs) H := pure_fnM (n := 2) (k := 0) rfl (si_l_law_cell kf) h
abbrev sp_l_law_bag (K : PySem.W.Frag) : Sp := spM K m_l_law_bag
def t_l_law_bag (K : PySem.W.Frag) : TS := (tRet (tLst (tCons (tCB rMax2 (tCons (tC (.int 0)) (tCons (tOp SL.rSub (tVar 0) (tOp SL.rPow (tC (.int 10)) (tC (.int 18)))) tNil))) (tCons (tOp SL.rMod (tVar 0) (tC (.int 2147483629))) (tCons (tC (.int 0)) tNil)))))
theorem si_l_law_bag {K : PySem.W.Frag} {WW : WX} (kf : KF K) : SimS K WW (t_l_law_bag K) b_l_law_bag := (sim_ret (sim_lst (sim_cons (sim_cb o_max2 (sim_cons (sim_c fun _ _ _ => .int _) (sim_cons (sim_op o_sub sim_var (sim_op o_pow (sim_c fun _ _ _ => .int _) (sim_c fun _ _ _ => .int _))) sim_nil))) (sim_cons (sim_op o_mod sim_var (sim_c fun _ _ _ => .int _)) (sim_cons (sim_c fun _ _ _ => .int _) sim_nil)))))
theorem len_l_law_bag {K : PySem.W.Frag} {vs : List V} {H : Hp} {Q : VK} {E : XK} (h : sp_l_law_bag K vs H Q E) : vs.length = ["_law_cell_here"].length := len_spM (ps := ["_law_cell_here"]) (fun _ _ _ h => len_fnM h) h
theorem pure_l_law_bag {K : PySem.W.Frag} (kf : KF K) (vs : List V) (H : Hp) (Q : VK) (E : XK) (h : sp_l_law_bag K vs H Q E) : t_l_law_bag K { nx := fun _ H' => Q .non H', rt := Q } (L2.start ["_law_cell_here"] vs) H := pure_fnM (n := 1) (k := 0) rfl (si_l_law_bag kf) h
abbrev sp_l_law_take (K : PySem.W.Frag) : Sp := spM K m_l_law_take
def t_l_law_take (K : PySem.W.Frag) : TS := (tSeq (tIfS (tTest (tOp SL.rGt (tOp (uIx K) (tVar 0) (tC (.int 0))) (tC (.int 0)))) (tSeq (tAsg (tOp SL.rMod (tOp (uIx K) (tVar 0) (tC (.int 0))) (tVar 1)) (gName 3))
    (tSeq (tAsg (tOp SL.rDiv (tOp (uIx K) (tVar 0) (tC (.int 0))) (tVar 1)) (gSub (tVar 0) (tC (.int 0)) rSetL))
    (tRet (tVar 3)))) tNext)
    (tSeq (tAsg (tOp (uAdd K) (tOp (uIx K) (tVar 0) (tC (.int 2))) (tC (.int 1))) (gSub (tVar 0) (tC (.int 2)) rSetL))
    (tSeq (tAsg (tOp SL.rMod (tOp SL.rPow (tOp (uAdd K) (tOp (uAdd K) (tOp (uIx K) (tVar 0) (tC (.int 1))) (tOp (uMul K) (tC (.int 15490301)) (tOp (uIx K) (tVar 0) (tC (.int 2))))) (tC (.int 83))) (tC (.int 5))) (tC (.int 2147483647))) (gName 2))
    (tSeq (tAsg (tOp SL.rMod (tOp SL.rPow (tOp (uAdd K) (tVar 2) (tOp (uMul K) (tC (.int 104347)) (tOp (uIx K) (tVar 0) (tC (.int 2))))) (tC (.int 3))) (tC (.int 2147483587))) (gName 2))
    (tRet (tOp SL.rMod (tOp SL.rDiv (tVar 2) (tC (.int 16))) (tVar 1)))))))
theorem si_l_law_take {K : PySem.W.Frag} {WW : WX} (kf : KF K) : SimS K WW (t_l_law_take K) b_l_law_take := (sim_seq (sim_ifs (sim_test (sim_op o_gt (sim_op o_ix sim_var (sim_c fun _ _ _ => .int _)) (sim_c fun _ _ _ => .int _))) (sim_seq (sim_asg (sim_op o_mod (sim_op o_ix sim_var (sim_c fun _ _ _ => .int _)) sim_var) sim_gnameC)
    (sim_seq (sim_asg (sim_op o_div (sim_op o_ix sim_var (sim_c fun _ _ _ => .int _)) sim_var) (sim_gsub sim_var (sim_c fun _ _ _ => .int _)))
    (sim_ret sim_var))) sim_next)
    (sim_seq (sim_asg (sim_op o_add (sim_op o_ix sim_var (sim_c fun _ _ _ => .int _)) (sim_c fun _ _ _ => .int _)) (sim_gsub sim_var (sim_c fun _ _ _ => .int _)))
    (sim_seq (sim_asg (sim_op o_mod (sim_op o_pow (sim_op o_add (sim_op o_add (sim_op o_ix sim_var (sim_c fun _ _ _ => .int _)) (sim_op o_mul (sim_c fun _ _ _ => .int _) (sim_op o_ix sim_var (sim_c fun _ _ _ => .int _)))) (sim_c fun _ _ _ => .int _)) (sim_c fun _ _ _ => .int _)) (sim_c fun _ _ _ => .int _)) sim_gnameC)
    (sim_seq (sim_asg (sim_op o_mod (sim_op o_pow (sim_op o_add sim_var (sim_op o_mul (sim_c fun _ _ _ => .int _) (sim_op o_ix sim_var (sim_c fun _ _ _ => .int _)))) (sim_c fun _ _ _ => .int _)) (sim_c fun _ _ _ => .int _)) sim_gnameC)
    (sim_ret (sim_op o_mod (sim_op o_div sim_var (sim_c fun _ _ _ => .int _)) sim_var))))))
theorem len_l_law_take {K : PySem.W.Frag} {vs : List V} {H : Hp} {Q : VK} {E : XK} (h : sp_l_law_take K vs H Q E) : vs.length = ["_law_bag_here", "_law_many"].length := len_spM (ps := ["_law_bag_here", "_law_many"]) (fun _ _ _ h => len_fnM h) h
theorem pure_l_law_take {K : PySem.W.Frag} (kf : KF K) (vs : List V) (H : Hp) (Q : VK) (E : XK) (h : sp_l_law_take K vs H Q E) : t_l_law_take K { nx := fun _ H' => Q .non H', rt := Q } (L2.start ["_law_bag_here", "_law_many", "_law_mixed", "_law_digit"] vs) H := pure_fnM (n := 2) (k := 2) rfl (si_l_law_take kf) h
abbrev sp_l_law_names (K : PySem.W.Frag) : Sp := spM K m_l_law_names
def t_l_law_names (K : PySem.W.Frag) : TS := (tSeq (tAsg (tC (.str "abcdefghijklmnopqrstuvwxyz")) (gName 2))
    (tSeq (tAsg (tBM K "str" (rJoin K) (tC (.str "")) (tCons (tLc (iRng1 (tCons (tC (.int 7)) tNil)) (gName 8) tYes (tOp (uIx K) (tVar 2) (tCall (sp_l_law_take K) [] E0 (tCons (tVar 0) (tCons (tC (.int 26)) tNil)))) [8]) tNil)) (gName 3))
    (tSeq (tPar3 4 5 6 (tCons (tCall (sp_l_law_take K) [] E0 (tCons (tVar 0) (tCons (tC (.int 8)) tNil))) (tCons (tCall (sp_l_law_take K) [] E0 (tCons (tVar 0) (tCons (tC (.int 26)) tNil))) (tCons (tOp (uIx K) (tLst (tCons (tC (.int 1)) (tCons (tC (.int 3)) (tCons (tC (.int 5)) (tCons (tC (.int 7)) (tCons (tC (.int 9)) (tCons (tC (.int 11)) (tCons (tC (.int 15)) (tCons (tC (.int 17)) tNil))))))))) (tCall (sp_l_law_take K) [] E0 (tCons (tVar 0) (tCons (tC (.int 8)) tNil)))) tNil))))
    (tSeq (tAsg (tLst tNil) (gName 7))
    (tSeq (tFor (iRng1 (tCons (tVar 1) tNil)) (gName 8) (tSeq (tAsg (tOp (uAdd K) (tSl (uSl K) (tVar 3) tNoPart (tPart (tVar 4))) (tOp (uIx K) (tVar 2) (tOp SL.rMod (tOp (uAdd K) (tVar 5) (tOp (uMul K) (tVar 6) (tVar 8))) (tC (.int 26))))) (gName 9))
    (tDrop (tBM K "list" rAppend (tVar 7) (tCons (tOp (uAdd K) (tVar 9) (tSl (uSl K) (tVar 3) (tPart (tVar 4)) (tPart (tOp (uAdd K) (tVar 4) (tCall (sp_l_law_take K) [] E0 (tCons (tVar 0) (tCons (tOp SL.rSub (tC (.int 8)) (tVar 4)) tNil))))))) tNil)))))
    (tSeq (tIfS (tAnd (tTest (tOp SL.rGt (tVar 1) (tC (.int 1)))) (tAnd (tTest (tOp (uLt K) (tCB (uLen K) (tCons (tOp (uIx K) (tVar 7) (tC (.int 0))) tNil)) (tC (.int 8)))) (tTest (tOp (uEq K) (tCall (sp_l_law_take K) [] E0 (tCons (tVar 0) (tCons (tC (.int 3)) tNil))) (tC (.int 0)))))) (tAsg (tOp (uAdd K) (tOp (uIx K) (tVar 7) (tC (.int 0))) (tOp (uIx K) (tVar 2) (tCall (sp_l_law_take K) [] E0 (tCons (tVar 0) (tCons (tC (.int 26)) tNil))))) (gSub (tVar 7) (tC (.int 1)) rSetL)) tNext)
    (tRet (tVar 7))))))))
theorem si_l_law_names {K : PySem.W.Frag} {WW : WX} (kf : KF K) : SimS K WW (t_l_law_names K) b_l_law_names := (sim_seq (sim_asg (sim_c fun _ _ _ => .str _) sim_gnameC)
    (sim_seq (sim_fg (sim_asg (sim_bs rfl o_join (sim_c fun _ _ _ => .str _) (sim_cons (sim_lc (sim_rng1 (sim_cons (sim_c fun _ _ _ => .int _) sim_nil)) sim_gnameC (ok_name (by decide)) sim_yes (sim_op o_ix sim_var (sim_call (sim_cons (sim_ce sim_var) (sim_cons (sim_fr (sim_c fun _ _ _ => .int _)) sim_nil))))) sim_nil)) sim_gnameC))
    (sim_seq (sim_par3 (sim_cons (sim_call (sim_cons (sim_ce sim_var) (sim_cons (sim_fr (sim_c fun _ _ _ => .int _)) sim_nil))) (sim_cons (sim_call (sim_cons (sim_ce sim_var) (sim_cons (sim_fr (sim_c fun _ _ _ => .int _)) sim_nil))) (sim_cons (sim_op o_ix (sim_lst (sim_cons (sim_c fun _ _ _ => .int _) (sim_cons (sim_c fun _ _ _ => .int _) (sim_cons (sim_c fun _ _ _ => .int _) (sim_cons (sim_c fun _ _ _ => .int _) (sim_cons (sim_c fun _ _ _ => .int _) (sim_cons (sim_c fun _ _ _ => .int _) (sim_cons (sim_c fun _ _ _ => .int _) (sim_cons (sim_c fun _ _ _ => .int _) sim_nil))))))))) (sim_call (sim_cons (sim_ce sim_var) (sim_cons (sim_fr (sim_c fun _ _ _ => .int _)) sim_nil)))) sim_nil))))
    (sim_seq (sim_asg (sim_lst sim_nil) sim_gname)
    (sim_seq (sim_for (sim_rng1 (sim_cons sim_var sim_nil)) sim_gnameC (sim_seq (sim_asg (sim_op o_add (sim_sl sim_var sim_nopart (sim_part sim_var)) (sim_op o_ix sim_var (sim_op o_mod (sim_op o_add sim_var (sim_op o_mul sim_var sim_var)) (sim_c fun _ _ _ => .int _)))) sim_gnameC)
    (sim_drop (sim_mut rfl mu_append sim_var (sim_cons (sim_op o_add sim_var (sim_sl sim_var (sim_part sim_var) (sim_part (sim_op o_add sim_var (sim_call (sim_cons (sim_ce sim_var) (sim_cons (sim_fr (sim_op o_sub (sim_c fun _ _ _ => .int _) sim_var)) sim_nil))))))) sim_nil)))))
    (sim_seq (sim_ifs (sim_and (sim_test (sim_op o_gt sim_var (sim_c fun _ _ _ => .int _))) (sim_and (sim_test (sim_op o_lt (sim_cb o_len (sim_cons (sim_op o_ix sim_var (sim_c fun _ _ _ => .int _)) sim_nil)) (sim_c fun _ _ _ => .int _))) (sim_test (sim_op o_eq (sim_call (sim_cons (sim_ce sim_var) (sim_cons (sim_fr (sim_c fun _ _ _ => .int _)) sim_nil))) (sim_c fun _ _ _ => .int _))))) (sim_asg (sim_op o_add (sim_op o_ix sim_var (sim_c fun _ _ _ => .int _)) (sim_op o_ix sim_var (sim_call (sim_cons (sim_ce sim_var) (sim_cons (sim_fr (sim_c fun _ _ _ => .int _)) sim_nil))))) (sim_gsub sim_var (sim_c fun _ _ _ => .int _))) sim_next)
    (sim_ret sim_var)))))))
theorem len_l_law_names {K : PySem.W.Frag} {vs : List V} {H : Hp} {Q : VK} {E : XK} (h : sp_l_law_names K vs H Q E) : vs.length = ["_law_bag_here", "_law_many"].length := len_spM (ps := ["_law_bag_here", "_law_many"]) (fun _ _ _ h => len_fnM h) h
theorem pure_l_law_names {K : PySem.W.Frag} (kf : KF K) (vs : List V) (H : Hp) (Q : VK) (E : XK) (h : sp_l_law_names K vs H Q E) : t_l_law_names K { nx := fun _ H' => Q .non H', rt := Q } (L2.start ["_law_bag_here", "_law_many", "_law_letters", "_law_stem", "_law_at", "_law_first", "_law_step", "_law_found", "_law_index", "_law_begun"] vs) H := pure_fnM (n := 2) (k := 8) rfl (si_l_law_names kf) h
abbrev sp_l_law_pick (K : PySem.W.Frag) : Sp := spM K m_l_law_pick
def t_l_law_pick (K : PySem.W.Frag) : TS := (tSeq (tPar 3 4 (tCons (tLstRg (tRg1 (tVar 1))) (tCons (tLst tNil) tNil)))
    (tSeq (tFor (iRng1 (tCons (tCall (sp_l_law_take K) [] E0 (tCons (tVar 0) (tCons (tOp (uAdd K) (tCB rMin2 (tCons (tVar 1) (tCons (tVar 2) tNil))) (tC (.int 1))) tNil))) tNil)) (gName 5) (tDrop (tBM K "list" rAppend (tVar 4) (tCons (tBM K "list" rPopAt (tVar 3) (tCons (tCall (sp_l_law_take K) [] E0 (tCons (tVar 0) (tCons (tCB (uLen K) (tCons (tVar 3) tNil)) tNil))) tNil)) tNil))))
    (tSeq (tIfS (tOr (tTest (tOp (uEq K) (tVar 3) (tLst tNil))) (tOr (tTest (tOp SL.rGt (tCB (uLen K) (tCons (tVar 4) tNil)) (tC (.int 4)))) (tTest (tOp (uEq K) (tCall (sp_l_law_take K) [] E0 (tCons (tVar 0) (tCons (tC (.int 2)) tNil))) (tC (.int 0)))))) (tRet (tTup (tCons (tCB (rSrt K) (tCons (tVar 4) tNil)) (tCons (tC .non) tNil)))) tNext)
    (tRet (tTup (tCons (tCB (rSrt K) (tCons (tVar 4) tNil)) (tCons (tOp (uIx K) (tVar 3) (tCall (sp_l_law_take K) [] E0 (tCons (tVar 0) (tCons (tCB (uLen K) (tCons (tVar 3) tNil)) tNil)))) tNil)))))))
theorem si_l_law_pick {K : PySem.W.Frag} {WW : WX} (kf : KF K) : SimS K WW (t_l_law_pick K) b_l_law_pick := (sim_seq (sim_par (sim_cons (sim_lstRg sim_var) (sim_cons (sim_lst sim_nil) sim_nil)))
    (sim_seq (sim_for (sim_rng1 (sim_cons (sim_call (sim_cons (sim_ce sim_var) (sim_cons (sim_fr (sim_op o_add (sim_cb o_min2 (sim_cons sim_var (sim_cons sim_var sim_nil))) (sim_c fun _ _ _ => .int _))) sim_nil))) sim_nil)) sim_gnameC (sim_drop (sim_mut rfl mu_append sim_var (sim_cons (sim_mut rfl mu_popAt sim_var (sim_cons (sim_call (sim_cons (sim_ce sim_var) (sim_cons (sim_fr (sim_cb o_len (sim_cons sim_var sim_nil))) sim_nil))) sim_nil)) sim_nil))))
    (sim_seq (sim_ifs (sim_or (sim_test (sim_op o_eq sim_var (sim_lst sim_nil))) (sim_or (sim_test (sim_op o_gt (sim_cb o_len (sim_cons sim_var sim_nil)) (sim_c fun _ _ _ => .int _))) (sim_test (sim_op o_eq (sim_call (sim_cons (sim_ce sim_var) (sim_cons (sim_fr (sim_c fun _ _ _ => .int _)) sim_nil))) (sim_c fun _ _ _ => .int _))))) (sim_ret (sim_tup (sim_cons (sim_cb o_srt (sim_cons sim_var sim_nil)) (sim_cons (sim_c fun _ _ _ => .non) sim_nil)))) sim_next)
    (sim_ret (sim_tup (sim_cons (sim_cb o_srt (sim_cons sim_var sim_nil)) (sim_cons (sim_op o_ix sim_var (sim_call (sim_cons (sim_ce sim_var) (sim_cons (sim_fr (sim_cb o_len (sim_cons sim_var sim_nil))) sim_nil)))) sim_nil)))))))
theorem len_l_law_pick {K : PySem.W.Frag} {vs : List V} {H : Hp} {Q : VK} {E : XK} (h : sp_l_law_pick K vs H Q E) : vs.length = ["_law_bag_here", "_law_many", "_law_most"].length := len_spM (ps := ["_law_bag_here", "_law_many", "_law_most"]) (fun _ _ _ h => len_fnM h) h
theorem pure_l_law_pick {K : PySem.W.Frag} (kf : KF K) (vs : List V) (H : Hp) (Q : VK) (E : XK) (h : sp_l_law_pick K vs H Q E) : t_l_law_pick K { nx := fun _ H' => Q .non H', rt := Q } (L2.start ["_law_bag_here", "_law_many", "_law_most", "_law_left", "_law_found", "_law_turn"] vs) H := pure_fnM (n := 3) (k := 3) rfl (si_l_law_pick kf) h
abbrev sp_l_law_near (K : PySem.W.Frag) : Sp := spM K m_l_law_near
def t_l_law_near (K : PySem.W.Frag) : TS := (tSeq (tAsg (tTup (tCons (tCB (uList K) (tCons (tOp (uIx K) (tVar 2) (tC (.int 0))) tNil)) (tCons (tOp (uIx K) (tVar 2) (tC (.int 1))) tNil))) (gTup K 2 (gCons (gName 3) (gCons (gName 4) gNil))))
    (tSeq (tAsg (tLc (iRng1 (tCons (tVar 1) tNil)) (gName 7) (tTest (tOp (uNi K) (tVar 7) (tVar 3))) (tVar 7) [7]) (gName 5))
    (tSeq (tAsg (tCall (sp_l_law_take K) [] E0 (tCons (tVar 0) (tCons (tC (.int 4)) tNil))) (gName 6))
    (tSeq (tIfS (tAnd (tTest (tOp (uLt K) (tVar 6) (tC (.int 2)))) (tTest (tOp (uNe K) (tVar 5) (tLst tNil)))) (tAsg (tCB (rSrt K) (tCons (tOp (uAdd K) (tVar 3) (tLst (tCons (tOp (uIx K) (tVar 5) (tCall (sp_l_law_take K) [] E0 (tCons (tVar 0) (tCons (tCB (uLen K) (tCons (tVar 5) tNil)) tNil)))) tNil))) tNil)) (gName 3)) tNext)
    (tSeq (tIfS (tAnd (tTest (tOp (uEq K) (tVar 6) (tC (.int 2)))) (tTest (tOp (uNe K) (tVar 3) (tLst tNil)))) (tDrop (tBM K "list" rPopAt (tVar 3) (tCons (tCall (sp_l_law_take K) [] E0 (tCons (tVar 0) (tCons (tCB (uLen K) (tCons (tVar 3) tNil)) tNil))) tNil))) tNext)
    (tSeq (tAsg (tLc (iRng1 (tCons (tVar 1) tNil)) (gName 7) (tTest (tOp (uNi K) (tVar 7) (tVar 3))) (tVar 7) [7]) (gName 5))
    (tSeq (tIfS (tOr (tTest (tOp (uIn K) (tVar 4) (tVar 3))) (tTest (tOp (uEq K) (tVar 6) (tC (.int 3))))) (tAsg (tC .non) (gName 4)) tNext)
    (tSeq (tIfS (tAnd (tTest (tOp (uNe K) (tVar 5) (tLst tNil))) (tTest (tOp (uEq K) (tCall (sp_l_law_take K) [] E0 (tCons (tVar 0) (tCons (tC (.int 3)) tNil))) (tC (.int 0))))) (tAsg (tOp (uIx K) (tVar 5) (tCall (sp_l_law_take K) [] E0 (tCons (tVar 0) (tCons (tCB (uLen K) (tCons (tVar 5) tNil)) tNil)))) (gName 4)) tNext)
    (tRet (tTup (tCons (tSl (uSl K) (tVar 3) tNoPart (tPart (tC (.int 5)))) (tCons (tIf (tTest (tOp (uLt K) (tCB (uLen K) (tCons (tVar 3) tNil)) (tC (.int 5)))) (tVar 4) (tC .non)) tNil))))))))))))
theorem si_l_law_near {K : PySem.W.Frag} {WW : WX} (kf : KF K) : SimS K WW (t_l_law_near K) b_l_law_near := (sim_seq (sim_asg (sim_tup (sim_cons (sim_ce (sim_cb o_list (sim_cons (sim_op o_ix sim_var (sim_c fun _ _ _ => .int _)) sim_nil))) (sim_cons (sim_fr (sim_op o_ix sim_var (sim_c fun _ _ _ => .int _))) sim_nil))) (sim_gtup (sim_gcons sim_gname (sim_gcons sim_gnameC sim_gnil))))
    (sim_seq (sim_asg (sim_lc (sim_rng1 (sim_cons sim_var sim_nil)) sim_gnameC (ok_name (by decide)) (sim_test (sim_op o_ni sim_var sim_var)) sim_var) sim_gnameC)
    (sim_seq (sim_asg (sim_call (sim_cons (sim_ce sim_var) (sim_cons (sim_fr (sim_c fun _ _ _ => .int _)) sim_nil))) sim_gnameC)
    (sim_seq (sim_ifs (sim_and (sim_test (sim_op o_lt sim_var (sim_c fun _ _ _ => .int _))) (sim_test (sim_op o_ne sim_var (sim_lst sim_nil)))) (sim_asg (sim_cb o_srt (sim_cons (sim_op o_add sim_var (sim_lst (sim_cons (sim_op o_ix sim_var (sim_call (sim_cons (sim_ce sim_var) (sim_cons (sim_fr (sim_cb o_len (sim_cons sim_var sim_nil))) sim_nil)))) sim_nil))) sim_nil)) sim_gname) sim_next)
    (sim_seq (sim_ifs (sim_and (sim_test (sim_op o_eq sim_var (sim_c fun _ _ _ => .int _))) (sim_test (sim_op o_ne sim_var (sim_lst sim_nil)))) (sim_drop (sim_mut rfl mu_popAt sim_var (sim_cons (sim_call (sim_cons (sim_ce sim_var) (sim_cons (sim_fr (sim_cb o_len (sim_cons sim_var sim_nil))) sim_nil))) sim_nil))) sim_next)
    (sim_seq (sim_asg (sim_lc (sim_rng1 (sim_cons sim_var sim_nil)) sim_gnameC (ok_name (by decide)) (sim_test (sim_op o_ni sim_var sim_var)) sim_var) sim_gnameC)
    (sim_seq (sim_ifs (sim_or (sim_test (sim_op o_in sim_var sim_var)) (sim_test (sim_op o_eq sim_var (sim_c fun _ _ _ => .int _)))) (sim_asg (sim_c fun _ _ _ => .non) sim_gnameC) sim_next)
    (sim_seq (sim_ifs (sim_and (sim_test (sim_op o_ne sim_var (sim_lst sim_nil))) (sim_test (sim_op o_eq (sim_call (sim_cons (sim_ce sim_var) (sim_cons (sim_fr (sim_c fun _ _ _ => .int _)) sim_nil))) (sim_c fun _ _ _ => .int _)))) (sim_asg (sim_op o_ix sim_var (sim_call (sim_cons (sim_ce sim_var) (sim_cons (sim_fr (sim_cb o_len (sim_cons sim_var sim_nil))) sim_nil)))) sim_gnameC) sim_next)
    (sim_ret (sim_tup (sim_cons (sim_sl sim_var sim_nopart (sim_part (sim_c fun _ _ _ => .int _))) (sim_cons (sim_if (sim_test (sim_op o_lt (sim_cb o_len (sim_cons sim_var sim_nil)) (sim_c fun _ _ _ => .int _))) sim_var (sim_c fun _ _ _ => .non)) sim_nil))))))))))))
theorem len_l_law_near {K : PySem.W.Frag} {vs : List V} {H : Hp} {Q : VK} {E : XK} (h : sp_l_law_near K vs H Q E) : vs.length = ["_law_bag_here", "_law_many", "_law_part"].length := len_spM (ps := ["_law_bag_here", "_law_many", "_law_part"]) (fun _ _ _ h => len_fnM h) h
theorem pure_l_law_near {K : PySem.W.Frag} (kf : KF K) (vs : List V) (H : Hp) (Q : VK) (E : XK) (h : sp_l_law_near K vs H Q E) : t_l_law_near K { nx := fun _ H' => Q .non H', rt := Q } (L2.start ["_law_bag_here", "_law_many", "_law_part", "_law_fixed", "_law_span", "_law_free", "_law_way", "_law_at"] vs) H := pure_fnM (n := 3) (k := 5) rfl (si_l_law_near kf) h
abbrev sp_l_law_parts (K : PySem.W.Frag) : Sp := spM K m_l_law_parts
def t_l_law_parts (K : PySem.W.Frag) : TS := (tSeq (tPar3 3 4 5 (tCons (tLst tNil) (tCons (tLst tNil) (tCons (tCall (sp_l_law_take K) [] E0 (tCons (tVar 0) (tCons (tC (.int 3)) tNil))) tNil))))
    (tSeq (tFor (iRng1 (tCons (tVar 2) tNil)) (gName 6) (tSeq (tAsg (tCall (sp_l_law_pick K) [] E0 (tCons (tVar 0) (tCons (tVar 1) (tCons (tC (.int 5)) tNil)))) (gName 7))
    (tSeq (tIfS (tAnd (tTest (tOp SL.rGt (tVar 5) (tC (.int 0)))) (tAnd (tTest (tOp (uNe K) (tVar 4) (tLst tNil))) (tTest (tOp SL.rGt (tCall (sp_l_law_take K) [] E0 (tCons (tVar 0) (tCons (tC (.int 3)) tNil))) (tC (.int 0)))))) (tAsg (tCall (sp_l_law_near K) [] E0 (tCons (tVar 0) (tCons (tVar 1) (tCons (tOp (uIx K) (tVar 4) (tCall (sp_l_law_take K) [] E0 (tCons (tVar 0) (tCons (tCB (uLen K) (tCons (tVar 4) tNil)) tNil)))) tNil)))) (gName 7)) tNext)
    (tSeq (tDrop (tBM K "list" rAppend (tVar 4) (tCons (tVar 7) tNil)))
    (tIfS (tAnd (tTest (tOp (rNotInD K) (tVar 7) (tVar 3))) (tTest (tOp SL.rGt (tCall (sp_l_law_take K) [] E0 (tCons (tVar 0) (tCons (tC (.int 5)) tNil))) (tC (.int 0))))) (tDrop (tBM K "list" rAppend (tVar 3) (tCons (tVar 7) tNil))) tNext)))))
    (tRet (tVar 3))))
theorem si_l_law_parts {K : PySem.W.Frag} {WW : WX} (kf : KF K) : SimS K WW (t_l_law_parts K) b_l_law_parts := (sim_seq (sim_par3 (sim_cons (sim_lst sim_nil) (sim_cons (sim_lst sim_nil) (sim_cons (sim_call (sim_cons (sim_ce sim_var) (sim_cons (sim_fr (sim_c fun _ _ _ => .int _)) sim_nil))) sim_nil))))
    (sim_seq (sim_for (sim_rng1 (sim_cons sim_var sim_nil)) sim_gnameC (sim_seq (sim_asg (sim_call (sim_cons (sim_ce sim_var) (sim_cons (sim_fr sim_var) (sim_cons (sim_fr (sim_c fun _ _ _ => .int _)) sim_nil)))) sim_gnameC)
    (sim_seq (sim_ifs (sim_and (sim_test (sim_op o_gt sim_var (sim_c fun _ _ _ => .int _))) (sim_and (sim_test (sim_op o_ne sim_var (sim_lst sim_nil))) (sim_test (sim_op o_gt (sim_call (sim_cons (sim_ce sim_var) (sim_cons (sim_fr (sim_c fun _ _ _ => .int _)) sim_nil))) (sim_c fun _ _ _ => .int _))))) (sim_asg (sim_call (sim_cons (sim_ce sim_var) (sim_cons (sim_fr sim_var) (sim_cons (sim_fr (sim_op o_ix sim_var (sim_call (sim_cons (sim_ce sim_var) (sim_cons (sim_fr (sim_cb o_len (sim_cons sim_var sim_nil))) sim_nil))))) sim_nil)))) sim_gnameC) sim_next)
    (sim_seq (sim_drop (sim_mut rfl mu_append sim_var (sim_cons sim_var sim_nil)))
    (sim_ifs (sim_and (sim_test (sim_op o_niD sim_var sim_var)) (sim_test (sim_op o_gt (sim_call (sim_cons (sim_ce sim_var) (sim_cons (sim_fr (sim_c fun _ _ _ => .int _)) sim_nil))) (sim_c fun _ _ _ => .int _)))) (sim_drop (sim_mut rfl mu_append sim_var (sim_cons sim_var sim_nil))) sim_next)))))
    (sim_ret sim_var)))
theorem len_l_law_parts {K : PySem.W.Frag} {vs : List V} {H : Hp} {Q : VK} {E : XK} (h : sp_l_law_parts K vs H Q E) : vs.length = ["_law_bag_here", "_law_many", "_law_most"].length := len_spM (ps := ["_law_bag_here", "_law_many", "_law_most"]) (fun _ _ _ h => len_fnM h) h
theorem pure_l_law_parts {K : PySem.W.Frag} (kf : KF K) (vs : List V) (H : Hp) (Q : VK) (E : XK) (h : sp_l_law_parts K vs H Q E) : t_l_law_parts K { nx := fun _ H' => Q .non H', rt := Q } (L2.start ["_law_bag_here", "_law_many", "_law_most", "_law_found", "_law_rows", "_law_mode", "_law_turn", "_law_part"] vs) H := pure_fnM (n := 3) (k := 5) rfl (si_l_law_parts kf) h
abbrev sp_l_law_whole (K : PySem.W.Frag) : Sp := spM K m_l_law_whole
def t_l_law_whole (K : PySem.W.Frag) : TS := (tRet (tOp (uAdd K) (tCB (uList K) (tCons (tOp (uIx K) (tVar 0) (tC (.int 0))) tNil)) (tLc (iU K (tLst (tCons (tOp (uIx K) (tVar 0) (tC (.int 1))) tNil))) (gName 1) (tTest (tOp uIsnt (tVar 1) (tC .non))) (tVar 1) [1])))
theorem si_l_law_whole {K : PySem.W.Frag} {WW : WX} (kf : KF K) : SimS K WW (t_l_law_whole K) b_l_law_whole := (sim_ret (sim_op o_add (sim_cb o_list (sim_cons (sim_op o_ix sim_var (sim_c fun _ _ _ => .int _)) sim_nil)) (sim_lc (sim_iU (sim_lst (sim_cons (sim_op o_ix sim_var (sim_c fun _ _ _ => .int _)) sim_nil))) sim_gnameC (ok_name (by decide)) (sim_test (sim_op o_isnt sim_var (sim_c fun _ _ _ => .non))) sim_var)))
theorem len_l_law_whole {K : PySem.W.Frag} {vs : List V} {H : Hp} {Q : VK} {E : XK} (h : sp_l_law_whole K vs H Q E) : vs.length = ["_law_part"].length := len_spM (ps := ["_law_part"]) (fun _ _ _ h => len_fnM h) h
theorem pure_l_law_whole {K : PySem.W.Frag} (kf : KF K) (vs : List V) (H : Hp) (Q : VK) (E : XK) (h : sp_l_law_whole K vs H Q E) : t_l_law_whole K { nx := fun _ H' => Q .non H', rt := Q } (L2.start ["_law_part", "_law_at"] vs) H := pure_fnM (n := 1) (k := 1) rfl (si_l_law_whole kf) h
abbrev sp_l_law_shape (K : PySem.W.Frag) : Sp := spM K m_l_law_shape
def t_l_law_shape (K : PySem.W.Frag) : TS := (tSeq (tPar 3 4 (tCons (tCB (uList K) (tCons (tOp (uIx K) (tVar 2) (tC (.int 0))) tNil)) (tCons (tLst tNil) tNil)))
    (tSeq (tFor (iRng1 (tCons (tCB (uLen K) (tCons (tVar 3) tNil)) tNil)) (gName 5) (tDrop (tBM K "list" rAppend (tVar 4) (tCons (tOp (uIx K) (tVar 1) (tBM K "list" rPopAt (tVar 3) (tCons (tCall (sp_l_law_take K) [] E0 (tCons (tVar 0) (tCons (tCB (uLen K) (tCons (tVar 3) tNil)) tNil))) tNil))) tNil))))
    (tRet (tMake (He.ga K "Shape") (sp_Shape_D_init_D K) [] E0 (tCons (tOp (uIx K) (tLst (tCons (tVar 4) (tCons (tCB (uTuple K) (tCons (tVar 4) tNil)) tNil))) (tCall (sp_l_law_take K) [] E0 (tCons (tVar 0) (tCons (tC (.int 2)) tNil)))) (tCons (tIf (tTest (tOp uIs (tOp (uIx K) (tVar 2) (tC (.int 1))) (tC .non))) (tC .non) (tOp (uIx K) (tVar 1) (tOp (uIx K) (tVar 2) (tC (.int 1))))) tNil))))))
theorem si_l_law_shape {K : PySem.W.Frag} {WW : WX} (kf : KF K) : SimS K WW (t_l_law_shape K) b_l_law_shape := (sim_seq (sim_par (sim_cons (sim_cb o_list (sim_cons (sim_op o_ix sim_var (sim_c fun _ _ _ => .int _)) sim_nil)) (sim_cons (sim_lst sim_nil) sim_nil)))
    (sim_seq (sim_for (sim_rng1 (sim_cons (sim_cb o_len (sim_cons sim_var sim_nil)) sim_nil)) sim_gnameC (sim_drop (sim_mut rfl mu_append sim_var (sim_cons (sim_op o_ix sim_var (sim_mut rfl mu_popAt sim_var (sim_cons (sim_call (sim_cons (sim_ce sim_var) (sim_cons (sim_fr (sim_cb o_len (sim_cons sim_var sim_nil))) sim_nil))) sim_nil))) sim_nil))))
    (sim_ret (sim_make (fun _ _ _ => .nil) (sim_cons (sim_fr (sim_op o_ix (sim_lst (sim_cons sim_var (sim_cons (sim_cb o_tuple (sim_cons sim_var sim_nil)) sim_nil))) (sim_call (sim_cons (sim_ce sim_var) (sim_cons (sim_fr (sim_c fun _ _ _ => .int _)) sim_nil))))) (sim_cons (sim_fr (sim_if (sim_test (sim_op o_is (sim_op o_ix sim_var (sim_c fun _ _ _ => .int _)) (sim_c fun _ _ _ => .non))) (sim_c fun _ _ _ => .non) (sim_op o_ix sim_var (sim_op o_ix sim_var (sim_c fun _ _ _ => .int _))))) sim_nil))))))
theorem len_l_law_shape {K : PySem.W.Frag} {vs : List V} {H : Hp} {Q : VK} {E : XK} (h : sp_l_law_shape K vs H Q E) : vs.length = ["_law_bag_here", "_law_names_here", "_law_part"].length := len_spM (ps := ["_law_bag_here", "_law_names_here", "_law_part"]) (fun _ _ _ h => len_fnM h) h
theorem pure_l_law_shape {K : PySem.W.Frag} (kf : KF K) (vs : List V) (H : Hp) (Q : VK) (E : XK) (h : sp_l_law_shape K vs H Q E) : t_l_law_shape K { nx := fun _ H' => Q .non H', rt := Q } (L2.start ["_law_bag_here", "_law_names_here", "_law_part", "_law_left", "_law_fixed", "_law_turn"] vs) H := pure_fnM (n := 3) (k := 3) rfl (si_l_law_shape kf) h
abbrev sp_l_law_told_right (K : PySem.W.Frag) : Sp := spM K m_l_law_told_right
def t_l_law_told_right (K : PySem.W.Frag) : TS := (tSeq (tAsg (tCB (rSrt K) (tCons (tLc (iU K (tOp (uIx K) (tVar 2) (tC (.int 0)))) (gName 10) tYes (tOp (uIx K) (tVar 1) (tVar 10)) [10]) tNil)) (gName 3))
    (tSeq (tAsg (tIf (tTest (tOp uIs (tOp (uIx K) (tVar 2) (tC (.int 1))) (tC .non))) (tC .non) (tOp (uIx K) (tVar 1) (tOp (uIx K) (tVar 2) (tC (.int 1))))) (gName 4))
    (tSeq (tAsg (tCB (rSrt K) (tCons (tOp (uAdd K) (tVar 3) (tLc (iU K (tLst (tCons (tVar 4) tNil))) (gName 11) (tTest (tOp uIsnt (tVar 11) (tC .non))) (tVar 11) [11])) tNil)) (gName 5))
    (tSeq (tAsg (tOp (uAdd K) (tIf (tTest (tOp (uNe K) (tVar 3) (tLst tNil))) (tBM K "str" (rJoin K) (tC (.str "+")) (tCons (tVar 3) tNil)) (tC (.str "-"))) (tIf (tTest (tOp uIs (tVar 4) (tC .non))) (tC (.str "")) (tOp (uAdd K) (tC (.str ":")) (tVar 4)))) (gName 6))
    (tSeq (tAsg (tIf (tTest (tOp uIs (tVar 4) (tC .non))) (tLst (tCons (tVar 3) tNil)) (tLst (tCons (tVar 3) (tCons (tVar 5) tNil)))) (gName 7))
    (tSeq (tFor (iRng1 (tCons (tC (.int 2)) tNil)) (gName 8) (tSeq (tAsg (tLst (tCons (tMeth (He.ga K "Shape") "fixed" (sp_Shape_fixed K) [] E0 (tVar 0) tNil) (tCons (tMeth (He.ga K "Shape") "columns" (sp_Shape_columns K) [] E0 (tVar 0) tNil) (tCons (tMeth (He.ga K "Shape") "sets" (sp_Shape_sets K) [] E0 (tVar 0) tNil) tNil)))) (gName 9))
    (tSeq (tIfS (tOr (tTest (tOp (uNe K) (tCB (uRepr K) (tCons (tVar 9) tNil)) (tCB (uRepr K) (tCons (tLst (tCons (tVar 3) (tCons (tVar 5) (tCons (tVar 7) tNil)))) tNil)))) (tTest (tOp (uNe K) (tCB (uRepr K) (tCons (tProp (He.ga K "Shape") (sp_Shape_span K) [] E0 (tVar 0)) tNil)) (tCB (uRepr K) (tCons (tVar 4) tNil))))) (tRet (tC (.bl false))) tNext)
    (tSeq (tIfS (tOr (tTest (tOp (uNe K) (tCB (rLenO (He.ga K "Shape") (sp_Shape_D_len_D K) E0) (tCons (tVar 0) tNil)) (tCB (uLen K) (tCons (tVar 5) tNil)))) (tTest (tOp (uNe K) (tCB (rStrO (He.ga K "Shape") (sp_Shape_D_str_D K) E0) (tCons (tVar 0) tNil)) (tVar 6)))) (tRet (tC (.bl false))) tNext)
    (tSeq (tDrop (tBM K "list" rAppend (tOp (uIx K) (tOp (uIx K) (tVar 9) (tC (.int 2))) (tC (.int 0))) (tCons (tC (.str "late")) tNil)))
    (tSeq (tDrop (tBM K "list" rAppend (tOp (uIx K) (tVar 9) (tC (.int 2))) (tCons (tLst tNil) tNil)))
    (tSeq (tDrop (tBM K "list" rAppend (tOp (uIx K) (tVar 9) (tC (.int 0))) (tCons (tC (.int 1)) tNil)))
    (tDrop (tBM0 K "list" rReverse (tOp (uIx K) (tVar 9) (tC (.int 1))))))))))))
    (tRet (tC (.bl true)))))))))
theorem si_l_law_told_right {K : PySem.W.Frag} {WW : WX} (kf : KF K) : SimS K WW (t_l_law_told_right K) b_l_law_told_right := (sim_seq (sim_asg (sim_cb o_srt (sim_cons (sim_lc (sim_iU (sim_op o_ix sim_var (sim_c fun _ _ _ => .int _))) sim_gnameC (ok_name (by decide)) sim_yes (sim_op o_ix sim_var sim_var)) sim_nil)) sim_gnameC)
    (sim_seq (sim_asg (sim_if (sim_test (sim_op o_is (sim_op o_ix sim_var (sim_c fun _ _ _ => .int _)) (sim_c fun _ _ _ => .non))) (sim_c fun _ _ _ => .non) (sim_op o_ix sim_var (sim_op o_ix sim_var (sim_c fun _ _ _ => .int _)))) sim_gnameC)
    (sim_seq (sim_asg (sim_cb o_srt (sim_cons (sim_op o_add sim_var (sim_lc (sim_iU (sim_lst (sim_cons sim_var sim_nil))) sim_gnameC (ok_name (by decide)) (sim_test (sim_op o_isnt sim_var (sim_c fun _ _ _ => .non))) sim_var)) sim_nil)) sim_gnameC)
    (sim_seq (sim_asg (sim_op o_add (sim_if (sim_test (sim_op o_ne sim_var (sim_lst sim_nil))) (sim_bs rfl o_join (sim_c fun _ _ _ => .str _) (sim_cons sim_var sim_nil)) (sim_c fun _ _ _ => .str _)) (sim_if (sim_test (sim_op o_is sim_var (sim_c fun _ _ _ => .non))) (sim_c fun _ _ _ => .str _) (sim_op o_add (sim_c fun _ _ _ => .str _) sim_var))) sim_gnameC)
    (sim_seq (sim_asg (sim_if (sim_test (sim_op o_is sim_var (sim_c fun _ _ _ => .non))) (sim_lst (sim_cons sim_var sim_nil)) (sim_lst (sim_cons sim_var (sim_cons sim_var sim_nil)))) sim_gnameC)
    (sim_seq (sim_for (sim_rng1 (sim_cons (sim_c fun _ _ _ => .int _) sim_nil)) sim_gnameC (sim_seq (sim_asg (sim_lst (sim_cons (sim_ce (sim_meth sim_var sim_nil)) (sim_cons (sim_ce (sim_meth sim_var sim_nil)) (sim_cons (sim_ce (sim_meth sim_var sim_nil)) sim_nil)))) sim_gnameC)
    (sim_seq (sim_ifs (sim_or (sim_test (sim_op o_ne (sim_cbS o_repr (sim_cons sim_var sim_nil)) (sim_cb o_repr (sim_cons (sim_lst (sim_cons sim_var (sim_cons sim_var (sim_cons sim_var sim_nil)))) sim_nil)))) (sim_test (sim_op o_ne (sim_cb o_repr (sim_cons (sim_prop sim_var) sim_nil)) (sim_cb o_repr (sim_cons sim_var sim_nil))))) (sim_ret (sim_c fun _ _ _ => .bl _)) sim_next)
    (sim_seq (sim_ifs (sim_or (sim_test (sim_op o_ne (sim_lenO (sim_cons sim_var sim_nil)) (sim_cb o_len (sim_cons sim_var sim_nil)))) (sim_test (sim_op o_ne (sim_strO (sim_cons sim_var sim_nil)) sim_var))) (sim_ret (sim_c fun _ _ _ => .bl _)) sim_next)
    (sim_seq (sim_drop (sim_mut rfl mu_append (sim_op o_ix (sim_op o_ix sim_var (sim_c fun _ _ _ => .int _)) (sim_c fun _ _ _ => .int _)) (sim_cons (sim_c fun _ _ _ => .str _) sim_nil)))
    (sim_seq (sim_drop (sim_mut rfl mu_append (sim_op o_ix sim_var (sim_c fun _ _ _ => .int _)) (sim_cons (sim_lst sim_nil) sim_nil)))
    (sim_seq (sim_drop (sim_mut rfl mu_append (sim_op o_ix sim_var (sim_c fun _ _ _ => .int _)) (sim_cons (sim_c fun _ _ _ => .int _) sim_nil)))
    (sim_drop (sim_mut0 rfl mu_reverse (sim_op o_ix sim_var (sim_c fun _ _ _ => .int _)))))))))))
    (sim_ret (sim_c fun _ _ _ => .bl _))))))))
theorem len_l_law_told_right {K : PySem.W.Frag} {vs : List V} {H : Hp} {Q : VK} {E : XK} (h : sp_l_law_told_right K vs H Q E) : vs.length = ["_law_shape_here", "_law_names_here", "_law_part"].length := len_spM (ps := ["_law_shape_here", "_law_names_here", "_law_part"]) (fun _ _ _ h => len_fnM h) h
theorem pure_l_law_told_right {K : PySem.W.Frag} (kf : KF K) (vs : List V) (H : Hp) (Q : VK) (E : XK) (h : sp_l_law_told_right K vs H Q E) : t_l_law_told_right K { nx := fun _ H' => Q .non H', rt := Q } (L2.start ["_law_shape_here", "_law_names_here", "_law_part", "_law_fixed", "_law_span", "_law_whole_here", "_law_text", "_law_sets", "_law_turn", "_law_found", "_law_at", "_law_one"] vs) H := pure_fnM (n := 3) (k := 9) rfl (si_l_law_told_right kf) h
abbrev sp_l_law_others (K : PySem.W.Frag) : Sp := spM K m_l_law_others
def t_l_law_others (K : PySem.W.Frag) : TS := (tSeq (tAsg (tTup (tCons (tLst tNil) (tCons (tCall (sp_l_law_whole K) [] E0 (tCons (tVar 2) tNil)) tNil))) (gTup K 2 (gCons (gName 3) (gCons (gName 4) gNil))))
    (tSeq (tFor (iU K (tOp (uIx K) (tVar 2) (tC (.int 0)))) (gName 5) (tSeq (tAsg (tLc (iU K (tOp (uIx K) (tVar 2) (tC (.int 0)))) (gName 7) (tTest (tOp (uNe K) (tVar 7) (tVar 5))) (tVar 7) [7]) (gName 6))
    (tSeq (tDrop (tBM K "list" rAppend (tVar 3) (tCons (tTup (tCons (tVar 6) (tCons (tOp (uIx K) (tVar 2) (tC (.int 1))) tNil))) tNil)))
    (tDrop (tBM K "list" rAppend (tVar 3) (tCons (tTup (tCons (tVar 6) (tCons (tVar 5) tNil))) tNil))))))
    (tSeq (tFor (iU K (tLc (iRng1 (tCons (tCB (uLen K) (tCons (tVar 1) tNil)) tNil)) (gName 7) (tTest (tOp (uNi K) (tVar 7) (tVar 4))) (tVar 7) [7])) (gName 5) (tSeq (tIfS (tOr (tTest (tOp (uLt K) (tCB (uLen K) (tCons (tVar 4) tNil)) (tC (.int 5)))) (tTest (tOp uIsnt (tOp (uIx K) (tVar 2) (tC (.int 1))) (tC .non)))) (tDrop (tBM K "list" rAppend (tVar 3) (tCons (tTup (tCons (tOp (uIx K) (tVar 2) (tC (.int 0))) (tCons (tVar 5) tNil))) tNil))) tNext)
    (tIfS (tTest (tOp (uLt K) (tCB (uLen K) (tCons (tVar 4) tNil)) (tC (.int 5)))) (tDrop (tBM K "list" rAppend (tVar 3) (tCons (tTup (tCons (tOp (uAdd K) (tOp (uIx K) (tVar 2) (tC (.int 0))) (tLst (tCons (tVar 5) tNil))) (tCons (tOp (uIx K) (tVar 2) (tC (.int 1))) tNil))) tNil))) tNext)))
    (tSeq (tIfS (tTest (tOp uIsnt (tOp (uIx K) (tVar 2) (tC (.int 1))) (tC .non))) (tSeq (tDrop (tBM K "list" rAppend (tVar 3) (tCons (tTup (tCons (tOp (uIx K) (tVar 2) (tC (.int 0))) (tCons (tC .non) tNil))) tNil)))
    (tDrop (tBM K "list" rAppend (tVar 3) (tCons (tTup (tCons (tVar 4) (tCons (tC .non) tNil))) tNil)))) tNext)
    (tRet (tLc (iU K (tVar 3)) (gName 7) (tTest (tOp (uLt K) (tCB (uLen K) (tCons (tCall (sp_l_law_whole K) [] E0 (tCons (tVar 7) tNil)) tNil)) (tC (.int 6)))) (tCall (sp_l_law_shape K) [] E0 (tCons (tVar 0) (tCons (tVar 1) (tCons (tVar 7) tNil)))) [7]))))))
theorem si_l_law_others {K : PySem.W.Frag} {WW : WX} (kf : KF K) : SimS K WW (t_l_law_others K) b_l_law_others := (sim_seq (sim_asg (sim_tup (sim_cons (sim_ce (sim_lst sim_nil)) (sim_cons (sim_fr (sim_call (sim_cons (sim_fr sim_var) sim_nil))) sim_nil))) (sim_gtup (sim_gcons sim_gname (sim_gcons sim_gnameC sim_gnil))))
    (sim_seq (sim_for (sim_iU (sim_op o_ix sim_var (sim_c fun _ _ _ => .int _))) sim_gnameC (sim_seq (sim_asg (sim_lc (sim_iU (sim_op o_ix sim_var (sim_c fun _ _ _ => .int _))) sim_gnameC (ok_name (by decide)) (sim_test (sim_op o_ne sim_var sim_var)) sim_var) sim_gnameC)
    (sim_seq (sim_drop (sim_mut rfl mu_append sim_var (sim_cons (sim_tup (sim_cons sim_var (sim_cons (sim_op o_ix sim_var (sim_c fun _ _ _ => .int _)) sim_nil))) sim_nil)))
    (sim_drop (sim_mut rfl mu_append sim_var (sim_cons (sim_tup (sim_cons sim_var (sim_cons sim_var sim_nil))) sim_nil))))))
    (sim_seq (sim_for (sim_iU (sim_lc (sim_rng1 (sim_cons (sim_cb o_len (sim_cons sim_var sim_nil)) sim_nil)) sim_gnameC (ok_name (by decide)) (sim_test (sim_op o_ni sim_var sim_var)) sim_var)) sim_gnameC (sim_seq (sim_ifs (sim_or (sim_test (sim_op o_lt (sim_cb o_len (sim_cons sim_var sim_nil)) (sim_c fun _ _ _ => .int _))) (sim_test (sim_op o_isnt (sim_op o_ix sim_var (sim_c fun _ _ _ => .int _)) (sim_c fun _ _ _ => .non)))) (sim_drop (sim_mut rfl mu_append sim_var (sim_cons (sim_tup (sim_cons (sim_op o_ix sim_var (sim_c fun _ _ _ => .int _)) (sim_cons sim_var sim_nil))) sim_nil))) sim_next)
    (sim_ifs (sim_test (sim_op o_lt (sim_cb o_len (sim_cons sim_var sim_nil)) (sim_c fun _ _ _ => .int _))) (sim_drop (sim_mut rfl mu_append sim_var (sim_cons (sim_tup (sim_cons (sim_op o_add (sim_op o_ix sim_var (sim_c fun _ _ _ => .int _)) (sim_lst (sim_cons sim_var sim_nil))) (sim_cons (sim_op o_ix sim_var (sim_c fun _ _ _ => .int _)) sim_nil))) sim_nil))) sim_next)))
    (sim_seq (sim_ifs (sim_test (sim_op o_isnt (sim_op o_ix sim_var (sim_c fun _ _ _ => .int _)) (sim_c fun _ _ _ => .non))) (sim_seq (sim_drop (sim_mut rfl mu_append sim_var (sim_cons (sim_tup (sim_cons (sim_op o_ix sim_var (sim_c fun _ _ _ => .int _)) (sim_cons (sim_c fun _ _ _ => .non) sim_nil))) sim_nil)))
    (sim_drop (sim_mut rfl mu_append sim_var (sim_cons (sim_tup (sim_cons sim_var (sim_cons (sim_c fun _ _ _ => .non) sim_nil))) sim_nil)))) sim_next)
    (sim_ret (sim_lc (sim_iU sim_var) sim_gnameC (ok_name (by decide)) (sim_test (sim_op o_lt (sim_cb o_len (sim_cons (sim_call (sim_cons (sim_fr sim_var) sim_nil)) sim_nil)) (sim_c fun _ _ _ => .int _))) (sim_call (sim_cons (sim_ce sim_var) (sim_cons (sim_fr sim_var) (sim_cons (sim_fr sim_var) sim_nil))))))))))
theorem len_l_law_others {K : PySem.W.Frag} {vs : List V} {H : Hp} {Q : VK} {E : XK} (h : sp_l_law_others K vs H Q E) : vs.length = ["_law_bag_here", "_law_names_here", "_law_part"].length := len_spM (ps := ["_law_bag_here", "_law_names_here", "_law_part"]) (fun _ _ _ h => len_fnM h) h
theorem pure_l_law_others {K : PySem.W.Frag} (kf : KF K) (vs : List V) (H : Hp) (Q : VK) (E : XK) (h : sp_l_law_others K vs H Q E) : t_l_law_others K { nx := fun _ H' => Q .non H', rt := Q } (L2.start ["_law_bag_here", "_law_names_here", "_law_part", "_law_found", "_law_whole_here", "_law_at", "_law_fewer", "_law_one"] vs) H := pure_fnM (n := 3) (k := 5) rfl (si_l_law_others kf) h
abbrev sp_law (K : PySem.W.Frag) : Sp := spM K m_law
def t_law (K : PySem.W.Frag) : TS := (tSeq (tFor (iRng1 (tCons (tCB rMax2 (tCons (tC (.int 2)) (tCons (tCB rMin2 (tCons (tC (.int 8)) (tCons (tCB (uLen K) (tCons (tVar 0) tNil)) tNil))) tNil))) tNil)) (gName 1) (tSeq (tAsg (tCall (sp_l_law_bag K) [] E0 (tCons (tCall (sp_l_law_cell K) [] E0 (tCons (tVar 0) (tCons (tVar 1) tNil))) tNil)) (gName 2))
    (tSeq (tAsg (tCall (sp_l_law_names K) [] E0 (tCons (tVar 2) (tCons (tOp (uAdd K) (tC (.int 1)) (tCall (sp_l_law_take K) [] E0 (tCons (tVar 2) (tCons (tC (.int 8)) tNil)))) tNil))) (gName 3))
    (tFor (iU K (tOp (uAdd K) (tCall (sp_l_law_parts K) [] E0 (tCons (tVar 2) (tCons (tCB (uLen K) (tCons (tVar 3) tNil)) (tCons (tC (.int 6)) tNil)))) (tLst (tCons (tTup (tCons (tLst tNil) (tCons (tC .non) tNil))) tNil)))) (gName 4) (tSeq (tAsg (tRevL K (tLc (iU K (tOp (uIx K) (tVar 4) (tC (.int 0)))) (gName 10) tYes (tOp (uIx K) (tVar 3) (tVar 10)) [10])) (gName 5))
    (tSeq (tAsg (tIf (tTest (tOp uIs (tOp (uIx K) (tVar 4) (tC (.int 1))) (tC .non))) (tC .non) (tOp (uIx K) (tVar 3) (tOp (uIx K) (tVar 4) (tC (.int 1))))) (gName 6))
    (tSeq (tAsg (tLst (tCons (tMake (He.ga K "Shape") (sp_Shape_D_init_D K) [] E0 (tCons (tVar 5) (tCons (tVar 6) tNil))) (tCons (tCall (sp_l_law_shape K) [] E0 (tCons (tVar 2) (tCons (tVar 3) (tCons (tVar 4) tNil)))) (tCons (tMake (He.ga K "Shape") (sp_Shape_D_init_D K) [] E0 (tCons (tCB (uTuple K) (tCons (tVar 5) tNil)) (tCons (tVar 6) tNil))) tNil)))) (gName 7))
    (tSeq (tIfS (tTest (tOp uIs (tOp (uIx K) (tVar 4) (tC (.int 1))) (tC .non))) (tDrop (tBM K "list" rAppend (tVar 7) (tCons (tMake (He.ga K "Shape") (sp_Shape_D_init_D K) [V.non] E0 (tCons (tVar 5) tNil)) tNil))) tNext)
    (tSeq (tDrop (tBM K "list" rAppend (tVar 5) (tCons (tC (.str "late")) tNil)))
    (tSeq (tFor (iU K (tVar 7)) (gName 8) (tSeq (tIfS (tNot (tTruK K (tCall (sp_l_law_told_right K) [] E0 (tCons (tVar 8) (tCons (tVar 3) (tCons (tVar 4) tNil)))))) (tRet (tC (.bl false))) tNext)
    (tSeq (tIfS (tTest (tOp (uNe K) (tLc (iU K (tVar 7)) (gName 11) (tOr (tTest (tOp rNotB (tOp (rEqO K (He.ga K "Shape") (sp_Shape_D_eq_D K) E0) (tVar 11) (tVar 8)) (tC (.bl true)))) (tTest (tOp (rNeO K (He.ga K "Shape") (sp_Shape_D_eq_D K) E0) (tVar 11) (tVar 8)))) (tVar 11) [11]) (tLst tNil))) (tRet (tC (.bl false))) tNext)
    (tSeq (tIfS (tTest (tOp (uNe K) (tLc (iU K (tCall (sp_l_law_others K) [] E0 (tCons (tVar 2) (tCons (tVar 3) (tCons (tVar 4) tNil))))) (gName 11) (tOr (tTest (tOp (rEqO K (He.ga K "Shape") (sp_Shape_D_eq_D K) E0) (tVar 11) (tVar 8))) (tNot (tTest (tOp (rNeO K (He.ga K "Shape") (sp_Shape_D_eq_D K) E0) (tVar 11) (tVar 8))))) (tVar 11) [11]) (tLst tNil))) (tRet (tC (.bl false))) tNext)
    (tSeq (tAsg (tLst (tCons (tC .non) (tCons (tC (.bl true)) (tCons (tC (.int 0)) (tCons (tCB (rStrO (He.ga K "Shape") (sp_Shape_D_str_D K) E0) (tCons (tVar 8) tNil)) (tCons (tMeth (He.ga K "Shape") "fixed" (sp_Shape_fixed K) [] E0 (tVar 8) tNil) (tCons (tMeth (He.ga K "Shape") "sets" (sp_Shape_sets K) [] E0 (tVar 8) tNil) (tCons (tCB (uTuple K) (tCons (tMeth (He.ga K "Shape") "columns" (sp_Shape_columns K) [] E0 (tVar 8) tNil) tNil)) (tCons tDNewK (tCons (tCB (rLenO (He.ga K "Shape") (sp_Shape_D_len_D K) E0) (tCons (tVar 8) tNil)) tNil)))))))))) (gName 9))
    (tIfS (tTest (tOp (uNe K) (tLc (iU K (tVar 9)) (gName 12) (tOr (tTest (tOp (rEqO K (He.ga K "Shape") (sp_Shape_D_eq_D K) E0) (tVar 8) (tVar 12))) (tNot (tTest (tOp (rNeO K (He.ga K "Shape") (sp_Shape_D_eq_D K) E0) (tVar 8) (tVar 12))))) (tVar 12) [12]) (tLst tNil))) (tRet (tC (.bl false))) tNext))))))
    (tIfS (tNot (tTruK K (tCB (vIsi K) (tCons (tCB (rReprO (He.ga K "Shape") (sp_Shape_D_repr_D K) E0) (tCons (tOp (uIx K) (tVar 7) (tC (.int 0))) tNil)) (tCons (tC (.ty "str")) tNil))))) (tRet (tC (.bl false))) tNext)))))))))))
    (tRet (tC (.bl true))))
theorem si_law {K : PySem.W.Frag} {WW : WX} (kf : KF K) : SimS K WW (t_law K) b_law := (sim_seq (sim_for (sim_rng1 (sim_cons (sim_cb o_max2 (sim_cons (sim_c fun _ _ _ => .int _) (sim_cons (sim_cb o_min2 (sim_cons (sim_c fun _ _ _ => .int _) (sim_cons (sim_cb o_len (sim_cons sim_var sim_nil)) sim_nil))) sim_nil))) sim_nil)) sim_gnameC (sim_seq (sim_asg (sim_call (sim_cons (sim_fr (sim_call (sim_cons (sim_fr sim_var) (sim_cons (sim_fr sim_var) sim_nil)))) sim_nil)) sim_gname)
    (sim_seq (sim_asg (sim_call (sim_cons (sim_ce sim_var) (sim_cons (sim_fr (sim_op o_add (sim_c fun _ _ _ => .int _) (sim_call (sim_cons (sim_ce sim_var) (sim_cons (sim_fr (sim_c fun _ _ _ => .int _)) sim_nil))))) sim_nil))) sim_gnameC)
    (sim_for (sim_iU (sim_op o_add (sim_call (sim_cons (sim_ce sim_var) (sim_cons (sim_fr (sim_cb o_len (sim_cons sim_var sim_nil))) (sim_cons (sim_fr (sim_c fun _ _ _ => .int _)) sim_nil)))) (sim_lst (sim_cons (sim_tup (sim_cons (sim_lst sim_nil) (sim_cons (sim_c fun _ _ _ => .non) sim_nil))) sim_nil)))) sim_gnameC (sim_seq (sim_asg (sim_rev (sim_lc (sim_iU (sim_op o_ix sim_var (sim_c fun _ _ _ => .int _))) sim_gnameC (ok_name (by decide)) sim_yes (sim_op o_ix sim_var sim_var))) sim_gname)
    (sim_seq (sim_asg (sim_if (sim_test (sim_op o_is (sim_op o_ix sim_var (sim_c fun _ _ _ => .int _)) (sim_c fun _ _ _ => .non))) (sim_c fun _ _ _ => .non) (sim_op o_ix sim_var (sim_op o_ix sim_var (sim_c fun _ _ _ => .int _)))) sim_gnameC)
    (sim_seq (sim_asg (sim_lst (sim_cons (sim_make (fun _ _ _ => .nil) (sim_cons (sim_fr sim_var) (sim_cons (sim_fr sim_var) sim_nil))) (sim_cons (sim_call (sim_cons (sim_ce sim_var) (sim_cons (sim_fr sim_var) (sim_cons (sim_fr sim_var) sim_nil)))) (sim_cons (sim_make (fun _ _ _ => .nil) (sim_cons (sim_fr (sim_cb o_tuple (sim_cons sim_var sim_nil))) (sim_cons (sim_fr sim_var) sim_nil))) sim_nil)))) sim_gname)
    (sim_seq (sim_ifs (sim_test (sim_op o_is (sim_op o_ix sim_var (sim_c fun _ _ _ => .int _)) (sim_c fun _ _ _ => .non))) (sim_drop (sim_mut rfl mu_append sim_var (sim_cons (sim_make (fun _ _ _ => (.cons .non .nil)) (sim_cons (sim_fr sim_var) sim_nil)) sim_nil))) sim_next)
    (sim_seq (sim_drop (sim_mut rfl mu_append sim_var (sim_cons (sim_c fun _ _ _ => .str _) sim_nil)))
    (sim_seq (sim_for (sim_iU sim_var) sim_gnameC (sim_seq (sim_ifs (sim_not (sim_tru (sim_call (sim_cons (sim_fr sim_var) (sim_cons (sim_fr sim_var) (sim_cons (sim_fr sim_var) sim_nil)))))) (sim_ret (sim_c fun _ _ _ => .bl _)) sim_next)
    (sim_seq (sim_ifs (sim_test (sim_op o_ne (sim_lc (sim_iU sim_var) sim_gnameC (ok_name (by decide)) (sim_or (sim_test (sim_op o_isntB (sim_eqO kf.k6 sim_var sim_var) (sim_c fun _ _ _ => .bl _))) (sim_test (sim_neO kf.k6 sim_var sim_var))) sim_var) (sim_lst sim_nil))) (sim_ret (sim_c fun _ _ _ => .bl _)) sim_next)
    (sim_seq (sim_ifs (sim_test (sim_op o_ne (sim_lc (sim_iU (sim_call (sim_cons (sim_ce sim_var) (sim_cons (sim_fr sim_var) (sim_cons (sim_fr sim_var) sim_nil))))) sim_gnameC (ok_name (by decide)) (sim_or (sim_test (sim_eqO kf.k6 sim_var sim_var)) (sim_not (sim_test (sim_neO kf.k6 sim_var sim_var)))) sim_var) (sim_lst sim_nil))) (sim_ret (sim_c fun _ _ _ => .bl _)) sim_next)
    (sim_seq (sim_asg (sim_lst (sim_cons (sim_c fun _ _ _ => .non) (sim_cons (sim_c fun _ _ _ => .bl _) (sim_cons (sim_c fun _ _ _ => .int _) (sim_cons (sim_strO (sim_cons sim_var sim_nil)) (sim_cons (sim_meth sim_var sim_nil) (sim_cons (sim_meth sim_var sim_nil) (sim_cons (sim_cb o_tuple (sim_cons (sim_meth sim_var sim_nil) sim_nil)) (sim_cons sim_dnew (sim_cons (sim_lenO (sim_cons sim_var sim_nil)) sim_nil)))))))))) sim_gnameC)
    (sim_ifs (sim_test (sim_op o_ne (sim_lc (sim_iU sim_var) sim_gnameC (ok_name (by decide)) (sim_or (sim_test (sim_eqO kf.k6 sim_var sim_var)) (sim_not (sim_test (sim_neO kf.k6 sim_var sim_var)))) sim_var) (sim_lst sim_nil))) (sim_ret (sim_c fun _ _ _ => .bl _)) sim_next))))))
    (sim_ifs (sim_not (sim_tru (sim_cb (o_isi kf.k2) (sim_cons (sim_reprO (sim_cons (sim_op o_ix sim_var (sim_c fun _ _ _ => .int _)) sim_nil)) (sim_cons (sim_c fun _ _ _ => .ty _) sim_nil))))) (sim_ret (sim_c fun _ _ _ => .bl _)) sim_next)))))))))))
    (sim_ret (sim_c fun _ _ _ => .bl _)))
theorem len_law {K : PySem.W.Frag} {vs : List V} {H : Hp} {Q : VK} {E : XK} (h : sp_law K vs H Q E) : vs.length = ["_law_script"].length := len_spM (ps := ["_law_script"]) (fun _ _ _ h => len_fnM h) h
theorem pure_law {K : PySem.W.Frag} (kf : KF K) (vs : List V) (H : Hp) (Q : VK) (E : XK) (h : sp_law K vs H Q E) : t_law K { nx := fun _ H' => Q .non H', rt := Q } (L2.start ["_law_script", "_law_index", "_law_bag_here", "_law_names_here", "_law_part", "_law_passed", "_law_span", "_law_made", "_law_shape_here", "_law_odds", "_law_at", "_law_one", "_law_odd"] vs) H := pure_fnM (n := 1) (k := 12) rfl (si_law kf) h
end K04

/-! searchorders_k04_shapes_told: the defs and the end -/
namespace K04
open PySem PySem.Spec PySem.Calls PyProof PyProof.Rows L2 SL CM
def top (i : Nat) : Stmt := PySem.Challenge.pw_searchorders_k04_shapes_told.main.body.getD i (.Pass ⟨0, 0, 0, 0⟩)
abbrev s_is_name : Stmt := (top 10)
def d_is_name : He.DefD := ⟨("is_name", none), "is_name", "is_name", defArgs s_is_name, defBody s_is_name, defScope s_is_name, [], []⟩
abbrev s_is_list : Stmt := (top 11)
def d_is_list : He.DefD := ⟨("is_list", none), "is_list", "is_list", defArgs s_is_list, defBody s_is_list, defScope s_is_list, [], []⟩
abbrev s_Shape_D_init_D : Stmt := (inClass (top 15) 0)
def d_Shape_D_init_D : He.DefD := ⟨("Shape", some "__init__"), "__init__", "Shape.__init__", defArgs s_Shape_D_init_D, defBody s_Shape_D_init_D, defScope s_Shape_D_init_D, [.non], []⟩
abbrev s_Shape_span : Stmt := (inClass (top 15) 1)
def d_Shape_span : He.DefD := ⟨("Shape", some "span"), "span", "Shape.span", defArgs s_Shape_span, defBody s_Shape_span, defScope s_Shape_span, [], []⟩
abbrev s_Shape_fixed : Stmt := (inClass (top 15) 2)
def d_Shape_fixed : He.DefD := ⟨("Shape", some "fixed"), "fixed", "Shape.fixed", defArgs s_Shape_fixed, defBody s_Shape_fixed, defScope s_Shape_fixed, [], []⟩
abbrev s_Shape_columns : Stmt := (inClass (top 15) 3)
def d_Shape_columns : He.DefD := ⟨("Shape", some "columns"), "columns", "Shape.columns", defArgs s_Shape_columns, defBody s_Shape_columns, defScope s_Shape_columns, [], []⟩
abbrev s_Shape_sets : Stmt := (inClass (top 15) 4)
def d_Shape_sets : He.DefD := ⟨("Shape", some "sets"), "sets", "Shape.sets", defArgs s_Shape_sets, defBody s_Shape_sets, defScope s_Shape_sets, [], []⟩
abbrev s_Shape_D_len_D : Stmt := (inClass (top 15) 6)
def d_Shape_D_len_D : He.DefD := ⟨("Shape", some "__len__"), "__len__", "Shape.__len__", defArgs s_Shape_D_len_D, defBody s_Shape_D_len_D, defScope s_Shape_D_len_D, [], []⟩
abbrev s_Shape_D_eq_D : Stmt := (inClass (top 15) 7)
def d_Shape_D_eq_D : He.DefD := ⟨("Shape", some "__eq__"), "__eq__", "Shape.__eq__", defArgs s_Shape_D_eq_D, defBody s_Shape_D_eq_D, defScope s_Shape_D_eq_D, [], []⟩
abbrev s_Shape_D_str_D : Stmt := (inClass (top 15) 8)
def d_Shape_D_str_D : He.DefD := ⟨("Shape", some "__str__"), "__str__", "Shape.__str__", defArgs s_Shape_D_str_D, defBody s_Shape_D_str_D, defScope s_Shape_D_str_D, [], []⟩
abbrev s_Shape_D_repr_D : Stmt := (inClass (top 15) 9)
def d_Shape_D_repr_D : He.DefD := ⟨("Shape", some "__repr__"), "__repr__", "Shape.__repr__", defArgs s_Shape_D_repr_D, defBody s_Shape_D_repr_D, defScope s_Shape_D_repr_D, [], []⟩
abbrev s_l_law_cell : Stmt := (top 17)
def d_l_law_cell : He.DefD := ⟨("_law_cell", none), "_law_cell", "_law_cell", defArgs s_l_law_cell, defBody s_l_law_cell, defScope s_l_law_cell, [], []⟩
abbrev s_l_law_bag : Stmt := (top 18)
def d_l_law_bag : He.DefD := ⟨("_law_bag", none), "_law_bag", "_law_bag", defArgs s_l_law_bag, defBody s_l_law_bag, defScope s_l_law_bag, [], []⟩
abbrev s_l_law_take : Stmt := (top 19)
def d_l_law_take : He.DefD := ⟨("_law_take", none), "_law_take", "_law_take", defArgs s_l_law_take, defBody s_l_law_take, defScope s_l_law_take, [], []⟩
abbrev s_l_law_names : Stmt := (top 20)
def d_l_law_names : He.DefD := ⟨("_law_names", none), "_law_names", "_law_names", defArgs s_l_law_names, defBody s_l_law_names, defScope s_l_law_names, [], []⟩
abbrev s_l_law_pick : Stmt := (top 21)
def d_l_law_pick : He.DefD := ⟨("_law_pick", none), "_law_pick", "_law_pick", defArgs s_l_law_pick, defBody s_l_law_pick, defScope s_l_law_pick, [], []⟩
abbrev s_l_law_near : Stmt := (top 23)
def d_l_law_near : He.DefD := ⟨("_law_near", none), "_law_near", "_law_near", defArgs s_l_law_near, defBody s_l_law_near, defScope s_l_law_near, [], []⟩
abbrev s_l_law_parts : Stmt := (top 22)
def d_l_law_parts : He.DefD := ⟨("_law_parts", none), "_law_parts", "_law_parts", defArgs s_l_law_parts, defBody s_l_law_parts, defScope s_l_law_parts, [], []⟩
abbrev s_l_law_whole : Stmt := (top 24)
def d_l_law_whole : He.DefD := ⟨("_law_whole", none), "_law_whole", "_law_whole", defArgs s_l_law_whole, defBody s_l_law_whole, defScope s_l_law_whole, [], []⟩
abbrev s_l_law_shape : Stmt := (top 26)
def d_l_law_shape : He.DefD := ⟨("_law_shape", none), "_law_shape", "_law_shape", defArgs s_l_law_shape, defBody s_l_law_shape, defScope s_l_law_shape, [], []⟩
abbrev s_l_law_told_right : Stmt := (top 27)
def d_l_law_told_right : He.DefD := ⟨("_law_told_right", none), "_law_told_right", "_law_told_right", defArgs s_l_law_told_right, defBody s_l_law_told_right, defScope s_l_law_told_right, [], []⟩
abbrev s_l_law_others : Stmt := (top 28)
def d_l_law_others : He.DefD := ⟨("_law_others", none), "_law_others", "_law_others", defArgs s_l_law_others, defBody s_l_law_others, defScope s_l_law_others, [], []⟩
abbrev s_law : Stmt := (top 29)
def d_law : He.DefD := ⟨("law", none), "law", "law", defArgs s_law, defBody s_law, defScope s_law, [], []⟩
abbrev Fun_is_name (K : PySem.W.Frag) (fd : FuncData) : Prop := FunD K d_is_name.name d_is_name.qual d_is_name.params d_is_name.body d_is_name.scope (d_is_name.dvs K) (d_is_name.kws K) (He.fAd K d_is_name.at_) fd
theorem bind_is_name {K : PySem.W.Frag} {fd : FuncData} (F : Fun_is_name K fd) : Binds K fd ["value"] [] := FunD.bindsN F fun _ _ _ _ _ _ us hl => match us, hl with | [_], _ => rfl
abbrev Fun_is_list (K : PySem.W.Frag) (fd : FuncData) : Prop := FunD K d_is_list.name d_is_list.qual d_is_list.params d_is_list.body d_is_list.scope (d_is_list.dvs K) (d_is_list.kws K) (He.fAd K d_is_list.at_) fd
theorem bind_is_list {K : PySem.W.Frag} {fd : FuncData} (F : Fun_is_list K fd) : Binds K fd ["value"] [] := FunD.bindsN F fun _ _ _ _ _ _ us hl => match us, hl with | [_], _ => rfl
abbrev Fun_Shape_D_init_D (K : PySem.W.Frag) (fd : FuncData) : Prop := FunD K d_Shape_D_init_D.name d_Shape_D_init_D.qual d_Shape_D_init_D.params d_Shape_D_init_D.body d_Shape_D_init_D.scope (d_Shape_D_init_D.dvs K) (d_Shape_D_init_D.kws K) (He.fAd K d_Shape_D_init_D.at_) fd
theorem bind_Shape_D_init_D {K : PySem.W.Frag} {fd : FuncData} (F : Fun_Shape_D_init_D K fd) : Binds K fd ["self", "fixed", "span"] [] := binds_all F (fun z => nomatch z) fun _ _ _ _ _ _ _ us its h1 h2 => match us, its, h1, h2 with | [x0, x1, x2], [y0], _, _ => ⟨_, rfl, rfl⟩
theorem bindD1_Shape_D_init_D {K : PySem.W.Frag} {fd : FuncData} (F : Fun_Shape_D_init_D K fd) : ∃ us, Vals [V.non] us ∧ Binds K fd ["self", "fixed", "span"] us := binds_fill F 2 0 (fun z => nomatch z) rfl rfl fun _ _ _ _ _ _ _ us its h1 h2 => match us, its, h1, h2 with | [x0, x1], [y0], _, _ => ⟨_, rfl, rfl⟩
abbrev Fun_Shape_span (K : PySem.W.Frag) (fd : FuncData) : Prop := FunD K d_Shape_span.name d_Shape_span.qual d_Shape_span.params d_Shape_span.body d_Shape_span.scope (d_Shape_span.dvs K) (d_Shape_span.kws K) (pgA K "Shape" "span") fd
theorem bind_Shape_span {K : PySem.W.Frag} {fd : FuncData} (F : Fun_Shape_span K fd) : Binds K fd ["self"] [] := FunD.bindsN F fun _ _ _ _ _ _ us hl => match us, hl with | [_], _ => rfl
abbrev Fun_Shape_fixed (K : PySem.W.Frag) (fd : FuncData) : Prop := FunD K d_Shape_fixed.name d_Shape_fixed.qual d_Shape_fixed.params d_Shape_fixed.body d_Shape_fixed.scope (d_Shape_fixed.dvs K) (d_Shape_fixed.kws K) (He.fAd K d_Shape_fixed.at_) fd
theorem bind_Shape_fixed {K : PySem.W.Frag} {fd : FuncData} (F : Fun_Shape_fixed K fd) : Binds K fd ["self"] [] := FunD.bindsN F fun _ _ _ _ _ _ us hl => match us, hl with | [_], _ => rfl
abbrev Fun_Shape_columns (K : PySem.W.Frag) (fd : FuncData) : Prop := FunD K d_Shape_columns.name d_Shape_columns.qual d_Shape_columns.params d_Shape_columns.body d_Shape_columns.scope (d_Shape_columns.dvs K) (d_Shape_columns.kws K) (He.fAd K d_Shape_columns.at_) fd
theorem bind_Shape_columns {K : PySem.W.Frag} {fd : FuncData} (F : Fun_Shape_columns K fd) : Binds K fd ["self"] [] := FunD.bindsN F fun _ _ _ _ _ _ us hl => match us, hl with | [_], _ => rfl
abbrev Fun_Shape_sets (K : PySem.W.Frag) (fd : FuncData) : Prop := FunD K d_Shape_sets.name d_Shape_sets.qual d_Shape_sets.params d_Shape_sets.body d_Shape_sets.scope (d_Shape_sets.dvs K) (d_Shape_sets.kws K) (He.fAd K d_Shape_sets.at_) fd
theorem bind_Shape_sets {K : PySem.W.Frag} {fd : FuncData} (F : Fun_Shape_sets K fd) : Binds K fd ["self"] [] := FunD.bindsN F fun _ _ _ _ _ _ us hl => match us, hl with | [_], _ => rfl
abbrev Fun_Shape_D_len_D (K : PySem.W.Frag) (fd : FuncData) : Prop := FunD K d_Shape_D_len_D.name d_Shape_D_len_D.qual d_Shape_D_len_D.params d_Shape_D_len_D.body d_Shape_D_len_D.scope (d_Shape_D_len_D.dvs K) (d_Shape_D_len_D.kws K) (He.fAd K d_Shape_D_len_D.at_) fd
theorem bind_Shape_D_len_D {K : PySem.W.Frag} {fd : FuncData} (F : Fun_Shape_D_len_D K fd) : Binds K fd ["self"] [] := FunD.bindsN F fun _ _ _ _ _ _ us hl => match us, hl with | [_], _ => rfl
abbrev Fun_Shape_D_eq_D (K : PySem.W.Frag) (fd : FuncData) : Prop := FunD K d_Shape_D_eq_D.name d_Shape_D_eq_D.qual d_Shape_D_eq_D.params d_Shape_D_eq_D.body d_Shape_D_eq_D.scope (d_Shape_D_eq_D.dvs K) (d_Shape_D_eq_D.kws K) (He.fAd K d_Shape_D_eq_D.at_) fd
theorem bind_Shape_D_eq_D {K : PySem.W.Frag} {fd : FuncData} (F : Fun_Shape_D_eq_D K fd) : Binds K fd ["self", "other"] [] := FunD.bindsN F fun _ _ _ _ _ _ us hl => match us, hl with | [_, _], _ => rfl
abbrev Fun_Shape_D_str_D (K : PySem.W.Frag) (fd : FuncData) : Prop := FunD K d_Shape_D_str_D.name d_Shape_D_str_D.qual d_Shape_D_str_D.params d_Shape_D_str_D.body d_Shape_D_str_D.scope (d_Shape_D_str_D.dvs K) (d_Shape_D_str_D.kws K) (He.fAd K d_Shape_D_str_D.at_) fd
theorem bind_Shape_D_str_D {K : PySem.W.Frag} {fd : FuncData} (F : Fun_Shape_D_str_D K fd) : Binds K fd ["self"] [] := FunD.bindsN F fun _ _ _ _ _ _ us hl => match us, hl with | [_], _ => rfl
abbrev Fun_Shape_D_repr_D (K : PySem.W.Frag) (fd : FuncData) : Prop := FunD K d_Shape_D_repr_D.name d_Shape_D_repr_D.qual d_Shape_D_repr_D.params d_Shape_D_repr_D.body d_Shape_D_repr_D.scope (d_Shape_D_repr_D.dvs K) (d_Shape_D_repr_D.kws K) (He.fAd K d_Shape_D_repr_D.at_) fd
theorem bind_Shape_D_repr_D {K : PySem.W.Frag} {fd : FuncData} (F : Fun_Shape_D_repr_D K fd) : Binds K fd ["self"] [] := FunD.bindsN F fun _ _ _ _ _ _ us hl => match us, hl with | [_], _ => rfl
abbrev Fun_l_law_cell (K : PySem.W.Frag) (fd : FuncData) : Prop := FunD K d_l_law_cell.name d_l_law_cell.qual d_l_law_cell.params d_l_law_cell.body d_l_law_cell.scope (d_l_law_cell.dvs K) (d_l_law_cell.kws K) (He.fAd K d_l_law_cell.at_) fd
theorem bind_l_law_cell {K : PySem.W.Frag} {fd : FuncData} (F : Fun_l_law_cell K fd) : Binds K fd ["_law_script", "_law_index"] [] := FunD.bindsN F fun _ _ _ _ _ _ us hl => match us, hl with | [_, _], _ => rfl
abbrev Fun_l_law_bag (K : PySem.W.Frag) (fd : FuncData) : Prop := FunD K d_l_law_bag.name d_l_law_bag.qual d_l_law_bag.params d_l_law_bag.body d_l_law_bag.scope (d_l_law_bag.dvs K) (d_l_law_bag.kws K) (He.fAd K d_l_law_bag.at_) fd
theorem bind_l_law_bag {K : PySem.W.Frag} {fd : FuncData} (F : Fun_l_law_bag K fd) : Binds K fd ["_law_cell_here"] [] := FunD.bindsN F fun _ _ _ _ _ _ us hl => match us, hl with | [_], _ => rfl
abbrev Fun_l_law_take (K : PySem.W.Frag) (fd : FuncData) : Prop := FunD K d_l_law_take.name d_l_law_take.qual d_l_law_take.params d_l_law_take.body d_l_law_take.scope (d_l_law_take.dvs K) (d_l_law_take.kws K) (He.fAd K d_l_law_take.at_) fd
theorem bind_l_law_take {K : PySem.W.Frag} {fd : FuncData} (F : Fun_l_law_take K fd) : Binds K fd ["_law_bag_here", "_law_many"] [] := FunD.bindsN F fun _ _ _ _ _ _ us hl => match us, hl with | [_, _], _ => rfl
abbrev Fun_l_law_names (K : PySem.W.Frag) (fd : FuncData) : Prop := FunD K d_l_law_names.name d_l_law_names.qual d_l_law_names.params d_l_law_names.body d_l_law_names.scope (d_l_law_names.dvs K) (d_l_law_names.kws K) (He.fAd K d_l_law_names.at_) fd
theorem bind_l_law_names {K : PySem.W.Frag} {fd : FuncData} (F : Fun_l_law_names K fd) : Binds K fd ["_law_bag_here", "_law_many"] [] := FunD.bindsN F fun _ _ _ _ _ _ us hl => match us, hl with | [_, _], _ => rfl
abbrev Fun_l_law_pick (K : PySem.W.Frag) (fd : FuncData) : Prop := FunD K d_l_law_pick.name d_l_law_pick.qual d_l_law_pick.params d_l_law_pick.body d_l_law_pick.scope (d_l_law_pick.dvs K) (d_l_law_pick.kws K) (He.fAd K d_l_law_pick.at_) fd
theorem bind_l_law_pick {K : PySem.W.Frag} {fd : FuncData} (F : Fun_l_law_pick K fd) : Binds K fd ["_law_bag_here", "_law_many", "_law_most"] [] := FunD.bindsN F fun _ _ _ _ _ _ us hl => match us, hl with | [_, _, _], _ => rfl
abbrev Fun_l_law_near (K : PySem.W.Frag) (fd : FuncData) : Prop := FunD K d_l_law_near.name d_l_law_near.qual d_l_law_near.params d_l_law_near.body d_l_law_near.scope (d_l_law_near.dvs K) (d_l_law_near.kws K) (He.fAd K d_l_law_near.at_) fd
theorem bind_l_law_near {K : PySem.W.Frag} {fd : FuncData} (F : Fun_l_law_near K fd) : Binds K fd ["_law_bag_here", "_law_many", "_law_part"] [] := FunD.bindsN F fun _ _ _ _ _ _ us hl => match us, hl with | [_, _, _], _ => rfl
abbrev Fun_l_law_parts (K : PySem.W.Frag) (fd : FuncData) : Prop := FunD K d_l_law_parts.name d_l_law_parts.qual d_l_law_parts.params d_l_law_parts.body d_l_law_parts.scope (d_l_law_parts.dvs K) (d_l_law_parts.kws K) (He.fAd K d_l_law_parts.at_) fd
theorem bind_l_law_parts {K : PySem.W.Frag} {fd : FuncData} (F : Fun_l_law_parts K fd) : Binds K fd ["_law_bag_here", "_law_many", "_law_most"] [] := FunD.bindsN F fun _ _ _ _ _ _ us hl => match us, hl with | [_, _, _], _ => rfl
abbrev Fun_l_law_whole (K : PySem.W.Frag) (fd : FuncData) : Prop := FunD K d_l_law_whole.name d_l_law_whole.qual d_l_law_whole.params d_l_law_whole.body d_l_law_whole.scope (d_l_law_whole.dvs K) (d_l_law_whole.kws K) (He.fAd K d_l_law_whole.at_) fd
theorem bind_l_law_whole {K : PySem.W.Frag} {fd : FuncData} (F : Fun_l_law_whole K fd) : Binds K fd ["_law_part"] [] := FunD.bindsN F fun _ _ _ _ _ _ us hl => match us, hl with | [_], _ => rfl
abbrev Fun_l_law_shape (K : PySem.W.Frag) (fd : FuncData) : Prop := FunD K d_l_law_shape.name d_l_law_shape.qual d_l_law_shape.params d_l_law_shape.body d_l_law_shape.scope (d_l_law_shape.dvs K) (d_l_law_shape.kws K) (He.fAd K d_l_law_shape.at_) fd
theorem bind_l_law_shape {K : PySem.W.Frag} {fd : FuncData} (F : Fun_l_law_shape K fd) : Binds K fd ["_law_bag_here", "_law_names_here", "_law_part"] [] := FunD.bindsN F fun _ _ _ _ _ _ us hl => match us, hl with | [_, _, _], _ => rfl
abbrev Fun_l_law_told_right (K : PySem.W.Frag) (fd : FuncData) : Prop := FunD K d_l_law_told_right.name d_l_law_told_right.qual d_l_law_told_right.params d_l_law_told_right.body d_l_law_told_right.scope (d_l_law_told_right.dvs K) (d_l_law_told_right.kws K) (He.fAd K d_l_law_told_right.at_) fd
theorem bind_l_law_told_right {K : PySem.W.Frag} {fd : FuncData} (F : Fun_l_law_told_right K fd) : Binds K fd ["_law_shape_here", "_law_names_here", "_law_part"] [] := FunD.bindsN F fun _ _ _ _ _ _ us hl => match us, hl with | [_, _, _], _ => rfl
abbrev Fun_l_law_others (K : PySem.W.Frag) (fd : FuncData) : Prop := FunD K d_l_law_others.name d_l_law_others.qual d_l_law_others.params d_l_law_others.body d_l_law_others.scope (d_l_law_others.dvs K) (d_l_law_others.kws K) (He.fAd K d_l_law_others.at_) fd
theorem bind_l_law_others {K : PySem.W.Frag} {fd : FuncData} (F : Fun_l_law_others K fd) : Binds K fd ["_law_bag_here", "_law_names_here", "_law_part"] [] := FunD.bindsN F fun _ _ _ _ _ _ us hl => match us, hl with | [_, _, _], _ => rfl
abbrev Fun_law (K : PySem.W.Frag) (fd : FuncData) : Prop := FunD K d_law.name d_law.qual d_law.params d_law.body d_law.scope (d_law.dvs K) (d_law.kws K) (He.fAd K d_law.at_) fd
theorem bind_law {K : PySem.W.Frag} {fd : FuncData} (F : Fun_law K fd) : Binds K fd ["_law_script"] [] := FunD.bindsN F fun _ _ _ _ _ _ us hl => match us, hl with | [_], _ => rfl
def defs : List DA := [⟨fun K => (He.fAd K d_is_name.at_), d_is_name⟩, ⟨fun K => (He.fAd K d_is_list.at_), d_is_list⟩, ⟨fun K => (He.fAd K d_Shape_D_init_D.at_), d_Shape_D_init_D⟩, ⟨fun K => (pgA K "Shape" "span"), d_Shape_span⟩, ⟨fun K => (He.fAd K d_Shape_fixed.at_), d_Shape_fixed⟩, ⟨fun K => (He.fAd K d_Shape_columns.at_), d_Shape_columns⟩, ⟨fun K => (He.fAd K d_Shape_sets.at_), d_Shape_sets⟩, ⟨fun K => (He.fAd K d_Shape_D_len_D.at_), d_Shape_D_len_D⟩, ⟨fun K => (He.fAd K d_Shape_D_eq_D.at_), d_Shape_D_eq_D⟩, ⟨fun K => (He.fAd K d_Shape_D_str_D.at_), d_Shape_D_str_D⟩, ⟨fun K => (He.fAd K d_Shape_D_repr_D.at_), d_Shape_D_repr_D⟩, ⟨fun K => (He.fAd K d_l_law_cell.at_), d_l_law_cell⟩, ⟨fun K => (He.fAd K d_l_law_bag.at_), d_l_law_bag⟩, ⟨fun K => (He.fAd K d_l_law_take.at_), d_l_law_take⟩, ⟨fun K => (He.fAd K d_l_law_names.at_), d_l_law_names⟩, ⟨fun K => (He.fAd K d_l_law_pick.at_), d_l_law_pick⟩, ⟨fun K => (He.fAd K d_l_law_near.at_), d_l_law_near⟩, ⟨fun K => (He.fAd K d_l_law_parts.at_), d_l_law_parts⟩, ⟨fun K => (He.fAd K d_l_law_whole.at_), d_l_law_whole⟩, ⟨fun K => (He.fAd K d_l_law_shape.at_), d_l_law_shape⟩, ⟨fun K => (He.fAd K d_l_law_told_right.at_), d_l_law_told_right⟩, ⟨fun K => (He.fAd K d_l_law_others.at_), d_l_law_others⟩, ⟨fun K => (He.fAd K d_law.at_), d_law⟩]
def looks : SL.Looks := [fun K => ownB K "Shape",
  fun K => (He.Fa.noat "Shape" "span_column").ok K,
  fun K => (He.Fa.meth "Shape" "fixed").ok K,
  fun K => (He.Fa.meth "Shape" "columns").ok K,
  fun K => (He.Fa.free "len").ok K,
  fun K => (He.Fa.free "max").ok K,
  fun K => (He.Fa.glo "_law_take").ok K,
  fun K => (He.Fa.free "all").ok K,
  fun K => (He.Fa.str "LETTERS" "abcdefghijklmnopqrstuvwxyz").ok K,
  fun K => (He.Fa.int "LONGEST_NAME" (8)).ok K,
  fun K => (He.Fa.free "isinstance").ok K,
  fun K => (He.Fa.free "str").ok K,
  fun K => tabB K (.ty "str") (tabK KS (.ty "str")),
  fun K => (He.Fa.free "tuple").ok K,
  fun K => (He.Fa.free "list").ok K,
  fun K => tabBT K [.ty "list", .ty "tuple"] (tabKT KS [.ty "list", .ty "tuple"]),
  fun K => (He.Fa.free "sorted").ok K,
  fun K => (He.Fa.noat "Shape" "fixed_columns").ok K,
  fun K => (He.Fa.int "MAX_COLUMNS" (5)).ok K,
  fun K => (He.Fa.glo "is_name").ok K,
  fun K => (He.Fa.free "enumerate").ok K,
  fun K => (He.Fa.glo "is_list").ok K,
  fun K => (He.Fa.glo "Shape").ok K,
  fun K => tabB K (.own "Shape") (tabK KS (.own "Shape")),
  fun K => (He.Fa.str "NOTHING" "-").ok K,
  fun K => (He.Fa.free "range").ok K,
  fun K => (He.Fa.free "min").ok K,
  fun K => (He.Fa.glo "_law_near").ok K,
  fun K => (He.Fa.glo "_law_pick").ok K,
  fun K => (He.Fa.mkr "Shape").ok K,
  fun K => specB K "Shape" "__str__",
  fun K => specB K "Shape" "__len__",
  fun K => (He.Fa.free "repr").ok K,
  fun K => propB K "Shape" "span",
  fun K => (He.Fa.meth "Shape" "sets").ok K,
  fun K => (He.Fa.glo "_law_whole").ok K,
  fun K => (He.Fa.glo "_law_shape").ok K,
  fun K => (He.Fa.glo "_law_parts").ok K,
  fun K => specB K "Shape" "__repr__",
  fun K => specB K "Shape" "__eq__",
  fun K => eqKsB K "Shape" KS,
  fun K => decide (PySem.W.findIn K (.ref (He.ga K "Shape")) "__ne__" = some (some (.builtin "object.__ne__"))),
  fun K => (He.Fa.glo "_law_others").ok K,
  fun K => (He.Fa.glo "_law_told_right").ok K,
  fun K => (He.Fa.glo "_law_names").ok K,
  fun K => (He.Fa.glo "_law_bag").ok K,
  fun K => (He.Fa.glo "_law_cell").ok K,
  fun K => (He.Fa.glo "law").ok K]
theorem kf_ok {K : PySem.W.Frag} (c : SaysA looks defs K) : KF K := ⟨ownB_ok (c.look 0), He.noat_ok (c.look 1), tabB_ok (c.look 12), tabBT_ok (c.look 15), He.noat_ok (c.look 17), tabB_ok (c.look 23), eqKsB_ok (c.look 40)⟩
theorem sc_is_name : FnScope ["value", "letter"] ["value"] (defScope s_is_name) := ⟨rfl, rfl, rfl, by decide +kernel, rfl, by decide +kernel, by decide +kernel⟩
theorem ok_is_name {P : Program} {w : World} {K : PySem.W.Frag} {mg : Str → Option Value} {base h : Heap} {fd : FuncData} (c : SaysA looks defs K) (hX : K.In h) (hG : h.Ns mainGlobals mg) (F_is_name : Fun_is_name K fd) : FnOk P w K mg base CX0 1 (He.fAd K d_is_name.at_) fd ["value"] (sp_is_name K) := by
  have F := F_is_name
  refine F.ok sc_is_name (fun vs H Q E h => len_is_name h) (fun cdv A outer s H vs Q E hr h => ⟨t_is_name K, PSs.nox ?_, pure_is_name (kf_ok c) vs H Q E h⟩)
  have hu := SL.hu64 hr
  exact (pss_cons (ps_if (PW.pt (pw_or (pt_not (pt_tru (pe_callB call_vIsi (by rfl) (He.free_ok hX hG (c.look 10)) (by decide +kernel) (pa_cons (pv 0) (pa_cons (pe_bltn (v := .ty "str") rfl (He.free_ok hX hG (c.look 11)) (by decide +kernel) rfl) pa_nil))) (by intro _; rfl))) (pw_or1 (pt_not (pt_chain (op_uLt hu) op_uLe pe_int (pe_callB call_uLen (by rfl) (He.free_ok hX hG (c.look 4)) (by decide +kernel) (pa_cons (pv 0) pa_nil)) (pe_gc rfl (gv_int (He.int_ok hX hG (c.look 9))))))))) (pss_one (ps_ret pe_bl)) pss_nil)
    (pss_one (ps_ret (pe_callB (cr_all rfl) (by rfl) (He.free_ok hX hG (c.look 7)) (by decide +kernel) (pa_cons (pe_lc (own := [("letter", 1)]) (wi := (iU K (tVar 0))) (g := (gName 1)) (tt := tYes) (te := (tOp (uIn K) (tVar 1) (tC (.str "abcdefghijklmnopqrstuvwxyz")))) (by rfl) sc_is_name.nd (pi_u (pv 0)) (blkOk_by (own := [("letter", 1)]) (N := ["value", "letter"]) (sc := defScope s_is_name) (by decide +kernel)) (fun _ _ _ _ _ => (pg_name (i := 1) sc_is_name.nd rfl (by first | exact Or.inl rfl | exact Or.inr rfl))) (fun _ _ _ _ _ => pts_nil) (fun _ _ _ _ _ => (pe_cmpR op_uIn (pv 1) (pe_gc rfl (gv_str (He.str_ok hX hG (c.look 8)))) (by rfl)))) pa_nil)))))
theorem sc_is_list : FnScope ["value"] ["value"] (defScope s_is_list) := ⟨rfl, rfl, rfl, by decide +kernel, rfl, by decide +kernel, by decide +kernel⟩
theorem ok_is_list {P : Program} {w : World} {K : PySem.W.Frag} {mg : Str → Option Value} {base h : Heap} {fd : FuncData} (c : SaysA looks defs K) (hX : K.In h) (hG : h.Ns mainGlobals mg) (F_is_list : Fun_is_list K fd) : FnOk P w K mg base CX0 1 (He.fAd K d_is_list.at_) fd ["value"] (sp_is_list K) := by
  have F := F_is_list
  refine F.ok sc_is_list (fun vs H Q E h => len_is_list h) (fun cdv A outer s H vs Q E hr h => ⟨t_is_list K, PSs.nox ?_, pure_is_list (kf_ok c) vs H Q E h⟩)
  have hu := SL.hu64 hr
  exact (pss_one (ps_ret (pe_callB call_vIsi (by rfl) (He.free_ok hX hG (c.look 10)) (by decide +kernel) (pa_cons (pv 0) (pa_cons (pe_tup (pa_cons (pe_bltn (v := .ty "list") rfl (He.free_ok hX hG (c.look 14)) (by decide +kernel) rfl) (pa_cons (pe_bltn (v := .ty "tuple") rfl (He.free_ok hX hG (c.look 13)) (by decide +kernel) rfl) pa_nil))) pa_nil)))))
theorem sc_Shape_D_init_D : FnScope ["self", "fixed", "span", "at", "column"] ["self", "fixed", "span"] (defScope s_Shape_D_init_D) := ⟨rfl, rfl, rfl, by decide +kernel, rfl, by decide +kernel, by decide +kernel⟩
theorem ok_Shape_D_init_D {P : Program} {w : World} {K : PySem.W.Frag} {mg : Str → Option Value} {base h : Heap} {fd : FuncData} {fd_is_name : FuncData} {fd_is_list : FuncData} (c : SaysA looks defs K) (hX : K.In h) (hG : h.Ns mainGlobals mg) (F_Shape_D_init_D : Fun_Shape_D_init_D K fd) (O_is_name : FnOk P w K mg base CX0 1 (He.fAd K d_is_name.at_) fd_is_name ["value"] (sp_is_name K)) (D_is_name : Fun_is_name K fd_is_name) (O_is_list : FnOk P w K mg base CX0 1 (He.fAd K d_is_list.at_) fd_is_list ["value"] (sp_is_list K)) (D_is_list : Fun_is_list K fd_is_list) : FnOk P w K mg base CX0 2 (He.fAd K d_Shape_D_init_D.at_) fd ["self", "fixed", "span"] (sp_Shape_D_init_D K) := by
  have B_is_name := bind_is_name D_is_name
  have K_is_name := D_is_name.kp
  have B_is_list := bind_is_list D_is_list
  have K_is_list := D_is_list.kp
  have F := F_Shape_D_init_D
  refine F.ok sc_Shape_D_init_D (fun vs H Q E h => len_Shape_D_init_D h) (fun cdv A outer s H vs Q E hr h => ⟨t_Shape_D_init_D K, PSs.nox ?_, pure_Shape_D_init_D (kf_ok c) vs H Q E h⟩)
  have hu := SL.hu64 hr
  have hr_is_name : Room 1 _ := hr.mono (by decide)
  have hr_is_list : Room 1 _ := hr.mono (by decide)
  exact (pss_cons (ps_if (PW.pt (pw_or (pt_not (pt_tru (pe_call O_is_list hr_is_list (by rfl) (He.glo_ok hX hG (c.look 21)) K_is_list B_is_list .nil pass0 (pa_cons (pv 1) pa_nil)) (by intro _; rfl))) (pw_or1 (pt_cmpR op_gt (pe_callB call_uLen (by rfl) (He.free_ok hX hG (c.look 4)) (by decide +kernel) (pa_cons (pv 1) pa_nil)) (pe_gc rfl (gv_int (He.int_ok hX hG (c.look 18)))) (nomark _))))) (pss_one ps_never) pss_nil)
    (pss_cons (ps_for PassesOwn.never rfl (pi_enumB (by rfl) (He.free_ok hX hG (c.look 20)) (pa_cons (pv 1) pa_nil)) (pg_tup rfl (pgs_cons (pg_name (i := 3) sc_Shape_D_init_D.nd rfl (by first | exact Or.inl rfl | exact Or.inr rfl)) (pgs_cons (pg_name (i := 4) sc_Shape_D_init_D.nd rfl (by first | exact Or.inl rfl | exact Or.inr rfl)) pgs_nil))) (pss_cons (ps_if (pt_not (pt_tru (pe_call O_is_name hr_is_name (by rfl) (He.glo_ok hX hG (c.look 19)) K_is_name B_is_name .nil pass0 (pa_cons (pv 4) pa_nil)) (by intro _; rfl))) (pss_one ps_never) pss_nil)
    (pss_one (ps_if (pt_cmpR op_uIn (pv 4) (pe_slice sl_u (pv 1) po_none (po_some (pv 3))) (by rfl)) (pss_one ps_never) pss_nil))))
    (pss_cons (ps_if (PW.pt (pw_and (pt_cmpR op_uIn0 (pv 2) pe_non (nomark _)) (pw_and1 (pt_not (pt_tru (pe_call O_is_name hr_is_name (by rfl) (He.glo_ok hX hG (c.look 19)) K_is_name B_is_name .nil pass0 (pa_cons (pv 2) pa_nil)) (by intro _; rfl)))))) (pss_one ps_never) pss_nil)
    (pss_cons (ps_if (pt_cmpR op_uIn (pv 2) (pv 1) (by rfl)) (pss_one ps_never) pss_nil)
    (pss_cons (ps_if (PW.pt (pw_and (pt_cmpR op_uIn0 (pv 2) pe_non (nomark _)) (pw_and1 (pt_cmpR (op_uEq hu) (pe_callB call_uLen (by rfl) (He.free_ok hX hG (c.look 4)) (by decide +kernel) (pa_cons (pv 1) pa_nil)) (pe_gc rfl (gv_int (He.int_ok hX hG (c.look 18)))) (nomark _))))) (pss_one ps_never) pss_nil)
    (pss_cons (ps_fld (pv 0) (pe_callB call_srt (by rfl) (He.free_ok hX hG (c.look 16)) (by decide +kernel) (pa_cons (pv 1) pa_nil)) rfl)
    (pss_one (ps_fld (pv 0) (pv 2) rfl))))))))
theorem sc_Shape_span : FnScope ["self"] ["self"] (defScope s_Shape_span) := ⟨rfl, rfl, rfl, by decide +kernel, rfl, by decide +kernel, by decide +kernel⟩
theorem ok_Shape_span {P : Program} {w : World} {K : PySem.W.Frag} {mg : Str → Option Value} {base h : Heap} {fd : FuncData} (c : SaysA looks defs K) (hX : K.In h) (hG : h.Ns mainGlobals mg) (F_Shape_span : Fun_Shape_span K fd) : FnOk P w K mg base CX0 1 (pgA K "Shape" "span") fd ["self"] (sp_Shape_span K) := by
  have F := F_Shape_span
  refine F.ok sc_Shape_span (fun vs H Q E h => len_Shape_span h) (fun cdv A outer s H vs Q E hr h => ⟨t_Shape_span K, PSs.nox ?_, pure_Shape_span (kf_ok c) vs H Q E h⟩)
  have hu := SL.hu64 hr
  exact (pss_one (ps_ret (pe_fld (pv 0) rfl)))
theorem sc_Shape_fixed : FnScope ["self"] ["self"] (defScope s_Shape_fixed) := ⟨rfl, rfl, rfl, by decide +kernel, rfl, by decide +kernel, by decide +kernel⟩
theorem ok_Shape_fixed {P : Program} {w : World} {K : PySem.W.Frag} {mg : Str → Option Value} {base h : Heap} {fd : FuncData} (c : SaysA looks defs K) (hX : K.In h) (hG : h.Ns mainGlobals mg) (F_Shape_fixed : Fun_Shape_fixed K fd) : FnOk P w K mg base CX0 1 (He.fAd K d_Shape_fixed.at_) fd ["self"] (sp_Shape_fixed K) := by
  have F := F_Shape_fixed
  refine F.ok sc_Shape_fixed (fun vs H Q E h => len_Shape_fixed h) (fun cdv A outer s H vs Q E hr h => ⟨t_Shape_fixed K, PSs.nox ?_, pure_Shape_fixed (kf_ok c) vs H Q E h⟩)
  have hu := SL.hu64 hr
  exact (pss_one (ps_ret (pe_callTy call_list_u (by rfl) (He.free_ok hX hG (c.look 14)) (by decide +kernel) (pa_cons (pe_fld (pv 0) rfl) pa_nil))))
theorem sc_Shape_columns : FnScope ["self"] ["self"] (defScope s_Shape_columns) := ⟨rfl, rfl, rfl, by decide +kernel, rfl, by decide +kernel, by decide +kernel⟩
theorem ok_Shape_columns {P : Program} {w : World} {K : PySem.W.Frag} {mg : Str → Option Value} {base h : Heap} {fd : FuncData} (c : SaysA looks defs K) (hX : K.In h) (hG : h.Ns mainGlobals mg) (F_Shape_columns : Fun_Shape_columns K fd) : FnOk P w K mg base CX0 1 (He.fAd K d_Shape_columns.at_) fd ["self"] (sp_Shape_columns K) := by
  have F := F_Shape_columns
  refine F.ok sc_Shape_columns (fun vs H Q E h => len_Shape_columns h) (fun cdv A outer s H vs Q E hr h => ⟨t_Shape_columns K, PSs.nox ?_, pure_Shape_columns (kf_ok c) vs H Q E h⟩)
  have hu := SL.hu64 hr
  exact (pss_one (ps_ret (pe_callB call_srt (by rfl) (He.free_ok hX hG (c.look 16)) (by decide +kernel) (pa_cons (pe_op op_uAdd (pe_fld (pv 0) rfl) (pe_ifExp (pt_cmpR op_uIs (pe_fld (pv 0) rfl) pe_non (nomark _)) (pe_lst pa_nil) (pe_lst (pa_cons (pe_fld (pv 0) rfl) pa_nil)))) pa_nil))))
theorem sc_Shape_sets : FnScope ["self"] ["self"] (defScope s_Shape_sets) := ⟨rfl, rfl, rfl, by decide +kernel, rfl, by decide +kernel, by decide +kernel⟩
theorem ok_Shape_sets {P : Program} {w : World} {K : PySem.W.Frag} {mg : Str → Option Value} {base h : Heap} {fd : FuncData} {fd_Shape_fixed : FuncData} {fd_Shape_columns : FuncData} (c : SaysA looks defs K) (hX : K.In h) (hG : h.Ns mainGlobals mg) (F_Shape_sets : Fun_Shape_sets K fd) (O_Shape_fixed : FnOk P w K mg base CX0 1 (He.fAd K d_Shape_fixed.at_) fd_Shape_fixed ["self"] (sp_Shape_fixed K)) (D_Shape_fixed : Fun_Shape_fixed K fd_Shape_fixed) (O_Shape_columns : FnOk P w K mg base CX0 1 (He.fAd K d_Shape_columns.at_) fd_Shape_columns ["self"] (sp_Shape_columns K)) (D_Shape_columns : Fun_Shape_columns K fd_Shape_columns) : FnOk P w K mg base CX0 2 (He.fAd K d_Shape_sets.at_) fd ["self"] (sp_Shape_sets K) := by
  have B_Shape_fixed := bind_Shape_fixed D_Shape_fixed
  have K_Shape_fixed := D_Shape_fixed.kp
  have B_Shape_columns := bind_Shape_columns D_Shape_columns
  have K_Shape_columns := D_Shape_columns.kp
  have F := F_Shape_sets
  refine F.ok sc_Shape_sets (fun vs H Q E h => len_Shape_sets h) (fun cdv A outer s H vs Q E hr h => ⟨t_Shape_sets K, PSs.nox ?_, pure_Shape_sets (kf_ok c) vs H Q E h⟩)
  have hu := SL.hu64 hr
  have hr_Shape_fixed : Room 1 _ := hr.mono (by decide)
  have hr_Shape_columns : Room 1 _ := hr.mono (by decide)
  exact (pss_one (ps_ret (pe_ifExp (pt_cmpR op_uIs (pe_fld (pv 0) rfl) pe_non (nomark _)) (pe_lst (pa_cons (pe_meth0 (pv 0) (ownB_ok (c.look 0)).cls (He.meth_ok (c.look 2)) O_Shape_fixed hr_Shape_fixed B_Shape_fixed .nil pass0) pa_nil)) (pe_lst (pa_cons (pe_meth0 (pv 0) (ownB_ok (c.look 0)).cls (He.meth_ok (c.look 2)) O_Shape_fixed hr_Shape_fixed B_Shape_fixed .nil pass0) (pa_cons (pe_meth0 (pv 0) (ownB_ok (c.look 0)).cls (He.meth_ok (c.look 3)) O_Shape_columns hr_Shape_columns B_Shape_columns .nil pass0) pa_nil))))))
theorem sc_Shape_D_len_D : FnScope ["self"] ["self"] (defScope s_Shape_D_len_D) := ⟨rfl, rfl, rfl, by decide +kernel, rfl, by decide +kernel, by decide +kernel⟩
theorem ok_Shape_D_len_D {P : Program} {w : World} {K : PySem.W.Frag} {mg : Str → Option Value} {base h : Heap} {fd : FuncData} {fd_Shape_columns : FuncData} (c : SaysA looks defs K) (hX : K.In h) (hG : h.Ns mainGlobals mg) (F_Shape_D_len_D : Fun_Shape_D_len_D K fd) (O_Shape_columns : FnOk P w K mg base CX0 1 (He.fAd K d_Shape_columns.at_) fd_Shape_columns ["self"] (sp_Shape_columns K)) (D_Shape_columns : Fun_Shape_columns K fd_Shape_columns) : FnOk P w K mg base CX0 2 (He.fAd K d_Shape_D_len_D.at_) fd ["self"] (sp_Shape_D_len_D K) := by
  have B_Shape_columns := bind_Shape_columns D_Shape_columns
  have K_Shape_columns := D_Shape_columns.kp
  have F := F_Shape_D_len_D
  refine F.ok sc_Shape_D_len_D (fun vs H Q E h => len_Shape_D_len_D h) (fun cdv A outer s H vs Q E hr h => ⟨t_Shape_D_len_D K, PSs.nox ?_, pure_Shape_D_len_D (kf_ok c) vs H Q E h⟩)
  have hu := SL.hu64 hr
  have hr_Shape_columns : Room 1 _ := hr.mono (by decide)
  exact (pss_one (ps_ret (pe_callB call_uLen (by rfl) (He.free_ok hX hG (c.look 4)) (by decide +kernel) (pa_cons (pe_meth0 (pv 0) (ownB_ok (c.look 0)).cls (He.meth_ok (c.look 3)) O_Shape_columns hr_Shape_columns B_Shape_columns .nil pass0) pa_nil))))
theorem sc_Shape_D_eq_D : FnScope ["self", "other"] ["self", "other"] (defScope s_Shape_D_eq_D) := ⟨rfl, rfl, rfl, by decide +kernel, rfl, by decide +kernel, by decide +kernel⟩
theorem ok_Shape_D_eq_D {P : Program} {w : World} {K : PySem.W.Frag} {mg : Str → Option Value} {base h : Heap} {fd : FuncData} (c : SaysA looks defs K) (hX : K.In h) (hG : h.Ns mainGlobals mg) (F_Shape_D_eq_D : Fun_Shape_D_eq_D K fd) : FnOk P w K mg base CX0 1 (He.fAd K d_Shape_D_eq_D.at_) fd ["self", "other"] (sp_Shape_D_eq_D K) := by
  have F := F_Shape_D_eq_D
  refine F.ok sc_Shape_D_eq_D (fun vs H Q E h => len_Shape_D_eq_D h) (fun cdv A outer s H vs Q E hr h => ⟨t_Shape_D_eq_D K, PSs.nox ?_, pure_Shape_D_eq_D (kf_ok c) vs H Q E h⟩)
  have hu := SL.hu64 hr
  exact (pss_cons (ps_if (pt_not (pt_tru (pe_callB call_vIsi (by rfl) (He.free_ok hX hG (c.look 10)) (by decide +kernel) (pa_cons (pv 1) (pa_cons (pe_gc rfl (gv_ref (He.glo_ok hX hG (c.look 22)))) pa_nil))) (by intro _; rfl))) (pss_one (ps_ret pe_bl)) pss_nil)
    (pss_one (ps_ret (pe_and (pe_cmpR (op_uEq hu) (pe_fld (pv 0) rfl) (pe_fld (pv 1) rfl) (nomark _)) (pe_one (pe_cmpR (op_uEq hu) (pe_fld (pv 0) rfl) (pe_fld (pv 1) rfl) (nomark _)))))))
theorem sc_Shape_D_str_D : FnScope ["self", "head", "tail"] ["self"] (defScope s_Shape_D_str_D) := ⟨rfl, rfl, rfl, by decide +kernel, rfl, by decide +kernel, by decide +kernel⟩
theorem ok_Shape_D_str_D {P : Program} {w : World} {K : PySem.W.Frag} {mg : Str → Option Value} {base h : Heap} {fd : FuncData} (c : SaysA looks defs K) (hX : K.In h) (hG : h.Ns mainGlobals mg) (F_Shape_D_str_D : Fun_Shape_D_str_D K fd) : FnOk P w K mg base CX0 1 (He.fAd K d_Shape_D_str_D.at_) fd ["self"] (sp_Shape_D_str_D K) := by
  have F := F_Shape_D_str_D
  refine F.ok sc_Shape_D_str_D (fun vs H Q E h => len_Shape_D_str_D h) (fun cdv A outer s H vs Q E hr h => ⟨t_Shape_D_str_D K, PSs.nox ?_, pure_Shape_D_str_D (kf_ok c) vs H Q E h⟩)
  have hu := SL.hu64 hr
  exact (pss_cons (ps_set (i := 1) sc_Shape_D_str_D.nd rfl (by first | exact Or.inl rfl | exact Or.inr rfl) (pe_ifExp (pt_cmpR (op_uNe hu) (pe_fld (pv 0) rfl) (pe_lst pa_nil) (nomark _)) (pe_bm PySem.F.plainAttrs_str PySem.F.slot_str_join PySem.F.type_str_join mt_uJoin pe_str (pa_cons (pe_fld (pv 0) rfl) pa_nil)) (pe_gc rfl (gv_str (He.str_ok hX hG (c.look 24))))))
    (pss_cons (ps_set (i := 2) sc_Shape_D_str_D.nd rfl (by first | exact Or.inl rfl | exact Or.inr rfl) (pe_ifExp (pt_cmpR op_uIs (pe_fld (pv 0) rfl) pe_non (nomark _)) pe_str (pe_joined (.cons pe_str (.cons (pe_fmt (pe_fld (pv 0) rfl)) .nil)))))
    (pss_one (ps_ret (pe_joined (.cons (pe_fmt (pv 1)) (.cons (pe_fmt (pv 2)) .nil)))))))
theorem sc_Shape_D_repr_D : FnScope ["self"] ["self"] (defScope s_Shape_D_repr_D) := ⟨rfl, rfl, rfl, by decide +kernel, rfl, by decide +kernel, by decide +kernel⟩
theorem ok_Shape_D_repr_D {P : Program} {w : World} {K : PySem.W.Frag} {mg : Str → Option Value} {base h : Heap} {fd : FuncData} (c : SaysA looks defs K) (hX : K.In h) (hG : h.Ns mainGlobals mg) (F_Shape_D_repr_D : Fun_Shape_D_repr_D K fd) : SL.FnG P w K mg base CX0 1 (He.fAd K d_Shape_D_repr_D.at_) fd ["self"] (sp_Shape_D_repr_D K) := by
  have F := F_Shape_D_repr_D
  refine SL.fun_g F sc_Shape_D_repr_D (fun vs H Q E h => len_Shape_D_repr_D h) (fun cdv A hg0 outer s H vs Q E hr h => ⟨t_Shape_D_repr_D K, PSs.nox ?_, pure_Shape_D_repr_D (kf_ok c) vs H Q E h⟩)
  have hg : (A.deeper (envOfC d_Shape_D_repr_D.qual d_Shape_D_repr_D.scope s.heap.objs.size (He.fAd K d_Shape_D_repr_D.at_) cdv)).guards = some [] := SL.guards_deeper hg0
  have hu := SL.hu64 hr
  exact (pss_one (ps_ret (pe_joined (.cons pe_str (.cons (pe_fmtRU hg hu (pe_fld (pv 0) rfl)) (.cons pe_str (.cons (pe_fmtRU hg hu (pe_fld (pv 0) rfl)) (.cons pe_str .nil))))))))
theorem sc_l_law_cell : FnScope ["_law_script", "_law_index"] ["_law_script", "_law_index"] (defScope s_l_law_cell) := ⟨rfl, rfl, rfl, by decide +kernel, rfl, by decide +kernel, by decide +kernel⟩
theorem ok_l_law_cell {P : Program} {w : World} {K : PySem.W.Frag} {mg : Str → Option Value} {base h : Heap} {fd : FuncData} (c : SaysA looks defs K) (hX : K.In h) (hG : h.Ns mainGlobals mg) (F_l_law_cell : Fun_l_law_cell K fd) : FnOk P w K mg base CX0 1 (He.fAd K d_l_law_cell.at_) fd ["_law_script", "_law_index"] (sp_l_law_cell K) := by
  have F := F_l_law_cell
  refine F.ok sc_l_law_cell (fun vs H Q E h => len_l_law_cell h) (fun cdv A outer s H vs Q E hr h => ⟨t_l_law_cell K, PSs.nox ?_, pure_l_law_cell (kf_ok c) vs H Q E h⟩)
  have hu := SL.hu64 hr
  exact (pss_cons (ps_if (pt_cmpR (op_uLt hu) (pv 1) (pe_callB call_uLen (by rfl) (He.free_ok hX hG (c.look 4)) (by decide +kernel) (pa_cons (pv 0) pa_nil)) (nomark _)) (pss_one (ps_ret (pe_ix ix_u (pv 0) (pv 1) (fun _ _ => rfl)))) pss_nil)
    (pss_one (ps_ret (pe_op op_uAdd (pe_op op_uMul pe_int (pv 1)) pe_int))))
theorem sc_l_law_bag : FnScope ["_law_cell_here"] ["_law_cell_here"] (defScope s_l_law_bag) := ⟨rfl, rfl, rfl, by decide +kernel, rfl, by decide +kernel, by decide +kernel⟩
theorem ok_l_law_bag {P : Program} {w : World} {K : PySem.W.Frag} {mg : Str → Option Value} {base h : Heap} {fd : FuncData} (c : SaysA looks defs K) (hX : K.In h) (hG : h.Ns mainGlobals mg) (F_l_law_bag : Fun_l_law_bag K fd) : FnOk P w K mg base CX0 1 (He.fAd K d_l_law_bag.at_) fd ["_law_cell_here"] (sp_l_law_bag K) := by
  have F := F_l_law_bag
  refine F.ok sc_l_law_bag (fun vs H Q E h => len_l_law_bag h) (fun cdv A outer s H vs Q E hr h => ⟨t_l_law_bag K, PSs.nox ?_, pure_l_law_bag (kf_ok c) vs H Q E h⟩)
  have hu := SL.hu64 hr
  exact (pss_one (ps_ret (pe_lst (pa_cons (pe_callB (call_max2 rfl) (by rfl) (He.free_ok hX hG (c.look 5)) (by decide +kernel) (pa_cons pe_int (pa_cons (pe_op op_sub (pv 0) (pe_op op_pow pe_int pe_int)) pa_nil))) (pa_cons (pe_op op_modN (pv 0) pe_int) (pa_cons pe_int pa_nil))))))
theorem sc_l_law_take : FnScope ["_law_bag_here", "_law_many", "_law_mixed", "_law_digit"] ["_law_bag_here", "_law_many"] (defScope s_l_law_take) := ⟨rfl, rfl, rfl, by decide +kernel, rfl, by decide +kernel, by decide +kernel⟩
theorem ok_l_law_take {P : Program} {w : World} {K : PySem.W.Frag} {mg : Str → Option Value} {base h : Heap} {fd : FuncData} (c : SaysA looks defs K) (hX : K.In h) (hG : h.Ns mainGlobals mg) (F_l_law_take : Fun_l_law_take K fd) : FnOk P w K mg base CX0 1 (He.fAd K d_l_law_take.at_) fd ["_law_bag_here", "_law_many"] (sp_l_law_take K) := by
  have F := F_l_law_take
  refine F.ok sc_l_law_take (fun vs H Q E h => len_l_law_take h) (fun cdv A outer s H vs Q E hr h => ⟨t_l_law_take K, PSs.nox ?_, pure_l_law_take (kf_ok c) vs H Q E h⟩)
  have hu := SL.hu64 hr
  exact (pss_cons (ps_if (pt_cmpR op_gt (pe_ix ix_u (pv 0) pe_int (fun _ _ => rfl)) pe_int (nomark _)) (pss_cons (ps_set (i := 3) sc_l_law_take.nd rfl (by first | exact Or.inl rfl | exact Or.inr rfl) (pe_op op_modN (pe_ix ix_u (pv 0) pe_int (fun _ _ => rfl)) (pv 1)))
    (pss_cons (ps_asg (pe_op op_fdivW (pe_ix ix_u (pv 0) pe_int (fun _ _ => rfl)) (pv 1)) (pg_sub (pv 0) pe_int set_list))
    (pss_one (ps_ret (pv 3))))) pss_nil)
    (pss_cons (ps_asg (pe_op op_uAdd (pe_ix ix_u (pv 0) pe_int (fun _ _ => rfl)) pe_int) (pg_sub (pv 0) pe_int set_list))
    (pss_cons (ps_set (i := 2) sc_l_law_take.nd rfl (by first | exact Or.inl rfl | exact Or.inr rfl) (pe_op op_modN (pe_op op_pow (pe_op op_uAdd (pe_op op_uAdd (pe_ix ix_u (pv 0) pe_int (fun _ _ => rfl)) (pe_op op_uMul pe_int (pe_ix ix_u (pv 0) pe_int (fun _ _ => rfl)))) pe_int) pe_int) pe_int))
    (pss_cons (ps_set (i := 2) sc_l_law_take.nd rfl (by first | exact Or.inl rfl | exact Or.inr rfl) (pe_op op_modN (pe_op op_pow (pe_op op_uAdd (pv 2) (pe_op op_uMul pe_int (pe_ix ix_u (pv 0) pe_int (fun _ _ => rfl)))) pe_int) pe_int))
    (pss_one (ps_ret (pe_op op_modN (pe_op op_fdivW (pv 2) pe_int) (pv 1))))))))
theorem sc_l_law_names : FnScope ["_law_bag_here", "_law_many", "_law_letters", "_law_stem", "_law_at", "_law_first", "_law_step", "_law_found", "_law_index", "_law_begun"] ["_law_bag_here", "_law_many"] (defScope s_l_law_names) := ⟨rfl, rfl, rfl, by decide +kernel, rfl, by decide +kernel, by decide +kernel⟩
theorem ok_l_law_names {P : Program} {w : World} {K : PySem.W.Frag} {mg : Str → Option Value} {base h : Heap} {fd : FuncData} {fd_l_law_take : FuncData} (c : SaysA looks defs K) (hX : K.In h) (hG : h.Ns mainGlobals mg) (F_l_law_names : Fun_l_law_names K fd) (O_l_law_take : FnOk P w K mg base CX0 1 (He.fAd K d_l_law_take.at_) fd_l_law_take ["_law_bag_here", "_law_many"] (sp_l_law_take K)) (D_l_law_take : Fun_l_law_take K fd_l_law_take) : FnOk P w K mg base CX0 2 (He.fAd K d_l_law_names.at_) fd ["_law_bag_here", "_law_many"] (sp_l_law_names K) := by
  have B_l_law_take := bind_l_law_take D_l_law_take
  have K_l_law_take := D_l_law_take.kp
  have F := F_l_law_names
  refine F.ok sc_l_law_names (fun vs H Q E h => len_l_law_names h) (fun cdv A outer s H vs Q E hr h => ⟨t_l_law_names K, PSs.nox ?_, pure_l_law_names (kf_ok c) vs H Q E h⟩)
  have hu := SL.hu64 hr
  have hr_l_law_take : Room 1 _ := hr.mono (by decide)
  exact (pss_cons (ps_set (i := 2) sc_l_law_names.nd rfl (by first | exact Or.inl rfl | exact Or.inr rfl) pe_str)
    (pss_cons (ps_set (i := 3) sc_l_law_names.nd rfl (by first | exact Or.inl rfl | exact Or.inr rfl) (pe_bm PySem.F.plainAttrs_str PySem.F.slot_str_join PySem.F.type_str_join mt_uJoin pe_str (pa_cons (pe_lc (own := [("_law_index", 8)]) (wi := (iRng1 (tCons (tC (.int 7)) tNil))) (g := (gName 8)) (tt := tYes) (te := (tOp (uIx K) (tVar 2) (tCall (sp_l_law_take K) [] E0 (tCons (tVar 0) (tCons (tC (.int 26)) tNil))))) (by rfl) sc_l_law_names.nd (pi_range1 rfl (He.free_ok hX hG (c.look 25)) (pa_cons pe_int pa_nil)) (blkOk_by (own := [("_law_index", 8)]) (N := ["_law_bag_here", "_law_many", "_law_letters", "_law_stem", "_law_at", "_law_first", "_law_step", "_law_found", "_law_index", "_law_begun"]) (sc := defScope s_l_law_names) (by decide +kernel)) (fun _ _ _ _ _ => (pg_name (i := 8) sc_l_law_names.nd rfl (by first | exact Or.inl rfl | exact Or.inr rfl))) (fun _ _ _ _ _ => pts_nil) (fun _ _ _ _ _ => (pe_ix ix_u (pv 2) (pe_call O_l_law_take hr_l_law_take (by rfl) (He.glo_ok hX hG (c.look 6)) K_l_law_take B_l_law_take .nil pass0 (pa_cons (pv 0) (pa_cons pe_int pa_nil))) (fun _ _ => rfl)))) pa_nil)))
    (pss_cons (ps_par3 (i := 4) (j := 5) (l := 6) (by rfl) sc_l_law_names.nd rfl rfl rfl (by decide) (by decide) (by decide) rfl rfl rfl (pa_cons (pe_call O_l_law_take hr_l_law_take (by rfl) (He.glo_ok hX hG (c.look 6)) K_l_law_take B_l_law_take .nil pass0 (pa_cons (pv 0) (pa_cons pe_int pa_nil))) (pa_cons (pe_call O_l_law_take hr_l_law_take (by rfl) (He.glo_ok hX hG (c.look 6)) K_l_law_take B_l_law_take .nil pass0 (pa_cons (pv 0) (pa_cons pe_int pa_nil))) (pa_cons (pe_ix ix_u (pe_lst (pa_cons pe_int (pa_cons pe_int (pa_cons pe_int (pa_cons pe_int (pa_cons pe_int (pa_cons pe_int (pa_cons pe_int (pa_cons pe_int pa_nil))))))))) (pe_call O_l_law_take hr_l_law_take (by rfl) (He.glo_ok hX hG (c.look 6)) K_l_law_take B_l_law_take .nil pass0 (pa_cons (pv 0) (pa_cons pe_int pa_nil))) (fun _ _ => rfl)) pa_nil))) (by rfl))
    (pss_cons (ps_set (i := 7) sc_l_law_names.nd rfl (by first | exact Or.inl rfl | exact Or.inr rfl) (pe_lst pa_nil))
    (pss_cons (ps_for PassesOwn.never rfl (pi_range1 rfl (He.free_ok hX hG (c.look 25)) (pa_cons (pv 1) pa_nil)) (pg_name (i := 8) sc_l_law_names.nd rfl (by first | exact Or.inl rfl | exact Or.inr rfl)) (pss_cons (ps_set (i := 9) sc_l_law_names.nd rfl (by first | exact Or.inl rfl | exact Or.inr rfl) (pe_op op_uAdd (pe_slice sl_u (pv 3) po_none (po_some (pv 4))) (pe_ix ix_u (pv 2) (pe_op op_modN (pe_op op_uAdd (pv 5) (pe_op op_uMul (pv 6) (pv 8))) pe_int) (fun _ _ => rfl))))
    (pss_one (ps_expr (pe_bm PySem.F.plainAttrs_list PySem.F.slot_list_append PySem.F.type_list_append mt_append (pv 7) (pa_cons (pe_op op_uAdd (pv 9) (pe_slice sl_u (pv 3) (po_some (pv 4)) (po_some (pe_op op_uAdd (pv 4) (pe_call O_l_law_take hr_l_law_take (by rfl) (He.glo_ok hX hG (c.look 6)) K_l_law_take B_l_law_take .nil pass0 (pa_cons (pv 0) (pa_cons (pe_op op_sub pe_int (pv 4)) pa_nil))))))) pa_nil))))))
    (pss_cons (ps_if (PW.pt (pw_and (pt_cmpR op_gt (pv 1) pe_int (nomark _)) (pw_and (pt_cmpR (op_uLt hu) (pe_callB call_uLen (by rfl) (He.free_ok hX hG (c.look 4)) (by decide +kernel) (pa_cons (pe_ix ix_u (pv 7) pe_int (fun _ _ => rfl)) pa_nil)) pe_int (nomark _)) (pw_and1 (pt_cmpR (op_uEq hu) (pe_call O_l_law_take hr_l_law_take (by rfl) (He.glo_ok hX hG (c.look 6)) K_l_law_take B_l_law_take .nil pass0 (pa_cons (pv 0) (pa_cons pe_int pa_nil))) pe_int (nomark _)))))) (pss_one (ps_asg (pe_op op_uAdd (pe_ix ix_u (pv 7) pe_int (fun _ _ => rfl)) (pe_ix ix_u (pv 2) (pe_call O_l_law_take hr_l_law_take (by rfl) (He.glo_ok hX hG (c.look 6)) K_l_law_take B_l_law_take .nil pass0 (pa_cons (pv 0) (pa_cons pe_int pa_nil))) (fun _ _ => rfl))) (pg_sub (pv 7) pe_int set_list))) pss_nil)
    (pss_one (ps_ret (pv 7)))))))))
theorem sc_l_law_pick : FnScope ["_law_bag_here", "_law_many", "_law_most", "_law_left", "_law_found", "_law_turn"] ["_law_bag_here", "_law_many", "_law_most"] (defScope s_l_law_pick) := ⟨rfl, rfl, rfl, by decide +kernel, rfl, by decide +kernel, by decide +kernel⟩
theorem ok_l_law_pick {P : Program} {w : World} {K : PySem.W.Frag} {mg : Str → Option Value} {base h : Heap} {fd : FuncData} {fd_l_law_take : FuncData} (c : SaysA looks defs K) (hX : K.In h) (hG : h.Ns mainGlobals mg) (F_l_law_pick : Fun_l_law_pick K fd) (O_l_law_take : FnOk P w K mg base CX0 1 (He.fAd K d_l_law_take.at_) fd_l_law_take ["_law_bag_here", "_law_many"] (sp_l_law_take K)) (D_l_law_take : Fun_l_law_take K fd_l_law_take) : FnOk P w K mg base CX0 2 (He.fAd K d_l_law_pick.at_) fd ["_law_bag_here", "_law_many", "_law_most"] (sp_l_law_pick K) := by
  have B_l_law_take := bind_l_law_take D_l_law_take
  have K_l_law_take := D_l_law_take.kp
  have F := F_l_law_pick
  refine F.ok sc_l_law_pick (fun vs H Q E h => len_l_law_pick h) (fun cdv A outer s H vs Q E hr h => ⟨t_l_law_pick K, PSs.nox ?_, pure_l_law_pick (kf_ok c) vs H Q E h⟩)
  have hu := SL.hu64 hr
  have hr_l_law_take : Room 1 _ := hr.mono (by decide)
  exact (pss_cons (ps_par (i := 3) (j := 4) (by rfl) sc_l_law_pick.nd rfl rfl (by decide) rfl rfl (pa_cons (pe_listRg rfl (by rfl) (He.free_ok hX hG (c.look 14)) (prg_1 (by rfl) (He.free_ok hX hG (c.look 25)) (pv 1))) (pa_cons (pe_lst pa_nil) pa_nil)) (by rfl))
    (pss_cons (ps_for PassesOwn.never rfl (pi_range1 rfl (He.free_ok hX hG (c.look 25)) (pa_cons (pe_call O_l_law_take hr_l_law_take (by rfl) (He.glo_ok hX hG (c.look 6)) K_l_law_take B_l_law_take .nil pass0 (pa_cons (pv 0) (pa_cons (pe_op op_uAdd (pe_callB (call_min2 rfl) (by rfl) (He.free_ok hX hG (c.look 26)) (by decide +kernel) (pa_cons (pv 1) (pa_cons (pv 2) pa_nil))) pe_int) pa_nil))) pa_nil)) (pg_name (i := 5) sc_l_law_pick.nd rfl (by first | exact Or.inl rfl | exact Or.inr rfl)) (pss_one (ps_expr (pe_bm PySem.F.plainAttrs_list PySem.F.slot_list_append PySem.F.type_list_append mt_append (pv 4) (pa_cons (pe_bm PySem.F.plainAttrs_list PySem.F.slot_list_pop PySem.F.type_list_pop mt_popAt (pv 3) (pa_cons (pe_call O_l_law_take hr_l_law_take (by rfl) (He.glo_ok hX hG (c.look 6)) K_l_law_take B_l_law_take .nil pass0 (pa_cons (pv 0) (pa_cons (pe_callB call_uLen (by rfl) (He.free_ok hX hG (c.look 4)) (by decide +kernel) (pa_cons (pv 3) pa_nil)) pa_nil))) pa_nil)) pa_nil)))))
    (pss_cons (ps_if (PW.pt (pw_or (pt_cmpR (op_uEq hu) (pv 3) (pe_lst pa_nil) (nomark _)) (pw_or (pt_cmpR op_gt (pe_callB call_uLen (by rfl) (He.free_ok hX hG (c.look 4)) (by decide +kernel) (pa_cons (pv 4) pa_nil)) pe_int (nomark _)) (pw_or1 (pt_cmpR (op_uEq hu) (pe_call O_l_law_take hr_l_law_take (by rfl) (He.glo_ok hX hG (c.look 6)) K_l_law_take B_l_law_take .nil pass0 (pa_cons (pv 0) (pa_cons pe_int pa_nil))) pe_int (nomark _)))))) (pss_one (ps_ret (pe_tup (pa_cons (pe_callB call_srt (by rfl) (He.free_ok hX hG (c.look 16)) (by decide +kernel) (pa_cons (pv 4) pa_nil)) (pa_cons pe_non pa_nil))))) pss_nil)
    (pss_one (ps_ret (pe_tup (pa_cons (pe_callB call_srt (by rfl) (He.free_ok hX hG (c.look 16)) (by decide +kernel) (pa_cons (pv 4) pa_nil)) (pa_cons (pe_ix ix_u (pv 3) (pe_call O_l_law_take hr_l_law_take (by rfl) (He.glo_ok hX hG (c.look 6)) K_l_law_take B_l_law_take .nil pass0 (pa_cons (pv 0) (pa_cons (pe_callB call_uLen (by rfl) (He.free_ok hX hG (c.look 4)) (by decide +kernel) (pa_cons (pv 3) pa_nil)) pa_nil))) (fun _ _ => rfl)) pa_nil))))))))
theorem sc_l_law_near : FnScope ["_law_bag_here", "_law_many", "_law_part", "_law_fixed", "_law_span", "_law_free", "_law_way", "_law_at"] ["_law_bag_here", "_law_many", "_law_part"] (defScope s_l_law_near) := ⟨rfl, rfl, rfl, by decide +kernel, rfl, by decide +kernel, by decide +kernel⟩
theorem ok_l_law_near {P : Program} {w : World} {K : PySem.W.Frag} {mg : Str → Option Value} {base h : Heap} {fd : FuncData} {fd_l_law_take : FuncData} (c : SaysA looks defs K) (hX : K.In h) (hG : h.Ns mainGlobals mg) (F_l_law_near : Fun_l_law_near K fd) (O_l_law_take : FnOk P w K mg base CX0 1 (He.fAd K d_l_law_take.at_) fd_l_law_take ["_law_bag_here", "_law_many"] (sp_l_law_take K)) (D_l_law_take : Fun_l_law_take K fd_l_law_take) : FnOk P w K mg base CX0 2 (He.fAd K d_l_law_near.at_) fd ["_law_bag_here", "_law_many", "_law_part"] (sp_l_law_near K) := by
  have B_l_law_take := bind_l_law_take D_l_law_take
  have K_l_law_take := D_l_law_take.kp
  have F := F_l_law_near
  refine F.ok sc_l_law_near (fun vs H Q E h => len_l_law_near h) (fun cdv A outer s H vs Q E hr h => ⟨t_l_law_near K, PSs.nox ?_, pure_l_law_near (kf_ok c) vs H Q E h⟩)
  have hu := SL.hu64 hr
  have hr_l_law_take : Room 1 _ := hr.mono (by decide)
  exact (pss_cons (ps_asg (pe_tup (pa_cons (pe_callTy call_list_u (by rfl) (He.free_ok hX hG (c.look 14)) (by decide +kernel) (pa_cons (pe_ix ix_u (pv 2) pe_int (fun _ _ => rfl)) pa_nil)) (pa_cons (pe_ix ix_u (pv 2) pe_int (fun _ _ => rfl)) pa_nil))) (pg_tup rfl (pgs_cons (pg_name (i := 3) sc_l_law_near.nd rfl (by first | exact Or.inl rfl | exact Or.inr rfl)) (pgs_cons (pg_name (i := 4) sc_l_law_near.nd rfl (by first | exact Or.inl rfl | exact Or.inr rfl)) pgs_nil))))
    (pss_cons (ps_setLc (i := 5) (own := [("_law_at", 7)]) (wi := (iRng1 (tCons (tVar 1) tNil))) (g := (gName 7)) (tt := (tTest (tOp (uNi K) (tVar 7) (tVar 3)))) (te := (tVar 7)) (by rfl) sc_l_law_near.nd rfl rfl (sw_true rfl rfl rfl (by decide +kernel)) (pi_range1 rfl (He.free_ok hX hG (c.look 25)) (pa_cons (pv 1) pa_nil)) (blkOk_by (own := [("_law_at", 7)]) (N := ["_law_bag_here", "_law_many", "_law_part", "_law_fixed", "_law_span", "_law_free", "_law_way", "_law_at"]) (sc := defScope s_l_law_near) (by decide +kernel)) (fun _ _ _ _ _ => (pg_name (i := 7) sc_l_law_near.nd rfl (by first | exact Or.inl rfl | exact Or.inr rfl))) (fun _ _ _ _ _ => (pts_one (pt_cmpR op_uNi (pv 7) (pv 3) (by rfl)))) (fun _ _ _ _ _ => (pv 7)))
    (pss_cons (ps_set (i := 6) sc_l_law_near.nd rfl (by first | exact Or.inl rfl | exact Or.inr rfl) (pe_call O_l_law_take hr_l_law_take (by rfl) (He.glo_ok hX hG (c.look 6)) K_l_law_take B_l_law_take .nil pass0 (pa_cons (pv 0) (pa_cons pe_int pa_nil))))
    (pss_cons (ps_if (PW.pt (pw_and (pt_cmpR (op_uLt hu) (pv 6) pe_int (nomark _)) (pw_and1 (pt_cmpR (op_uNe hu) (pv 5) (pe_lst pa_nil) (nomark _))))) (pss_one (ps_set (i := 3) sc_l_law_near.nd rfl (by first | exact Or.inl rfl | exact Or.inr rfl) (pe_callB call_srt (by rfl) (He.free_ok hX hG (c.look 16)) (by decide +kernel) (pa_cons (pe_op op_uAdd (pv 3) (pe_lst (pa_cons (pe_ix ix_u (pv 5) (pe_call O_l_law_take hr_l_law_take (by rfl) (He.glo_ok hX hG (c.look 6)) K_l_law_take B_l_law_take .nil pass0 (pa_cons (pv 0) (pa_cons (pe_callB call_uLen (by rfl) (He.free_ok hX hG (c.look 4)) (by decide +kernel) (pa_cons (pv 5) pa_nil)) pa_nil))) (fun _ _ => rfl)) pa_nil))) pa_nil)))) pss_nil)
    (pss_cons (ps_if (PW.pt (pw_and (pt_cmpR (op_uEq hu) (pv 6) pe_int (nomark _)) (pw_and1 (pt_cmpR (op_uNe hu) (pv 3) (pe_lst pa_nil) (nomark _))))) (pss_one (ps_expr (pe_bm PySem.F.plainAttrs_list PySem.F.slot_list_pop PySem.F.type_list_pop mt_popAt (pv 3) (pa_cons (pe_call O_l_law_take hr_l_law_take (by rfl) (He.glo_ok hX hG (c.look 6)) K_l_law_take B_l_law_take .nil pass0 (pa_cons (pv 0) (pa_cons (pe_callB call_uLen (by rfl) (He.free_ok hX hG (c.look 4)) (by decide +kernel) (pa_cons (pv 3) pa_nil)) pa_nil))) pa_nil)))) pss_nil)
    (pss_cons (ps_setLc (i := 5) (own := [("_law_at", 7)]) (wi := (iRng1 (tCons (tVar 1) tNil))) (g := (gName 7)) (tt := (tTest (tOp (uNi K) (tVar 7) (tVar 3)))) (te := (tVar 7)) (by rfl) sc_l_law_near.nd rfl rfl (sw_true rfl rfl rfl (by decide +kernel)) (pi_range1 rfl (He.free_ok hX hG (c.look 25)) (pa_cons (pv 1) pa_nil)) (blkOk_by (own := [("_law_at", 7)]) (N := ["_law_bag_here", "_law_many", "_law_part", "_law_fixed", "_law_span", "_law_free", "_law_way", "_law_at"]) (sc := defScope s_l_law_near) (by decide +kernel)) (fun _ _ _ _ _ => (pg_name (i := 7) sc_l_law_near.nd rfl (by first | exact Or.inl rfl | exact Or.inr rfl))) (fun _ _ _ _ _ => (pts_one (pt_cmpR op_uNi (pv 7) (pv 3) (by rfl)))) (fun _ _ _ _ _ => (pv 7)))
    (pss_cons (ps_if (PW.pt (pw_or (pt_cmpR op_uIn (pv 4) (pv 3) (by rfl)) (pw_or1 (pt_cmpR (op_uEq hu) (pv 6) pe_int (nomark _))))) (pss_one (ps_set (i := 4) sc_l_law_near.nd rfl (by first | exact Or.inl rfl | exact Or.inr rfl) pe_non)) pss_nil)
    (pss_cons (ps_if (PW.pt (pw_and (pt_cmpR (op_uNe hu) (pv 5) (pe_lst pa_nil) (nomark _)) (pw_and1 (pt_cmpR (op_uEq hu) (pe_call O_l_law_take hr_l_law_take (by rfl) (He.glo_ok hX hG (c.look 6)) K_l_law_take B_l_law_take .nil pass0 (pa_cons (pv 0) (pa_cons pe_int pa_nil))) pe_int (nomark _))))) (pss_one (ps_set (i := 4) sc_l_law_near.nd rfl (by first | exact Or.inl rfl | exact Or.inr rfl) (pe_ix ix_u (pv 5) (pe_call O_l_law_take hr_l_law_take (by rfl) (He.glo_ok hX hG (c.look 6)) K_l_law_take B_l_law_take .nil pass0 (pa_cons (pv 0) (pa_cons (pe_callB call_uLen (by rfl) (He.free_ok hX hG (c.look 4)) (by decide +kernel) (pa_cons (pv 5) pa_nil)) pa_nil))) (fun _ _ => rfl)))) pss_nil)
    (pss_one (ps_ret (pe_tup (pa_cons (pe_slice sl_u (pv 3) po_none (po_some pe_int)) (pa_cons (pe_ifExp (pt_cmpR (op_uLt hu) (pe_callB call_uLen (by rfl) (He.free_ok hX hG (c.look 4)) (by decide +kernel) (pa_cons (pv 3) pa_nil)) pe_int (nomark _)) (pv 4) pe_non) pa_nil)))))))))))))
theorem sc_l_law_parts : FnScope ["_law_bag_here", "_law_many", "_law_most", "_law_found", "_law_rows", "_law_mode", "_law_turn", "_law_part"] ["_law_bag_here", "_law_many", "_law_most"] (defScope s_l_law_parts) := ⟨rfl, rfl, rfl, by decide +kernel, rfl, by decide +kernel, by decide +kernel⟩
theorem ok_l_law_parts {P : Program} {w : World} {K : PySem.W.Frag} {mg : Str → Option Value} {base h : Heap} {fd : FuncData} {fd_l_law_take : FuncData} {fd_l_law_near : FuncData} {fd_l_law_pick : FuncData} (c : SaysA looks defs K) (hX : K.In h) (hG : h.Ns mainGlobals mg) (F_l_law_parts : Fun_l_law_parts K fd) (O_l_law_take : FnOk P w K mg base CX0 1 (He.fAd K d_l_law_take.at_) fd_l_law_take ["_law_bag_here", "_law_many"] (sp_l_law_take K)) (D_l_law_take : Fun_l_law_take K fd_l_law_take) (O_l_law_near : FnOk P w K mg base CX0 2 (He.fAd K d_l_law_near.at_) fd_l_law_near ["_law_bag_here", "_law_many", "_law_part"] (sp_l_law_near K)) (D_l_law_near : Fun_l_law_near K fd_l_law_near) (O_l_law_pick : FnOk P w K mg base CX0 2 (He.fAd K d_l_law_pick.at_) fd_l_law_pick ["_law_bag_here", "_law_many", "_law_most"] (sp_l_law_pick K)) (D_l_law_pick : Fun_l_law_pick K fd_l_law_pick) : FnOk P w K mg base CX0 3 (He.fAd K d_l_law_parts.at_) fd ["_law_bag_here", "_law_many", "_law_most"] (sp_l_law_parts K) := by
  have B_l_law_take := bind_l_law_take D_l_law_take
  have K_l_law_take := D_l_law_take.kp
  have B_l_law_near := bind_l_law_near D_l_law_near
  have K_l_law_near := D_l_law_near.kp
  have B_l_law_pick := bind_l_law_pick D_l_law_pick
  have K_l_law_pick := D_l_law_pick.kp
  have F := F_l_law_parts
  refine F.ok sc_l_law_parts (fun vs H Q E h => len_l_law_parts h) (fun cdv A outer s H vs Q E hr h => ⟨t_l_law_parts K, PSs.nox ?_, pure_l_law_parts (kf_ok c) vs H Q E h⟩)
  have hu := SL.hu64 hr
  have hr_l_law_take : Room 1 _ := hr.mono (by decide)
  have hr_l_law_near : Room 2 _ := hr.mono (by decide)
  have hr_l_law_pick : Room 2 _ := hr.mono (by decide)
  exact (pss_cons (ps_par3 (i := 3) (j := 4) (l := 5) (by rfl) sc_l_law_parts.nd rfl rfl rfl (by decide) (by decide) (by decide) rfl rfl rfl (pa_cons (pe_lst pa_nil) (pa_cons (pe_lst pa_nil) (pa_cons (pe_call O_l_law_take hr_l_law_take (by rfl) (He.glo_ok hX hG (c.look 6)) K_l_law_take B_l_law_take .nil pass0 (pa_cons (pv 0) (pa_cons pe_int pa_nil))) pa_nil))) (by rfl))
    (pss_cons (ps_for PassesOwn.never rfl (pi_range1 rfl (He.free_ok hX hG (c.look 25)) (pa_cons (pv 2) pa_nil)) (pg_name (i := 6) sc_l_law_parts.nd rfl (by first | exact Or.inl rfl | exact Or.inr rfl)) (pss_cons (ps_set (i := 7) sc_l_law_parts.nd rfl (by first | exact Or.inl rfl | exact Or.inr rfl) (pe_call O_l_law_pick hr_l_law_pick (by rfl) (He.glo_ok hX hG (c.look 28)) K_l_law_pick B_l_law_pick .nil pass0 (pa_cons (pv 0) (pa_cons (pv 1) (pa_cons pe_int pa_nil)))))
    (pss_cons (ps_if (PW.pt (pw_and (pt_cmpR op_gt (pv 5) pe_int (nomark _)) (pw_and (pt_cmpR (op_uNe hu) (pv 4) (pe_lst pa_nil) (nomark _)) (pw_and1 (pt_cmpR op_gt (pe_call O_l_law_take hr_l_law_take (by rfl) (He.glo_ok hX hG (c.look 6)) K_l_law_take B_l_law_take .nil pass0 (pa_cons (pv 0) (pa_cons pe_int pa_nil))) pe_int (nomark _)))))) (pss_one (ps_set (i := 7) sc_l_law_parts.nd rfl (by first | exact Or.inl rfl | exact Or.inr rfl) (pe_call O_l_law_near hr_l_law_near (by rfl) (He.glo_ok hX hG (c.look 27)) K_l_law_near B_l_law_near .nil pass0 (pa_cons (pv 0) (pa_cons (pv 1) (pa_cons (pe_ix ix_u (pv 4) (pe_call O_l_law_take hr_l_law_take (by rfl) (He.glo_ok hX hG (c.look 6)) K_l_law_take B_l_law_take .nil pass0 (pa_cons (pv 0) (pa_cons (pe_callB call_uLen (by rfl) (He.free_ok hX hG (c.look 4)) (by decide +kernel) (pa_cons (pv 4) pa_nil)) pa_nil))) (fun _ _ => rfl)) pa_nil)))))) pss_nil)
    (pss_cons (ps_expr (pe_bm PySem.F.plainAttrs_list PySem.F.slot_list_append PySem.F.type_list_append mt_append (pv 4) (pa_cons (pv 7) pa_nil)))
    (pss_one (ps_if (PW.pt (pw_and (pt_cmpR (op_notInD (Nat.lt_of_le_of_lt (Nat.add_le_add_left (by decide) _) hu)) (pv 7) (pv 3) (by rfl)) (pw_and1 (pt_cmpR op_gt (pe_call O_l_law_take hr_l_law_take (by rfl) (He.glo_ok hX hG (c.look 6)) K_l_law_take B_l_law_take .nil pass0 (pa_cons (pv 0) (pa_cons pe_int pa_nil))) pe_int (nomark _))))) (pss_one (ps_expr (pe_bm PySem.F.plainAttrs_list PySem.F.slot_list_append PySem.F.type_list_append mt_append (pv 3) (pa_cons (pv 7) pa_nil)))) pss_nil))))))
    (pss_one (ps_ret (pv 3)))))
theorem sc_l_law_whole : FnScope ["_law_part", "_law_at"] ["_law_part"] (defScope s_l_law_whole) := ⟨rfl, rfl, rfl, by decide +kernel, rfl, by decide +kernel, by decide +kernel⟩
theorem ok_l_law_whole {P : Program} {w : World} {K : PySem.W.Frag} {mg : Str → Option Value} {base h : Heap} {fd : FuncData} (c : SaysA looks defs K) (hX : K.In h) (hG : h.Ns mainGlobals mg) (F_l_law_whole : Fun_l_law_whole K fd) : FnOk P w K mg base CX0 1 (He.fAd K d_l_law_whole.at_) fd ["_law_part"] (sp_l_law_whole K) := by
  have F := F_l_law_whole
  refine F.ok sc_l_law_whole (fun vs H Q E h => len_l_law_whole h) (fun cdv A outer s H vs Q E hr h => ⟨t_l_law_whole K, PSs.nox ?_, pure_l_law_whole (kf_ok c) vs H Q E h⟩)
  have hu := SL.hu64 hr
  exact (pss_one (ps_ret (pe_op op_uAdd (pe_callTy call_list_u (by rfl) (He.free_ok hX hG (c.look 14)) (by decide +kernel) (pa_cons (pe_ix ix_u (pv 0) pe_int (fun _ _ => rfl)) pa_nil)) (pe_lc (own := [("_law_at", 1)]) (wi := (iU K (tLst (tCons (tOp (uIx K) (tVar 0) (tC (.int 1))) tNil)))) (g := (gName 1)) (tt := (tTest (tOp uIsnt (tVar 1) (tC .non)))) (te := (tVar 1)) (by rfl) sc_l_law_whole.nd (pi_u (pe_lst (pa_cons (pe_ix ix_u (pv 0) pe_int (fun _ _ => rfl)) pa_nil))) (blkOk_by (own := [("_law_at", 1)]) (N := ["_law_part", "_law_at"]) (sc := defScope s_l_law_whole) (by decide +kernel)) (fun _ _ _ _ _ => (pg_name (i := 1) sc_l_law_whole.nd rfl (by first | exact Or.inl rfl | exact Or.inr rfl))) (fun _ _ _ _ _ => (pts_one (pt_cmpR op_uIn0 (pv 1) pe_non (nomark _)))) (fun _ _ _ _ _ => (pv 1))))))
theorem sc_l_law_shape : FnScope ["_law_bag_here", "_law_names_here", "_law_part", "_law_left", "_law_fixed", "_law_turn"] ["_law_bag_here", "_law_names_here", "_law_part"] (defScope s_l_law_shape) := ⟨rfl, rfl, rfl, by decide +kernel, rfl, by decide +kernel, by decide +kernel⟩
theorem ok_l_law_shape {P : Program} {w : World} {K : PySem.W.Frag} {mg : Str → Option Value} {base h : Heap} {fd : FuncData} {fd_Shape_D_init_D : FuncData} {fd_l_law_take : FuncData} (c : SaysA looks defs K) (hX : K.In h) (hG : h.Ns mainGlobals mg) (F_l_law_shape : Fun_l_law_shape K fd) (O_Shape_D_init_D : FnOk P w K mg base CX0 2 (He.fAd K d_Shape_D_init_D.at_) fd_Shape_D_init_D ["self", "fixed", "span"] (sp_Shape_D_init_D K)) (D_Shape_D_init_D : Fun_Shape_D_init_D K fd_Shape_D_init_D) (O_l_law_take : FnOk P w K mg base CX0 1 (He.fAd K d_l_law_take.at_) fd_l_law_take ["_law_bag_here", "_law_many"] (sp_l_law_take K)) (D_l_law_take : Fun_l_law_take K fd_l_law_take) : FnOk P w K mg base CX0 4 (He.fAd K d_l_law_shape.at_) fd ["_law_bag_here", "_law_names_here", "_law_part"] (sp_l_law_shape K) := by
  have B_Shape_D_init_D := bind_Shape_D_init_D D_Shape_D_init_D
  have K_Shape_D_init_D := D_Shape_D_init_D.kp
  have B_l_law_take := bind_l_law_take D_l_law_take
  have K_l_law_take := D_l_law_take.kp
  have F := F_l_law_shape
  refine F.ok sc_l_law_shape (fun vs H Q E h => len_l_law_shape h) (fun cdv A outer s H vs Q E hr h => ⟨t_l_law_shape K, PSs.nox ?_, pure_l_law_shape (kf_ok c) vs H Q E h⟩)
  have hu := SL.hu64 hr
  have hr_Shape_D_init_D_1 : Room 3 _ := hr.mono (by decide)
  have hr_l_law_take : Room 1 _ := hr.mono (by decide)
  exact (pss_cons (ps_par (i := 3) (j := 4) (by rfl) sc_l_law_shape.nd rfl rfl (by decide) rfl rfl (pa_cons (pe_callTy call_list_u (by rfl) (He.free_ok hX hG (c.look 14)) (by decide +kernel) (pa_cons (pe_ix ix_u (pv 2) pe_int (fun _ _ => rfl)) pa_nil)) (pa_cons (pe_lst pa_nil) pa_nil)) (by rfl))
    (pss_cons (ps_for PassesOwn.never rfl (pi_range1 rfl (He.free_ok hX hG (c.look 25)) (pa_cons (pe_callB call_uLen (by rfl) (He.free_ok hX hG (c.look 4)) (by decide +kernel) (pa_cons (pv 3) pa_nil)) pa_nil)) (pg_name (i := 5) sc_l_law_shape.nd rfl (by first | exact Or.inl rfl | exact Or.inr rfl)) (pss_one (ps_expr (pe_bm PySem.F.plainAttrs_list PySem.F.slot_list_append PySem.F.type_list_append mt_append (pv 4) (pa_cons (pe_ix ix_u (pv 1) (pe_bm PySem.F.plainAttrs_list PySem.F.slot_list_pop PySem.F.type_list_pop mt_popAt (pv 3) (pa_cons (pe_call O_l_law_take hr_l_law_take (by rfl) (He.glo_ok hX hG (c.look 6)) K_l_law_take B_l_law_take .nil pass0 (pa_cons (pv 0) (pa_cons (pe_callB call_uLen (by rfl) (He.free_ok hX hG (c.look 4)) (by decide +kernel) (pa_cons (pv 3) pa_nil)) pa_nil))) pa_nil)) (fun _ _ => rfl)) pa_nil)))))
    (pss_one (ps_ret (pe_make (He.mkr_ok (c.look 29)) O_Shape_D_init_D hr_Shape_D_init_D_1 rfl (He.glo_ok hX hG (c.look 22)) B_Shape_D_init_D .nil pass0 (pa_cons (pe_ix ix_u (pe_lst (pa_cons (pv 4) (pa_cons (pe_callTy call_tuple_u (by rfl) (He.free_ok hX hG (c.look 13)) (by decide +kernel) (pa_cons (pv 4) pa_nil)) pa_nil))) (pe_call O_l_law_take hr_l_law_take (by rfl) (He.glo_ok hX hG (c.look 6)) K_l_law_take B_l_law_take .nil pass0 (pa_cons (pv 0) (pa_cons pe_int pa_nil))) (fun _ _ => rfl)) (pa_cons (pe_ifExp (pt_cmpR op_uIs (pe_ix ix_u (pv 2) pe_int (fun _ _ => rfl)) pe_non (nomark _)) pe_non (pe_ix ix_u (pv 1) (pe_ix ix_u (pv 2) pe_int (fun _ _ => rfl)) (fun _ _ => rfl))) pa_nil)))))))
theorem sc_l_law_told_right : FnScope ["_law_shape_here", "_law_names_here", "_law_part", "_law_fixed", "_law_span", "_law_whole_here", "_law_text", "_law_sets", "_law_turn", "_law_found", "_law_at", "_law_one"] ["_law_shape_here", "_law_names_here", "_law_part"] (defScope s_l_law_told_right) := ⟨rfl, rfl, rfl, by decide +kernel, rfl, by decide +kernel, by decide +kernel⟩
theorem ok_l_law_told_right {P : Program} {w : World} {K : PySem.W.Frag} {mg : Str → Option Value} {base h : Heap} {fd : FuncData} {fd_Shape_D_str_D : FuncData} {fd_Shape_D_len_D : FuncData} {fd_Shape_span : FuncData} {fd_Shape_sets : FuncData} {fd_Shape_columns : FuncData} {fd_Shape_fixed : FuncData} (c : SaysA looks defs K) (hX : K.In h) (hG : h.Ns mainGlobals mg) (F_l_law_told_right : Fun_l_law_told_right K fd) (O_Shape_D_str_D : FnOk P w K mg base CX0 1 (He.fAd K d_Shape_D_str_D.at_) fd_Shape_D_str_D ["self"] (sp_Shape_D_str_D K)) (D_Shape_D_str_D : Fun_Shape_D_str_D K fd_Shape_D_str_D) (O_Shape_D_len_D : FnOk P w K mg base CX0 2 (He.fAd K d_Shape_D_len_D.at_) fd_Shape_D_len_D ["self"] (sp_Shape_D_len_D K)) (D_Shape_D_len_D : Fun_Shape_D_len_D K fd_Shape_D_len_D) (O_Shape_span : FnOk P w K mg base CX0 1 (pgA K "Shape" "span") fd_Shape_span ["self"] (sp_Shape_span K)) (D_Shape_span : Fun_Shape_span K fd_Shape_span) (O_Shape_sets : FnOk P w K mg base CX0 2 (He.fAd K d_Shape_sets.at_) fd_Shape_sets ["self"] (sp_Shape_sets K)) (D_Shape_sets : Fun_Shape_sets K fd_Shape_sets) (O_Shape_columns : FnOk P w K mg base CX0 1 (He.fAd K d_Shape_columns.at_) fd_Shape_columns ["self"] (sp_Shape_columns K)) (D_Shape_columns : Fun_Shape_columns K fd_Shape_columns) (O_Shape_fixed : FnOk P w K mg base CX0 1 (He.fAd K d_Shape_fixed.at_) fd_Shape_fixed ["self"] (sp_Shape_fixed K)) (D_Shape_fixed : Fun_Shape_fixed K fd_Shape_fixed) : SL.FnG P w K mg base CX0 4 (He.fAd K d_l_law_told_right.at_) fd ["_law_shape_here", "_law_names_here", "_law_part"] (sp_l_law_told_right K) := by
  have B_Shape_D_str_D := bind_Shape_D_str_D D_Shape_D_str_D
  have K_Shape_D_str_D := D_Shape_D_str_D.kp
  have B_Shape_D_len_D := bind_Shape_D_len_D D_Shape_D_len_D
  have K_Shape_D_len_D := D_Shape_D_len_D.kp
  have B_Shape_span := bind_Shape_span D_Shape_span
  have K_Shape_span := D_Shape_span.kp
  have B_Shape_sets := bind_Shape_sets D_Shape_sets
  have K_Shape_sets := D_Shape_sets.kp
  have B_Shape_columns := bind_Shape_columns D_Shape_columns
  have K_Shape_columns := D_Shape_columns.kp
  have B_Shape_fixed := bind_Shape_fixed D_Shape_fixed
  have K_Shape_fixed := D_Shape_fixed.kp
  have F := F_l_law_told_right
  refine SL.fun_g F sc_l_law_told_right (fun vs H Q E h => len_l_law_told_right h) (fun cdv A hg0 outer s H vs Q E hr h => ⟨t_l_law_told_right K, PSs.nox ?_, pure_l_law_told_right (kf_ok c) vs H Q E h⟩)
  have hg : (A.deeper (envOfC d_l_law_told_right.qual d_l_law_told_right.scope s.heap.objs.size (He.fAd K d_l_law_told_right.at_) cdv)).guards = some [] := SL.guards_deeper hg0
  have hu := SL.hu64 hr
  have hr_Shape_D_str_D_2 : Room 3 _ := hr.mono (by decide)
  have hr_Shape_D_len_D_1 : Room 3 _ := hr.mono (by decide)
  have hr_Shape_span_1 : Room 2 _ := hr.mono (by decide)
  have hr_Shape_sets : Room 2 _ := hr.mono (by decide)
  have hr_Shape_columns : Room 1 _ := hr.mono (by decide)
  have hr_Shape_fixed : Room 1 _ := hr.mono (by decide)
  exact (pss_cons (ps_set (i := 3) sc_l_law_told_right.nd rfl (by first | exact Or.inl rfl | exact Or.inr rfl) (pe_callB call_srt (by rfl) (He.free_ok hX hG (c.look 16)) (by decide +kernel) (pa_cons (pe_lc (own := [("_law_at", 10)]) (wi := (iU K (tOp (uIx K) (tVar 2) (tC (.int 0))))) (g := (gName 10)) (tt := tYes) (te := (tOp (uIx K) (tVar 1) (tVar 10))) (by rfl) sc_l_law_told_right.nd (pi_u (pe_ix ix_u (pv 2) pe_int (fun _ _ => rfl))) (blkOk_by (own := [("_law_at", 10)]) (N := ["_law_shape_here", "_law_names_here", "_law_part", "_law_fixed", "_law_span", "_law_whole_here", "_law_text", "_law_sets", "_law_turn", "_law_found", "_law_at", "_law_one"]) (sc := defScope s_l_law_told_right) (by decide +kernel)) (fun _ _ _ _ _ => (pg_name (i := 10) sc_l_law_told_right.nd rfl (by first | exact Or.inl rfl | exact Or.inr rfl))) (fun _ _ _ _ _ => pts_nil) (fun _ _ _ _ _ => (pe_ix ix_u (pv 1) (pv 10) (fun _ _ => rfl)))) pa_nil)))
    (pss_cons (ps_set (i := 4) sc_l_law_told_right.nd rfl (by first | exact Or.inl rfl | exact Or.inr rfl) (pe_ifExp (pt_cmpR op_uIs (pe_ix ix_u (pv 2) pe_int (fun _ _ => rfl)) pe_non (nomark _)) pe_non (pe_ix ix_u (pv 1) (pe_ix ix_u (pv 2) pe_int (fun _ _ => rfl)) (fun _ _ => rfl))))
    (pss_cons (ps_set (i := 5) sc_l_law_told_right.nd rfl (by first | exact Or.inl rfl | exact Or.inr rfl) (pe_callB call_srt (by rfl) (He.free_ok hX hG (c.look 16)) (by decide +kernel) (pa_cons (pe_op op_uAdd (pv 3) (pe_lc (own := [("_law_one", 11)]) (wi := (iU K (tLst (tCons (tVar 4) tNil)))) (g := (gName 11)) (tt := (tTest (tOp uIsnt (tVar 11) (tC .non)))) (te := (tVar 11)) (by rfl) sc_l_law_told_right.nd (pi_u (pe_lst (pa_cons (pv 4) pa_nil))) (blkOk_by (own := [("_law_one", 11)]) (N := ["_law_shape_here", "_law_names_here", "_law_part", "_law_fixed", "_law_span", "_law_whole_here", "_law_text", "_law_sets", "_law_turn", "_law_found", "_law_at", "_law_one"]) (sc := defScope s_l_law_told_right) (by decide +kernel)) (fun _ _ _ _ _ => (pg_name (i := 11) sc_l_law_told_right.nd rfl (by first | exact Or.inl rfl | exact Or.inr rfl))) (fun _ _ _ _ _ => (pts_one (pt_cmpR op_uIn0 (pv 11) pe_non (nomark _)))) (fun _ _ _ _ _ => (pv 11)))) pa_nil)))
    (pss_cons (ps_set (i := 6) sc_l_law_told_right.nd rfl (by first | exact Or.inl rfl | exact Or.inr rfl) (pe_op op_uAdd (pe_ifExp (pt_cmpR (op_uNe hu) (pv 3) (pe_lst pa_nil) (nomark _)) (pe_bm PySem.F.plainAttrs_str PySem.F.slot_str_join PySem.F.type_str_join mt_uJoin pe_str (pa_cons (pv 3) pa_nil)) pe_str) (pe_ifExp (pt_cmpR op_uIs (pv 4) pe_non (nomark _)) pe_str (pe_op op_uAdd pe_str (pv 4)))))
    (pss_cons (ps_set (i := 7) sc_l_law_told_right.nd rfl (by first | exact Or.inl rfl | exact Or.inr rfl) (pe_ifExp (pt_cmpR op_uIs (pv 4) pe_non (nomark _)) (pe_lst (pa_cons (pv 3) pa_nil)) (pe_lst (pa_cons (pv 3) (pa_cons (pv 5) pa_nil)))))
    (pss_cons (ps_for PassesOwn.never rfl (pi_range1 rfl (He.free_ok hX hG (c.look 25)) (pa_cons pe_int pa_nil)) (pg_name (i := 8) sc_l_law_told_right.nd rfl (by first | exact Or.inl rfl | exact Or.inr rfl)) (pss_cons (ps_set (i := 9) sc_l_law_told_right.nd rfl (by first | exact Or.inl rfl | exact Or.inr rfl) (pe_lst (pa_cons (pe_meth0 (pv 0) (ownB_ok (c.look 0)).cls (He.meth_ok (c.look 2)) O_Shape_fixed hr_Shape_fixed B_Shape_fixed .nil pass0) (pa_cons (pe_meth0 (pv 0) (ownB_ok (c.look 0)).cls (He.meth_ok (c.look 3)) O_Shape_columns hr_Shape_columns B_Shape_columns .nil pass0) (pa_cons (pe_meth0 (pv 0) (ownB_ok (c.look 0)).cls (He.meth_ok (c.look 34)) O_Shape_sets hr_Shape_sets B_Shape_sets .nil pass0) pa_nil)))))
    (pss_cons (ps_if (PW.pt (pw_or (pt_cmpR (op_uNe hu) (pe_callB (call_uRepr hg hu) (by rfl) (He.free_ok hX hG (c.look 32)) (by decide +kernel) (pa_cons (pv 9) pa_nil)) (pe_callB (call_uRepr hg hu) (by rfl) (He.free_ok hX hG (c.look 32)) (by decide +kernel) (pa_cons (pe_lst (pa_cons (pv 3) (pa_cons (pv 5) (pa_cons (pv 7) pa_nil)))) pa_nil)) (nomark _)) (pw_or1 (pt_cmpR (op_uNe hu) (pe_callB (call_uRepr hg hu) (by rfl) (He.free_ok hX hG (c.look 32)) (by decide +kernel) (pa_cons (pe_prop (pv 0) (ownB_ok (c.look 0)).cls (propB_ok (c.look 33)) O_Shape_span hr_Shape_span_1 B_Shape_span .nil pass0 rfl) pa_nil)) (pe_callB (call_uRepr hg hu) (by rfl) (He.free_ok hX hG (c.look 32)) (by decide +kernel) (pa_cons (pv 4) pa_nil)) (nomark _))))) (pss_one (ps_ret pe_bl)) pss_nil)
    (pss_cons (ps_if (PW.pt (pw_or (pt_cmpR (op_uNe hu) (pe_callB (call_lenO (specB_ok (c.look 31)).1 (specB_ok (c.look 31)).2 (raw0 O_Shape_D_len_D B_Shape_D_len_D) hr_Shape_D_len_D_1 pass0) (by rfl) (He.free_ok hX hG (c.look 4)) (by decide +kernel) (pa_cons (pv 0) pa_nil)) (pe_callB call_uLen (by rfl) (He.free_ok hX hG (c.look 4)) (by decide +kernel) (pa_cons (pv 5) pa_nil)) (nomark _)) (pw_or1 (pt_cmpR (op_uNe hu) (pe_callTy (call_strO (specB_ok (c.look 30)).1 (specB_ok (c.look 30)).2 (raw0 O_Shape_D_str_D B_Shape_D_str_D) hr_Shape_D_str_D_2 pass0) (by rfl) (He.free_ok hX hG (c.look 11)) (by decide +kernel) (pa_cons (pv 0) pa_nil)) (pv 6) (nomark _))))) (pss_one (ps_ret pe_bl)) pss_nil)
    (pss_cons (ps_expr (pe_bm PySem.F.plainAttrs_list PySem.F.slot_list_append PySem.F.type_list_append mt_append (pe_ix ix_u (pe_ix ix_u (pv 9) pe_int (fun _ _ => rfl)) pe_int (fun _ _ => rfl)) (pa_cons pe_str pa_nil)))
    (pss_cons (ps_expr (pe_bm PySem.F.plainAttrs_list PySem.F.slot_list_append PySem.F.type_list_append mt_append (pe_ix ix_u (pv 9) pe_int (fun _ _ => rfl)) (pa_cons (pe_lst pa_nil) pa_nil)))
    (pss_cons (ps_expr (pe_bm PySem.F.plainAttrs_list PySem.F.slot_list_append PySem.F.type_list_append mt_append (pe_ix ix_u (pv 9) pe_int (fun _ _ => rfl)) (pa_cons pe_int pa_nil)))
    (pss_one (ps_expr (pe_bm0 PySem.F.plainAttrs_list PySem.F.slot_list_reverse PySem.F.type_list_reverse mt_reverse (pe_ix ix_u (pv 9) pe_int (fun _ _ => rfl))))))))))))
    (pss_one (ps_ret pe_bl))))))))
theorem sc_l_law_others : FnScope ["_law_bag_here", "_law_names_here", "_law_part", "_law_found", "_law_whole_here", "_law_at", "_law_fewer", "_law_one"] ["_law_bag_here", "_law_names_here", "_law_part"] (defScope s_l_law_others) := ⟨rfl, rfl, rfl, by decide +kernel, rfl, by decide +kernel, by decide +kernel⟩
theorem ok_l_law_others {P : Program} {w : World} {K : PySem.W.Frag} {mg : Str → Option Value} {base h : Heap} {fd : FuncData} {fd_l_law_whole : FuncData} {fd_l_law_shape : FuncData} (c : SaysA looks defs K) (hX : K.In h) (hG : h.Ns mainGlobals mg) (F_l_law_others : Fun_l_law_others K fd) (O_l_law_whole : FnOk P w K mg base CX0 1 (He.fAd K d_l_law_whole.at_) fd_l_law_whole ["_law_part"] (sp_l_law_whole K)) (D_l_law_whole : Fun_l_law_whole K fd_l_law_whole) (O_l_law_shape : FnOk P w K mg base CX0 4 (He.fAd K d_l_law_shape.at_) fd_l_law_shape ["_law_bag_here", "_law_names_here", "_law_part"] (sp_l_law_shape K)) (D_l_law_shape : Fun_l_law_shape K fd_l_law_shape) : FnOk P w K mg base CX0 5 (He.fAd K d_l_law_others.at_) fd ["_law_bag_here", "_law_names_here", "_law_part"] (sp_l_law_others K) := by
  have B_l_law_whole := bind_l_law_whole D_l_law_whole
  have K_l_law_whole := D_l_law_whole.kp
  have B_l_law_shape := bind_l_law_shape D_l_law_shape
  have K_l_law_shape := D_l_law_shape.kp
  have F := F_l_law_others
  refine F.ok sc_l_law_others (fun vs H Q E h => len_l_law_others h) (fun cdv A outer s H vs Q E hr h => ⟨t_l_law_others K, PSs.nox ?_, pure_l_law_others (kf_ok c) vs H Q E h⟩)
  have hu := SL.hu64 hr
  have hr_l_law_whole : Room 1 _ := hr.mono (by decide)
  have hr_l_law_shape : Room 4 _ := hr.mono (by decide)
  exact (pss_cons (ps_asg (pe_tup (pa_cons (pe_lst pa_nil) (pa_cons (pe_call O_l_law_whole hr_l_law_whole (by rfl) (He.glo_ok hX hG (c.look 35)) K_l_law_whole B_l_law_whole .nil pass0 (pa_cons (pv 2) pa_nil)) pa_nil))) (pg_tup rfl (pgs_cons (pg_name (i := 3) sc_l_law_others.nd rfl (by first | exact Or.inl rfl | exact Or.inr rfl)) (pgs_cons (pg_name (i := 4) sc_l_law_others.nd rfl (by first | exact Or.inl rfl | exact Or.inr rfl)) pgs_nil))))
    (pss_cons (ps_for PassesOwn.never rfl (pi_u (pe_ix ix_u (pv 2) pe_int (fun _ _ => rfl))) (pg_name (i := 5) sc_l_law_others.nd rfl (by first | exact Or.inl rfl | exact Or.inr rfl)) (pss_cons (ps_setLc (i := 6) (own := [("_law_one", 7)]) (wi := (iU K (tOp (uIx K) (tVar 2) (tC (.int 0))))) (g := (gName 7)) (tt := (tTest (tOp (uNe K) (tVar 7) (tVar 5)))) (te := (tVar 7)) (by rfl) sc_l_law_others.nd rfl rfl (sw_true rfl rfl rfl (by decide +kernel)) (pi_u (pe_ix ix_u (pv 2) pe_int (fun _ _ => rfl))) (blkOk_by (own := [("_law_one", 7)]) (N := ["_law_bag_here", "_law_names_here", "_law_part", "_law_found", "_law_whole_here", "_law_at", "_law_fewer", "_law_one"]) (sc := defScope s_l_law_others) (by decide +kernel)) (fun _ _ _ _ _ => (pg_name (i := 7) sc_l_law_others.nd rfl (by first | exact Or.inl rfl | exact Or.inr rfl))) (fun _ _ _ _ _ => (pts_one (pt_cmpR (op_uNe hu) (pv 7) (pv 5) (nomark _)))) (fun _ _ _ _ _ => (pv 7)))
    (pss_cons (ps_expr (pe_bm PySem.F.plainAttrs_list PySem.F.slot_list_append PySem.F.type_list_append mt_append (pv 3) (pa_cons (pe_tup (pa_cons (pv 6) (pa_cons (pe_ix ix_u (pv 2) pe_int (fun _ _ => rfl)) pa_nil))) pa_nil)))
    (pss_one (ps_expr (pe_bm PySem.F.plainAttrs_list PySem.F.slot_list_append PySem.F.type_list_append mt_append (pv 3) (pa_cons (pe_tup (pa_cons (pv 6) (pa_cons (pv 5) pa_nil))) pa_nil)))))))
    (pss_cons (ps_for PassesOwn.never rfl (pi_u (pe_lc (own := [("_law_one", 7)]) (wi := (iRng1 (tCons (tCB (uLen K) (tCons (tVar 1) tNil)) tNil))) (g := (gName 7)) (tt := (tTest (tOp (uNi K) (tVar 7) (tVar 4)))) (te := (tVar 7)) (by rfl) sc_l_law_others.nd (pi_range1 rfl (He.free_ok hX hG (c.look 25)) (pa_cons (pe_callB call_uLen (by rfl) (He.free_ok hX hG (c.look 4)) (by decide +kernel) (pa_cons (pv 1) pa_nil)) pa_nil)) (blkOk_by (own := [("_law_one", 7)]) (N := ["_law_bag_here", "_law_names_here", "_law_part", "_law_found", "_law_whole_here", "_law_at", "_law_fewer", "_law_one"]) (sc := defScope s_l_law_others) (by decide +kernel)) (fun _ _ _ _ _ => (pg_name (i := 7) sc_l_law_others.nd rfl (by first | exact Or.inl rfl | exact Or.inr rfl))) (fun _ _ _ _ _ => (pts_one (pt_cmpR op_uNi (pv 7) (pv 4) (by rfl)))) (fun _ _ _ _ _ => (pv 7)))) (pg_name (i := 5) sc_l_law_others.nd rfl (by first | exact Or.inl rfl | exact Or.inr rfl)) (pss_cons (ps_if (PW.pt (pw_or (pt_cmpR (op_uLt hu) (pe_callB call_uLen (by rfl) (He.free_ok hX hG (c.look 4)) (by decide +kernel) (pa_cons (pv 4) pa_nil)) pe_int (nomark _)) (pw_or1 (pt_cmpR op_uIn0 (pe_ix ix_u (pv 2) pe_int (fun _ _ => rfl)) pe_non (nomark _))))) (pss_one (ps_expr (pe_bm PySem.F.plainAttrs_list PySem.F.slot_list_append PySem.F.type_list_append mt_append (pv 3) (pa_cons (pe_tup (pa_cons (pe_ix ix_u (pv 2) pe_int (fun _ _ => rfl)) (pa_cons (pv 5) pa_nil))) pa_nil)))) pss_nil)
    (pss_one (ps_if (pt_cmpR (op_uLt hu) (pe_callB call_uLen (by rfl) (He.free_ok hX hG (c.look 4)) (by decide +kernel) (pa_cons (pv 4) pa_nil)) pe_int (nomark _)) (pss_one (ps_expr (pe_bm PySem.F.plainAttrs_list PySem.F.slot_list_append PySem.F.type_list_append mt_append (pv 3) (pa_cons (pe_tup (pa_cons (pe_op op_uAdd (pe_ix ix_u (pv 2) pe_int (fun _ _ => rfl)) (pe_lst (pa_cons (pv 5) pa_nil))) (pa_cons (pe_ix ix_u (pv 2) pe_int (fun _ _ => rfl)) pa_nil))) pa_nil)))) pss_nil))))
    (pss_cons (ps_if (pt_cmpR op_uIn0 (pe_ix ix_u (pv 2) pe_int (fun _ _ => rfl)) pe_non (nomark _)) (pss_cons (ps_expr (pe_bm PySem.F.plainAttrs_list PySem.F.slot_list_append PySem.F.type_list_append mt_append (pv 3) (pa_cons (pe_tup (pa_cons (pe_ix ix_u (pv 2) pe_int (fun _ _ => rfl)) (pa_cons pe_non pa_nil))) pa_nil)))
    (pss_one (ps_expr (pe_bm PySem.F.plainAttrs_list PySem.F.slot_list_append PySem.F.type_list_append mt_append (pv 3) (pa_cons (pe_tup (pa_cons (pv 4) (pa_cons pe_non pa_nil))) pa_nil))))) pss_nil)
    (pss_one (ps_ret (pe_lc (own := [("_law_one", 7)]) (wi := (iU K (tVar 3))) (g := (gName 7)) (tt := (tTest (tOp (uLt K) (tCB (uLen K) (tCons (tCall (sp_l_law_whole K) [] E0 (tCons (tVar 7) tNil)) tNil)) (tC (.int 6))))) (te := (tCall (sp_l_law_shape K) [] E0 (tCons (tVar 0) (tCons (tVar 1) (tCons (tVar 7) tNil))))) (by rfl) sc_l_law_others.nd (pi_u (pv 3)) (blkOk_by (own := [("_law_one", 7)]) (N := ["_law_bag_here", "_law_names_here", "_law_part", "_law_found", "_law_whole_here", "_law_at", "_law_fewer", "_law_one"]) (sc := defScope s_l_law_others) (by decide +kernel)) (fun _ _ _ _ _ => (pg_name (i := 7) sc_l_law_others.nd rfl (by first | exact Or.inl rfl | exact Or.inr rfl))) (fun _ _ _ _ _ => (pts_one (pt_cmpR (op_uLt hu) (pe_callB call_uLen (by rfl) (He.free_ok hX hG (c.look 4)) (by decide +kernel) (pa_cons (pe_call O_l_law_whole hr_l_law_whole (by rfl) (He.glo_ok hX hG (c.look 35)) K_l_law_whole B_l_law_whole .nil pass0 (pa_cons (pv 7) pa_nil)) pa_nil)) pe_int (nomark _)))) (fun _ _ _ _ _ => (pe_call O_l_law_shape hr_l_law_shape (by rfl) (He.glo_ok hX hG (c.look 36)) K_l_law_shape B_l_law_shape .nil pass0 (pa_cons (pv 0) (pa_cons (pv 1) (pa_cons (pv 7) pa_nil))))))))))))
theorem sc_law : FnScope ["_law_script", "_law_index", "_law_bag_here", "_law_names_here", "_law_part", "_law_passed", "_law_span", "_law_made", "_law_shape_here", "_law_odds", "_law_at", "_law_one", "_law_odd"] ["_law_script"] (defScope s_law) := ⟨rfl, rfl, rfl, by decide +kernel, rfl, by decide +kernel, by decide +kernel⟩
theorem ok_law {P : Program} {w : World} {K : PySem.W.Frag} {mg : Str → Option Value} {base h : Heap} {fd : FuncData} {fd_l_law_parts : FuncData} {fd_Shape_D_repr_D : FuncData} {fd_Shape_D_eq_D : FuncData} {fd_Shape_D_len_D : FuncData} {fd_Shape_columns : FuncData} {fd_Shape_sets : FuncData} {fd_Shape_fixed : FuncData} {fd_Shape_D_str_D : FuncData} {fd_l_law_others : FuncData} {fd_l_law_told_right : FuncData} {fd_Shape_D_init_D : FuncData} {fd_l_law_shape : FuncData} {fd_l_law_names : FuncData} {fd_l_law_take : FuncData} {fd_l_law_bag : FuncData} {fd_l_law_cell : FuncData} (c : SaysA looks defs K) (hX : K.In h) (hG : h.Ns mainGlobals mg) (F_law : Fun_law K fd) (O_l_law_parts : FnOk P w K mg base CX0 3 (He.fAd K d_l_law_parts.at_) fd_l_law_parts ["_law_bag_here", "_law_many", "_law_most"] (sp_l_law_parts K)) (D_l_law_parts : Fun_l_law_parts K fd_l_law_parts) (O_Shape_D_repr_D : SL.FnG P w K mg base CX0 1 (He.fAd K d_Shape_D_repr_D.at_) fd_Shape_D_repr_D ["self"] (sp_Shape_D_repr_D K)) (D_Shape_D_repr_D : Fun_Shape_D_repr_D K fd_Shape_D_repr_D) (O_Shape_D_eq_D : FnOk P w K mg base CX0 1 (He.fAd K d_Shape_D_eq_D.at_) fd_Shape_D_eq_D ["self", "other"] (sp_Shape_D_eq_D K)) (D_Shape_D_eq_D : Fun_Shape_D_eq_D K fd_Shape_D_eq_D) (O_Shape_D_len_D : FnOk P w K mg base CX0 2 (He.fAd K d_Shape_D_len_D.at_) fd_Shape_D_len_D ["self"] (sp_Shape_D_len_D K)) (D_Shape_D_len_D : Fun_Shape_D_len_D K fd_Shape_D_len_D) (O_Shape_columns : FnOk P w K mg base CX0 1 (He.fAd K d_Shape_columns.at_) fd_Shape_columns ["self"] (sp_Shape_columns K)) (D_Shape_columns : Fun_Shape_columns K fd_Shape_columns) (O_Shape_sets : FnOk P w K mg base CX0 2 (He.fAd K d_Shape_sets.at_) fd_Shape_sets ["self"] (sp_Shape_sets K)) (D_Shape_sets : Fun_Shape_sets K fd_Shape_sets) (O_Shape_fixed : FnOk P w K mg base CX0 1 (He.fAd K d_Shape_fixed.at_) fd_Shape_fixed ["self"] (sp_Shape_fixed K)) (D_Shape_fixed : Fun_Shape_fixed K fd_Shape_fixed) (O_Shape_D_str_D : FnOk P w K mg base CX0 1 (He.fAd K d_Shape_D_str_D.at_) fd_Shape_D_str_D ["self"] (sp_Shape_D_str_D K)) (D_Shape_D_str_D : Fun_Shape_D_str_D K fd_Shape_D_str_D) (O_l_law_others : FnOk P w K mg base CX0 5 (He.fAd K d_l_law_others.at_) fd_l_law_others ["_law_bag_here", "_law_names_here", "_law_part"] (sp_l_law_others K)) (D_l_law_others : Fun_l_law_others K fd_l_law_others) (O_l_law_told_right : SL.FnG P w K mg base CX0 4 (He.fAd K d_l_law_told_right.at_) fd_l_law_told_right ["_law_shape_here", "_law_names_here", "_law_part"] (sp_l_law_told_right K)) (D_l_law_told_right : Fun_l_law_told_right K fd_l_law_told_right) (O_Shape_D_init_D : FnOk P w K mg base CX0 2 (He.fAd K d_Shape_D_init_D.at_) fd_Shape_D_init_D ["self", "fixed", "span"] (sp_Shape_D_init_D K)) (D_Shape_D_init_D : Fun_Shape_D_init_D K fd_Shape_D_init_D) (O_l_law_shape : FnOk P w K mg base CX0 4 (He.fAd K d_l_law_shape.at_) fd_l_law_shape ["_law_bag_here", "_law_names_here", "_law_part"] (sp_l_law_shape K)) (D_l_law_shape : Fun_l_law_shape K fd_l_law_shape) (O_l_law_names : FnOk P w K mg base CX0 2 (He.fAd K d_l_law_names.at_) fd_l_law_names ["_law_bag_here", "_law_many"] (sp_l_law_names K)) (D_l_law_names : Fun_l_law_names K fd_l_law_names) (O_l_law_take : FnOk P w K mg base CX0 1 (He.fAd K d_l_law_take.at_) fd_l_law_take ["_law_bag_here", "_law_many"] (sp_l_law_take K)) (D_l_law_take : Fun_l_law_take K fd_l_law_take) (O_l_law_bag : FnOk P w K mg base CX0 1 (He.fAd K d_l_law_bag.at_) fd_l_law_bag ["_law_cell_here"] (sp_l_law_bag K)) (D_l_law_bag : Fun_l_law_bag K fd_l_law_bag) (O_l_law_cell : FnOk P w K mg base CX0 1 (He.fAd K d_l_law_cell.at_) fd_l_law_cell ["_law_script", "_law_index"] (sp_l_law_cell K)) (D_l_law_cell : Fun_l_law_cell K fd_l_law_cell) : SL.FnG P w K mg base CX0 6 (He.fAd K d_law.at_) fd ["_law_script"] (sp_law K) := by
  have B_l_law_parts := bind_l_law_parts D_l_law_parts
  have K_l_law_parts := D_l_law_parts.kp
  have B_Shape_D_repr_D := bind_Shape_D_repr_D D_Shape_D_repr_D
  have K_Shape_D_repr_D := D_Shape_D_repr_D.kp
  have B_Shape_D_eq_D := bind_Shape_D_eq_D D_Shape_D_eq_D
  have K_Shape_D_eq_D := D_Shape_D_eq_D.kp
  have B_Shape_D_len_D := bind_Shape_D_len_D D_Shape_D_len_D
  have K_Shape_D_len_D := D_Shape_D_len_D.kp
  have B_Shape_columns := bind_Shape_columns D_Shape_columns
  have K_Shape_columns := D_Shape_columns.kp
  have B_Shape_sets := bind_Shape_sets D_Shape_sets
  have K_Shape_sets := D_Shape_sets.kp
  have B_Shape_fixed := bind_Shape_fixed D_Shape_fixed
  have K_Shape_fixed := D_Shape_fixed.kp
  have B_Shape_D_str_D := bind_Shape_D_str_D D_Shape_D_str_D
  have K_Shape_D_str_D := D_Shape_D_str_D.kp
  have B_l_law_others := bind_l_law_others D_l_law_others
  have K_l_law_others := D_l_law_others.kp
  have B_l_law_told_right := bind_l_law_told_right D_l_law_told_right
  have K_l_law_told_right := D_l_law_told_right.kp
  have B_Shape_D_init_D := bind_Shape_D_init_D D_Shape_D_init_D
  have K_Shape_D_init_D := D_Shape_D_init_D.kp
  have B_l_law_shape := bind_l_law_shape D_l_law_shape
  have K_l_law_shape := D_l_law_shape.kp
  have B_l_law_names := bind_l_law_names D_l_law_names
  have K_l_law_names := D_l_law_names.kp
  have B_l_law_take := bind_l_law_take D_l_law_take
  have K_l_law_take := D_l_law_take.kp
  have B_l_law_bag := bind_l_law_bag D_l_law_bag
  have K_l_law_bag := D_l_law_bag.kp
  have B_l_law_cell := bind_l_law_cell D_l_law_cell
  have K_l_law_cell := D_l_law_cell.kp
  obtain ⟨us1_Shape_D_init_D, VD1_Shape_D_init_D, BD1_Shape_D_init_D⟩ := bindD1_Shape_D_init_D D_Shape_D_init_D
  have F := F_law
  refine SL.fun_g F sc_law (fun vs H Q E h => len_law h) (fun cdv A hg0 outer s H vs Q E hr h => ⟨t_law K, PSs.nox ?_, pure_law (kf_ok c) vs H Q E h⟩)
  have hg : (A.deeper (envOfC d_law.qual d_law.scope s.heap.objs.size (He.fAd K d_law.at_) cdv)).guards = some [] := SL.guards_deeper hg0
  have hu := SL.hu64 hr
  have hr_l_law_parts : Room 3 _ := hr.mono (by decide)
  have hr_Shape_D_repr_D_1 : Room 2 _ := hr.mono (by decide)
  have hr_Shape_D_eq_D : Room 1 _ := hr.mono (by decide)
  have hr_Shape_D_eq_D_1 : Room 2 _ := hr.mono (by decide)
  have hr_Shape_D_len_D_1 : Room 3 _ := hr.mono (by decide)
  have hr_Shape_columns : Room 1 _ := hr.mono (by decide)
  have hr_Shape_sets : Room 2 _ := hr.mono (by decide)
  have hr_Shape_fixed : Room 1 _ := hr.mono (by decide)
  have hr_Shape_D_str_D_2 : Room 3 _ := hr.mono (by decide)
  have hr_l_law_others : Room 5 _ := hr.mono (by decide)
  have hr_l_law_told_right : Room 4 _ := hr.mono (by decide)
  have hr_Shape_D_init_D_1 : Room 3 _ := hr.mono (by decide)
  have hr_l_law_shape : Room 4 _ := hr.mono (by decide)
  have hr_l_law_names : Room 2 _ := hr.mono (by decide)
  have hr_l_law_take : Room 1 _ := hr.mono (by decide)
  have hr_l_law_bag : Room 1 _ := hr.mono (by decide)
  have hr_l_law_cell : Room 1 _ := hr.mono (by decide)
  exact (pss_cons (ps_for PassesOwn.never rfl (pi_range1 rfl (He.free_ok hX hG (c.look 25)) (pa_cons (pe_callB (call_max2 rfl) (by rfl) (He.free_ok hX hG (c.look 5)) (by decide +kernel) (pa_cons pe_int (pa_cons (pe_callB (call_min2 rfl) (by rfl) (He.free_ok hX hG (c.look 26)) (by decide +kernel) (pa_cons pe_int (pa_cons (pe_callB call_uLen (by rfl) (He.free_ok hX hG (c.look 4)) (by decide +kernel) (pa_cons (pv 0) pa_nil)) pa_nil))) pa_nil))) pa_nil)) (pg_name (i := 1) sc_law.nd rfl (by first | exact Or.inl rfl | exact Or.inr rfl)) (pss_cons (ps_set (i := 2) sc_law.nd rfl (by first | exact Or.inl rfl | exact Or.inr rfl) (pe_call O_l_law_bag hr_l_law_bag (by rfl) (He.glo_ok hX hG (c.look 45)) K_l_law_bag B_l_law_bag .nil pass0 (pa_cons (pe_call O_l_law_cell hr_l_law_cell (by rfl) (He.glo_ok hX hG (c.look 46)) K_l_law_cell B_l_law_cell .nil pass0 (pa_cons (pv 0) (pa_cons (pv 1) pa_nil))) pa_nil)))
    (pss_cons (ps_set (i := 3) sc_law.nd rfl (by first | exact Or.inl rfl | exact Or.inr rfl) (pe_call O_l_law_names hr_l_law_names (by rfl) (He.glo_ok hX hG (c.look 44)) K_l_law_names B_l_law_names .nil pass0 (pa_cons (pv 2) (pa_cons (pe_op op_uAdd pe_int (pe_call O_l_law_take hr_l_law_take (by rfl) (He.glo_ok hX hG (c.look 6)) K_l_law_take B_l_law_take .nil pass0 (pa_cons (pv 2) (pa_cons pe_int pa_nil)))) pa_nil))))
    (pss_one (ps_for PassesOwn.never rfl (pi_u (pe_op op_uAdd (pe_call O_l_law_parts hr_l_law_parts (by rfl) (He.glo_ok hX hG (c.look 37)) K_l_law_parts B_l_law_parts .nil pass0 (pa_cons (pv 2) (pa_cons (pe_callB call_uLen (by rfl) (He.free_ok hX hG (c.look 4)) (by decide +kernel) (pa_cons (pv 3) pa_nil)) (pa_cons pe_int pa_nil)))) (pe_lst (pa_cons (pe_tup (pa_cons (pe_lst pa_nil) (pa_cons pe_non pa_nil))) pa_nil)))) (pg_name (i := 4) sc_law.nd rfl (by first | exact Or.inl rfl | exact Or.inr rfl)) (pss_cons (ps_set (i := 5) sc_law.nd rfl (by first | exact Or.inl rfl | exact Or.inr rfl) (pe_revL (pe_lc (own := [("_law_at", 10)]) (wi := (iU K (tOp (uIx K) (tVar 4) (tC (.int 0))))) (g := (gName 10)) (tt := tYes) (te := (tOp (uIx K) (tVar 3) (tVar 10))) (by rfl) sc_law.nd (pi_u (pe_ix ix_u (pv 4) pe_int (fun _ _ => rfl))) (blkOk_by (own := [("_law_at", 10)]) (N := ["_law_script", "_law_index", "_law_bag_here", "_law_names_here", "_law_part", "_law_passed", "_law_span", "_law_made", "_law_shape_here", "_law_odds", "_law_at", "_law_one", "_law_odd"]) (sc := defScope s_law) (by decide +kernel)) (fun _ _ _ _ _ => (pg_name (i := 10) sc_law.nd rfl (by first | exact Or.inl rfl | exact Or.inr rfl))) (fun _ _ _ _ _ => pts_nil) (fun _ _ _ _ _ => (pe_ix ix_u (pv 3) (pv 10) (fun _ _ => rfl))))))
    (pss_cons (ps_set (i := 6) sc_law.nd rfl (by first | exact Or.inl rfl | exact Or.inr rfl) (pe_ifExp (pt_cmpR op_uIs (pe_ix ix_u (pv 4) pe_int (fun _ _ => rfl)) pe_non (nomark _)) pe_non (pe_ix ix_u (pv 3) (pe_ix ix_u (pv 4) pe_int (fun _ _ => rfl)) (fun _ _ => rfl))))
    (pss_cons (ps_set (i := 7) sc_law.nd rfl (by first | exact Or.inl rfl | exact Or.inr rfl) (pe_lst (pa_cons (pe_make (He.mkr_ok (c.look 29)) O_Shape_D_init_D hr_Shape_D_init_D_1 rfl (He.glo_ok hX hG (c.look 22)) B_Shape_D_init_D .nil pass0 (pa_cons (pv 5) (pa_cons (pv 6) pa_nil))) (pa_cons (pe_call O_l_law_shape hr_l_law_shape (by rfl) (He.glo_ok hX hG (c.look 36)) K_l_law_shape B_l_law_shape .nil pass0 (pa_cons (pv 2) (pa_cons (pv 3) (pa_cons (pv 4) pa_nil)))) (pa_cons (pe_make (He.mkr_ok (c.look 29)) O_Shape_D_init_D hr_Shape_D_init_D_1 rfl (He.glo_ok hX hG (c.look 22)) B_Shape_D_init_D .nil pass0 (pa_cons (pe_callTy call_tuple_u (by rfl) (He.free_ok hX hG (c.look 13)) (by decide +kernel) (pa_cons (pv 5) pa_nil)) (pa_cons (pv 6) pa_nil))) pa_nil)))))
    (pss_cons (ps_if (pt_cmpR op_uIs (pe_ix ix_u (pv 4) pe_int (fun _ _ => rfl)) pe_non (nomark _)) (pss_one (ps_expr (pe_bm PySem.F.plainAttrs_list PySem.F.slot_list_append PySem.F.type_list_append mt_append (pv 7) (pa_cons (pe_make (He.mkr_ok (c.look 29)) O_Shape_D_init_D hr_Shape_D_init_D_1 rfl (He.glo_ok hX hG (c.look 22)) BD1_Shape_D_init_D VD1_Shape_D_init_D pass0 (pa_cons (pv 5) pa_nil)) pa_nil)))) pss_nil)
    (pss_cons (ps_expr (pe_bm PySem.F.plainAttrs_list PySem.F.slot_list_append PySem.F.type_list_append mt_append (pv 5) (pa_cons pe_str pa_nil)))
    (pss_cons (ps_for PassesOwn.never rfl (pi_u (pv 7)) (pg_name (i := 8) sc_law.nd rfl (by first | exact Or.inl rfl | exact Or.inr rfl)) (pss_cons (ps_if (pt_not (pt_tru (pe_cg O_l_law_told_right hg hr_l_law_told_right (by rfl) (He.glo_ok hX hG (c.look 43)) K_l_law_told_right B_l_law_told_right .nil pass0 (pa_cons (pv 8) (pa_cons (pv 3) (pa_cons (pv 4) pa_nil)))) (by intro _; rfl))) (pss_one (ps_ret pe_bl)) pss_nil)
    (pss_cons (ps_if (pt_cmpR (op_uNe hu) (pe_lc (own := [("_law_one", 11)]) (wi := (iU K (tVar 7))) (g := (gName 11)) (tt := (tOr (tTest (tOp rNotB (tOp (rEqO K (He.ga K "Shape") (sp_Shape_D_eq_D K) E0) (tVar 11) (tVar 8)) (tC (.bl true)))) (tTest (tOp (rNeO K (He.ga K "Shape") (sp_Shape_D_eq_D K) E0) (tVar 11) (tVar 8))))) (te := (tVar 11)) (by rfl) sc_law.nd (pi_u (pv 7)) (blkOk_by (own := [("_law_one", 11)]) (N := ["_law_script", "_law_index", "_law_bag_here", "_law_names_here", "_law_part", "_law_passed", "_law_span", "_law_made", "_law_shape_here", "_law_odds", "_law_at", "_law_one", "_law_odd"]) (sc := defScope s_law) (by decide +kernel)) (fun _ _ _ _ _ => (pg_name (i := 11) sc_law.nd rfl (by first | exact Or.inl rfl | exact Or.inr rfl))) (fun _ _ _ _ _ => (pts_one (PW.pt (pw_or (pt_cmpR op_notBl (pe_cmpR (op_eqO (specB_ok (c.look 39)).1 (specB_ok (c.look 39)).2 (raw0 O_Shape_D_eq_D B_Shape_D_eq_D) hr_Shape_D_eq_D pass0) (pv 11) (pv 8) (nomark _)) pe_bl (nomark _)) (pw_or1 (pt_cmpR (op_neO (ownB_ok (c.look 0)).hm (of_decide_eq_true (c.look 41)) (specB_ok (c.look 39)).1 (specB_ok (c.look 39)).2 (raw0 O_Shape_D_eq_D B_Shape_D_eq_D) hr_Shape_D_eq_D_1 pass0) (pv 11) (pv 8) (nomark _))))))) (fun _ _ _ _ _ => (pv 11))) (pe_lst pa_nil) (nomark _)) (pss_one (ps_ret pe_bl)) pss_nil)
    (pss_cons (ps_if (pt_cmpR (op_uNe hu) (pe_lc (own := [("_law_one", 11)]) (wi := (iU K (tCall (sp_l_law_others K) [] E0 (tCons (tVar 2) (tCons (tVar 3) (tCons (tVar 4) tNil)))))) (g := (gName 11)) (tt := (tOr (tTest (tOp (rEqO K (He.ga K "Shape") (sp_Shape_D_eq_D K) E0) (tVar 11) (tVar 8))) (tNot (tTest (tOp (rNeO K (He.ga K "Shape") (sp_Shape_D_eq_D K) E0) (tVar 11) (tVar 8)))))) (te := (tVar 11)) (by rfl) sc_law.nd (pi_u (pe_call O_l_law_others hr_l_law_others (by rfl) (He.glo_ok hX hG (c.look 42)) K_l_law_others B_l_law_others .nil pass0 (pa_cons (pv 2) (pa_cons (pv 3) (pa_cons (pv 4) pa_nil))))) (blkOk_by (own := [("_law_one", 11)]) (N := ["_law_script", "_law_index", "_law_bag_here", "_law_names_here", "_law_part", "_law_passed", "_law_span", "_law_made", "_law_shape_here", "_law_odds", "_law_at", "_law_one", "_law_odd"]) (sc := defScope s_law) (by decide +kernel)) (fun _ _ _ _ _ => (pg_name (i := 11) sc_law.nd rfl (by first | exact Or.inl rfl | exact Or.inr rfl))) (fun _ _ _ _ _ => (pts_one (PW.pt (pw_or (pt_cmpR (op_eqO (specB_ok (c.look 39)).1 (specB_ok (c.look 39)).2 (raw0 O_Shape_D_eq_D B_Shape_D_eq_D) hr_Shape_D_eq_D pass0) (pv 11) (pv 8) (nomark _)) (pw_or1 (pt_not (pt_cmpR (op_neO (ownB_ok (c.look 0)).hm (of_decide_eq_true (c.look 41)) (specB_ok (c.look 39)).1 (specB_ok (c.look 39)).2 (raw0 O_Shape_D_eq_D B_Shape_D_eq_D) hr_Shape_D_eq_D_1 pass0) (pv 11) (pv 8) (nomark _)))))))) (fun _ _ _ _ _ => (pv 11))) (pe_lst pa_nil) (nomark _)) (pss_one (ps_ret pe_bl)) pss_nil)
    (pss_cons (ps_set (i := 9) sc_law.nd rfl (by first | exact Or.inl rfl | exact Or.inr rfl) (pe_lst (pa_cons pe_non (pa_cons pe_bl (pa_cons pe_int (pa_cons (pe_callTy (call_strO (specB_ok (c.look 30)).1 (specB_ok (c.look 30)).2 (raw0 O_Shape_D_str_D B_Shape_D_str_D) hr_Shape_D_str_D_2 pass0) (by rfl) (He.free_ok hX hG (c.look 11)) (by decide +kernel) (pa_cons (pv 8) pa_nil)) (pa_cons (pe_meth0 (pv 8) (ownB_ok (c.look 0)).cls (He.meth_ok (c.look 2)) O_Shape_fixed hr_Shape_fixed B_Shape_fixed .nil pass0) (pa_cons (pe_meth0 (pv 8) (ownB_ok (c.look 0)).cls (He.meth_ok (c.look 34)) O_Shape_sets hr_Shape_sets B_Shape_sets .nil pass0) (pa_cons (pe_callTy call_tuple_u (by rfl) (He.free_ok hX hG (c.look 13)) (by decide +kernel) (pa_cons (pe_meth0 (pv 8) (ownB_ok (c.look 0)).cls (He.meth_ok (c.look 3)) O_Shape_columns hr_Shape_columns B_Shape_columns .nil pass0) pa_nil)) (pa_cons pe_dnewK (pa_cons (pe_callB (call_lenO (specB_ok (c.look 31)).1 (specB_ok (c.look 31)).2 (raw0 O_Shape_D_len_D B_Shape_D_len_D) hr_Shape_D_len_D_1 pass0) (by rfl) (He.free_ok hX hG (c.look 4)) (by decide +kernel) (pa_cons (pv 8) pa_nil)) pa_nil)))))))))))
    (pss_one (ps_if (pt_cmpR (op_uNe hu) (pe_lc (own := [("_law_odd", 12)]) (wi := (iU K (tVar 9))) (g := (gName 12)) (tt := (tOr (tTest (tOp (rEqO K (He.ga K "Shape") (sp_Shape_D_eq_D K) E0) (tVar 8) (tVar 12))) (tNot (tTest (tOp (rNeO K (He.ga K "Shape") (sp_Shape_D_eq_D K) E0) (tVar 8) (tVar 12)))))) (te := (tVar 12)) (by rfl) sc_law.nd (pi_u (pv 9)) (blkOk_by (own := [("_law_odd", 12)]) (N := ["_law_script", "_law_index", "_law_bag_here", "_law_names_here", "_law_part", "_law_passed", "_law_span", "_law_made", "_law_shape_here", "_law_odds", "_law_at", "_law_one", "_law_odd"]) (sc := defScope s_law) (by decide +kernel)) (fun _ _ _ _ _ => (pg_name (i := 12) sc_law.nd rfl (by first | exact Or.inl rfl | exact Or.inr rfl))) (fun _ _ _ _ _ => (pts_one (PW.pt (pw_or (pt_cmpR (op_eqO (specB_ok (c.look 39)).1 (specB_ok (c.look 39)).2 (raw0 O_Shape_D_eq_D B_Shape_D_eq_D) hr_Shape_D_eq_D pass0) (pv 8) (pv 12) (nomark _)) (pw_or1 (pt_not (pt_cmpR (op_neO (ownB_ok (c.look 0)).hm (of_decide_eq_true (c.look 41)) (specB_ok (c.look 39)).1 (specB_ok (c.look 39)).2 (raw0 O_Shape_D_eq_D B_Shape_D_eq_D) hr_Shape_D_eq_D_1 pass0) (pv 8) (pv 12) (nomark _)))))))) (fun _ _ _ _ _ => (pv 12))) (pe_lst pa_nil) (nomark _)) (pss_one (ps_ret pe_bl)) pss_nil)))))))
    (pss_one (ps_if (pt_not (pt_tru (pe_callB call_vIsi (by rfl) (He.free_ok hX hG (c.look 10)) (by decide +kernel) (pa_cons (pe_callB (call_reprOG hg (specB_ok (c.look 38)).1 (specB_ok (c.look 38)).2 (raw0G O_Shape_D_repr_D B_Shape_D_repr_D) hr_Shape_D_repr_D_1 pass0) (by rfl) (He.free_ok hX hG (c.look 32)) (by decide +kernel) (pa_cons (pe_ix ix_u (pv 7) pe_int (fun _ _ => rfl)) pa_nil)) (pa_cons (pe_bltn (v := .ty "str") rfl (He.free_ok hX hG (c.look 11)) (by decide +kernel) rfl) pa_nil))) (by intro _; rfl))) (pss_one (ps_ret pe_bl)) pss_nil)))))))))))))
    (pss_one (ps_ret pe_bl)))
abbrev loose : List Str := "_wall" :: "__name__" :: "SearchError" :: "InvalidName" :: "InvalidColumns" :: "DuplicateName" :: "TooMany" :: "LETTERS" :: "LONGEST_NAME" :: "is_name" :: "is_list" :: "MAX_COLUMNS" :: "NOTHING" :: "Shape" :: "_law_cell" :: "_law_bag" :: "_law_take" :: "_law_names" :: "_law_pick" :: "_law_parts" :: "_law_near" :: "_law_whole" :: "_law_below" :: "_law_shape" :: "_law_told_right" :: "_law_others" :: []
abbrev R : PySem.W.OpenRow := PySem.W.OpenLaw.row PySem.Challenge.rw_searchorders_k04_shapes_told
abbrev hk : PySem.W.Hook := CM.hookA 6 looks defs
def ob (s : PySem.W.SharedT) : CM.AlA := CM.obsAG 6 looks defs (HandSHeadRun.getT s)
theorem ob_eq (s : PySem.W.SharedT) : ob s = hk.obs s.abs := CM.obsAG_eq (HandSHeadRun.getT_eq s)
theorem run (w : World) : HandSHeadRun.RunEq R (PySem.W.view R.prog [29]) hk ob 12000 loose w := by
  intro os
  kernel_rfl
theorem facts {P : Program} {w : World} {K : PySem.W.Frag} {h : Heap} {mg : Str → Option Value} {f : Addr} (X : K.In h) (G : h.Ns mainGlobals mg) (hfa : mg ("law" : Str) = some (.ref f)) (c : CM.SaysA looks defs K) :
    ∃ fd : FuncData, (∀ (s : Shared) (v : Value), BindsTo s fd ⟨[v], []⟩ [("_law_script", v)]) ∧ ∀ base : Heap, K.In base → base.Ns mainGlobals mg → SL.FnG P w K mg base CX0 6 f fd ["_law_script"] (sp_law K) := by
  obtain ⟨fd_is_name, F_is_name⟩ := c.defn 0 (d := ⟨fun K => (He.fAd K d_is_name.at_), d_is_name⟩) rfl
  obtain ⟨fd_is_list, F_is_list⟩ := c.defn 1 (d := ⟨fun K => (He.fAd K d_is_list.at_), d_is_list⟩) rfl
  obtain ⟨fd_Shape_D_init_D, F_Shape_D_init_D⟩ := c.defn 2 (d := ⟨fun K => (He.fAd K d_Shape_D_init_D.at_), d_Shape_D_init_D⟩) rfl
  obtain ⟨fd_Shape_span, F_Shape_span⟩ := c.defn 3 (d := ⟨fun K => (pgA K "Shape" "span"), d_Shape_span⟩) rfl
  obtain ⟨fd_Shape_fixed, F_Shape_fixed⟩ := c.defn 4 (d := ⟨fun K => (He.fAd K d_Shape_fixed.at_), d_Shape_fixed⟩) rfl
  obtain ⟨fd_Shape_columns, F_Shape_columns⟩ := c.defn 5 (d := ⟨fun K => (He.fAd K d_Shape_columns.at_), d_Shape_columns⟩) rfl
  obtain ⟨fd_Shape_sets, F_Shape_sets⟩ := c.defn 6 (d := ⟨fun K => (He.fAd K d_Shape_sets.at_), d_Shape_sets⟩) rfl
  obtain ⟨fd_Shape_D_len_D, F_Shape_D_len_D⟩ := c.defn 7 (d := ⟨fun K => (He.fAd K d_Shape_D_len_D.at_), d_Shape_D_len_D⟩) rfl
  obtain ⟨fd_Shape_D_eq_D, F_Shape_D_eq_D⟩ := c.defn 8 (d := ⟨fun K => (He.fAd K d_Shape_D_eq_D.at_), d_Shape_D_eq_D⟩) rfl
  obtain ⟨fd_Shape_D_str_D, F_Shape_D_str_D⟩ := c.defn 9 (d := ⟨fun K => (He.fAd K d_Shape_D_str_D.at_), d_Shape_D_str_D⟩) rfl
  obtain ⟨fd_Shape_D_repr_D, F_Shape_D_repr_D⟩ := c.defn 10 (d := ⟨fun K => (He.fAd K d_Shape_D_repr_D.at_), d_Shape_D_repr_D⟩) rfl
  obtain ⟨fd_l_law_cell, F_l_law_cell⟩ := c.defn 11 (d := ⟨fun K => (He.fAd K d_l_law_cell.at_), d_l_law_cell⟩) rfl
  obtain ⟨fd_l_law_bag, F_l_law_bag⟩ := c.defn 12 (d := ⟨fun K => (He.fAd K d_l_law_bag.at_), d_l_law_bag⟩) rfl
  obtain ⟨fd_l_law_take, F_l_law_take⟩ := c.defn 13 (d := ⟨fun K => (He.fAd K d_l_law_take.at_), d_l_law_take⟩) rfl
  obtain ⟨fd_l_law_names, F_l_law_names⟩ := c.defn 14 (d := ⟨fun K => (He.fAd K d_l_law_names.at_), d_l_law_names⟩) rfl
  obtain ⟨fd_l_law_pick, F_l_law_pick⟩ := c.defn 15 (d := ⟨fun K => (He.fAd K d_l_law_pick.at_), d_l_law_pick⟩) rfl
  obtain ⟨fd_l_law_near, F_l_law_near⟩ := c.defn 16 (d := ⟨fun K => (He.fAd K d_l_law_near.at_), d_l_law_near⟩) rfl
  obtain ⟨fd_l_law_parts, F_l_law_parts⟩ := c.defn 17 (d := ⟨fun K => (He.fAd K d_l_law_parts.at_), d_l_law_parts⟩) rfl
  obtain ⟨fd_l_law_whole, F_l_law_whole⟩ := c.defn 18 (d := ⟨fun K => (He.fAd K d_l_law_whole.at_), d_l_law_whole⟩) rfl
  obtain ⟨fd_l_law_shape, F_l_law_shape⟩ := c.defn 19 (d := ⟨fun K => (He.fAd K d_l_law_shape.at_), d_l_law_shape⟩) rfl
  obtain ⟨fd_l_law_told_right, F_l_law_told_right⟩ := c.defn 20 (d := ⟨fun K => (He.fAd K d_l_law_told_right.at_), d_l_law_told_right⟩) rfl
  obtain ⟨fd_l_law_others, F_l_law_others⟩ := c.defn 21 (d := ⟨fun K => (He.fAd K d_l_law_others.at_), d_l_law_others⟩) rfl
  obtain ⟨fd_law, F_law⟩ := c.defn 22 (d := ⟨fun K => (He.fAd K d_law.at_), d_law⟩) rfl
  have e := hfa.symm.trans (He.glo_ok X G (c.look 47))
  cases e
  have b := FunD.bindsA (ps := ["_law_script"]) F_law fun _ _ _ _ _ _ us hl => match us, hl with | [_], _ => rfl
  refine ⟨fd_law, fun s v => b s [v] rfl, fun base X2 G2 => ?_⟩
  have O_is_name := ok_is_name (P := P) (w := w) (base := base) c X G F_is_name
  have O_is_list := ok_is_list (P := P) (w := w) (base := base) c X G F_is_list
  have O_Shape_D_init_D := ok_Shape_D_init_D (P := P) (w := w) (base := base) c X G F_Shape_D_init_D O_is_name F_is_name O_is_list F_is_list
  have O_Shape_span := ok_Shape_span (P := P) (w := w) (base := base) c X G F_Shape_span
  have O_Shape_fixed := ok_Shape_fixed (P := P) (w := w) (base := base) c X G F_Shape_fixed
  have O_Shape_columns := ok_Shape_columns (P := P) (w := w) (base := base) c X G F_Shape_columns
  have O_Shape_sets := ok_Shape_sets (P := P) (w := w) (base := base) c X G F_Shape_sets O_Shape_fixed F_Shape_fixed O_Shape_columns F_Shape_columns
  have O_Shape_D_len_D := ok_Shape_D_len_D (P := P) (w := w) (base := base) c X G F_Shape_D_len_D O_Shape_columns F_Shape_columns
  have O_Shape_D_eq_D := ok_Shape_D_eq_D (P := P) (w := w) (base := base) c X G F_Shape_D_eq_D
  have O_Shape_D_str_D := ok_Shape_D_str_D (P := P) (w := w) (base := base) c X G F_Shape_D_str_D
  have O_Shape_D_repr_D := ok_Shape_D_repr_D (P := P) (w := w) (base := base) c X G F_Shape_D_repr_D
  have O_l_law_cell := ok_l_law_cell (P := P) (w := w) (base := base) c X G F_l_law_cell
  have O_l_law_bag := ok_l_law_bag (P := P) (w := w) (base := base) c X G F_l_law_bag
  have O_l_law_take := ok_l_law_take (P := P) (w := w) (base := base) c X G F_l_law_take
  have O_l_law_names := ok_l_law_names (P := P) (w := w) (base := base) c X G F_l_law_names O_l_law_take F_l_law_take
  have O_l_law_pick := ok_l_law_pick (P := P) (w := w) (base := base) c X G F_l_law_pick O_l_law_take F_l_law_take
  have O_l_law_near := ok_l_law_near (P := P) (w := w) (base := base) c X G F_l_law_near O_l_law_take F_l_law_take
  have O_l_law_parts := ok_l_law_parts (P := P) (w := w) (base := base) c X G F_l_law_parts O_l_law_take F_l_law_take O_l_law_near F_l_law_near O_l_law_pick F_l_law_pick
  have O_l_law_whole := ok_l_law_whole (P := P) (w := w) (base := base) c X G F_l_law_whole
  have O_l_law_shape := ok_l_law_shape (P := P) (w := w) (base := base) c X G F_l_law_shape O_Shape_D_init_D F_Shape_D_init_D O_l_law_take F_l_law_take
  have O_l_law_told_right := ok_l_law_told_right (P := P) (w := w) (base := base) c X G F_l_law_told_right O_Shape_D_str_D F_Shape_D_str_D O_Shape_D_len_D F_Shape_D_len_D O_Shape_span F_Shape_span O_Shape_sets F_Shape_sets O_Shape_columns F_Shape_columns O_Shape_fixed F_Shape_fixed
  have O_l_law_others := ok_l_law_others (P := P) (w := w) (base := base) c X G F_l_law_others O_l_law_whole F_l_law_whole O_l_law_shape F_l_law_shape
  have O_law := ok_law (P := P) (w := w) (base := base) c X G F_law O_l_law_parts F_l_law_parts O_Shape_D_repr_D F_Shape_D_repr_D O_Shape_D_eq_D F_Shape_D_eq_D O_Shape_D_len_D F_Shape_D_len_D O_Shape_columns F_Shape_columns O_Shape_sets F_Shape_sets O_Shape_fixed F_Shape_fixed O_Shape_D_str_D F_Shape_D_str_D O_l_law_others F_l_law_others O_l_law_told_right F_l_law_told_right O_Shape_D_init_D F_Shape_D_init_D O_l_law_shape F_l_law_shape O_l_law_names F_l_law_names O_l_law_take F_l_law_take O_l_law_bag F_l_law_bag O_l_law_cell F_l_law_cell
  exact O_law
end K04
open PySem PySem.W PySem.Calls PyProof.Rows
theorem PySem.Challenge.cw_searchorders_k04_shapes_told_holds : PySem.Challenge.rw_searchorders_k04_shapes_told.Holds := by
  w_on; o_law
  refine HandSHeadRun.head_any (r := OpenLaw.row PySem.Challenge.rw_searchorders_k04_shapes_told) (q := view (OpenLaw.row PySem.Challenge.rw_searchorders_k04_shapes_told).prog [29]) (H := K04.hk) (ob := K04.ob) (M := 12000) (loose := K04.loose) (d := HandSHeadRun.topDef (OpenLaw.row PySem.Challenge.rw_searchorders_k04_shapes_told).prog 29) (kwd := []) K04.ob_eq
    (by kernel_rfl) (fun s => by kernel_rfl) K04.run (by kernel_rfl) (by kernel_rfl) (by kernel_rfl) (by rfl) (by first | assumption | decide +kernel) (by decide +kernel) ⟨rfl, rfl, rfl, rfl, rfl, by decide +kernel⟩ ?hw ?hc
  case hw => w_witness2
  case hc =>
    refine SL.walk_g (l := PySem.Challenge.rw_searchorders_k04_shapes_told) (n := 63) (k := 6) (x := "_law_script") (CX := L2.CX0) rfl (by decide) (by kernel_rfl) ⟨rfl, by decide, by decide⟩ ?F (fun _ _ _ _ z => z)
    intro w mg fa h Y G hmg0
    obtain ⟨K, KX, c⟩ := Y
    have hmg : mg ("law" : PySem.Str) = some (.ref fa) := by
      have e : (HandSHeadRun.topDef (OpenLaw.row PySem.Challenge.rw_searchorders_k04_shapes_told).prog 29).name = ("law" : PySem.Str) := by kernel_rfl
      rw [← e]
      exact hmg0
    obtain ⟨fd, hb, hF⟩ := K04.facts (P := (PySem.Challenge.rw_searchorders_k04_shapes_told).prog) (w := w) KX G hmg c
    exact ⟨K, fd, K04.sp_law K, KX, hb, fun H a ns hl _ hS => ((K04.law_ok ns hl).elim fun _ h => CM.law_sp h hS), hF⟩
