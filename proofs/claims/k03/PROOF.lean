import PyProof.Rows.All
import Wide.All
import OpenK.AllK
import Wide.FinOn
import HandS.ForMost
import HandS.Exc
import HandS.TryOnly
import HandS.ExcOwn
import HandS.WordsExc
import HandS.Flow
import HandS.Defaults
import HandS.IsInst
import HandS.Wide
import HandS.TupAny
import HandS.TupMul
import HandS.Head0
import HandS.Head1
import HandS.Head2
import HandS.HeadEnd
import HandS.HeadHook1
import HandS.HeadHook2
import PyProof.ReprRoads
import HandS.Sort
import HandS.More
import HandS.RaiseMore
import HandS.Conv
import HandS.Style
import PyProof.IsiBase
import PyProof.FactsAll.set
import PyProof.IsiH_set
import KE.KExcIs
import HandS.ExcInit
import HandS.Walk
import HandS.StrMore
import HandS.MakeKwOnly
import HandS.Codes
import PyProof.P3Eq
import PySem.Challenge.RW_searchorders_k03_numbers_and_words_in_te
set_option Elab.async false
set_option linter.all false
set_option maxRecDepth 100000
set_option maxHeartbeats 0
/-! SL0: promises of defs that may ask for a repr (no guard stands around), the head's hook, the end. -/
namespace SL
open PySem PySem.Spec PyProof.Rows L2

/-- as the layer's promise, where no guard stands around the call -/
structure FnG (P : Program) (w : World) (K : PySem.W.Frag) (mg : Str → Option Value) (base : Heap) (CX : CXT) (k : Nat) (f : Addr) (fd : FuncData) (ps : List Str) (sp : Sp) : Prop where
  len : ∀ vs H Q E, sp vs H Q E → vs.length = ps.length
  go : ∀ (A : Around), A.guards = some [] → ∀ (outer : List Env) (s : Shared) (H : Hp) (args : Args) (us : List Value) (vs : List V) (Q : VK) (E : XK), Room k A →
    Env0 P w K mg base A outer s H → BindsTo s fd args (ps.zip us) → Vals vs us → sp vs H Q E → codeAny (model P w) A (.call (.ref f) args) (CR CX outer P w H s Q E) s

section
variable {P : Program} {w : World} {K : PySem.W.Frag} {mg : Str → Option Value} {base : Heap} {CX : CXT} {j k : Nat} {f : Addr} {fd : FuncData} {ps : List Str} {sp sp' : Sp}
theorem FnG.of (F : FnOk P w K mg base CX k f fd ps sp) : FnG P w K mg base CX k f fd ps sp :=
  ⟨F.len, fun A _ outer s H args us vs Q E hr => F.run A outer s H args us vs Q E hr⟩
theorem FnG.mono (F : FnG P w K mg base CX j f fd ps sp) (h : j ≤ k) : FnG P w K mg base CX k f fd ps sp :=
  ⟨F.len, fun A g outer s H args us vs Q E hr => F.go A g outer s H args us vs Q E (hr.mono h)⟩

/-- a def by its body; the body may use that no guard stands around -/
theorem fn_g {name qual : Str} {params : Arguments} {body : List Stmt} {scope : Scope} {dV kV doc pm cdv ct oc : Value} {an od : Option Addr} {osl : Array (Option Value)} {N : List Str}
    (lk : K.lookup f = some ⟨oc, od, .func (PySem.W.fnOf name qual params body scope dV kV doc pm an cdv ct), osl⟩) (hcd : PySem.W.codeIn K cdv qual = true) (S : FnScope N ps scope)
    (len : ∀ vs H Q E, sp vs H Q E → vs.length = ps.length)
    (hb : ∀ (A : Around), A.guards = some [] → ∀ (outer : List Env) (s : Shared) (H : Hp) (vs : List V) (Q : VK) (E : XK), Room k (A.deeper (envOfC qual scope s.heap.objs.size f cdv)) → sp vs H Q E →
      ∃ t, PSs (cxOf CX P w K mg base N qual scope f cdv A outer s H E) body t ∧ t { nx := fun _ H' => Q .non H', rt := Q } (start N vs) H) :
    FnG P w K mg base CX (k + 1) f (PySem.W.fnOf name qual params body scope dV kV doc pm an cdv ct) ps sp := by
  constructor
  · exact len
  · intro A hg outer s H args us vs Q E room e0 bnd rv hs
    have lenv : vs.length = ps.length := len vs H Q E hs
    have inK : K.In s.heap := e0.mod.kin.keeps (fun b o e => (e0.bs b o e).1)
    have noL : s.heap.NoLimit := e0.mod.nolimit.keeps (fun b o e => (e0.bs b o e).1)
    have hk : ∀ y ∈ ps.zip us, scope.names.lookup y.1 = some .local ∨ (scope.names.lookup y.1 = some .cell ∧ ((cellsFrom (s.heap.objs.size + 1) scope.names []).lookup y.1).isSome = true) := by
      rintro ⟨n, v⟩ hy
      cases S.par n (List.of_mem_zip hy).1 with
      | inl z => exact Or.inl z
      | inr z => exact Or.inr ⟨z, PySem.W.cellsFrom_some _ _ _ (Or.inl z)⟩
    refine codeAny_call_function room.depth (inK _ _ lk) rfl S.co S.gen rfl (PySem.W.codeRec_of inK hcd) (bnd _ _ _ _ ?_)
    refine wpAny_newFunctionEnv_cells S.kind hk (fun env henv s1 inc => ?_)
    subst henv
    refine ⟨noL.keeps inc.toInCall.keep, codeAny_func ?_⟩
    rcases hb A hg outer s H vs Q E (room.deeper _) hs with ⟨t, pss, rd⟩
    have iv : Inv (cxOf CX P w K mg base N qual scope f cdv A outer s H E) [] (start N vs) H s1 := inv_start S room.hd e0 lenv rv inc
    refine wpAny_mono (pss.run [] s1 (start N vs) H _ iv rd) ?_ (fun _ _ z => z)
    have done : ∀ {σ' : L2.St} {H' : Hp} {v : V} {u : Value} {s' : Shared}, Inv (cxOf CX P w K mg base N qual scope f cdv A outer s H E) [] σ' H' s' → RelV v u → Q v H' → CE outer P w H s Q u s' := by
      intro σ' H' v u s' J r q
      exact ⟨v, H', J.os, J.bare, J.base, J.hok, r, q⟩
    intro fl s' z
    match fl, z with
    | .ret u, ⟨v, σ', H', J, r, q⟩ => exact done J r q
    | .next, ⟨σ', H', J, q⟩ => exact done (v := V.non) (u := Value.none) J rfl q
    | .brk, ⟨_, _, _, q⟩ => exact q.elim
    | .cont, ⟨_, _, _, q⟩ => exact q.elim
/-- the same of a def of the text, told by the head -/
theorem fun_g {x qual : Str} {params : Arguments} {body : List Stmt} {scope : Scope} {dvs : List V} {kws : List (Str × V)} {N : List Str} (F : FunD K x qual params body scope dvs kws f fd) (S : FnScope N ps scope)
    (len : ∀ vs H Q E, sp vs H Q E → vs.length = ps.length)
    (hb : ∀ (cdv : Value) (A : Around), A.guards = some [] → ∀ (outer : List Env) (s : Shared) (H : Hp) (vs : List V) (Q : VK) (E : XK), Room k (A.deeper (envOfC qual scope s.heap.objs.size f cdv)) → sp vs H Q E →
      ∃ t, PSs (cxOf CX P w K mg base N qual scope f cdv A outer s H E) body t ∧ t { nx := fun _ H' => Q .non H', rt := Q } (start N vs) H) : FnG P w K mg base CX (k + 1) f fd ps sp := by
  obtain ⟨oc, od, dV, kV, doc, pm, an, cdv, ct, osl, rfl, lk, hcd, _, _⟩ := F.ex
  exact fn_g lk hcd S len fun A hg outer s H vs Q E hr hs => hb cdv A hg outer s H vs Q E hr hs
end

section
variable {X : Cx} {CX : CXT} {k : Nat} {f : Addr} {fd : FuncData} {ps : List Str} {sp : Sp} {dvs : List V} {ds : List Value} {E : XK} {x : Str} {p pos : Pos} {e : Expr} {es : List Expr} {t : TA}
theorem call_g {pins : List (Addr × Obj)} {σ : L2.St} {H : Hp} {s : Shared} {Q : VK} {us : List Value} {vs : List V} (F : FnG X.prog X.w X.K X.mg X.base CX k f fd ps sp) (hg : X.A.guards = some []) (hr : Room k X.A) (hb : Binds X.K fd ps ds)
    (hd : Vals dvs ds) (hx : Passes CX X E) (I : Inv X pins σ H s) (r : Vals vs us) (h : sp (vs ++ dvs) H Q E) : wpAny (model X.prog X.w) X.A (call (.ref f) us) (EP X pins σ Q) X.xe s := by
  have r2 : Vals (vs ++ dvs) (us ++ ds) := r.append hd
  have lenu : (us ++ ds).length = ps.length := r2.length.symm.trans (F.len _ _ _ _ h)
  refine wpAny_call (codeAny_mono (F.go X.A hg X.stack s H ⟨us, []⟩ (us ++ ds) (vs ++ dvs) Q E hr I.env0 (hb s us I.kIn lenu) r2 h) ?_)
  intro r s' z
  match r, z with
  | .error e, z => exact hx pins σ H s e s' I z
  | .ok (.ret u), z => exact I.after z
  | .ok .next, z => exact z.elim
  | .ok .brk, z => exact z.elim
  | .ok .cont, z => exact z.elim
/-- f(e, ..) -/
theorem pe_cg (F : FnG X.prog X.w X.K X.mg X.base CX k f fd ps sp) (hg : X.A.guards = some []) (hr : Room k X.A) (gl : Gl X x) (hm : X.mg x = some (.ref f)) (hk : PySem.W.keepIn X.K (.ref f) = true) (hb : Binds X.K fd ps ds) (hd : Vals dvs ds)
    (hx : Passes CX X E) (ha : PA X (e :: es) t) (hdb : (x == ("__debug__" : Str)) = false := by decide) (he : starEach (e :: es) X.env = (false, eval e X.env) :: starEach es X.env := by rfl)
    (hpl : (backTo pos (starEach es X.env)).any (·.1) = false := by rfl) : PE X (.Call (.Name x p) (e :: es) [] pos) (tCall sp dvs E t) := by
  constructor
  intro pins s σ H Q I h
  refine wpAny_Call_Name_kw (ld_glob I gl hm ?_ hdb)
  refine PySem.W.callWith_K (h₀ := X.base) I.ok.mod.kin hk (thn (ha.run pos pins s σ H _ I h) ?_) he hpl
  rintro us s1 ⟨vs, H1, I1, r, q⟩
  exact ⟨I1.kIn, call_g F hg hr hb hd hx I1 r q⟩
end

/-! ### the end -/
theorem guards_caller : callerA.guards = some [] := rfl
/-- the abstract heap at the law's entry: the script alone, locked as its object, unless it is the text's own -/
def entryH (a : Addr) (o : Obj) (xs : List V) : Hp := fun b => if b = a then some (.frz o (.lst xs)) else none
theorem entryH_ne {a b : Addr} {o : Obj} {xs : List V} (h : b ≠ a) : entryH a o xs b = none := if_neg h
theorem entryH_at {a : Addr} {o : Obj} {xs : List V} : entryH a o xs a = some (.frz o (.lst xs)) := if_pos rfl
section
variable {P : Program} {w : World} {K : PySem.W.Frag} {mg mb : Str → Option Value} {CX : CXT} {k : Nat} {fa a : Addr} {fd : FuncData} {x : Str} {sp : Sp} {s₁ : Shared} {vs : List Value} {ns : List Int}
/-- the law's call, once an abstract heap is chosen that tracks at most the script -/
theorem call_from (KX : K.In s₁.heap) (hns : s₁.heap.Ns mainGlobals mg) (hb : s₁.heap.Ns builtinsNs mb) (hbb : ∀ x : Str, x ≠ "__name__" → mb x = bootBuiltins x) (hlim : s₁.heap.NoLimit) (hg : s₁.gens = #[])
    (ha : s₁.heap.get? a = some { cls := .type "list", data := .seq vs.toArray }) (hr : Room k callerA)
    (F : ∀ base : Heap, K.In base → base.Ns mainGlobals mg → FnG P w K mg base CX k fa fd [x] sp) (hbind : ∀ (s : Shared) (u : Value), BindsTo s fd ⟨[u], []⟩ [(x, u)])
    (hCX : ∀ H e s', CX [] H s₁ (fun _ _ _ => False) e s' → False) (H : Hp) (only : ∀ b, H b = none ∨ (b = a ∧ ∃ o xs, H b = some (.frz o (.lst xs)))) (hK : H a ≠ none → K.lookup a = none) (ok : HOk P w H s₁.heap)
    (hsp : sp [.ref a] H (fun v _ => v = .bl true) fun _ _ _ => False) :
    codeAny (model P w) callerA (.call (.ref fa) ⟨[.ref a], []⟩) (fun r s' => r = .ok (.ret (.bool true)) ∧ OldK s₁.heap s'.heap ∧ s'.os = s₁.os ∧ AllBare s'.gens) s₁ := by
  have dictFree : ∀ {b : Addr} {o : Obj} {es : Array DictEntry} {ep : Nat}, s₁.heap.get? b = some o → o.data = .dict es ep → H b = none := by
    intro b o es ep hb hd
    rcases only b with z | ⟨rfl, _⟩
    · exact z
    · rw [ha] at hb
      cases hb
      cases hd
  have inB : ∀ {b : Addr} {o : Obj}, s₁.heap.get? b = some o → H b = none → (hidT s₁.heap H).get? b = some o := fun e n => hidT_get e n
  have nsB : ∀ {b : Addr} {m : Str → Option Value}, s₁.heap.Ns b m → (hidT s₁.heap H).Ns b m := by
    rintro b m ⟨o, es, ep, e, d, r⟩
    exact ⟨o, es, ep, inB e (dictFree e d), d, r⟩
  have kB : K.In (hidT s₁.heap H) := by
    intro b o e
    refine inB (KX b o e) ?_
    rcases only b with z | ⟨rfl, o', xs, z⟩
    · exact z
    · have q := hK (by rw [z]; exact fun y => by cases y)
      rw [q] at e
      cases e
  obtain ⟨mc, m1, m2⟩ := hlim
  have md : Mod K mg (hidT s₁.heap H) := ⟨kB, nsB hns, ⟨mb, nsB hb, hbb⟩, mc, nsB m1, m2⟩
  have ev : Env0 P w K mg (hidT s₁.heap H) callerA [] s₁ H := ⟨rfl, md, fun b o e => of_hidT e, Nat.le_of_eq (hidT_size _ _), trivial, fun b z => (List.not_mem_nil z).elim, ok, .of_eq hg⟩
  refine codeAny_mono ((F _ kB (nsB hns)).go callerA rfl [] s₁ H ⟨[.ref a], []⟩ [.ref a] [.ref a] _ _ hr ev (hbind s₁ (.ref a)) (.cons rfl .nil) hsp) ?_
  intro r s' z
  match r, z with
  | .error e, z => exact (hCX H e s' z).elim
  | .ok .next, z => exact z.elim
  | .ok .brk, z => exact z.elim
  | .ok .cont, z => exact z.elim
  | .ok (.ret u), z =>
    obtain ⟨v, H', hos, hbare, un, ok', rv, rfl⟩ := z
    cases (show u = Value.bool true from rv)
    refine ⟨rfl, OldK.of_keep (fun b o e => ?_), hos, hbare⟩
    rcases only b with q | ⟨rfl, ob, xs, q⟩
    · exact un.keep b o e q (fun y => (List.not_mem_nil y).elim) (fun y => (List.not_mem_nil y).elim)
    · have e1 := (ok b _ q).1
      have e2 := (ok' b _ (un.frzs b ob _ q)).1
      rw [e] at e1
      cases e1
      exact e2
theorem law_g (KX : K.In s₁.heap) (hns : s₁.heap.Ns mainGlobals mg) (hb : s₁.heap.Ns builtinsNs mb) (hbb : ∀ x : Str, x ≠ "__name__" → mb x = bootBuiltins x) (hlim : s₁.heap.NoLimit) (hg : s₁.gens = #[])
    (ha : s₁.heap.get? a = some { cls := .type "list", data := .seq vs.toArray }) (hi : IntsAre vs ns) (hl : ns.length ≤ sizeLine) (hr : Room k callerA)
    (F : ∀ base : Heap, K.In base → base.Ns mainGlobals mg → FnG P w K mg base CX k fa fd [x] sp) (hbind : ∀ (s : Shared) (u : Value), BindsTo s fd ⟨[u], []⟩ [(x, u)])
    (hCX : ∀ H e s', CX [] H s₁ (fun _ _ _ => False) e s' → False)
    (hsp : ∀ H : Hp, Only H → SqL K H a (ns.map V.int) → sp [.ref a] H (fun v _ => v = .bl true) fun _ _ _ => False) :
    codeAny (model P w) callerA (.call (.ref fa) ⟨[.ref a], []⟩) (fun r s' => r = .ok (.ret (.bool true)) ∧ OldK s₁.heap s'.heap ∧ s'.os = s₁.os ∧ AllBare s'.gens) s₁ := by
  have rv := vals_ints hi
  cases hk : K.lookup a with
  | some o =>
    have e : s₁.heap.get? a = some o := KX a o hk
    rw [ha] at e
    cases e
    refine call_from KX hns hb hbb hlim hg ha hr F hbind hCX (fun _ => none) (fun _ => Or.inl rfl) (fun z => absurd rfl z) (fun b u z => by cases (show (none : Option HO) = some u from z)) (hsp _ (fun _ => Or.inl rfl) ?_)
    exact Or.inr ⟨_, vs.toArray, _, hk, rfl, rfl, rfl, (by rw [List.size_toArray, hi.length]; exact hl), (by simpa using rv)⟩
  | none =>
    have only : ∀ b, entryH a { cls := .type "list", data := .seq vs.toArray } (ns.map V.int) b = none ∨ (b = a ∧ ∃ o xs, entryH a { cls := .type "list", data := .seq vs.toArray } (ns.map V.int) b = some (.frz o (.lst xs))) := by
      intro b
      by_cases e : b = a
      · subst e
        exact Or.inr ⟨rfl, _, _, entryH_at⟩
      · exact Or.inl (entryH_ne e)
    refine call_from KX hns hb hbb hlim hg ha hr F hbind hCX _ only (fun _ => hk) ?_ (hsp _ (fun b => (only b).imp id fun z => z.2) (Or.inl (Or.inr ⟨_, entryH_at⟩)))
    intro b u z
    rcases only b with q | ⟨rfl, _⟩
    · rw [q] at z
      cases z
    · rw [entryH_at] at z
      cases z
      exact ⟨ha, (by rw [List.length_map]; exact hl), vs, _, rv, ha⟩
end
/-- the goal that the head leaves, from the law's promise -/
theorem walk_g {l : PySem.W.OpenLaw} {n k : Nat} {q : Program} {loose : List Str} {XP : (Str → Option Value) → Heap → Prop} {YP : World → Heap → Prop} {d : DefRec} {CX : CXT} {x : Str}
    (hn : l.most = some n) (hn2 : n ≤ sizeLine) (hdf : d.params.defaults = []) (hr : Room k callerA)
    (F : ∀ (w : World) (mg : Str → Option Value) (fa : Addr) (h : Heap), YP w h → h.Ns mainGlobals mg → mg d.name = some (.ref fa) →
      ∃ (K : PySem.W.Frag) (fd : FuncData) (sp : Sp), K.In h ∧ (∀ (s : Shared) (u : Value), BindsTo s fd ⟨[u], []⟩ [(x, u)]) ∧
        (∀ (H : Hp) (a : Addr) (ns : List Int), ns.length ≤ n → Only H → SqL K H a (ns.map V.int) → sp [.ref a] H (fun v _ => v = .bl true) fun _ _ _ => False) ∧
        ∀ base : Heap, K.In base → base.Ns mainGlobals mg → FnG l.prog w K mg base CX k fa fd [x] sp)
    (hCX : ∀ (H : Hp) (s : Shared) (e : Value) (s' : Shared), CX [] H s (fun _ _ _ => False) e s' → False) :
    PySem.W.WalkO q loose XP YP l.row.toRowW d [] (fun f vs => PySem.call f vs) := by
  refine Att.attach_call hn hdf ?_
  intro w s₀ s₁ mg mb fa o pm cd doc a vs ns G Y ho hd hcd hmg hobj hints hlen hg
  obtain ⟨K, fd, sp, KX, hb, hs, hF⟩ := F w mg fa _ Y G.T.g hmg
  exact law_g KX G.T.g G.T.b G.T.builtins G.T.nolimit hg hobj hints (Nat.le_trans hlen hn2) hr hF hb (fun H e s' => hCX H s₁ e s') (fun H hO hS => hs H a ns hlen hO hS)
end SL

/-! ### the head's hook: any looks at the written part, and the defs -/
namespace SL
open PySem PySem.Spec PyProof.Rows L2
abbrev Looks := List (PySem.W.Frag → Bool)
abbrev AlM : Type := Bool × List He.FnW
def obsM (ok : Looks) (fn : List He.DefD) (K : PySem.W.Frag) : AlM := ((ok.all fun f => f K) && fn.all fun d => d.ok K, fn.map fun d => He.fnW K d.at_)
def valM (fn : List He.DefD) : AlM := (true, fn.map He.DefD.val)
/-- what the end leans on -/
def Says (ok : Looks) (fn : List He.DefD) (K : PySem.W.Frag) : Prop := obsM ok fn K = valM fn
def obsMG (n : Nat) (ok : Looks) (fn : List He.DefD) (g : Addr → Option Obj) : AlM := obsM ok fn (He.frG g (cStatics :: He.asD g n))
def hookM (n : Nat) (ok : Looks) (fn : List He.DefD) : PySem.W.Hook where
  α := AlM
  obs s := obsMG n ok fn s.heap.get?
  val _ := valM fn
  says _ h := ∃ K : PySem.W.Frag, K.In h ∧ Says ok fn K
  of _ _ e := ⟨_, He.frG_in, e⟩
  keeps _ _ _ := fun ⟨K, hK, c⟩ k => ⟨K, PySem.W.Frag.In.keeps hK k, c⟩
theorem obsMG_eq {n : Nat} {ok : Looks} {fn : List He.DefD} {g : Addr → Option Obj} {s : Shared} (h : ∀ a, g a = s.heap.get? a) : obsMG n ok fn g = (hookM n ok fn).obs s := by
  rw [show g = s.heap.get? from funext h]
  rfl
section
variable {ok : Looks} {fn : List He.DefD} {K : PySem.W.Frag}
theorem Says.look (c : Says ok fn K) (i : Nat) {f : PySem.W.Frag → Bool} (h : ok[i]? = some f := by rfl) : f K = true := by
  have c1 : ((ok.all fun f => f K) && fn.all fun d => d.ok K) = true := congrArg Prod.fst c
  exact List.all_eq_true.mp (Bool.and_eq_true_iff.mp c1).1 f (List.mem_of_getElem? h)
theorem Says.defn (c : Says ok fn K) (i : Nat) {d : He.DefD} (h : fn[i]? = some d := by rfl) : ∃ fd, FunD K d.name d.qual d.params d.body d.scope (d.dvs K) (d.kws K) (He.fAd K d.at_) fd := by
  have c1 : ((ok.all fun f => f K) && fn.all fun d => d.ok K) = true := congrArg Prod.fst c
  have c2 : fn.map (fun d => He.fnW K d.at_) = fn.map He.DefD.val := congrArg Prod.snd c
  have c3 : (fn.map fun d => He.fnW K d.at_)[i]? = (fn.map He.DefD.val)[i]? := congrArg (fun l => l[i]?) c2
  rw [List.getElem?_map, List.getElem?_map, h] at c3
  exact He.DefD.funD (Option.some.inj c3) (List.all_eq_true.mp (Bool.and_eq_true_iff.mp c1).2 d (List.mem_of_getElem? h))
end
end SL

/-! SL1: rules joined by kinds, their steps; what stands in the heap. -/
namespace SL
open PySem PySem.Spec PyProof.Rows L2

theorem hu64 {k : Nat} {A : Around} {env : Env} (hr : Room k (A.deeper env)) : (A.deeper env).units + 130 < cLine := by
  have := hr.un
  omega
theorem guards_deeper {A : Around} {env : Env} (h : A.guards = some []) : (A.deeper env).guards = some [] := by
  first
    | exact h
    | simp [Around.deeper, h]

/-! ### module names as values -/
section
variable {mg : Str → Option Value} {x : Str}
theorem gv_int {i : Int} (h : ∃ t, mg x = some (.int i t)) : ∃ u, mg x = some u ∧ RelV (.int i) u := by
  obtain ⟨t, e⟩ := h
  exact ⟨_, e, t, rfl⟩
theorem gv_str {z : Str} (h : ∃ t, mg x = some (.str z t)) : ∃ u, mg x = some u ∧ RelV (.str z) u := by
  obtain ⟨t, e⟩ := h
  exact ⟨_, e, t, rfl⟩
theorem gv_ref {a : Addr} (h : mg x = some (.ref a)) : ∃ u, mg x = some u ∧ RelV (.ref a) u := ⟨_, h, rfl⟩
end

/-! ### joined readings -/
abbrev rSub : R2 := rI0 fun i j => .int (i - j)
abbrev rMod : R2 := rI (fun _ j => j ≠ 0) fun i j => .int (i.fmod j)
abbrev rDiv : R2 := rI CDivW fun i j => .int (i / j)
abbrev rPow : R2 := rI CPow fun i j => .int (i ^ j.toNat)
abbrev rNeg : V → Hp → VK → Prop := rU fun i => .int (-i)
def rAddI : R2 := rI0 fun i j => .int (i + j)
def rAddS : R2 := fun x y H Q => ∃ i j, x = .str i ∧ y = .str j ∧ i.length + j.length ≤ sizeLine ∧ Q (.str (i ++ j)) H
def uAdd (K : PySem.W.Frag) : R2 := fun x y H Q => rAddI x y H Q ∨ rAddS x y H Q ∨ rCat x y H Q ∨ rCatA K x y H Q
def rMulW : R2 := rI CMulW fun i j => .int (i * j)
def uMul (K : PySem.W.Frag) : R2 := fun x y H Q => rMulW x y H Q ∨ rRep x y H Q ∨ rRepT K x y H Q
def rAddF (x y : V) : Prop := True
section
variable {X : Cx}
theorem op_uAdd : OpR X (binaryOp .Add) (uAdd X.K) := op_add.or (op_add_str.or (op_cat.or op_catA))
theorem op_uMul : OpR X (binaryOp .Mult) (uMul X.K) := op_mulW.or (op_rep.or op_repT)
end
def uEq (K : PySem.W.Frag) : R2 := fun x y H Q => rEq x y H Q ∨ rEqD K x y H Q
def uNe (K : PySem.W.Frag) : R2 := fun x y H Q => rNe x y H Q ∨ rNeD K x y H Q
def rLtI : R2 := rI0 fun i j => .bl (decide (i < j))
def rLtS : R2 := fun x y H Q => ∃ i j, x = .str i ∧ y = .str j ∧ Q (.bl (decide (i.cps.toList < j.cps.toList))) H
def uLt (K : PySem.W.Frag) : R2 := fun x y H Q => rLtI x y H Q ∨ rLtS x y H Q ∨ rLtT K x y H Q
def uLe : R2 := rI0 fun i j => .bl (decide (i ≤ j))
abbrev rGt : R2 := rI0 fun i j => .bl (decide (j < i))
abbrev rGe : R2 := rI0 fun i j => .bl (decide (j ≤ i))
def rInS : R2 := fun x y H Q => ∃ (c : Nat) (z : Str), x = .str ⟨#[c]⟩ ∧ y = .str z ∧ Q (.bl (decide (c ∈ z.cps.toList))) H
def rNiS : R2 := fun x y H Q => ∃ (c : Nat) (z : Str), x = .str ⟨#[c]⟩ ∧ y = .str z ∧ Q (.bl (!decide (c ∈ z.cps.toList))) H
def rInR : R2 := fun x y H Q => ∃ i a lo hi, x = V.int i ∧ y = V.ref a ∧ H a = some (.rng lo hi) ∧ Q (.bl (decide (lo ≤ i ∧ i < hi))) H
def uIn (K : PySem.W.Frag) : R2 := fun x y H Q => rInS x y H Q ∨ rIn K false x y H Q ∨ rInR x y H Q
def uNi (K : PySem.W.Frag) : R2 := fun x y H Q => rNiS x y H Q ∨ rIn K true x y H Q
def uIs : R2 := fun x y H Q => y = .non ∧ Q (.bl (decide (x = .non))) H
def uIsnt : R2 := fun x y H Q => y = .non ∧ Q (.bl (!decide (x = .non))) H
section
variable {X : Cx}
theorem op_uEq (hu : X.A.units + 130 < cLine) : OpR X (compareOp .Eq) (uEq X.K) := op_eq.or (op_eqD (by omega))
theorem op_uNe (hu : X.A.units + 130 < cLine) : OpR X (compareOp .NotEq) (uNe X.K) := op_ne.or (op_neD (by omega))
theorem op_uLt (hu : X.A.units + 130 < cLine) : OpR X (compareOp .Lt) (uLt X.K) := op_lt.or (op_lt_str.or (op_ltT (by omega)))
theorem op_uLe : OpR X (compareOp .LtE) uLe := op_le
theorem op_uIn : OpR X (compareOp .In) (uIn X.K) := op_in_sign.or (op_in_seq.or op_in_rng)
theorem op_uNi : OpR X (compareOp .NotIn) (uNi X.K) := op_notIn_sign.or op_notIn_seq
theorem op_uIs : OpR X (compareOp .Is) uIs := op_isN
theorem op_uIn0 : OpR X (compareOp .IsNot) uIsnt := op_notN
end
def uIx (K : PySem.W.Frag) : R2 := rIx K
theorem ix_u {X : Cx} : IxR X (uIx X.K) := ix_seq
def uSl (K : PySem.W.Frag) : V → Option Int → Option Int → Hp → VK → Prop := fun x lo hi H Q => rSlS x lo hi H Q ∨ rSlL K x lo hi H Q ∨ rSlA K x lo hi H Q
theorem sl_u {X : Cx} : SlR X (uSl X.K) := sl_str.or (sl_list.or sl_tupA)
/-- what is walked -/
theorem PI.or {X : Cx} {tg it : Expr} {w1 w2 : TI} (h1 : PI X tg it w1) (h2 : PI X tg it w2) : PI X tg it (fun σ H R => w1 σ H R ∨ w2 σ H R) :=
  ⟨fun pins s σ H R I h => h.elim (h1.run pins s σ H R I) (h2.run pins s σ H R I)⟩
def iU (K : PySem.W.Frag) (t : TE) : TI := fun σ H R => iList K t σ H R ∨ (iTup K t σ H R ∨ iStr t σ H R)
theorem pi_u {X : Cx} {tg e : Expr} {t : TE} (h : PE X e t) : PI X tg e (iU X.K t) := PI.or (pi_list h) (PI.or (pi_tup h) (pi_str h))
/-- a test by the value's truth -/
def tTruK (K : PySem.W.Frag) (t : TE) : TT := fun σ H Q => t σ H fun x H' => ∃ k, TruV K x H' k ∧ Q k H'
theorem pt_tru {X : Cx} {a : Expr} {t : TE} (h : PE X a t) (he : ∀ whole, isTrue a X.env whole = (do let v ← whole; standAt a.pos; holding [v] (truthy v))) : PT X a (tTruK X.K t) := pt_truth h he

/-! ### built-ins -/
def uLen (K : PySem.W.Frag) : List V → Hp → VK → Prop := fun xs H Q => (∃ p ys, xs = [.ref p] ∧ (SqL K H p ys ∨ SqT K H p ys) ∧ Q (.int ys.length) H) ∨ (∃ x n, xs = [x] ∧ LenV K x H n ∧ Q (.int n) H)
theorem call_uLen {X : Cx} : CallR X (.builtin "len") (uLen X.K) := call_len_seq.or call_len
def rMax2 : List V → Hp → VK → Prop := fun xs H Q => ∃ i j, xs = [.int i, .int j] ∧ Q (.int (if j > i then j else i)) H
def rMin2 : List V → Hp → VK → Prop := fun xs H Q => ∃ i j, xs = [.int i, .int j] ∧ Q (.int (if j < i then j else i)) H
abbrev rMaxL := L2.rMax
abbrev rMinL := L2.rMin
abbrev rAllL := L2.rAll
abbrev rAnyL := L2.rAny
abbrev rSumL := L2.rSum
def uIsi (K : PySem.W.Frag) : List V → Hp → VK → Prop := fun xs H Q => rIsi K xs H Q ∨ rIsiT K xs H Q
theorem call_uIsi {X : Cx} : CallR X (.builtin "isinstance") (uIsi X.K) := call_isi.or call_isiT
def uStr (K : PySem.W.Frag) : List V → Hp → VK → Prop := fun xs H Q => (∃ i, xs = [.int i] ∧ i.natAbs.log2 < 1920 ∧ Q (.str (toString i)) H) ∨ (∃ a, xs = [.str a] ∧ Q (.str a) H)
theorem call_uStr {X : Cx} : CallR X (.type "str") (uStr X.K) := call_str_int.or SkE.call_str_str
def uList (K : PySem.W.Frag) : List V → Hp → VK → Prop := fun xs H Q => ∃ p ys, xs = [.ref p] ∧ (SqL K H p ys ∨ SqT K H p ys) ∧ ∀ l, H l = none → Q (.ref l) (upd H l (.lst ys))
theorem call_list_u {X : Cx} : CallR X (.type "list") (uList X.K) := call_list_of
def uTuple (K : PySem.W.Frag) : List V → Hp → VK → Prop := fun xs H Q => ∃ p ys, xs = [.ref p] ∧ ((SqL K H p ys ∧ ∀ l, H l = none → Q (.ref l) (upd H l (.tup ys))) ∨ (SqT K H p ys ∧ Q (.ref p) H))
theorem call_tuple_u {X : Cx} : CallR X (.type "tuple") (uTuple X.K) := call_tuple_of
def uInt : List V → Hp → VK → Prop := fun xs H Q => (∃ i, xs = [.int i] ∧ Q (.int i) H) ∨ ∃ k, xs = [.bl k] ∧ Q (.int (if k then 1 else 0)) H
theorem call_int_u {X : Cx} : CallR X (.type "int") uInt := call_int1
def rRangeV2 : List V → Hp → VK → Prop := fun vs H Q => ∃ i j, vs = [V.int i, V.int j] ∧ ∀ p, H p = none → Q (.ref p) (upd H p (.rng i j))
theorem call_rangeV2 {X : Cx} : CallR X (.type "range") rRangeV2 := cr_range2
def rJoin (K : PySem.W.Frag) : V → List V → Hp → VK → Prop := fun x xs H Q => ∃ a p, ∃ ys : List Str, x = .str a ∧ xs = [.ref p] ∧ (SqL K H p (ys.map V.str) ∨ SqT K H p (ys.map V.str)) ∧ (ys.map (·.length)).sum + ys.length * a.length ≤ 16777216 ∧ Q (.str (Txt.join a ys)) H
theorem mt_uJoin {X : Cx} : MtR X "str.join" (rJoin X.K) := mt_join

/-! ### keywords: where each value goes -/
inductive Pm where
  | pos (i : Nat)
  | key (i : Nat)
def Pm.v (vs zs : List V) : Pm → V
  | .pos i => vs.getD i .non
  | .key i => zs.getD i .non
def Pm.u (us ws : List Value) : Pm → Value
  | .pos i => us.getD i .none
  | .key i => ws.getD i .none
theorem getD_rel : ∀ {vs : List V} {us : List Value}, Vals vs us → ∀ i, RelV (vs.getD i .non) (us.getD i .none)
  | _, _, .nil, i => by
    cases i <;> rfl
  | _, _, .cons r t, 0 => r
  | _, _, .cons r t, i + 1 => by
    have := getD_rel t i
    simpa using this
theorem Pm.rel {vs zs : List V} {us ws : List Value} (r : Vals vs us) (q : Vals zs ws) : ∀ ps : List Pm, Vals (ps.map (Pm.v vs zs)) (ps.map (Pm.u us ws))
  | [] => .nil
  | .pos i :: ps => .cons (getD_rel r i) (Pm.rel r q ps)
  | .key i :: ps => .cons (getD_rel q i) (Pm.rel r q ps)
abbrev KB (K : PySem.W.Frag) (fd : FuncData) (ps : List Str) (n : Nat) (ks : List Str) (pm : List Pm) : Prop := KBn K fd ps n ks (fun us ws => pm.map (Pm.u us ws)) (fun vs zs => pm.map (Pm.v vs zs))
theorem kb_of {K : PySem.W.Frag} {fd : FuncData} {ps : List Str} {n : Nat} {ks : List Str} {pm : List Pm}
    (h : ∀ (us ws : List Value), us.length = n → ws.length = ks.length → bindArgs fd ⟨us, ks.zip ws⟩ = pure (ps.zip (pm.map (Pm.u us ws)))) : KB K fd ps n ks pm :=
  ⟨fun s us ws _ h1 h2 => .of_eq (h us ws h1 h2), fun r q => Pm.rel r q pm⟩
def tKw (sp : Sp) (pm : List Pm) (n m : Nat) (t tk : TA) : TE := tCallN n m sp (fun vs zs => pm.map (Pm.v vs zs)) E0 t tk
section
variable {X : Cx} {CX : CXT} {k n : Nat} {f : Addr} {fd : FuncData} {ps ks : List Str} {sp : Sp} {x : Str} {p pos : Pos} {e : Expr} {es : List Expr} {kws : List Keyword} {t tk : TA} {pm : List Pm}
theorem pe_k1 (F : FnOk X.prog X.w X.K X.mg X.base CX k f fd ps sp) (hr : Room k X.A) (hg : Gl X x) (hm : X.mg x = some (.ref f)) (hk : PySem.W.keepIn X.K (.ref f) = true) (hb : KB X.K fd ps n ks pm) (hx : Passes CX X E0)
    (ha : PA X (e :: es) t) (hkw : PK X kws tk) (hall : (backToKw pos (keywordEach kws X.env)).all (·.1.isSome) = true := by rfl) (hks : (backToKw pos (keywordEach kws X.env)).filterMap (·.1) = ks := by rfl)
    (hdb : (x == ("__debug__" : Str)) = false := by decide) (he : starEach (e :: es) X.env = (false, eval e X.env) :: starEach es X.env := by rfl)
    (hpl : ((backTo pos (starEach (e :: es) X.env)).any (·.1) || (backToKw pos (keywordEach kws X.env)).any (·.1.isNone)) = false := by rfl) :
    PE X (.Call (.Name x p) (e :: es) kws pos) (tKw sp pm n ks.length t tk) := pe_callN F hr hg hm hk hb hx ha hkw hall hks hdb he hpl
end
end SL

/-! SL2: frames, what stands, repr, steps. -/
namespace SL
open PySem PySem.Spec PyProof.Rows L2

/-! ### frames: all that is tracked outside M stands -/
def Ex (M : List Addr) (H H' : Hp) : Prop := ∀ a o, a ∉ M → H a = some o → H' a = some o
section
variable {M M' : List Addr} {K : PySem.W.Frag} {H H' H1 H2 : Hp} {p q b : Addr} {o : HO} {xs : List V}
theorem Ex.refl : Ex M H H := fun _ _ _ h => h
theorem Ex.trans (a : Ex M H H1) (c : Ex M H1 H2) : Ex M H H2 := fun x o m h => c x o m (a x o m h)
theorem Ex.mono (h : ∀ x ∈ M, x ∈ M') (e : Ex M H H') : Ex M' H H' := fun x o m z => e x o (fun y => m (h x y)) z
theorem Ex.nil (e : Ex [] H H') : Ex M H H' := Ex.mono (fun x z => absurd z (List.not_mem_nil)) e
theorem Ex.new (h : H p = none) : Ex M H (upd H p o) := fun a u _ z => by
  rw [upd_ne (ne_of_none z h)]
  exact z
theorem Ex.mut (h : p ∈ M) : Ex M H (upd H p o) := fun a u m z => by
  rw [upd_ne (fun e => m (by rw [e]; exact h))]
  exact z
theorem Ex.free (e : Ex M H H') (h : H' p = none) (hm : p ∉ M) : H p = none := by
  cases z : H p with
  | none => rfl
  | some u =>
    rw [e p u hm z] at h
    cases h
/-- freshness is kept back over a new object -/
theorem free_new (h : (upd H q o) p = none) : H p = none ∧ p ≠ q := by
  by_cases e : p = q
  · rw [e, upd_same] at h
    cases h
  · rw [upd_ne e] at h
    exact ⟨h, e⟩

/-! ### what stands -/
structure Lt (M : List Addr) (K : PySem.W.Frag) (H : Hp) (p : Addr) (xs : List V) : Prop where
  sq : SqL K H p xs
  off : p ∉ M
structure Tp (M : List Addr) (K : PySem.W.Frag) (H : Hp) (p : Addr) (xs : List V) : Prop where
  sq : SqT K H p xs
  off : p ∉ M
structure At (M : List Addr) (H : Hp) (p : Addr) (o : HO) : Prop where
  at_ : H p = some o
  off : p ∉ M
theorem rd_ex {u : HO} (e : Ex M H H') (off : p ∉ M) (h : Rd H p u) : Rd H' p u := by
  rcases h with h | ⟨o, h⟩
  · exact Or.inl (e p _ off h)
  · exact Or.inr ⟨o, e p _ off h⟩
theorem Lt.ex (h : Lt M K H p xs) (e : Ex M H H') : Lt M K H' p xs := ⟨h.sq.imp (rd_ex e h.off) id, h.off⟩
theorem Tp.ex (h : Tp M K H p xs) (e : Ex M H H') : Tp M K H' p xs := ⟨h.sq.imp (rd_ex e h.off) id, h.off⟩
theorem At.ex (h : At M H p o) (e : Ex M H H') : At M H' p o := ⟨e p o h.off h.at_, h.off⟩
theorem At.lt (h : At M H p (.lst xs)) : Lt M K H p xs := ⟨Or.inl (Or.inl h.at_), h.off⟩
theorem At.tp (h : At M H p (.tup xs)) : Tp M K H p xs := ⟨Or.inl (Or.inl h.at_), h.off⟩
theorem Lt.mono (hm : ∀ x ∈ M', x ∈ M) (h : Lt M K H p xs) : Lt M' K H p xs := ⟨h.sq, fun z => h.off (hm p z)⟩
theorem Tp.mono (hm : ∀ x ∈ M', x ∈ M) (h : Tp M K H p xs) : Tp M' K H p xs := ⟨h.sq, fun z => h.off (hm p z)⟩
theorem At.mono (hm : ∀ x ∈ M', x ∈ M) (h : At M H p o) : At M' H p o := ⟨h.at_, fun z => h.off (hm p z)⟩

/-! ### the law's box -/
def Box (b : Addr) (n : Nat) (H : Hp) : Prop := ∃ a s c : Int, H b = some (.lst [.int a, .int s, .int c]) ∧ 0 ≤ a ∧ 0 ≤ s ∧ s < 2147483648 ∧ 0 ≤ c ∧ c ≤ (n : Int)
theorem Box.ex {n : Nat} (h : Box b n H) (e : Ex M H H') (off : b ∉ M) : Box b n H' := by
  obtain ⟨a, s, c, h1, h2⟩ := h
  exact ⟨a, s, c, e b _ off h1, h2⟩
theorem Box.mono {n m : Nat} (h : Box b n H) (hn : n ≤ m) : Box b m H := by
  obtain ⟨a, s, c, h1, h2, h3, h4, h5, h6⟩ := h
  exact ⟨a, s, c, h1, h2, h3, h4, h5, by omega⟩
theorem Box.new {n : Nat} (h : Box b n H) (hp : H p = none) : Box b n (upd H p o) := h.ex (M := []) (Ex.new hp) (List.not_mem_nil)
theorem Box.ne {n : Nat} (h : Box b n H) (hp : H p = none) : p ≠ b := by
  obtain ⟨a, s, c, h1, _⟩ := h
  intro e
  rw [e, h1] at hp
  cases hp
theorem Box.off {n : Nat} (h : Box b n H) (hp : H p = none) : p ∉ [b] := fun z => h.ne hp (List.mem_singleton.mp z)
end

/-! ### data -/
mutual
inductive Rp (M : List Addr) (K : PySem.W.Frag) (H : Hp) : V → PyData → Prop
  | non : Rp M K H .non .none
  | bl (b : Bool) : Rp M K H (.bl b) (.bool b)
  | int (i : Int) : Rp M K H (.int i) (.int i)
  | str (x : Str) : Rp M K H (.str x) (.str x)
  | lst {a : Addr} {xs : List V} {ds : List PyData} : Lt M K H a xs → RpA M K H xs ds → Rp M K H (.ref a) (.list ds)
  | tup {a : Addr} {xs : List V} {ds : List PyData} : Tp M K H a xs → RpA M K H xs ds → Rp M K H (.ref a) (.tuple ds)
inductive RpA (M : List Addr) (K : PySem.W.Frag) (H : Hp) : List V → List PyData → Prop
  | nil : RpA M K H [] []
  | cons {v : V} {vs : List V} {d : PyData} {ds : List PyData} : Rp M K H v d → RpA M K H vs ds → RpA M K H (v :: vs) (d :: ds)
end
section
variable {M M' : List Addr} {K : PySem.W.Frag} {H H' : Hp}
mutual
theorem Rp.ex (e : Ex M H H') : ∀ {v : V} {d : PyData}, Rp M K H v d → Rp M K H' v d
  | _, _, .non => .non
  | _, _, .bl b => .bl b
  | _, _, .int i => .int i
  | _, _, .str x => .str x
  | _, _, .lst h a => .lst (h.ex e) (RpA.ex e a)
  | _, _, .tup h a => .tup (h.ex e) (RpA.ex e a)
theorem RpA.ex (e : Ex M H H') : ∀ {vs : List V} {ds : List PyData}, RpA M K H vs ds → RpA M K H' vs ds
  | _, _, .nil => .nil
  | _, _, .cons h a => .cons (Rp.ex e h) (RpA.ex e a)
end
mutual
theorem Rp.mono (hm : ∀ x ∈ M', x ∈ M) : ∀ {v : V} {d : PyData}, Rp M K H v d → Rp M' K H v d
  | _, _, .non => .non
  | _, _, .bl b => .bl b
  | _, _, .int i => .int i
  | _, _, .str x => .str x
  | _, _, .lst h a => .lst (h.mono hm) (RpA.mono hm a)
  | _, _, .tup h a => .tup (h.mono hm) (RpA.mono hm a)
theorem RpA.mono (hm : ∀ x ∈ M', x ∈ M) : ∀ {vs : List V} {ds : List PyData}, RpA M K H vs ds → RpA M' K H vs ds
  | _, _, .nil => .nil
  | _, _, .cons h a => .cons (Rp.mono hm h) (RpA.mono hm a)
end
mutual
theorem Rp.dp : ∀ {v : V} {d : PyData}, Rp M K H v d → Dp K H v d
  | _, _, .non => .non
  | _, _, .bl b => .bl b
  | _, _, .int i => .int i
  | _, _, .str x => .str x
  | _, _, .lst h a => .lst h.sq (RpA.dp a)
  | _, _, .tup h a => .tup h.sq (RpA.dp a)
theorem RpA.dp : ∀ {vs : List V} {ds : List PyData}, RpA M K H vs ds → DpAll K H vs ds
  | _, _, .nil => .nil
  | _, _, .cons h a => .cons (Rp.dp h) (RpA.dp a)
end
mutual
theorem dp_noDict : ∀ {v : V} {d : PyData}, Dp K H v d → d.hasDict = false
  | _, _, .non => by simp only [PyData.hasDict]
  | _, _, .bl b => by simp only [PyData.hasDict]
  | _, _, .int i => by simp only [PyData.hasDict]
  | _, _, .str x => by simp only [PyData.hasDict]
  | _, _, .lst _ a => by
    simp only [PyData.hasDict]
    exact dpA_noDict a
  | _, _, .tup _ a => by
    simp only [PyData.hasDict]
    exact dpA_noDict a
theorem dpA_noDict : ∀ {vs : List V} {ds : List PyData}, DpAll K H vs ds → PyData.hasDictAll ds = false
  | _, _, .nil => by simp only [PyData.hasDictAll]
  | _, _, .cons h a => by
    simp only [PyData.hasDictAll, Bool.or_eq_false_iff]
    exact ⟨dp_noDict h, dpA_noDict a⟩
end
theorem RpA.bools : ∀ bs : List Bool, RpA M K H (bs.map V.bl) (bs.map PyData.bool)
  | [] => .nil
  | b :: bs => .cons (.bl b) (RpA.bools bs)
theorem RpA.append : ∀ {vs ws : List V} {ds es : List PyData}, RpA M K H vs ds → RpA M K H ws es → RpA M K H (vs ++ ws) (ds ++ es)
  | _, _, _, _, .nil, b => b
  | _, _, _, _, .cons h a, b => .cons h (RpA.append a b)
theorem RpA.strs : ∀ zs : List Str, RpA M K H (zs.map V.str) (zs.map PyData.str)
  | [] => .nil
  | z :: zs => .cons (.str z) (RpA.strs zs)
theorem RpA.ints : ∀ zs : List Int, RpA M K H (zs.map V.int) (zs.map PyData.int)
  | [] => .nil
  | z :: zs => .cons (.int z) (RpA.ints zs)
end

/-! ### repr -/
/-- data whose repr fits -/
structure Shows (d : PyData) : Prop where
  sh : d.showable = true
  ex : ∃ B, 8 ≤ B ∧ d.leavesShort B = true ∧ (B + 2) * d.bulk + B ≤ 16777216
  dp : d.depth ≤ 60
theorem Shows.fits {d : PyData} (h : Shows d) : d.shown.length ≤ sizeLine := by
  obtain ⟨B, h1, h2, h3⟩ := h.ex
  rw [sizeLine_eq]
  exact Nat.le_trans (PyData.shown_le_bulk B h1 d h2) h3
def uRepr (K : PySem.W.Frag) : List V → Hp → VK → Prop := fun xs H Q => ∃ v d, xs = [v] ∧ Dp K H v d ∧ Shows d ∧ Q (.str d.shown) H
theorem call_uRepr {X : Cx} (hg : X.A.guards = some []) (hu : X.A.units + 130 < cLine) : CallR X (.builtin "repr") (uRepr X.K) := by
  intro pins s σ H xs us Q I r h
  obtain ⟨v, d, rfl, hd, sh, q⟩ := h
  obtain ⟨u, rfl, ru⟩ := vals1 r
  obtain ⟨as, rd⟩ := Dp.reads I d v u hd ru
  have nd := dp_noDict hd
  cases hd with
  | non =>
    cases (show u = Value.none from ru)
    rw [PyData.shown_none] at q
    exact PySem.P.repr_of_none ⟨.str _, H, I.tok _, ⟨_, rfl⟩, q⟩
  | bl b =>
    cases (show u = Value.bool b from ru)
    rw [PyData.shown_bool] at q
    refine PySem.P.repr_of_bool ⟨.str _, H, I.tok _, ⟨_, rfl⟩, ?_⟩
    cases b
    · exact q
    · exact q
  | int i =>
    obtain ⟨t, rfl⟩ := ru
    rw [PyData.shown_int] at q
    refine PySem.P.repr_of_int ?_ ⟨.str _, H, I.tok _, ⟨_, rfl⟩, q⟩
    have z := sh.sh
    simp only [PyData.showable, decide_eq_true_eq] at z
    exact z
  | str x =>
    obtain ⟨t, rfl⟩ := ru
    have z := sh.fits
    rw [PyData.shown_str] at q z
    exact PySem.P.repr_of_str ⟨.str _, H, I.tok _, ⟨_, rfl⟩, q⟩ z
  | lst _ _ =>
    cases (show u = Value.ref _ from ru)
    refine repr_of_reads' rd sh.sh (PyData.noDict_hsm nd) hg (by have := sh.dp; omega) (fun _ _ e => e) (fun h' t tk k => ⟨.str _, H, I.kept k, ⟨_, rfl⟩, q⟩) sh.fits
  | tup _ _ =>
    cases (show u = Value.ref _ from ru)
    refine repr_of_reads' rd sh.sh (PyData.noDict_hsm nd) hg (by have := sh.dp; omega) (fun _ _ e => e) (fun h' t tk k => ⟨.str _, H, I.kept k, ⟨_, rfl⟩, q⟩) sh.fits

/-! ### a call by keywords alone -/
section
variable {X : Cx} {CX : CXT} {k n : Nat} {f : Addr} {fd : FuncData} {ps ks : List Str} {sp : Sp} {x : Str} {p pos : Pos} {kws : List Keyword} {tk : TA} {pm : List Pm}
theorem pe_k0 (F : FnOk X.prog X.w X.K X.mg X.base CX k f fd ps sp) (hr : Room k X.A) (hg : Gl X x) (hm : X.mg x = some (.ref f)) (hk : PySem.W.keepIn X.K (.ref f) = true) (hb : KB X.K fd ps 0 ks pm) (hx : Passes CX X E0)
    (hkw : PK X kws tk) (hall : (backToKw pos (keywordEach kws X.env)).all (·.1.isSome) = true := by rfl) (hks : (backToKw pos (keywordEach kws X.env)).filterMap (·.1) = ks := by rfl)
    (hdb : (x == ("__debug__" : Str)) = false := by decide)
    (hpl : ((backTo pos (starEach [] X.env)).any (·.1) || (backToKw pos (keywordEach kws X.env)).any (·.1.isNone)) = false := by rfl) :
    PE X (.Call (.Name x p) [] kws pos) (tKw sp pm 0 ks.length tNil tk) := by
  constructor
  intro pins s σ H Q I h
  refine wpAny_Call_Name_kw (ld_glob I hg hm ?_ hdb)
  refine PySem.W.callWith_KW0 (h₀ := X.base) I.ok.mod.kin hk hall ?_ hpl
  have h : tk σ H fun zs H2 => ([] : List V).length = 0 ∧ zs.length = ks.length ∧ sp (pm.map (Pm.v [] zs)) H2 Q E0 := h
  refine thn (hkw.run pos pins s σ H _ I h) ?_
  rintro ws s2 ⟨zs, H2, I2, rz, l1, l2, q2⟩
  refine ⟨I2.kIn, ?_⟩
  rw [hks]
  exact run_fnN (us := []) (vs := []) F hr hb hx I2 .nil rz rfl l2 q2
end
end SL

/-! SL3: the readings step by step. -/
namespace SL
open PySem PySem.Spec PyProof.Rows L2

section
variable {K : PySem.W.Frag} {σ : L2.St} {H : Hp} {D : Ends} {i j : Nat} {v x y : V} {Q : VK} {ta tb tc te : TE} {t u : TS} {c : TT} {QB : Bool → Hp → Prop} {r r' : R2} {g : TG} {QS : L2.St → Hp → Prop} {tr tk : TA} {QA : List V → Hp → Prop} {R : List V → Hp → VK → Prop}
theorem st_seq (h : t { D with nx := u D } σ H) : tSeq t u D σ H := h
theorem st_asg (h : te σ H fun x H1 => g x σ H1 D.nx) : tAsg te g D σ H := h
theorem st_gn (h : QS (σ.set i (some v)) H) : gName i v σ H QS := h
theorem st_ret (h : te σ H D.rt) : tRet te D σ H := h
theorem st_retN (h : D.rt .non H) : tRetN D σ H := h
theorem st_ifs (h : c σ H fun b H1 => if b = true then t D σ H1 else u D σ H1) : tIfS c t u D σ H := h
theorem st_drop (h : te σ H fun _ H1 => D.nx σ H1) : tDrop te D σ H := h
theorem st_nx (h : D.nx σ H) : tNext D σ H := h
theorem st_par (h : tr σ H fun vs H1 => ∃ v w, vs = [v, w] ∧ D.nx ((σ.set i (some v)).set j (some w)) H1) : tPar i j tr D σ H := h
theorem st_par2 {P : V → V → Prop} {a b : V} (h : P a b) : ∃ v w, [a, b] = [v, w] ∧ P v w := ⟨a, b, rfl, h⟩
theorem st_var (h : σ[i]? = some (some v)) (q : Q v H) : tVar i σ H Q := ⟨v, h, q⟩
theorem st_c (q : Q v H) : tC v σ H Q := q
theorem st_op (h : ta σ H fun x H1 => tb σ H1 fun y H2 => r x y H2 Q) : tOp r ta tb σ H Q := h
theorem st_un {r : V → Hp → VK → Prop} (h : ta σ H fun x H1 => r x H1 Q) : tUn r ta σ H Q := h
theorem st_chain (h : ta σ H fun x H1 => tb σ H1 fun y H2 => r x y H2 fun z H3 => ∃ k, z = .bl k ∧ (if k = true then tc σ H3 fun w' H4 => r' y w' H4 Q else Q (.bl false) H3)) : tChain r r' ta tb tc σ H Q := h
theorem st_test (h : te σ H fun x H' => ∃ k, x = .bl k ∧ QB k H') : tTest te σ H QB := h
theorem st_tB (h : te σ H fun x H' => ∃ k, x = .bl k ∧ QB k H') : tB te σ H QB := h
theorem st_tru (h : te σ H fun x H' => ∃ k, TruV K x H' k ∧ QB k H') : tTruK K te σ H QB := h
theorem st_bl {b : Bool} {P : Bool → Prop} (h : P b) : ∃ k, V.bl b = .bl k ∧ P k := ⟨b, rfl, h⟩
theorem st_trb {b : Bool} {P : Bool → Prop} (h : P b) : ∃ k, TruV K (.bl b) H k ∧ P k := ⟨b, rfl, h⟩
theorem st_tri {z : Int} {P : Bool → Prop} (h : P (z != 0)) : ∃ k, TruV K (.int z) H k ∧ P k := ⟨_, rfl, h⟩
theorem st_trn {P : Bool → Prop} (h : P false) : ∃ k, TruV K .non H k ∧ P k := ⟨_, rfl, h⟩
variable {tt tu : TT}
theorem st_and (h : tt σ H fun c H1 => if c = true then tu σ H1 QB else QB false H1) : tAnd tt tu σ H QB := h
theorem st_or (h : tt σ H fun c H1 => if c = true then QB true H1 else tu σ H1 QB) : tOr tt tu σ H QB := h
theorem st_not (h : tt σ H fun c H1 => QB (!c) H1) : tNot tt σ H QB := h
theorem st_notV (h : ta σ H fun x H1 => ∃ c, x = .bl c ∧ Q (.bl (!c)) H1) : tNotV ta σ H Q := h
theorem st_andV (h : ta σ H fun x H1 => ∃ c, x = .bl c ∧ if c = true then tb σ H1 Q else Q (.bl false) H1) : tAndV ta tb σ H Q := h
theorem st_orV (h : ta σ H fun x H1 => ∃ c, x = .bl c ∧ if c = true then Q (.bl true) H1 else tb σ H1 Q) : tOrV ta tb σ H Q := h
theorem st_if (h : tt σ H fun c H1 => if c = true then ta σ H1 Q else tb σ H1 Q) : tIf tt ta tb σ H Q := h
theorem st_yes (h : QB true H) : tYes σ H QB := h
theorem st_call {sp : Sp} {dvs : List V} {E : XK} (h : tr σ H fun vs H1 => sp (vs ++ dvs) H1 Q E) : tCall sp dvs E tr σ H Q := h
theorem st_kw {sp : Sp} {pm : List Pm} {n m : Nat} (h : tr σ H fun vs H1 => tk σ H1 fun zs H2 => vs.length = n ∧ zs.length = m ∧ sp (pm.map (Pm.v vs zs)) H2 Q E0) : tKw sp pm n m tr tk σ H Q := h
theorem st_cb (h : tr σ H fun vs H1 => R vs H1 Q) : tCB R tr σ H Q := h
theorem st_cons (h : ta σ H fun x H1 => tr σ H1 fun xs H2 => QA (x :: xs) H2) : tCons ta tr σ H QA := h
theorem st_nil (h : QA [] H) : tNil σ H QA := h
theorem st_lst (h : tr σ H fun xs H1 => xs.length ≤ sizeLine ∧ ∀ p, H1 p = none → Q (.ref p) (upd H1 p (.lst xs))) : tLst tr σ H Q := h
theorem st_tup (h : tr σ H fun xs H1 => xs.length ≤ sizeLine ∧ ∀ p, H1 p = none → Q (.ref p) (upd H1 p (.tup xs))) : tTup tr σ H Q := h
theorem st_bm {T : String} {rm : V → List V → Hp → VK → Prop} (h : te σ H fun x H1 => tyV K T x H1 ∧ tr σ H1 fun xs H2 => rm x xs H2 Q) : tBM K T rm te tr σ H Q := h
theorem st_bm0 {T : String} {rm : V → List V → Hp → VK → Prop} (h : te σ H fun x H1 => tyV K T x H1 ∧ rm x [] H1 Q) : tBM0 K T rm te σ H Q := h
theorem st_sl {rs : V → Option Int → Option Int → Hp → VK → Prop} {tl th : TO} (h : te σ H fun x H1 => tl σ H1 fun l H2 => th σ H2 fun u H3 => rs x l u H3 Q) : tSl rs te tl th σ H Q := h
theorem st_part {QO : Option Int → Hp → Prop} (h : te σ H fun x H1 => ∃ i, x = .int i ∧ QO (some i) H1) : tPart te σ H QO := h
theorem st_parti {z : Int} {P : Int → Prop} (h : P z) : ∃ i, V.int z = .int i ∧ P i := ⟨z, rfl, h⟩
theorem st_nopart {QO : Option Int → Hp → Prop} (h : QO none H) : tNoPart σ H QO := h
/-! values -/
variable {m n : Int} {w z : Str} {a b : Addr} {xs ys : List V}
theorem u_add_i (q : Q (.int (m + n)) H) : uAdd K (.int m) (.int n) H Q := Or.inl ⟨m, n, rfl, rfl, q⟩
theorem u_add_s (hl : w.length + z.length ≤ sizeLine) (q : Q (.str (w ++ z)) H) : uAdd K (.str w) (.str z) H Q := Or.inr (Or.inl ⟨w, z, rfl, rfl, hl, q⟩)
theorem u_add_l (h1 : H a = some (.lst xs)) (h2 : H b = some (.lst ys)) (hl : xs.length + ys.length ≤ sizeLine) (q : ∀ p, H p = none → Q (.ref p) (upd H p (.lst (xs ++ ys)))) : uAdd K (.ref a) (.ref b) H Q :=
  Or.inr (Or.inr (Or.inl ⟨a, b, xs, ys, rfl, rfl, h1, h2, hl, q⟩))
theorem u_add_t (h1 : SqT K H a xs) (h2 : SqT K H b ys) (hl : xs.length + ys.length ≤ sizeLine) (q0 : xs = [] → Q (.ref b) H) (q1 : xs ≠ [] → ys = [] → Q (.ref a) H) (q : xs ≠ [] → ys ≠ [] → ∀ p, H p = none → Q (.ref p) (upd H p (.tup (xs ++ ys)))) : uAdd K (.ref a) (.ref b) H Q :=
  Or.inr (Or.inr (Or.inr ⟨a, b, xs, ys, rfl, rfl, h1, h2, hl, q0, q1, q⟩))
theorem u_sub (q : Q (.int (m - n)) H) : rSub (.int m) (.int n) H Q := ⟨m, n, rfl, rfl, q⟩
theorem u_mul (h : CMulW m n) (q : Q (.int (m * n)) H) : uMul K (.int m) (.int n) H Q := Or.inl ⟨m, n, rfl, rfl, h, q⟩
theorem u_mul_l (h1 : H a = some (.lst xs)) (hn : 0 ≤ n) (hn2 : n < 2 ^ 63) (hl : xs.length * n.toNat ≤ sizeLine) (q : ∀ p, H p = none → Q (.ref p) (upd H p (.lst (List.replicate n.toNat xs).flatten))) : uMul K (.ref a) (.int n) H Q :=
  Or.inr (Or.inl ⟨a, n, xs, rfl, rfl, h1, by omega, hn2, hl, q⟩)
theorem u_mod (h : n ≠ 0) (q : Q (.int (m.fmod n)) H) : rMod (.int m) (.int n) H Q := ⟨m, n, rfl, rfl, h, q⟩
theorem u_modp (h : 0 < n) (q : Q (.int (m % n)) H) : rMod (.int m) (.int n) H Q := ⟨m, n, rfl, rfl, by omega, by
  show Q (.int (m.fmod n)) H
  rw [Int.fmod_eq_emod_of_nonneg m (by omega)]
  exact q⟩
theorem u_div (h : CDivW m n) (q : Q (.int (m / n)) H) : rDiv (.int m) (.int n) H Q := ⟨m, n, rfl, rfl, h, q⟩
theorem u_pow (h : CPow m n) (q : Q (.int (m ^ n.toNat)) H) : rPow (.int m) (.int n) H Q := ⟨m, n, rfl, rfl, h, q⟩
theorem u_neg (q : Q (.int (-m)) H) : rNeg (.int m) H Q := ⟨m, rfl, q⟩
theorem u_eq_i (q : Q (.bl (decide (m = n))) H) : uEq K (.int m) (.int n) H Q := Or.inl ⟨rfl, by
  have e : decide (V.int m = V.int n) = decide (m = n) := by simp
  rw [e]
  exact q⟩
theorem u_ne_i (q : Q (.bl (!decide (m = n))) H) : uNe K (.int m) (.int n) H Q := Or.inl ⟨rfl, by
  have e : decide (V.int m = V.int n) = decide (m = n) := by simp
  rw [e]
  exact q⟩
theorem u_eq_s (q : Q (.bl (decide (w = z))) H) : uEq K (.str w) (.str z) H Q := Or.inl ⟨rfl, by
  have e : decide (V.str w = V.str z) = decide (w = z) := by simp
  rw [e]
  exact q⟩
theorem u_ne_s (q : Q (.bl (!decide (w = z))) H) : uNe K (.str w) (.str z) H Q := Or.inl ⟨rfl, by
  have e : decide (V.str w = V.str z) = decide (w = z) := by simp
  rw [e]
  exact q⟩
theorem u_eq_d {d e : PyData} (h1 : Dp K H x d) (h2 : Dp K H y e) (s1 : SeqAt.shaped d = true) (s2 : SeqAt.shaped e = true) (q : Q (.bl (PyData.eqv d e)) H) : uEq K x y H Q := Or.inr ⟨d, e, h1, h2, s1, s2, q⟩
theorem u_ne_d {d e : PyData} (h1 : Dp K H x d) (h2 : Dp K H y e) (s1 : SeqAt.shaped d = true) (s2 : SeqAt.shaped e = true) (q : Q (.bl (!PyData.eqv d e)) H) : uNe K x y H Q := Or.inr ⟨d, e, h1, h2, s1, s2, q⟩
theorem u_lt_i (q : Q (.bl (decide (m < n))) H) : uLt K (.int m) (.int n) H Q := Or.inl ⟨m, n, rfl, rfl, q⟩
theorem u_lt_s (q : Q (.bl (decide (w.cps.toList < z.cps.toList))) H) : uLt K (.str w) (.str z) H Q := Or.inr (Or.inl ⟨w, z, rfl, rfl, q⟩)
theorem u_le_i (q : Q (.bl (decide (m ≤ n))) H) : uLe (.int m) (.int n) H Q := ⟨m, n, rfl, rfl, q⟩
theorem u_gt_i (q : Q (.bl (decide (n < m))) H) : rGt (.int m) (.int n) H Q := ⟨m, n, rfl, rfl, q⟩
theorem u_ge_i (q : Q (.bl (decide (n ≤ m))) H) : rGe (.int m) (.int n) H Q := ⟨m, n, rfl, rfl, q⟩
theorem u_is (q : Q (.bl (decide (x = .non))) H) : uIs x .non H Q := ⟨rfl, q⟩
theorem u_isnt (q : Q (.bl (!decide (x = .non))) H) : uIsnt x .non H Q := ⟨rfl, q⟩
theorem u_in_s {c : Nat} (q : Q (.bl (decide (c ∈ z.cps.toList))) H) : uIn K (.str ⟨#[c]⟩) (.str z) H Q := Or.inl ⟨c, z, rfl, rfl, q⟩
theorem u_ni_s {c : Nat} (q : Q (.bl (!decide (c ∈ z.cps.toList))) H) : uNi K (.str ⟨#[c]⟩) (.str z) H Q := Or.inl ⟨c, z, rfl, rfl, q⟩
theorem u_in_l (h : SqL K H b ys ∨ SqT K H b ys) (fx : flatV x = true) (fy : ys.all flatV = true) (q : Q (.bl (inV x ys)) H) : uIn K x (.ref b) H Q := Or.inr (Or.inl ⟨b, ys, rfl, h, fx, fy, q⟩)
theorem u_ni_l (h : SqL K H b ys ∨ SqT K H b ys) (fx : flatV x = true) (fy : ys.all flatV = true) (q : Q (.bl (!inV x ys)) H) : uNi K x (.ref b) H Q := Or.inr ⟨b, ys, rfl, h, fx, fy, q⟩
theorem u_in_r {lo hi : Int} (h : H b = some (.rng lo hi)) (q : Q (.bl (decide (lo ≤ m ∧ m < hi))) H) : uIn K (.int m) (.ref b) H Q := Or.inr (Or.inr ⟨m, b, lo, hi, rfl, rfl, h, q⟩)
theorem u_ix_l (h : SqL K H a xs) (e : atI xs n = some v) (q : Q v H) : uIx K (.ref a) (.int n) H Q := Or.inl ⟨a, xs, n, v, rfl, rfl, h, e, q⟩
theorem u_ix_t (h : SqT K H a xs) (e : atI xs n = some v) (q : Q v H) : uIx K (.ref a) (.int n) H Q := Or.inr (Or.inl ⟨a, xs, n, v, rfl, rfl, h, e, q⟩)
theorem u_ix_s {c : Nat} (hl : w.length ≤ sizeLine) (e : atI w.cps.toList n = some c) (q : Q (.str ⟨#[c]⟩) H) : uIx K (.str w) (.int n) H Q := Or.inr (Or.inr ⟨w, n, c, rfl, rfl, hl, e, q⟩)
theorem u_sl_s {lo hi : Option Int} (hl : w.length ≤ sizeLine) (q : Q (.str (cutS w lo hi)) H) : uSl K (.str w) lo hi H Q := Or.inl ⟨w, rfl, hl, q⟩
theorem u_sl_l {lo hi : Option Int} (h : SqL K H a xs) (q : ∀ p, H p = none → Q (.ref p) (upd H p (.lst (cutV xs lo hi)))) : uSl K (.ref a) lo hi H Q := Or.inr (Or.inl ⟨a, xs, rfl, h, q⟩)
theorem u_len_q (h : SqL K H a xs ∨ SqT K H a xs) (q : Q (.int xs.length) H) : uLen K [.ref a] H Q := Or.inl ⟨a, xs, rfl, h, q⟩
theorem u_len_s (hl : w.length ≤ sizeLine) (q : Q (.int w.length) H) : uLen K [.str w] H Q := Or.inr ⟨.str w, w.length, rfl, ⟨hl, rfl⟩, q⟩
theorem u_max2 (q : Q (.int (if n > m then n else m)) H) : rMax2 [.int m, .int n] H Q := ⟨m, n, rfl, q⟩
theorem u_min2 (q : Q (.int (if n < m then n else m)) H) : rMin2 [.int m, .int n] H Q := ⟨m, n, rfl, q⟩
theorem u_all {bs : List Bool} (h : SqL K H a (bs.map V.bl)) (q : Q (.bl (bs.all id)) H) : rAllL K [.ref a] H Q := ⟨a, bs, rfl, h, q⟩
theorem u_any {bs : List Bool} (h : SqL K H a (bs.map V.bl)) (q : Q (.bl (bs.any id)) H) : rAnyL K [.ref a] H Q := ⟨a, bs, rfl, h, q⟩
theorem u_repr {d : PyData} (h : Dp K H x d) (s : Shows d) (q : Q (.str d.shown) H) : uRepr K [x] H Q := ⟨x, d, rfl, h, s, q⟩
theorem u_str_i (h : m.natAbs.log2 < 1920) (q : Q (.str (toString m)) H) : uStr K [.int m] H Q := Or.inl ⟨m, rfl, h, q⟩
theorem u_str_s (q : Q (.str w) H) : uStr K [.str w] H Q := Or.inr ⟨w, rfl, q⟩
theorem u_list (h : SqL K H a xs ∨ SqT K H a xs) (q : ∀ p, H p = none → Q (.ref p) (upd H p (.lst xs))) : uList K [.ref a] H Q := ⟨a, xs, rfl, h, q⟩
theorem u_tuple (h : SqL K H a xs) (q : ∀ p, H p = none → Q (.ref p) (upd H p (.tup xs))) : uTuple K [.ref a] H Q := ⟨a, xs, rfl, Or.inl ⟨h, q⟩⟩
theorem u_rng (q : ∀ p, H p = none → Q (.ref p) (upd H p (.rng m n))) : rRangeV2 [.int m, .int n] H Q := ⟨m, n, rfl, q⟩
theorem u_isi {c : V} {t u : Value} {k : Bool} (hc : ClsV c u) (ht : TyX K H x t) (e : PySem.W.kitOne K t u = some k) (q : Q (.bl k) H) : uIsi K [x, c] H Q := Or.inl ⟨x, c, t, u, k, rfl, hc, ht, e, q⟩
end
/-- a test's two ways -/
theorem ite_d {p : Prop} [Decidable p] {A B : Prop} (h1 : p → A) (h2 : ¬ p → B) : if decide p = true then A else B := by
  by_cases h : p
  · rw [decide_eq_true h, if_pos rfl]
    exact h1 h
  · rw [decide_eq_false h, if_neg Bool.false_ne_true]
    exact h2 h
theorem ite_nd {p : Prop} [Decidable p] {A B : Prop} (h1 : ¬ p → A) (h2 : p → B) : if (!decide p) = true then A else B := by
  by_cases h : p
  · rw [decide_eq_true h]
    show if false = true then A else B
    rw [if_neg Bool.false_ne_true]
    exact h2 h
  · rw [decide_eq_false h]
    show if true = true then A else B
    rw [if_pos rfl]
    exact h1 h
theorem ite_b {b : Bool} {A B : Prop} (h1 : b = true → A) (h2 : b = false → B) : if b = true then A else B := by
  cases b
  · rw [if_neg Bool.false_ne_true]
    exact h2 rfl
  · rw [if_pos rfl]
    exact h1 rfl
theorem ite_nb {b : Bool} {A B : Prop} (h1 : b = false → A) (h2 : b = true → B) : if (!b) = true then A else B := by
  cases b
  · show if true = true then A else B
    rw [if_pos rfl]
    exact h1 rfl
  · show if false = true then A else B
    rw [if_neg Bool.false_ne_true]
    exact h2 rfl
end SL

/-! SL4: isinstance of defs and of exceptions; exceptions made as values. -/
namespace SL
open PySem PySem.Spec PyProof.Rows L2
/-- a kind whose things are looked at by object's own `__getattribute__`, and whose class is told by object's `__class__` -/
structure Tells (T : String) : Prop where
  ga : Slot T "__getattribute__" "object.__getattribute__"
  cls : typeLookup (.type T) "__class__" = pure (some (.builtin "object.__class__"))
  other : (Value.type T == Value.type "builtin_function_or_method") = false
  low : isSubtype (.type T) (.type (".".intercalate ("object.__class__".cutAt '.').dropLast)) = pure true
theorem ga_entry : entryFor table "object.__getattribute__" = some Builtin.«object.__getattribute__» := entryFor_of_tree (by kernel_rfl)
theorem ga_args (a b : Value) : argsOk "object.__getattribute__" ⟨[a, b], []⟩ := by unfold argsOk; kernel_rfl
section
variable {prog : Program} {w : World} {A : Around} {E : Value → Shared → Prop} {s : Shared} {a : Addr} {T : String}
/-- object's `__class__` tells the type -/
theorem Tells.descr (W : Tells T) {R : Result → Shared → Prop} (ty : s.TypeIs (.ref a) T) (q : R (.ok (.ret (.type T))) s) : codeAny (model prog w) A (.call (.builtin "getset_descriptor.__get__") ⟨[.builtin "object.__class__", .ref a, .type T], []⟩) R s := by
  have kind : s.TypeIs (.builtin "object.__class__") "getset_descriptor" := PySem.F.typeOf_object_class
  have low := W.low
  obtain ⟨o, at_, cl⟩ := id ty
  rcases s with ⟨o1, o2, o3, o4, o5⟩
  refine codeAny_call_builtin PySem.F.slot_gs_get.plain PySem.F.entry_gs_get (PySem.F.slot_gs_get.check _ _ _ _ _ _ _ _ kind (PySem.F.args_gs_get _ _ _) ?_)
  repeat (any_goals (first | assumption | wp_step))
  refine ⟨Code.quiet_builtin _ (by decide +kernel), codeAny_builtin PySem.F.entry_object_class ?_⟩
  repeat (any_goals (first | assumption | wp_step))
  rw [W.other]
  repeat (any_goals (first | assumption | wp_step))
/-- so x.__class__ is the type -/
theorem Tells.attr (W : Tells T) {Q : Option Value → Shared → Prop} (ty : s.TypeIs (.ref a) T) (q : Q (some (.type T)) { s with toks := s.toks + 1 }) : wpAny (model prog w) A (getAttr? (.ref a) "__class__") Q E s := by
  have ga := W.ga.lookup
  have bd := W.ga.bind (.ref a)
  have cls := W.cls
  have kind := PySem.F.typeOf_object_class
  have g1 := PySem.F.slot_gs_get.lookup
  have g2 := PySem.F.slot_gs_set.lookup
  have read : ∀ {A' : Around} {tk : Tok} {R : Result → Shared → Prop} {s' : Shared}, s'.TypeIs (.ref a) T → R (.ok (.ret (.type T))) s' → codeAny (model prog w) A' (.call (.builtin "object.__getattribute__") ⟨[.ref a, .str "__class__" tk], []⟩) R s' := by
    intro A' tk R s' ty q
    refine codeAny_call_builtin W.ga.plain ga_entry (W.ga.check _ _ _ _ _ _ _ _ ty (ga_args _ _) ?_)
    obtain ⟨o, at_, cl⟩ := id ty
    rcases s' with ⟨o1, o2, o3, o4, o5⟩
    repeat (any_goals (first | assumption | wp_step))
    refine W.descr ty ?_
    repeat (any_goals (first | assumption | wp_step))
  rcases s with ⟨o1, o2, o3, o4, o5⟩
  have by_ : ∀ {tk : Tok} {Q : Value → Shared → Prop} {E : Value → Shared → Prop}, Q (.type T) ⟨o1, o2, o3, o4 + 1, o5⟩ → wpAny (model prog w) A (getAttrBy (.ref a) (.str "__class__" tk) false) Q E ⟨o1, o2, o3, o4 + 1, o5⟩ := by
    intro tk Q E q
    have ty' : (⟨o1, o2, o3, o4 + 1, o5⟩ : Shared).TypeIs (.ref a) T := ty
    repeat (any_goals (first | assumption | wp_step))
    refine read ty ?_
    repeat (any_goals (first | assumption | wp_step))
  unfold getAttr? getAttrBy?
  repeat (any_goals (first | assumption | with_reducible apply by_ | wp_step))
end
theorem fn_tells : Tells "function" where
  ga := .of (owner := "object") (n := "__getattribute__") (by rw [typeLookup_type, builtinLookup_eq_fast]; kernel_rfl) (by decide +kernel) (by decide +kernel) (by decide +kernel) (by first | exact .inl (by decide +kernel) | exact .inr (by decide +kernel)) (by rw [isSubtype_type]; kernel_rfl)
  cls := by rw [typeLookup_type, builtinLookup_eq_fast]; kernel_rfl
  other := rfl
  low := by rw [PySem.F.owner_object_class, isSubtype_type]; kernel_rfl
theorem kit_fn {K : PySem.W.Frag} {a : Addr} : PySem.W.KitX K (.ref a) (.type "function") (PySem.W.KitAt a "function") :=
  PySem.W.kitx_of PySem.W.kitAt_ty (fun {_ _ _ _ _ s} p k => fn_tells.attr p k)
end SL

namespace SL
open PySem PySem.Spec PyProof.Rows L2
/-! ### kinds for isinstance -/
/-- what the written part says of an own exception class, for isinstance -/
def isiB (K : PySem.W.Frag) (C : Addr) : Bool := (PySem.W.clsIn K C).isSome && (decide (PySem.W.findIn K (.ref C) "__getattribute__" = some (some (.builtin "BaseException.__getattribute__"))) && ((PySem.W.findIn K (.ref C) "__getattr__").isSome &&
  (decide (PySem.W.subIn K (.ref C) (.type "BaseException") = some true) && (decide (PySem.W.findIn K (.ref C) "__class__" = some (some (.builtin "object.__class__"))) && (decide (PySem.W.specialIn K (.builtin "object.__class__") "__get__" = some (some (.builtin "getset_descriptor.__get__"))) &&
  (decide (PySem.W.takesIn K (.builtin "object.__class__") = some true) && decide (PySem.W.mroIn K C (.type "object") = some true)))))))
inductive TyY (K : PySem.W.Frag) (H : Hp) : V → Value → Prop where
  | base {x : V} {t : Value} (h : TyX K H x t) : TyY K H x t
  | fn {a : Addr} {o : Obj} (e : K.lookup a = some o) (c : o.cls = .type "function") : TyY K H (.ref a) (.type "function")
  | exc {a C dx : Addr} (e : H a = some (exo a C (some dx))) (fs : List (Str × V)) (d : H dx = some (exd dx fs)) (b : isiB K C = true) : TyY K H (.ref a) (.ref C)
theorem kit_y {X : Cx} {pins : List (Addr × Obj)} {σ : L2.St} {H : Hp} {s : Shared} {x : V} {u t : Value} (I : Inv X pins σ H s) (rx : RelV x u) (ty : TyY X.K H x t) :
    ∃ P : Heap → Prop, PySem.W.KitX X.K u t P ∧ P s.heap ∧ u ≠ .builtin "__main__.__loader__#opaque" := by
  cases ty with
  | base h => exact kit_of I rx h
  | @fn a o e c =>
    cases (show u = Value.ref a from rx)
    exact ⟨_, kit_fn, ⟨o, I.kIn _ _ e, c⟩, fun z => nomatch z⟩
  | @exc a C dx e fs hd b =>
    cases (show u = Value.ref a from rx)
    simp only [isiB, Bool.and_eq_true, decide_eq_true_eq] at b
    obtain ⟨b1, b2, b3, b4, b5, b6, b7, b8⟩ := b
    obtain ⟨gt, b3⟩ := Option.isSome_iff_exists.mp b3
    obtain ⟨t1, ho⟩ := exo_at I.hok e
    obtain ⟨mA, ⟨oD, es, ep, hD, _⟩, _⟩ := exd_at I.hok hd
    refine ⟨_, PySem.W.kitx_exc (od := some oD) b1 b2 b3 b4 b5 b6 b7 b8, (show PySem.W.InstAt s.heap a { cls := .ref C, dict := some dx, data := .fields #[.ref t1, .none, .none, .none, .bool false, .none] } C (some oD) from ⟨ho, rfl, rfl, hD⟩), fun z => nomatch z⟩
def rIsiY (K : PySem.W.Frag) : List V → Hp → VK → Prop := fun xs H Q => ∃ (x c : V) (t u : Value) (b : Bool), xs = [x, c] ∧ ClsV c u ∧ TyY K H x t ∧ PySem.W.kitOne K t u = some b ∧ Q (.bl b) H
def rIsiYT (K : PySem.W.Frag) : List V → Hp → VK → Prop := fun xs H Q => ∃ (x : V) (tp : Addr) (cs : List V) (t : Value) (us : List Value) (b : Bool), xs = [x, .ref tp] ∧ H tp = some (.tup cs) ∧ Paired ClsV cs us ∧ TyY K H x t ∧ PySem.W.kitAny K t us = some b ∧ Q (.bl b) H
section
variable {X : Cx}
theorem call_isiY : CallR X (.builtin "isinstance") (rIsiY X.K) := by
  rintro pins s σ H _ us Q I r ⟨x, c, t, u, b, rfl, k, ty, told, q⟩
  obtain ⟨v, w, rfl, rv, rw⟩ := vals2 r
  obtain rfl := k.eq rw
  obtain ⟨P, Z, p, far⟩ := kit_y I rv ty
  exact PySem.W.kia_one Z I.kIn p told far fun tk => ⟨.bl b, H, I.tok tk, rfl, q⟩
theorem call_isiYT : CallR X (.builtin "isinstance") (rIsiYT X.K) := by
  rintro pins s σ H _ us Q I r ⟨x, tp, cs, t, ws, b, rfl, tup, k, ty, told, q⟩
  obtain ⟨v, w, rfl, rv, rw⟩ := vals2 r
  obtain rfl : w = .ref tp := rw
  obtain ⟨P, Z, p, far⟩ := kit_y I rv ty
  obtain ⟨_, its, rs, ⟨oc, od, dt, sl⟩, at_, cl, ep, seq⟩ := (show ObjOk X.prog X.w H s.heap tp (.tup cs) from I.hok tp _ tup)
  obtain rfl : oc = .type "tuple" := cl
  obtain rfl : dt = .seq its.toArray ep := seq
  obtain rfl := ClsV.all k rs
  exact PySem.W.kia_tup Z I.kIn p at_ told far fun tk => ⟨.bl b, H, I.tok tk, rfl, q⟩
def vIsi (K : PySem.W.Frag) : List V → Hp → VK → Prop := fun xs H Q => rIsiY K xs H Q ∨ rIsiYT K xs H Q
theorem call_vIsi : CallR X (.builtin "isinstance") (vIsi X.K) := call_isiY.or call_isiYT
end
section
variable {K : PySem.W.Frag} {H : Hp} {x c : V} {t u : Value} {k : Bool} {Q : VK}
theorem v_isi (hc : ClsV c u) (ht : TyY K H x t) (e : PySem.W.kitOne K t u = some k) (q : Q (.bl k) H) : vIsi K [x, c] H Q := Or.inl ⟨x, c, t, u, k, rfl, hc, ht, e, q⟩
theorem v_isiT {tp : Addr} {cs : List V} {us : List Value} (h : H tp = some (.tup cs)) (hc : Paired ClsV cs us) (ht : TyY K H x t) (e : PySem.W.kitAny K t us = some k) (q : Q (.bl k) H) : vIsi K [x, .ref tp] H Q := Or.inr ⟨x, tp, cs, t, us, k, rfl, h, hc, ht, e, q⟩
end
end SL

/-! SL5: the package's exceptions: how they are made, their fields. -/
namespace SL
open PySem PySem.Spec PyProof.Rows L2
/-! ### looks -/
/-- the class object at C is one of an exception above ValueError, in own classes and ValueError's -/
def clsVE (K : PySem.W.Frag) (C : Addr) : Bool := match K.lookup C with
  | some ⟨.type "type", _, .cls ⟨_, _, .ref C' :: bm, _, _, true, _, _, _, _, false⟩, ⟨[_, _, _, _, some (.builtin n), _]⟩⟩ => (C' == C && n == "ValueError.__new__") && PySem.HandSPX.refsVE bm
  | _ => false
theorem clsVE_ok {K : PySem.W.Frag} {C : Addr} (h : clsVE K C = true) : ∃ nm q N bs bm sn sub ab col dd k0 k1 k2 k3 k5, K.lookup C = some (excClassObj nm q C N bs bm true sn sub ab col dd k0 k1 k2 k3 k5 "ValueError.__new__") ∧ PySem.HandSPX.refsVE bm = true := by
  unfold clsVE at h
  split at h
  · next e =>
    simp only [Bool.and_eq_true, beq_iff_eq] at h
    obtain ⟨⟨rfl, rfl⟩, low⟩ := h
    exact ⟨_, _, _, _, _, _, _, _, _, _, _, _, _, _, _, e, low⟩
  · cases h
def oexB (K : PySem.W.Frag) (C : Addr) : Bool := clsVE K C && (decide (PySem.W.findIn K (.ref C) "__setattr__" = some (some (.builtin "object.__setattr__"))) && (decide (PySem.W.subIn K (.ref C) (.type "BaseException") = some true) &&
  (decide (PySem.W.typeIn K (.ref C) = some (.type "type")) && PySem.W.keepIn K (.ref C))))
theorem oexB_ok {K : PySem.W.Frag} {C : Addr} (h : oexB K C = true) : OexC K C := by
  simp only [oexB, Bool.and_eq_true, decide_eq_true_eq] at h
  exact ⟨clsVE_ok h.1, h.2.1, h.2.2.1, h.2.2.2.1, h.2.2.2.2⟩
/-- reading __init__ off the own base class at S -/
def baseB (K : PySem.W.Frag) (S : Addr) : Bool := PySem.W.readsIn K S (.type "type") && ((match PySem.W.findCls K (.ref S) (.type "type") "__init__" with
  | some (.val (.builtin n)) => decide (n = "ValueError.__init__")
  | _ => false) && decide (PySem.W.specialIn K (.ref S) "__getattribute__" = some (some (.builtin "type.__getattribute__"))))
/-- how C's own __init__ is found -/
def initB (K : PySem.W.Frag) (C : Addr) : Bool := decide (PySem.W.findIn K (.ref C) "__init__" = some (some (.ref (He.ma K C "__init__")))) && decide (PySem.W.typeIn K (.ref (He.ma K C "__init__")) = some (.type "function"))

theorem baseB_ok {K : PySem.W.Frag} {S : Addr} (b : baseB K S = true) : PySem.W.readsIn K S (.type "type") = true ∧ PySem.W.findCls K (.ref S) (.type "type") "__init__" = some (.val (.builtin "ValueError.__init__")) ∧ PySem.W.specialIn K (.ref S) "__getattribute__" = some (some (.builtin "type.__getattribute__")) := by
  unfold baseB at b
  rcases e : PySem.W.findCls K (.ref S) (.type "type") "__init__" with _ | y
  · rw [e] at b; simp at b
  · rw [e] at b
    split at b
    · next n q => cases q; simp only [Bool.and_eq_true, decide_eq_true_eq] at b; exact ⟨b.1, by rw [b.2.1], b.2.2⟩
    · simp at b
theorem initB_ok {K : PySem.W.Frag} {C : Addr} (b : initB K C = true) : PySem.W.findIn K (.ref C) "__init__" = some (some (.ref (He.ma K C "__init__"))) ∧ PySem.W.typeIn K (.ref (He.ma K C "__init__")) = some (.type "function") := by
  simpa only [initB, Bool.and_eq_true, decide_eq_true_eq] using b

/-! ### SearchError.__init__(self, ..) -/
section
variable {X : Cx} {e : Expr} {es : List Expr} {ta : TA} {x : Str} {S : Addr} {p1 p2 pos : Pos}
theorem pe_sinit {pl : Sem Bool} (hg : Gl X x) (hm : X.mg x = some (.ref S)) (b : baseB X.K S = true) (ha : PA X (e :: es) ta) (hdb : (x == ("__debug__" : Str)) = false := by decide)
    (hc : eval (.Call (.Attribute (.Name x p1) "__init__" p2) (e :: es) [] pos) X.env = (do
      let ov ← eval (.Name x p1) X.env
      standAt p2.atName
      let (f, first) ← holding [ov] (getMethod ov "__init__" pl)
      callWith pos f first (backTo pos (starEach (e :: es) X.env)) (backToKw pos (keywordEach [] X.env))) := by rfl)
    (he : starEach (e :: es) X.env = (false, eval e X.env) :: starEach es X.env := by rfl) (hpl : (backTo pos (starEach es X.env)).any (·.1) = false := by rfl) :
    PE X (.Call (.Attribute (.Name x p1) "__init__" p2) (e :: es) [] pos) (tVeI X.K ta) := by
  obtain ⟨b1, b2, b3⟩ := baseB_ok b
  refine ⟨fun pins s σ H Q I h => PySem.W.methodCall_KW (ld_glob I hg hm (PySem.W.method_cls I.kIn b3 (PySem.W.cls_value I.kIn b1 b2 (by decide +kernel) ?_)) hdb) hc⟩
  refine PyProof.Rows.callWith_method1 (id := "ValueError.__init__") (thn (ha.run pos pins _ σ H _ (I.tok _) h) ?_) he hpl
  rintro _ s1 ⟨_, H1, I1, rs, a, C, ws, rfl, few, T, raw, q⟩
  cases rs with
  | cons ra rw =>
    cases ra
    exact oinit_ok T I1 raw (rw.length ▸ Nat.le_trans few (by decide)) fun s' J => ⟨.non, H1, J, rfl, q⟩
end
/-! ### C(e, ..) as a value -/
/-- what __init__ of a one-field exception promises -/
def spX (K : PySem.W.Frag) (C : Addr) (f : Str) : Sp := fun vs H Q _ => ∃ (a : Addr) (v : V), vs = [.ref a, v] ∧ H a = some (exo a C none) ∧ ∀ dx, H dx = none → dx ≠ a → Q .non (upd (upd H dx (exd dx [(f, v)])) a (exo a C (some dx)))
def tExcV (C : Addr) (sp : Sp) (ta : TA) : TE := fun σ H Q => ta σ H fun vs H1 => vs.length ≤ 1000 ∧ ∀ a, H1 a = none → sp (.ref a :: vs) (upd H1 a (exo a C none)) (fun v H2 => v = .non ∧ Q (.ref a) H2) E0
/-- the heap with a new error of the class C: what it was given, and the error -/
def newErr (C : Addr) (us : List Value) (s : Shared) : Shared := { s with heap := (s.heap.push (PySem.W.kdv_tup us)).push (PySem.HandSPX.excO C s.heap.objs.size) }
theorem newErr_grown {C : Addr} {us : List Value} {s : Shared} (b : Addr) (o : Obj) (at_ : s.heap.get? b = some o) : (newErr C us s).heap.get? b = some o := Heap.get?_push_of_some _ (Heap.get?_push_of_some _ at_)
section
variable {X : Cx} {pins : List (Addr × Obj)} {σ : L2.St} {H : Hp} {s : Shared} {C fI : Addr} {us : List Value} {vs : List V}
theorem newErr_free (I : Inv X pins σ H s) : H (s.heap.objs.size + 1) = none := I.hok.fresh (Nat.le_succ _)
theorem newErr_inv (I : Inv X pins σ H s) : Inv X pins σ (upd H (s.heap.objs.size + 1) (exo (s.heap.objs.size + 1) C none)) (newErr C us s) :=
  I.laid (t' := s.toks) newErr_grown (Nat.le_succ _) (exo_ok (by show Heap.get? _ _ = _; heap_get))
/-- the class's own __init__ runs on the new error -/
theorem newErr_init {CX : CXT} {k : Nat} {sp : Sp} {Q : VK} {E : XK} {R : Result → Shared → Prop} (I : Inv X pins σ H s) (r : Vals vs us) (F : FnR X.prog X.w X.K X.mg X.base CX k fI sp) (room : Room (k + 1) X.A)
    (q : sp (.ref (s.heap.objs.size + 1) :: vs) (upd H (s.heap.objs.size + 1) (exo (s.heap.objs.size + 1) C none)) Q E)
    (to : ∀ r s', CR CX X.stack X.prog X.w (upd H (s.heap.objs.size + 1) (exo (s.heap.objs.size + 1) C none)) (newErr C us s) Q E r s' → R r s') :
    codeAny (model X.prog X.w) (X.A.under (.builtin "type.__call__" ⟨.ref C :: us, []⟩)) (.call (.ref fI) ⟨.ref (s.heap.objs.size + 1) :: us, []⟩) R (newErr C us s) :=
  codeAny_mono (F _ X.stack _ _ (.ref (s.heap.objs.size + 1) :: us) (.ref (s.heap.objs.size + 1) :: vs) Q E (room.make C us []) ((newErr_inv I).env0.make C us []) (.cons rfl r) q) to
theorem few_args (r : Vals vs us) (few : vs.length ≤ 1000) : us.length ≤ sizeLine := r.length ▸ Nat.le_trans few (by decide)
end
section
variable {X : Cx} {CX : CXT} {x : Str} {C fI : Addr} {k : Nat} {fd : FuncData} {ps : List Str} {sp : Sp} {p pos : Pos} {e : Expr} {es : List Expr} {ta : TA}
theorem pe_excV (T : OexC X.K C) (ib : initB X.K C = true) (F1 : FnOk X.prog X.w X.K X.mg X.base CX0 k (He.ma X.K C "__init__") fd ps sp) (hr : Room (k + 1) X.A) (hb : Binds X.K fd ps []) (hg : Gl X x) (hm : X.mg x = some (.ref C)) (ha : PA X (e :: es) ta)
    (hdb : (x == ("__debug__" : Str)) = false := by decide) (he : starEach (e :: es) X.env = (false, eval e X.env) :: starEach es X.env := by rfl) (hpl : (backTo pos (starEach es X.env)).any (·.1) = false := by rfl) :
    PE X (.Call (.Name x p) (e :: es) [] pos) (tExcV C sp ta) := by
  obtain ⟨found, fn⟩ := initB_ok ib
  obtain ⟨nm, q, N, bs, bm, sn, sub, ab, col, dd, k0, k1, k2, k3, k5, cls, low⟩ := T.cls
  refine ⟨fun pins s σ H Q I h => wpAny_Call_Name_kw (ld_glob I hg hm (PySem.W.callWith_K (h₀ := X.base) I.ok.mod.kin T.kC (thn (ha.run pos pins s σ H _ I h) ?_) he hpl) hdb)⟩
  rintro us s1 ⟨vs, H1, I1, r, few, q⟩
  refine ⟨I1.kIn, wpAny_call (PySem.HandSPX.call_own F.excBase_ValueError (fun Y => PySem.HandSPX.refsVE_contains Y bm low) (I1.kIn _ _ cls) (PySem.W.looks_findIn I1.kIn found) (fun self => PySem.W.bind_fn I1.kIn self fn) (few_args r few)
    (newErr_init I1 r (F1.raw hb .nil) hr (by rw [List.append_nil]; exact q _ (newErr_free I1)) ?_))⟩
  rintro (e | _ | _ | _ | u) s' z
  case ok.ret =>
    obtain ⟨v, H', J, rv, rfl, q'⟩ := (newErr_inv I1).after z
    exact ⟨rv, .ref (s1.heap.objs.size + 1), H', J, rfl, q'⟩
  all_goals exact z.elim
end
/-- the end of C(v) as a value -/
theorem st_excV {K : PySem.W.Frag} {C : Addr} {f : Str} {σ : L2.St} {H : Hp} {Q : VK} {ta : TA} (h : ta σ H fun vs H1 => ∃ v, vs = [v] ∧ ∀ a dx, H1 a = none → H1 dx = none → dx ≠ a → Q (.ref a) (upd (upd (upd H1 a (exo a C none)) dx (exd dx [(f, v)])) a (exo a C (some dx))))
    (mono : ∀ {P P' : List V → Hp → Prop}, (∀ vs H, P vs H → P' vs H) → ta σ H P → ta σ H P') : tExcV C (spX K C f) ta σ H Q := by
  refine mono ?_ h
  rintro _ H1 ⟨v, rfl, q⟩
  exact ⟨(by show 1 ≤ 1000; decide), fun a free => ⟨a, v, rfl, upd_same, fun dx free2 ne => ⟨rfl, q a dx free ((upd_ne ne).symm.trans free2) ne⟩⟩⟩
end SL

/-! SL6: comprehensions by their items; helpers of the laws. -/
namespace SL
open PySem PySem.Spec PyProof.Rows L2

theorem sz_le {n : Nat} (h : n ≤ 100000) : n ≤ sizeLine := Nat.le_trans h (by decide)
theorem sz_lt {n : Nat} (h : n < 100000) : n < sizeLine := Nat.lt_of_lt_of_le h (by decide)

/-- what a comprehension needs of its source, and gives -/
theorem lc_u {J : It} {n : Nat} {G : Hp → Prop} {Y : Nat → Hp → V → Hp → Prop} (w : Walk J n G Y) {g : TG} {te : TE} {vs : List Nat} {σ : L2.St} {H1 : Hp} {D : Addr} {Qd : Hp → Prop} (M : List Addr) (S : Nat → Hp → Prop) (F : Nat → V → Hp → Prop)
    (hD : H1 D = none) (hM : D ∉ M) (hlen : n ≤ 90000) (S0 : ∀ H, Ex [] H1 H → S 0 H) (hS : ∀ i H acc, H D = some (.lst acc) → S i H → ∀ acc', S i (upd H D (.lst acc'))) (hG : ∀ i H, Ex (D :: M) H1 H → S i H → G H)
    (hF : ∀ j y H H', Ex (D :: M) H H' → F j y H → F j y H')
    (step : ∀ i x H H', i < n → Ex M H1 H → (∃ acc, H D = some (.lst acc)) → S i H → Y i H x H' → ∀ P : VK, (∀ y H4, Ex M H H4 → F i y H4 → S (i + 1) H4 → P y H4) → g x (wipe σ vs) H' fun σ2 H2 => wipe σ2 vs = wipe σ vs ∧ te σ2 H2 P)
    (hd : ∀ H acc, H D = some (.lst acc) → acc.length = n → Ex M H1 H → (∀ j y, acc[j]? = some y → F j y H) → S n H → Qd H) :
    ∃ W : Nat → Nat → Hp → Prop, (∃ m, W 0 m (upd H1 D (.lst []))) ∧ ∀ i m H, W i m H →
      (J.stop i H ∧ Qd H) ∨ (J.go i H ∧ ∃ Nx : Hp → Prop, (∀ H', Nx H' → ∃ m', m' < m ∧ W (i + 1) m' H') ∧ ∀ x H', J.yld i H x H' → g x (wipe σ vs) H' fun σ2 H2 => wipe σ2 vs = wipe σ vs ∧ tYes σ2 H2 fun b H3 =>
        if b = true then te σ2 H3 fun y H4 => ∃ acc, H4 D = some (.lst acc) ∧ acc.length < sizeLine ∧ Nx (upd H4 D (.lst (acc ++ [y]))) else Nx H3) := by
  have back : ∀ H, Ex (D :: M) H1 H → Ex M H1 H := fun H e a o m z => e a o (by
    intro q
    rcases List.mem_cons.mp q with q | q
    · rw [q, hD] at z
      cases z
    · exact m q) z
  refine lc_it w (fun i H => ∃ acc, H D = some (.lst acc) ∧ acc.length = i ∧ Ex (D :: M) H1 H ∧ (∀ j y, acc[j]? = some y → F j y H) ∧ S i H) ?_ ?_ ?_ ?_
  · refine ⟨[], upd_same, rfl, Ex.nil (Ex.new hD), fun j y z => by simp at z, S0 _ (Ex.new hD)⟩
  · rintro i H hi ⟨acc, h1, h2, h3, h4, h5⟩
    exact hG i H h3 h5
  · rintro i x H H' hi ⟨acc, h1, h2, h3, h4, h5⟩ y
    refine step i x H H' hi (back H h3) ⟨acc, h1⟩ h5 y _ ?_
    intro v H4 e3 e4 e5
    have hD4 : H4 D = some (.lst acc) := e3 D _ hM h1
    have up : Ex (D :: M) H4 (upd H4 D (.lst (acc ++ [v]))) := Ex.mut (List.mem_cons_self ..)
    have e6 : Ex (D :: M) H H4 := Ex.mono (fun x z => List.mem_cons_of_mem _ z) e3
    refine ⟨acc, hD4, sz_lt (by omega), acc ++ [v], upd_same, by simp [h2], h3.trans (e6.trans up), fun j z hj => ?_, hS _ _ _ hD4 e5 _⟩
    by_cases q : j < acc.length
    · rw [List.getElem?_append_left q] at hj
      exact hF _ _ _ _ (e6.trans up) (h4 j z hj)
    · have q2 : j = acc.length := by
        have := (List.getElem?_eq_some_iff.mp hj).1
        simp at this
        omega
      subst q2
      simp at hj
      subst hj
      rw [h2]
      exact hF _ _ _ _ up e4
  · rintro H ⟨acc, h1, h2, h3, h4, h5⟩
    exact hd H acc h1 h2 (back H h3) h4 h5
end SL

namespace SL
theorem iteNT {A B : Prop} (h : B) : if (!true) = true then A else B := by
  show if false = true then A else B
  rw [if_neg Bool.false_ne_true]
  exact h
theorem iteNF {A B : Prop} (h : A) : if (!false) = true then A else B := by
  show if true = true then A else B
  rw [if_pos rfl]
  exact h
end SL

namespace SL
open PySem PySem.Spec PyProof.Rows L2
section
variable {K : PySem.W.Frag} {σ : L2.St} {H : Hp} {t : TE} {ta : TA} {R : It → Hp → Prop} {D : Ends} {wi : TI} {g : TG} {tb : TS} {tt : TT} {te : TE} {vs : List Nat} {Q : VK}
theorem st_iU_s (h : t σ H fun v H1 => ∃ x, v = .str x ∧ R (Its x) H1) : iU K t σ H R := Or.inr (Or.inr h)
theorem st_iU_l (h : t σ H fun x H1 => ∃ a, x = .ref a ∧ (∃ xs, SqL K H1 a xs) ∧ R (Itl K a) H1) : iU K t σ H R := Or.inl h
theorem st_iU_t (h : t σ H fun x H1 => ∃ a, x = .ref a ∧ (∃ xs, SqT K H1 a xs) ∧ R (Itt K a) H1) : iU K t σ H R := Or.inr (Or.inl h)
theorem st_rng1 (h : ta σ H fun vs H1 => ∃ j : Int, vs = [.int j] ∧ -(2 ^ 62) ≤ j ∧ j < 2 ^ 62 ∧ R (Itr 0 j.toNat) H1) : iRng1 ta σ H R := h
theorem st_rng2 (h : ta σ H fun vs H1 => ∃ i j : Int, vs = [.int i, .int j] ∧ (-(2 ^ 62) ≤ i ∧ i < 2 ^ 62 ∧ -(2 ^ 62) ≤ j ∧ j < 2 ^ 62) ∧ R (Itr i (j - i).toNat) H1) : iRng2 ta σ H R := h
theorem st_lc (h : wi σ H fun J H1 => ∀ D, H1 D = none → ∃ W : Nat → Nat → Hp → Prop, (∃ m, W 0 m (upd H1 D (.lst []))) ∧ ∀ i m H, W i m H →
  (J.stop i H ∧ Q (.ref D) H) ∨ (J.go i H ∧ ∃ Nx : Hp → Prop, (∀ H', Nx H' → ∃ m', m' < m ∧ W (i + 1) m' H') ∧ ∀ x H', J.yld i H x H' → g x (wipe σ vs) H' fun σ2 H2 => wipe σ2 vs = wipe σ vs ∧ tt σ2 H2 fun b H3 =>
    if b = true then te σ2 H3 fun y H4 => ∃ acc, H4 D = some (.lst acc) ∧ acc.length < sizeLine ∧ Nx (upd H4 D (.lst (acc ++ [y]))) else Nx H3)) : tLc wi g tt te vs σ H Q := h
theorem st_for (h : wi σ H fun J H1 => ∃ W : Nat → Nat → L2.St → Hp → Prop, (∃ m, W 0 m σ H1) ∧ ∀ i m σ H, W i m σ H →
  (J.stop i H ∧ D.nx σ H) ∨ (J.go i H ∧ ∃ N : L2.St → Hp → Prop, (∀ σ' H', N σ' H' → ∃ m', m' < m ∧ W (i + 1) m' σ' H') ∧ ∀ x H', J.yld i H x H' → g x σ H' fun σ2 H2 => tb { D with nx := N, ct := N, bk := D.nx } σ2 H2)) : tFor wi g tb D σ H := h
theorem st_itl {a : Addr} {xs : List V} {P : It → Prop} (h : SqL K H a xs) (q : P (Itl K a)) : ∃ b, V.ref a = .ref b ∧ (∃ ys, SqL K H b ys) ∧ P (Itl K b) := ⟨a, rfl, ⟨xs, h⟩, q⟩
theorem st_itt {a : Addr} {xs : List V} {P : It → Prop} (h : SqT K H a xs) (q : P (Itt K a)) : ∃ b, V.ref a = .ref b ∧ (∃ ys, SqT K H b ys) ∧ P (Itt K b) := ⟨a, rfl, ⟨xs, h⟩, q⟩
theorem st_its {z : Str} {P : It → Prop} (q : P (Its z)) : ∃ x, V.str z = .str x ∧ P (Its x) := ⟨z, rfl, q⟩
theorem st_itr {n : Int} {P : It → Prop} (h1 : -(2 ^ 62) ≤ n) (h2 : n < 2 ^ 62) (q : P (Itr 0 n.toNat)) : ∃ j : Int, [V.int n] = [.int j] ∧ -(2 ^ 62) ≤ j ∧ j < 2 ^ 62 ∧ P (Itr 0 j.toNat) := ⟨n, rfl, h1, h2, q⟩
end
/-- a list by its items -/
theorem map_of {α : Type} {acc : List V} {xs : List α} {f : α → V} (hl : acc.length = xs.length) (h : ∀ (j : Nat) (y : V) (x : α), acc[j]? = some y → xs[j]? = some x → y = f x) : acc = xs.map f := by
  apply List.ext_getElem (by simpa using hl)
  intro j h1 h2
  rw [List.getElem_map]
  exact h j _ _ (List.getElem?_eq_getElem h1) (List.getElem?_eq_getElem (by simpa using h2))
end SL

namespace SL
open PySem PySem.Spec PyProof.Rows L2
section
variable {K : PySem.W.Frag} {H H' : Hp} {p a dx C : Addr} {xs : List V} {o : HO} {M : List Addr} {v x : V} {t : Value}
theorem sqL (h : H p = some (.lst xs)) : SqL K H p xs := Or.inl (Or.inl h)
theorem sqT (h : H p = some (.tup xs)) : SqT K H p xs := Or.inl (Or.inl h)
/-- a value's type, whatever comes outside M -/
def Ky (M : List Addr) (K : PySem.W.Frag) (H : Hp) (v : V) (t : Value) : Prop := ∀ H', Ex M H H' → TyY K H' v t
theorem Ky.ex (h : Ky M K H v t) (e : Ex M H H') : Ky M K H' v t := fun H2 e2 => h H2 (e.trans e2)
theorem Ky.ty (h : Ky M K H v t) : TyY K H v t := h H Ex.refl
theorem Ky.nil (h : Ky M K H v t) : Ky [] K H v t := fun H2 e => h H2 e.nil
theorem Ky.mono {M' : List Addr} (hm : ∀ x ∈ M', x ∈ M) (h : Ky M K H v t) : Ky M' K H v t := fun H2 e => h H2 (e.mono hm)
theorem ky_non : Ky M K H .non (.type "NoneType") := fun _ _ => .base (.base .non)
theorem ky_bl {b : Bool} : Ky M K H (.bl b) (.type "bool") := fun _ _ => .base (.base (.bl b))
theorem ky_int {i : Int} : Ky M K H (.int i) (.type "int") := fun _ _ => .base (.base (.int i))
theorem ky_str {z : Str} : Ky M K H (.str z) (.type "str") := fun _ _ => .base (.base (.str z))
theorem ky_lst (h : At M H a (.lst xs)) : Ky M K H (.ref a) (.type "list") := fun _ e => .base (.base (.lst (h.ex e).at_))
theorem ky_tup (h : At M H a (.tup xs)) : Ky M K H (.ref a) (.type "tuple") := fun _ e => .base (.base (.tup (h.ex e).at_))
theorem ky_dK {kvs : List (Key × V)} (h : At M H a (.dK kvs)) : Ky M K H (.ref a) (.type "dict") := fun _ e => .base (.base (.dK (h.ex e).at_))
theorem ky_fn {ob : Obj} (e : K.lookup a = some ob) (c : ob.cls = .type "function") : Ky M K H (.ref a) (.type "function") := fun _ _ => .fn e c
theorem ky_exc {fs : List (Str × V)} (h : At M H a (exo a C (some dx))) (d : At M H dx (exd dx fs)) (b : isiB K C = true) : Ky M K H (.ref a) (.ref C) := fun _ e => .exc (h.ex e).at_ fs (d.ex e).at_ b
variable {σ : L2.St} {Q : L2.St → Hp → Prop} {to ti : TE} {ts : TSet} {i : V} {n : Int} {j : Nat} {QH : Hp → Prop} {QV : VK}
theorem st_gsub (h : to σ H fun o H1 => ti σ H1 fun i H2 => ts o i v H2 fun H3 => Q σ H3) : gSub to ti ts v σ H Q := h
theorem u_setL (h : H p = some (.lst xs)) (e : ixN xs.length n = some j) (q : QH (upd H p (.lst (xs.set j v)))) : rSetL (.ref p) (.int n) v H QH := ⟨p, xs, n, j, rfl, rfl, h, e, q⟩
theorem u_append (h : H p = some (.lst xs)) (hl : xs.length < sizeLine) (q : QV .non (upd H p (.lst (xs ++ [v])))) : rAppend (.ref p) [v] H QV := ⟨p, xs, v, rfl, rfl, h, hl, q⟩
theorem ty_l (h : SqL K H p xs) : tyV K "list" (.ref p) H := Or.inl ⟨rfl, xs, h⟩
theorem ty_s {z : Str} : tyV K "str" (.str z) H := rfl
theorem u_join {z : Str} {ys : List Str} (h : SqL K H p (ys.map V.str) ∨ SqT K H p (ys.map V.str)) (hl : (ys.map (·.length)).sum + ys.length * z.length ≤ 16777216) (q : QV (.str (Txt.join z ys)) H) : rJoin K (.str z) [.ref p] H QV := ⟨z, p, ys, rfl, rfl, h, hl, q⟩
end
/-! ### what the laws' helpers promise -/
/-- a cell of the script, or a number made of its place -/
def spCell (K : PySem.W.Frag) : Sp := fun vs H Q _ => ∃ (a : Addr) (ns : List Int) (k : Int), vs = [.ref a, .int k] ∧ SqL K H a (ns.map V.int) ∧ 0 ≤ k ∧ k ≤ 100 ∧ ∀ i : Int, Q (.int i) H
def spBox : Sp := fun vs H Q _ => ∃ n : Int, vs = [.int n] ∧ ∀ b H', H b = none → Ex [] H H' → Box b 0 H' → Q (.ref b) H'
/-- a drawn number below m -/
def spTake : Sp := fun vs H Q _ => ∃ (b : Addr) (m : Int) (n : Nat), vs = [.ref b, .int m] ∧ Box b n H ∧ n ≤ 1000000 ∧ 0 < m ∧ m < 10 ^ 40 ∧ ∀ (r : Int) H', 0 ≤ r → r < m → Ex [b] H H' → Box b (n + 1) H' → Q (.int r) H'
end SL

namespace SL
open PySem PySem.Spec PyProof.Rows L2
/-! ### texts -/
theorem str_ext {a b : Str} (h : a.cps.toList = b.cps.toList) : a = b := by
  cases a with
  | mk x => cases b with
    | mk y =>
      have : x = y := Array.toList_inj.mp h
      rw [this]
theorem len_str (a : Str) : a.length = a.cps.toList.length := by simp [Str.length]
theorem cps_add (a b : Str) : (a ++ b).cps.toList = a.cps.toList ++ b.cps.toList := by
  rw [PySem.Str.cps_append]
  simp
theorem len_add (a b : Str) : (a ++ b).length = a.length + b.length := PySem.Str.length_append a b
end SL

namespace SL
open PySem PySem.Spec PyProof.Rows L2
theorem Box.upd {b p : Addr} {n : Nat} {H : Hp} {o : HO} (h : Box b n H) (ne : p ≠ b) : Box b n (upd H p o) := h.ex (M := [p]) (Ex.mut (List.mem_singleton.mpr rfl)) (fun z => ne (List.mem_singleton.mp z).symm)
theorem use_take {b : Addr} {m : Int} {n : Nat} {H : Hp} {Q : VK} {E : XK} (hb : Box b n H) (hn : n ≤ 1000000) (hm : 0 < m) (hm2 : m < 10 ^ 40) (q : ∀ (r : Int) H', 0 ≤ r → r < m → Ex [b] H H' → Box b (n + 1) H' → Q (.int r) H') : spTake [.ref b, .int m] H Q E :=
  ⟨b, m, n, rfl, hb, hn, hm, hm2, q⟩
/-- a comprehension with a test, its values known by their turns -/
theorem lc_f {J : It} {n : Nat} {G : Hp → Prop} {Y : Nat → Hp → V → Hp → Prop} (w : Walk J n G Y) {g : TG} {tt : TT} {te : TE} {vs : List Nat} {σ : L2.St} {H1 : Hp} {D : Addr} {Qd : Hp → Prop} (M : List Addr) (S : Nat → Hp → Prop) (keep : Nat → Bool) (val : Nat → V)
    (hD : H1 D = none) (hM : D ∉ M) (hlen : n ≤ 90000) (S0 : ∀ H, Ex [] H1 H → S 0 H) (hS : ∀ i H acc, H D = some (.lst acc) → S i H → ∀ acc', S i (upd H D (.lst acc'))) (hG : ∀ i H, Ex (D :: M) H1 H → S i H → G H)
    (step : ∀ i x H H', i < n → Ex M H1 H → (∃ acc, H D = some (.lst acc)) → S i H → Y i H x H' → ∀ (PN : Hp → Prop) (PV : VK), (keep i = false → ∀ H4, Ex M H H4 → S (i + 1) H4 → PN H4) → (keep i = true → ∀ H4, Ex M H H4 → S (i + 1) H4 → PV (val i) H4) →
      g x (wipe σ vs) H' fun σ2 H2 => wipe σ2 vs = wipe σ vs ∧ tt σ2 H2 fun b H3 => if b = true then te σ2 H3 PV else PN H3)
    (hd : ∀ H, H D = some (.lst (((List.range n).filter keep).map val)) → Ex M H1 H → S n H → Qd H) :
    ∃ W : Nat → Nat → Hp → Prop, (∃ m, W 0 m (upd H1 D (.lst []))) ∧ ∀ i m H, W i m H →
      (J.stop i H ∧ Qd H) ∨ (J.go i H ∧ ∃ Nx : Hp → Prop, (∀ H', Nx H' → ∃ m', m' < m ∧ W (i + 1) m' H') ∧ ∀ x H', J.yld i H x H' → g x (wipe σ vs) H' fun σ2 H2 => wipe σ2 vs = wipe σ vs ∧ tt σ2 H2 fun b H3 =>
        if b = true then te σ2 H3 fun y H4 => ∃ acc, H4 D = some (.lst acc) ∧ acc.length < sizeLine ∧ Nx (upd H4 D (.lst (acc ++ [y]))) else Nx H3) := by
  have back : ∀ H, Ex (D :: M) H1 H → Ex M H1 H := fun H e a o m z => e a o (by
    intro q
    rcases List.mem_cons.mp q with q | q
    · rw [q, hD] at z
      cases z
    · exact m q) z
  refine lc_it w (fun i H => H D = some (.lst (((List.range i).filter keep).map val)) ∧ Ex (D :: M) H1 H ∧ S i H) ?_ ?_ ?_ ?_
  · exact ⟨upd_same, Ex.nil (Ex.new hD), S0 _ (Ex.new hD)⟩
  · rintro i H hi ⟨h1, h3, h5⟩
    exact hG i H h3 h5
  · rintro i x H H' hi ⟨h1, h3, h5⟩ y
    refine step i x H H' hi (back H h3) ⟨_, h1⟩ h5 y _ _ ?_ ?_
    · intro k H4 e3 e5
      have hD4 := e3 D _ hM h1
      refine ⟨?_, h3.trans (Ex.mono (fun x z => List.mem_cons_of_mem _ z) e3), e5⟩
      rw [List.range_succ, List.filter_append]
      simp only [List.filter_cons, k, List.filter_nil, List.append_nil, Bool.false_eq_true, if_false]
      exact hD4
    · intro k H4 e3 e5
      have hD4 := e3 D _ hM h1
      have hl : (((List.range i).filter keep).map val).length ≤ i := by
        rw [List.length_map]
        exact Nat.le_trans (List.length_filter_le _ _) (by rw [List.length_range]; exact Nat.le_refl _)
      refine ⟨_, hD4, sz_lt (by omega), ?_, (h3.trans (Ex.mono (fun x z => List.mem_cons_of_mem _ z) e3)).trans (Ex.mut (List.mem_cons_self ..)), hS _ _ _ hD4 e5 _⟩
      rw [upd_same, List.range_succ, List.filter_append, List.map_append]
      simp only [List.filter_cons, k, List.filter_nil, if_true, List.map_cons, List.map_nil]
  · rintro H ⟨h1, h3, h5⟩
    exact hd H h1 (back H h3) h5
theorem strs_of {acc : List V} {P : Str → Prop} (h : ∀ (j : Nat) (y : V), acc[j]? = some y → ∃ z, y = .str z ∧ P z) : ∃ ys : List Str, acc = ys.map V.str ∧ ∀ z ∈ ys, P z := by
  induction acc with
  | nil => exact ⟨[], rfl, fun _ z => absurd z (List.not_mem_nil)⟩
  | cons a r ih =>
    obtain ⟨z, rfl, hz⟩ := h 0 a rfl
    obtain ⟨ys, rfl, hy⟩ := ih (fun j y q => h (j + 1) y (by simpa using q))
    refine ⟨z :: ys, rfl, fun x hx => ?_⟩
    rcases List.mem_cons.mp hx with rfl | hx
    · exact hz
    · exact hy x hx
theorem joinL_nil : ∀ l : List (List Nat), TL.joinL [] l = l.flatten
  | [] => rfl
  | [p] => by simp [TL.joinL]
  | p :: q :: r => by
    have ih := joinL_nil (q :: r)
    simp only [TL.joinL, List.nil_append, ih, List.flatten_cons]
theorem join_len {ys : List Str} (h : ∀ z ∈ ys, z.length = 1) : (Txt.join "" ys).length = ys.length := by
  rw [len_str, TL.join_eq]
  have e := TL.tl_join "" ys
  have e2 : TL.tl ("" : Str) = [] := by decide +kernel
  rw [e2, joinL_nil] at e
  have e3 : (Str.join "" ys).cps.toList = (ys.map TL.tl).flatten := e
  rw [e3]
  clear e e2 e3
  induction ys with
  | nil => rfl
  | cons a r ih =>
    rw [List.map_cons, List.flatten_cons, List.length_append, ih (fun z hz => h z (List.mem_cons_of_mem _ hz))]
    have := h a (List.mem_cons_self ..)
    rw [len_str] at this
    show a.cps.toList.length + r.length = r.length + 1
    omega
theorem sum_ones {ys : List Str} (h : ∀ z ∈ ys, z.length = 1) : (ys.map (·.length)).sum = ys.length := by
  induction ys with
  | nil => rfl
  | cons a r ih =>
    rw [List.map_cons, List.sum_cons, ih (fun z hz => h z (List.mem_cons_of_mem _ hz)), h a (List.mem_cons_self ..), List.length_cons]
    omega
theorem cutS_le (z : Str) (lo hi : Option Int) : (cutS z lo hi).length ≤ z.length := by
  rw [len_str, len_str]
  unfold cutS
  simp only [List.length_take, List.length_drop]
  omega
/-- an item at a place in bounds -/
theorem at_in {xs : List V} {r : Int} {P : V → Prop} (h0 : 0 ≤ r) (h1 : r < xs.length) (hP : ∀ x ∈ xs, P x) : ∃ v, atI xs r = some v ∧ P v ∧ v ∈ xs := by
  have h : r.toNat < xs.length := by omega
  exact ⟨xs[r.toNat], at_of (j := r.toNat) (by omega) (List.getElem?_eq_getElem h), hP _ (List.getElem_mem h), List.getElem_mem h⟩
theorem atc_in {xs : List Nat} {r : Int} (h0 : 0 ≤ r) (h1 : r < xs.length) : ∃ c, atI xs r = some c ∧ c ∈ xs := by
  have h : r.toNat < xs.length := by omega
  have e : ((r.toNat : Nat) : Int) = r := by omega
  have z := atI_nat (List.getElem?_eq_getElem h)
  rw [e] at z
  exact ⟨xs[r.toNat], z, List.getElem_mem h⟩
end SL

namespace SL
open PySem PySem.Spec PyProof.Rows L2
/-- plain signs alone -/
def Asc (z : Str) : Prop := ∀ c ∈ z.cps.toList, c < 128
theorem Asc.add {a b : Str} (h : Asc a) (k : Asc b) : Asc (a ++ b) := fun c hc => by
  rw [cps_add] at hc
  rcases List.mem_append.mp hc with q | q
  · exact h c q
  · exact k c q
theorem Asc.cut {a : Str} (h : Asc a) (lo hi : Option Int) : Asc (cutS a lo hi) := fun c hc => by
  unfold cutS at hc
  exact h c (List.mem_of_mem_drop (List.mem_of_mem_take (by simpa using hc)))
theorem Asc.one {c : Nat} (h : c < 128) : Asc ⟨#[c]⟩ := fun d hd => by
  have : d = c := by simpa using hd
  omega
theorem Asc.ok {z : Str} (h : Asc z) : (PyData.str z).canLay0 = true := by
  simp only [PyData.canLay0, PyData.strOk, Array.all_eq_true, decide_eq_true_eq]
  intro i hi
  have := h z.cps[i] (Array.mem_toList_iff.mpr (Array.getElem_mem hi))
  omega
theorem canLay_strs : ∀ {ys : List Str}, (∀ z ∈ ys, Asc z) → PyData.canLayAll0 (ys.map PyData.str) = true
  | [], _ => by simp [PyData.canLayAll0]
  | z :: r, h => by
    rw [List.map_cons, PyData.canLayAll0, (h z (List.mem_cons_self ..)).ok, canLay_strs (fun x q => h x (List.mem_cons_of_mem _ q))]
    rfl
theorem depth_strs : ∀ ys : List Str, PyData.depthAll (ys.map PyData.str) = 0
  | [] => by simp [PyData.depthAll]
  | z :: r => by
    rw [List.map_cons, PyData.depthAll, depth_strs r]
    simp [PyData.depth]
theorem shaped_strs {ys : List Str} (h : ∀ z ∈ ys, Asc z) : SeqAt.shaped (.list (ys.map PyData.str)) = true := by
  simp only [SeqAt.shaped, PyData.canLay0, PyData.depth, canLay_strs h, depth_strs]
  decide
theorem shaped_nil : SeqAt.shaped (.list []) = true := by
  simp [SeqAt.shaped, PyData.canLay0, PyData.depth, PyData.canLayAll0, PyData.depthAll]
theorem eqv_nil_l {xs : List PyData} : PyData.eqv (.list xs) (.list []) = xs.isEmpty := by
  cases xs <;> simp [PyData.eqv, PyData.eqvAll]
/-- an item whose repr is short -/
structure Short (B : Nat) (d : PyData) : Prop where
  sh : d.showable = true
  lf : d.leavesShort B = true
  dp : d.depth ≤ 50
theorem short_bool (B : Nat) (b : Bool) : Short B (.bool b) := ⟨by simp [PyData.showable], by simp [PyData.leavesShort], by simp [PyData.depth]⟩
theorem short_none (B : Nat) : Short B .none := ⟨by simp [PyData.showable], by simp [PyData.leavesShort], by simp [PyData.depth]⟩
theorem short_str (B : Nat) {z : Str} (h : Asc z) : Short B (.str z) := ⟨by simp [PyData.showable], by
  simp only [PyData.leavesShort, List.all_eq_true, decide_eq_true_eq]
  intro c hc
  have := h c hc
  exact Nat.lt_trans this (by decide), by simp [PyData.depth]⟩
theorem shows_list {B N : Nat} {xs : List PyData} (hB : 8 ≤ B) (h : ∀ x ∈ xs, Short B x) (hN : PyData.bulkAll xs ≤ N) (hs : (B + 2) * N + B ≤ 16777216) : Shows (.list xs) := by
  refine ⟨?_, ⟨B, hB, ?_, ?_⟩, ?_⟩
  · simp only [PyData.showable]
    clear hN
    induction xs with
    | nil => simp [PyData.showableAll]
    | cons a r ih =>
      simp only [PyData.showableAll, (h a (List.mem_cons_self ..)).sh, Bool.true_and]
      exact ih (fun x q => h x (List.mem_cons_of_mem _ q))
  · simp only [PyData.leavesShort]
    clear hN
    induction xs with
    | nil => simp [PyData.leavesShortAll]
    | cons a r ih =>
      simp only [PyData.leavesShortAll, (h a (List.mem_cons_self ..)).lf, Bool.true_and]
      exact ih (fun x q => h x (List.mem_cons_of_mem _ q))
  · simp only [PyData.bulk]
    exact Nat.le_trans (Nat.add_le_add_right (Nat.mul_le_mul_left _ hN) _) hs
  · simp only [PyData.depth]
    have z : PyData.depthAll xs ≤ 50 := by
      clear hN
      induction xs with
      | nil => simp [PyData.depthAll]
      | cons a r ih =>
        simp only [PyData.depthAll]
        have h1 := (h a (List.mem_cons_self ..)).dp
        have h2 := ih (fun x q => h x (List.mem_cons_of_mem _ q))
        omega
    omega
theorem bulk_bools : ∀ bs : List Bool, PyData.bulkAll (bs.map PyData.bool) = bs.length
  | [] => by simp [PyData.bulkAll]
  | b :: r => by
    rw [List.map_cons, PyData.bulkAll, bulk_bools r]
    simp [PyData.bulk]
    omega
theorem shows_bools {bs : List Bool} (h : bs.length ≤ 1000000) : Shows (.list (bs.map PyData.bool)) :=
  shows_list (B := 8) (N := 1000000) (Nat.le_refl _) (fun x hx => by
    obtain ⟨b, _, rfl⟩ := List.mem_map.mp hx
    exact short_bool 8 b) (by rw [bulk_bools]; exact h) (by decide)
end SL

/-! SL7: displays, exceptions as values, short rows of facts. -/
namespace SL
open PySem PySem.Spec PyProof.Rows L2
section
variable {K : PySem.W.Frag} {σ : L2.St} {H H' H2 : Hp} {Q : VK} {QP : List (V × V) → Hp → Prop} {tk tv : TE} {ta : TA} {r : List (TE × TE)} {xs ys : List V} {o : HO} {v x y : V} {C p : Addr} {f : Str} {M : List Addr} {sp : Sp}
/-- a new list, a new tuple -/
abbrev Dis (xs : List V) (H : Hp) (Q : VK) : Prop := xs.length ≤ sizeLine ∧ ∀ p, H p = none → Q (.ref p) (upd H p (.lst xs))
abbrev DisT (xs : List V) (H : Hp) (Q : VK) : Prop := xs.length ≤ sizeLine ∧ ∀ p, H p = none → Q (.ref p) (upd H p (.tup xs))
theorem st_lstN (h : ta σ H fun xs H1 => Dis xs H1 Q) : tLst ta σ H Q := h
theorem st_tupN (h : ta σ H fun xs H1 => DisT xs H1 Q) : tTup ta σ H Q := h
theorem nw (q : ∀ p H', H p = none → Ex [] H H' → H' p = some o → Q (.ref p) H') : ∀ p, H p = none → Q (.ref p) (upd H p o) := fun p hp => q p _ hp (Ex.new hp) upd_same
theorem nw_l (hl : xs.length ≤ 100000) (q : ∀ p H', H p = none → Ex [] H H' → H' p = some (.lst xs) → Q (.ref p) H') : Dis xs H Q := ⟨sz_le hl, nw q⟩
theorem nw_t (hl : xs.length ≤ 100000) (q : ∀ p H', H p = none → Ex [] H H' → H' p = some (.tup xs) → Q (.ref p) H') : DisT xs H Q := ⟨sz_le hl, nw q⟩
/-- the same for {k: v} and for an own exception -/
abbrev Dis1 (p : Addr) (ps : List (V × V)) (H2 : Hp) (Q : VK) : Prop := H2 p = some (.dK []) ∧ ∃ kvs : List (L2.Key × V), ps = kvs.map (fun kv => (kV kv.1, kv.2)) ∧ kvs.length ≤ 15 ∧ Q (.ref p) (upd H2 p (.dK (mergeK [] kvs)))
abbrev DisE (C : Addr) (sp : Sp) (vs : List V) (H1 : Hp) (Q : VK) : Prop := vs.length ≤ 1000 ∧ ∀ a, H1 a = none → sp (.ref a :: vs) (upd H1 a (exo a C none)) (fun v H2 => v = .non ∧ Q (.ref a) H2) E0
theorem st_disp (h : ∀ p, H p = none → tPairs r σ (upd H p (.dK [])) fun ps H2 => Dis1 p ps H2 Q) : tDisp r σ H Q := h
theorem st_pc (h : tk σ H fun x H1 => tv σ H1 fun y H2 => tPairs r σ H2 fun ps H3 => QP ((x, y) :: ps) H3) : tPairs ((tk, tv) :: r) σ H QP := h
theorem st_pn (h : QP [] H) : tPairs [] σ H QP := h
theorem u_disp1 {k : L2.Key} (hp : H p = none) (hx : x = kV k) (q : ∀ H', Ex [] H H' → H' p = some (.dK [(k, y)]) → Q (.ref p) H') : Dis1 p [(x, y)] (upd H p (.dK [])) Q :=
  ⟨upd_same, [(k, y)], (by rw [hx]; rfl), (by show 1 ≤ 15; decide), q _ (fun a u m z => by
    have hne : a ≠ p := ne_of_none z hp
    rw [upd_ne hne, upd_ne hne]
    exact z) upd_same⟩
abbrev DisD (H : Hp) (Q : VK) : Prop := ∀ p, H p = none → Q (.ref p) (upd H p (.dK []))
theorem st_dnew (h : DisD H Q) : tDNewK σ H Q := h
theorem nw_d (q : ∀ p H', H p = none → Ex [] H H' → H' p = some (.dK []) → Q (.ref p) H') : DisD H Q := nw q
theorem st_exc (h : ta σ H fun vs H1 => DisE C sp vs H1 Q) : tExcV C sp ta σ H Q := h
/-- an exception made as a value: its object and its fields -/
theorem u_exc (q : ∀ a dx H2, H a = none → H dx = none → Ex [] H H2 → H2 a = some (exo a C (some dx)) → H2 dx = some (exd dx [(f, v)]) → Q (.ref a) H2) :
    DisE C (spX K C f) [v] H Q :=
  ⟨(by show 1 ≤ 1000; decide), fun a ha => ⟨a, v, rfl, upd_same, fun dx hd hne => by
    have hd2 : H dx = none := by
      rw [upd_ne hne] at hd
      exact hd
    refine ⟨rfl, q a dx _ ha hd2 (fun b u m z => ?_) upd_same ?_⟩
    · have h1 : b ≠ a := ne_of_none z ha
      have h2 : b ≠ dx := ne_of_none z hd2
      rw [upd_ne h1, upd_ne h2, upd_ne h1]
      exact z
    · rw [upd_ne hne, upd_same]⟩⟩
/-- the values' kinds, a row at a time -/
def KyN (M : List Addr) (K : PySem.W.Frag) (H : Hp) (T : String) (v : V) : Prop := ∃ t, Ky M K H v t ∧ PySem.W.kitOne K t (.type T) = some false
theorem KyN.ex {T : String} (e : Ex M H H') (h : KyN M K H T v) : KyN M K H' T v := let ⟨t, a, b⟩ := h; ⟨t, a.ex e, b⟩
theorem all_cons {α : Type} {P : α → Prop} {a : α} {l : List α} (h : P a) (t : ∀ x ∈ l, P x) : ∀ x ∈ a :: l, P x := fun x z => by
  rcases List.mem_cons.mp z with rfl | z
  · exact h
  · exact t x z
theorem all_nil {α : Type} {P : α → Prop} : ∀ x ∈ ([] : List α), P x := fun _ z => absurd z (List.not_mem_nil)
theorem u_mul_f {n : Int} {a : Addr} (h1 : H a = some (.lst xs)) (hn : (decide (0 ≤ n) && (decide (n < 2 ^ 63) && decide (xs.length * n.toNat ≤ 100000))) = true) (e : (List.replicate n.toNat xs).flatten = ys) (q : ∀ p H', H p = none → Ex [] H H' → H' p = some (.lst ys) → Q (.ref p) H') : uMul K (.ref a) (.int n) H Q := by
  simp only [Bool.and_eq_true, decide_eq_true_eq] at hn
  subst e
  exact u_mul_l h1 hn.1 hn.2.1 (sz_le hn.2.2) (nw q)
theorem u_add_f {a b : Addr} (h1 : H a = some (.lst xs)) (h2 : H b = some (.lst ys)) (hl : xs.length + ys.length ≤ 100000) (q : ∀ p H', H p = none → Ex [] H H' → H' p = some (.lst (xs ++ ys)) → Q (.ref p) H') : uAdd K (.ref a) (.ref b) H Q := u_add_l h1 h2 (sz_le hl) (nw q)
theorem u_sl_f {a : Addr} {lo hi : Option Int} (h : SqL K H a xs) (q : ∀ p H', H p = none → Ex [] H H' → H' p = some (.lst (cutV xs lo hi)) → Q (.ref p) H') : uSl K (.ref a) lo hi H Q := u_sl_l h (nw q)
theorem u_tuple_f {a : Addr} (h : SqL K H a xs) (q : ∀ p H', H p = none → Ex [] H H' → H' p = some (.tup xs) → Q (.ref p) H') : uTuple K [.ref a] H Q := u_tuple h (nw q)
theorem u_list_f {a : Addr} (h : SqL K H a xs ∨ SqT K H a xs) (q : ∀ p H', H p = none → Ex [] H H' → H' p = some (.lst xs) → Q (.ref p) H') : uList K [.ref a] H Q := u_list h (nw q)
/-- repr of a list of truths -/
theorem u_repr_b {a : Addr} {bs : List Bool} (h : H a = some (.lst (bs.map V.bl))) (hl : bs.length ≤ 1000000) (q : Q (.str (PyData.list (bs.map PyData.bool)).shown) H) : uRepr K [.ref a] H Q :=
  u_repr (d := .list (bs.map PyData.bool)) (Rp.lst (M := []) (At.lt ⟨h, List.not_mem_nil⟩) (RpA.bools bs)).dp (shows_bools hl) q
def fnB (K : PySem.W.Frag) (a : Addr) : Bool := match K.lookup a with
  | some ob => decide (ob.cls = .type "function")
  | none => false
theorem ky_fnB {a : Addr} (h : fnB K a = true) : Ky M K H (.ref a) (.type "function") := by
  unfold fnB at h
  split at h
  · rename_i ob e
    exact ky_fn e (of_decide_eq_true h)
  · cases h
/-- no value of the type T is an exception of the class C -/
def noB (K : PySem.W.Frag) (C : Addr) (T : String) : Bool := isiB K C && decide (PySem.W.kitOne K (.ref C) (.type T) = some false)
theorem noB_ok {T : String} (h : noB K C T = true) : isiB K C = true ∧ PySem.W.kitOne K (.ref C) (.type T) = some false := by
  simpa only [noB, Bool.and_eq_true, decide_eq_true_eq] using h
end
/-- a comprehension whose items change nothing that stands -/
theorem lc_p {J : It} {n : Nat} {G : Hp → Prop} {Y : Nat → Hp → V → Hp → Prop} (w : Walk J n G Y) {g : TG} {te : TE} {vs : List Nat} {σ : L2.St} {H1 : Hp} {D : Addr} {Qd : Hp → Prop} (val : Nat → V)
    (hD : H1 D = none) (hlen : n ≤ 90000) (hG : ∀ H, Ex [D] H1 H → G H)
    (step : ∀ i x H H', i < n → Ex [] H1 H → Y i H x H' → ∀ P : VK, (∀ H4, Ex [] H H4 → P (val i) H4) → g x (wipe σ vs) H' fun σ2 H2 => wipe σ2 vs = wipe σ vs ∧ te σ2 H2 P)
    (hd : ∀ H, H D = some (.lst ((List.range n).map val)) → Ex [] H1 H → Qd H) :
    ∃ W : Nat → Nat → Hp → Prop, (∃ m, W 0 m (upd H1 D (.lst []))) ∧ ∀ i m H, W i m H →
      (J.stop i H ∧ Qd H) ∨ (J.go i H ∧ ∃ Nx : Hp → Prop, (∀ H', Nx H' → ∃ m', m' < m ∧ W (i + 1) m' H') ∧ ∀ x H', J.yld i H x H' → g x (wipe σ vs) H' fun σ2 H2 => wipe σ2 vs = wipe σ vs ∧ tYes σ2 H2 fun b H3 =>
        if b = true then te σ2 H3 fun y H4 => ∃ acc, H4 D = some (.lst acc) ∧ acc.length < sizeLine ∧ Nx (upd H4 D (.lst (acc ++ [y]))) else Nx H3) := by
  refine lc_u w (M := []) (S := fun _ _ => True) (F := fun j y _ => y = val j) hD (List.not_mem_nil) hlen (fun _ _ => trivial) (fun _ _ _ _ _ _ => trivial) (fun _ H e _ => hG H e) (fun _ _ _ _ _ z => z) ?_ ?_
  · intro i x H H' hi e1 _ _ y P hP
    exact step i x H H' hi e1 y P (fun H4 e => hP _ _ e rfl trivial)
  · intro H acc ha hl e hF _
    have ea : acc = (List.range n).map val := by
      apply List.ext_getElem (by simp [hl])
      intro j h1 h2
      rw [List.getElem_map, List.getElem_range]
      exact hF j _ (List.getElem?_eq_getElem h1)
    rw [ea] at ha
    exact hd H ha e
theorem range_const {n : Nat} {v : V} : (List.range n).map (fun _ => v) = List.replicate n v := by
  rw [List.map_const', List.length_range]
section
variable {K : PySem.W.Frag} {σ : L2.St} {H : Hp} {Q : VK} {ta tb tc : TE} {a b c : Int}
/-- a reading that gives a value at once -/
def Pv (t : TE) (σ : L2.St) (H : Hp) (v : V) : Prop := ∀ Q : VK, Q v H → t σ H Q
theorem pv_var {i : Nat} {v : V} (h : σ[i]? = some (some v)) : Pv (tVar i) σ H v := fun _ q => ⟨v, h, q⟩
theorem pv_c {v : V} : Pv (tC v) σ H v := fun _ q => q
theorem chain_le (h1 : Pv ta σ H (.int a)) (h2 : Pv tb σ H (.int b)) (h3 : Pv tc σ H (.int c)) (q : Q (.bl (decide (a ≤ b) && decide (b ≤ c))) H) : tChain uLe uLe ta tb tc σ H Q :=
  h1 _ (h2 _ ⟨a, b, rfl, rfl, _, rfl, by
    by_cases h : a ≤ b
    · rw [decide_eq_true h, if_pos rfl]
      rw [decide_eq_true h, Bool.true_and] at q
      exact h3 _ ⟨b, c, rfl, rfl, q⟩
    · rw [decide_eq_false h, if_neg Bool.false_ne_true]
      rw [decide_eq_false h, Bool.false_and] at q
      exact q⟩)
end
theorem mem_cutV {xs : List V} {lo hi : Option Int} {x : V} (h : x ∈ cutV xs lo hi) : x ∈ xs := List.mem_of_mem_drop (List.mem_of_mem_take h)
theorem all2_cons {α β : Type} {R : α → β → Prop} {a : α} {b d : β} {l : List α} {m : List β} (h : R a b) (t : ∀ (i : Nat) x, l[i]? = some x → R x (m.getD i d)) : ∀ (i : Nat) x, (a :: l)[i]? = some x → R x ((b :: m).getD i d)
  | 0, x, e => by
    have : a = x := by simpa using e
    subst this
    exact h
  | i + 1, x, e => t i x (by simpa using e)
theorem all2_nil {α β : Type} {R : α → β → Prop} {d : β} : ∀ (i : Nat) x, ([] : List α)[i]? = some x → R x (([] : List β).getD i d) := fun i x e => by simp at e
theorem Ex.drop {b : Addr} {H H' : Hp} (hb : H b = none) (e : Ex [b] H H') : Ex [] H H' := fun a o _ z => e a o (fun q => by
  have q := List.mem_singleton.mp q
  rw [q, hb] at z
  cases z) z
/-! ### what binds -/
section
variable {K : PySem.W.Frag} {x qual : Str} {params : Arguments} {body : List Stmt} {scope : Scope} {kws : List (Str × V)} {f : Addr} {fd : FuncData} {ps ks : List Str} {n : Nat} {pm : List Pm}
/-- a call by keywords, no defaults -/
theorem kb_fun (F : FunD K x qual params body scope [] kws f fd)
    (h : ∀ (kV doc pm' : Value) (an : Option Addr) (cdv ct : Value) (us ws : List Value), us.length = n → ws.length = ks.length → bindArgs (PySem.W.fnOf x qual params body scope .none kV doc pm' an cdv ct) ⟨us, ks.zip ws⟩ = pure (ps.zip (pm.map (Pm.u us ws)))) : KB K fd ps n ks pm := by
  obtain ⟨oc, od, dV, kV, doc, pm', an, cdv, ct, osl, rfl, lk, hcd, hD, hK⟩ := F.ex
  rcases hD with ⟨_, rfl⟩ | ⟨e, _⟩
  · exact kb_of (h kV doc pm' an cdv ct)
  · exact absurd rfl e
end
/-- the body of an own exception of one field -/
theorem exc_init {K : PySem.W.Frag} {C a : Addr} {f m : Str} {v : V} {H : Hp} {D : Ends} (T : OexC K C) (hno : PySem.W.findIn K (.ref C) f = some none) (ha : H a = some (exo a C none))
    (q : ∀ dx, H dx = none → dx ≠ a → D.nx [some (.ref a), some v] (upd (upd H dx (exd dx [(f, v)])) a (exo a C (some dx)))) :
    tSeq (tDrop (tVeI K (tCons (tVar 0) (tCons (tC (.str m)) tNil)))) (tOst K f (tVar 0) (tVar 1)) D [some (.ref a), some v] H :=
  ⟨_, rfl, a, C, [.str m], rfl, (by show 1 ≤ 1000; decide), T, ha, _, rfl, _, rfl, a, C, rfl, T, hno, Or.inl ⟨ha, q⟩⟩
/-- a name of the module by its value -/
theorem pe_gc {X : Cx} {x : Str} {pos : Pos} {v : V} (hg : Gl X x) (h : ∃ u, X.mg x = some u ∧ RelV v u) (hd : (x == ("__debug__" : Str)) = false := by decide) : PE X (.Name x pos) (tC v) :=
  let ⟨_, hm, r⟩ := h
  pe_glob hg hm r hd
section
variable {X : Cx} {CX : CXT} {k n m : Nat} {f : Addr} {fd : FuncData} {ps ks : List Str} {sp : Sp} {x : Str} {p pos : Pos} {e : Expr} {es : List Expr} {kws : List Keyword} {t tk : TA} {pm : List Pm}
theorem pe_kw0 (F : FnOk X.prog X.w X.K X.mg X.base CX k f fd ps sp) (hr : Room k X.A) (hg : Gl X x) (hm : X.mg x = some (.ref f)) (hk : PySem.W.keepIn X.K (.ref f) = true) (hb : KB X.K fd ps 0 ks pm) (hx : Passes CX X E0)
    (hkw : PK X kws tk) (hl : ks.length = m) (hall : (backToKw pos (keywordEach kws X.env)).all (·.1.isSome) = true := by rfl) (hks : (backToKw pos (keywordEach kws X.env)).filterMap (·.1) = ks := by rfl)
    (hdb : (x == ("__debug__" : Str)) = false := by decide)
    (hpl : ((backTo pos (starEach [] X.env)).any (·.1) || (backToKw pos (keywordEach kws X.env)).any (·.1.isNone)) = false := by rfl) :
    PE X (.Call (.Name x p) [] kws pos) (tKw sp pm 0 m tNil tk) := by
  subst hl
  exact pe_k0 F hr hg hm hk hb hx hkw hall hks hdb hpl
theorem pe_kw1 (F : FnOk X.prog X.w X.K X.mg X.base CX k f fd ps sp) (hr : Room k X.A) (hg : Gl X x) (hm : X.mg x = some (.ref f)) (hk : PySem.W.keepIn X.K (.ref f) = true) (hb : KB X.K fd ps n ks pm) (hx : Passes CX X E0)
    (ha : PA X (e :: es) t) (hkw : PK X kws tk) (hl : ks.length = m) (hall : (backToKw pos (keywordEach kws X.env)).all (·.1.isSome) = true := by rfl) (hks : (backToKw pos (keywordEach kws X.env)).filterMap (·.1) = ks := by rfl)
    (hdb : (x == ("__debug__" : Str)) = false := by decide) (he : starEach (e :: es) X.env = (false, eval e X.env) :: starEach es X.env := by rfl)
    (hpl : ((backTo pos (starEach (e :: es) X.env)).any (·.1) || (backToKw pos (keywordEach kws X.env)).any (·.1.isNone)) = false := by rfl) :
    PE X (.Call (.Name x p) (e :: es) kws pos) (tKw sp pm n m t tk) := by
  subst hl
  exact pe_k1 F hr hg hm hk hb hx ha hkw hall hks hdb he hpl
end
end SL

/-! SL8: texts: repeated, split, int of a text, index; keyword-only defaults. -/
namespace SL
open PySem PySem.Spec PyProof.Rows L2
/-! ### a text so many times -/
def repS (z : Str) (n : Nat) : Str := ⟨(List.replicate n z.cps.toList).flatten.toArray⟩
theorem repS_cps {z : Str} {n : Nat} : (repS z n).cps.toList = (List.replicate n z.cps.toList).flatten := by simp [repS]
theorem repS_len {z : Str} {n : Nat} : (repS z n).length = n * z.length := by
  rw [SL.len_str, SL.len_str, repS_cps]
  induction n with
  | zero => simp
  | succ n ih =>
    rw [List.replicate_succ, List.flatten_cons, List.length_append, ih, Nat.succ_mul]
    omega
theorem repS_one {z : Str} : repS z 1 = z := str_ext (by rw [repS_cps]; simp)
theorem repS_zero {z : Str} : repS z 0 = "" := str_ext (by
  rw [repS_cps, List.replicate_zero, List.flatten_nil]
  decide +kernel)
theorem repS_nil {z : Str} {n : Nat} (h : z.length = 0) : repS z n = z := by
  have e : z.cps.toList = [] := List.eq_nil_of_length_eq_zero (by rw [← SL.len_str]; exact h)
  refine str_ext ?_
  rw [repS_cps, e]
  induction n with
  | zero => rfl
  | succ n ih => rw [List.replicate_succ, List.flatten_cons, ih]; rfl
theorem fold_cat (c : Array Nat) : ∀ (k : Nat) (acc : Array Nat), ((List.replicate k c).foldl (· ++ ·) acc).toList = acc.toList ++ (List.replicate k c.toList).flatten
  | 0, acc => by simp
  | k + 1, acc => by
    rw [List.replicate_succ, List.foldl_cons, fold_cat c k, Array.toList_append, List.replicate_succ, List.flatten_cons, List.append_assoc]
def rRepS : R2 := fun x y H Q => ∃ (z : Str) (n : Int), x = .str z ∧ y = .int n ∧ 0 ≤ n ∧ n ≤ 1000000 ∧ z.length * n.toNat ≤ 16777216 ∧ Q (.str (repS z n.toNat)) H
theorem op_repS {X : Cx} : OpR X (binaryOp .Mult) rRepS := by
  intro pins s σ H x y v u Q I rx ry h
  obtain ⟨z, n, rfl, rfl, h0, h1, h2, q⟩ := h
  obtain ⟨t, rfl⟩ := rx
  obtain ⟨t2, rfl⟩ := ry
  have tl : PySem.Builtin.Str.tooLong (z.length * n.toNat) = false := by
    unfold PySem.Builtin.Str.tooLong
    rw [sizeLine_eq]
    exact decide_eq_false (by omega)
  refine PySem.P.mul_str ?_ ?_ (fun _ _ => tl) ?_
  · rw [decide_eq_false (show ¬ n < -(2 ^ 63 : Int) by omega), decide_eq_false (show ¬ n ≥ 2 ^ 63 by omega)]
    rfl
  · intro hn _ hgt
    have e1 : (n : Int) ≤ 1000000 := h1
    have e2 : ((2 : Int) ^ 63 - 1) / n ≥ 9223372036854 := by
      refine Int.le_ediv_of_mul_le (by omega) ?_
      have : 9223372036854 * n ≤ 9223372036854 * 1000000 := Int.mul_le_mul_of_nonneg_left h1 (by decide)
      have e3 : (2 : Int) ^ 63 - 1 = 9223372036854775807 := by decide
      omega
    have e4 : z.length ≤ 16777216 := by
      have : 1 ≤ n.toNat := by omega
      exact Nat.le_trans (Nat.le_mul_of_pos_right _ this) h2
    omega
  · by_cases hn : n < 1
    · rw [if_pos hn]
      have e : n.toNat = 0 := by omega
      rw [e, repS_zero] at q
      exact ⟨by decide, ⟨.str "", H, I.tok _, ⟨_, rfl⟩, q⟩⟩
    · rw [if_neg hn]
      by_cases h3 : (n == 1 || z.length == 0) = true
      · rw [if_pos h3]
        have e : repS z n.toNat = z := by
          rw [Bool.or_eq_true, beq_iff_eq, beq_iff_eq] at h3
          rcases h3 with h3 | h3
          · subst h3
            exact repS_one
          · exact repS_nil h3
        rw [e] at q
        exact ⟨.str z, H, I, ⟨_, rfl⟩, q⟩
      · rw [if_neg h3]
        have e : (⟨(List.replicate n.toNat z.cps).foldl (· ++ ·) #[]⟩ : Str) = repS z n.toNat := str_ext (by
          rw [repS_cps]
          show ((List.replicate n.toNat z.cps).foldl (· ++ ·) #[]).toList = _
          rw [fold_cat]
          simp)
        rw [e]
        exact ⟨by rw [repS_len, sizeLine_eq, Nat.mul_comm]; exact h2, ⟨.str _, H, I.tok _, ⟨_, rfl⟩, q⟩⟩
def wMul (K : PySem.W.Frag) : R2 := fun x y H Q => rRepS x y H Q ∨ uMul K x y H Q
theorem op_wMul {X : Cx} : OpR X (binaryOp .Mult) (wMul X.K) := op_repS.or op_uMul
/-! ### split -/
def rSplit : V → List V → Hp → VK → Prop := fun x xs H Q => ∃ a b, x = .str a ∧ xs = [.str b] ∧ (b.length == 0) = false ∧ a.length + 2 ≤ sizeLine ∧ rNewStrs (Txt.split a b) H Q
theorem mt_uSplit {X : Cx} : MtR X "str.split" rSplit := mt_split
/-! ### int of a text -/
def wInt : List V → Hp → VK → Prop := fun xs H Q => (∃ a n, xs = [.str a] ∧ PySem.intText? a = some n ∧ a.length ≤ 640 ∧ Q (.int n) H) ∨ uInt xs H Q
theorem call_wInt {X : Cx} : CallR X (.type "int") wInt := call_int_str.or call_int_u
/-! ### the place of a sign that is there -/
def rIndexS : V → List V → Hp → VK → Prop := fun x xs H Q => ∃ (a b : Str) (k : Nat), x = .str a ∧ xs = [.str b] ∧ Txt.index0 a b = some k ∧ Q (.int (k : Nat)) H
theorem mt_indexS {X : Cx} : MtR X "str.index" rIndexS := by
  intro pins s σ H x xs v us Q I rx rs h
  obtain ⟨a, b, k, rfl, rfl, e, q⟩ := h
  obtain ⟨t, rfl⟩ := rx
  cases rs with
  | cons r1 rs =>
    cases rs
    obtain ⟨u, rfl⟩ := r1
    cases ho : Builtin.Str.occurrences a b 0 a.length 1 with
    | nil =>
      unfold Txt.index0 at e
      rw [ho] at e
      cases e
    | cons k2 rest =>
      unfold Txt.index0 at e
      rw [ho] at e
      cases e
      exact PySem.SC.index ho ⟨.int (k : Nat), H, I.tok _, ⟨_, rfl⟩, q⟩
end SL

namespace SL
open PySem PySem.Spec PyProof.Rows L2
/-! ### keyword-only defaults -/
inductive Pl where
  | pos (i : Nat)
  | key (i : Nat)
  | low (i : Nat)
def Pl.v (vs ms zs : List V) : Pl → V
  | .pos i => vs.getD i .non
  | .key i => zs.getD i .non
  | .low i => ms.getD i .non
def Pl.u (us ms ws : List Value) : Pl → Value
  | .pos i => us.getD i .none
  | .key i => ws.getD i .none
  | .low i => ms.getD i .none
theorem Pl.rel {vs ms zs : List V} {us mv ws : List Value} (r : Vals vs us) (m : Vals ms mv) (q : Vals zs ws) : ∀ ps : List Pl, Vals (ps.map (Pl.v vs ms zs)) (ps.map (Pl.u us mv ws))
  | [] => .nil
  | .pos i :: ps => .cons (getD_rel r i) (Pl.rel r m q ps)
  | .key i :: ps => .cons (getD_rel q i) (Pl.rel r m q ps)
  | .low i :: ps => .cons (getD_rel m i) (Pl.rel r m q ps)
section
variable {K : PySem.W.Frag} {x qual : Str} {params : Arguments} {body : List Stmt} {scope : Scope} {kws : List (Str × V)} {f : Addr} {fd : FuncData} {ps : List Str}
abbrev KBl (K : PySem.W.Frag) (fd : FuncData) (ps : List Str) (n : Nat) (ks : List Str) (pm : List Pl) (ms : List V) : Prop := ∃ mv : List Value, KBn K fd ps n ks (fun us ws => pm.map (Pl.u us mv ws)) (fun vs zs => pm.map (Pl.v vs ms zs))
theorem kb_low (F : FunD K x qual params body scope [] kws f fd) {n : Nat} {ks : List Str} (ms : List (Str × V)) {pm : List Pl} (hk : kws ≠ []) (hms : ∀ q ∈ ms, q ∈ kws)
    (h : ∀ (D : Addr) (doc pm' : Value) (an : Option Addr) (cdv ct : Value) (us mv ws : List Value), us.length = n → mv.length = ms.length → ws.length = ks.length →
      KwChain D ((ms.map (·.1)).zip mv) (bindArgs (PySem.W.fnOf x qual params body scope .none (.ref D) doc pm' an cdv ct) ⟨us, ks.zip ws⟩) (ps.zip (pm.map (Pl.u us mv ws)))) : KBl K fd ps n ks pm (ms.map (·.2)) := by
  obtain ⟨oc, od, dV, kV, doc, pm', an, cdv, ct, osl, rfl, lk, hcd, hD, hK⟩ := F.ex
  rcases hD with ⟨_, rfl⟩ | ⟨e, _⟩
  · rcases hK with e | ⟨D, rfl, hq⟩
    · exact absurd e hk
    · obtain ⟨mv, l, rk, look⟩ := kwd_vals (ms := ms) fun q hm => hq q (hms q hm)
      exact ⟨mv, fun s us ws X l1 l2 => L2.BindsTo.of_looks fun M => (h D doc pm' an cdv ct us mv ws l1 l l2 |> KwChain.looks X look), fun r1 r2 => Pl.rel r1 rk r2 pm⟩
  · exact absurd rfl e
end
def tKl (sp : Sp) (pm : List Pl) (ms : List V) (n m : Nat) (t tk : TA) : TE := tCallN n m sp (fun vs zs => pm.map (Pl.v vs ms zs)) E0 t tk
theorem st_kl {σ : L2.St} {H : Hp} {Q : VK} {tr tk : TA} {sp : Sp} {pm : List Pl} {ms : List V} {n m : Nat} (h : tr σ H fun vs H1 => tk σ H1 fun zs H2 => vs.length = n ∧ zs.length = m ∧ sp (pm.map (Pl.v vs ms zs)) H2 Q E0) : tKl sp pm ms n m tr tk σ H Q := h
section
variable {X : Cx} {CX : CXT} {k n m : Nat} {f : Addr} {fd : FuncData} {ps ks : List Str} {sp : Sp} {x : Str} {p pos : Pos} {e : Expr} {es : List Expr} {kws : List Keyword} {t tk : TA} {pm : List Pl} {ms : List V}
/-- f(k = v, ..), some keyword-only ones lack -/
theorem pe_kl0 (F : FnOk X.prog X.w X.K X.mg X.base CX k f fd ps sp) (hr : Room k X.A) (hg : Gl X x) (hm : X.mg x = some (.ref f)) (hk : PySem.W.keepIn X.K (.ref f) = true) (hb : KBl X.K fd ps 0 ks pm ms) (hx : Passes CX X E0)
    (hkw : PK X kws tk) (hl : ks.length = m) (hall : (backToKw pos (keywordEach kws X.env)).all (·.1.isSome) = true := by rfl) (hks : (backToKw pos (keywordEach kws X.env)).filterMap (·.1) = ks := by rfl)
    (hdb : (x == ("__debug__" : Str)) = false := by decide)
    (hpl : ((backTo pos (starEach [] X.env)).any (·.1) || (backToKw pos (keywordEach kws X.env)).any (·.1.isNone)) = false := by rfl) :
    PE X (.Call (.Name x p) [] kws pos) (tKl sp pm ms 0 m tNil tk) := by
  obtain ⟨mv, hb⟩ := hb
  subst hl
  constructor
  intro pins s σ H Q I h
  refine wpAny_Call_Name_kw (ld_glob I hg hm ?_ hdb)
  refine PySem.W.callWith_KW0 (h₀ := X.base) I.ok.mod.kin hk hall ?_ hpl
  have h : tk σ H fun zs H2 => ([] : List V).length = 0 ∧ zs.length = ks.length ∧ sp (pm.map (Pl.v [] ms zs)) H2 Q E0 := h
  refine thn (hkw.run pos pins s σ H _ I h) ?_
  rintro ws s2 ⟨zs, H2, I2, rz, l1, l2, q2⟩
  refine ⟨I2.kIn, ?_⟩
  rw [hks]
  exact run_fnN (us := []) (vs := []) F hr hb hx I2 .nil rz rfl l2 q2
theorem pe_kl1 (F : FnOk X.prog X.w X.K X.mg X.base CX k f fd ps sp) (hr : Room k X.A) (hg : Gl X x) (hm : X.mg x = some (.ref f)) (hk : PySem.W.keepIn X.K (.ref f) = true) (hb : KBl X.K fd ps n ks pm ms) (hx : Passes CX X E0)
    (ha : PA X (e :: es) t) (hkw : PK X kws tk) (hl : ks.length = m) (hall : (backToKw pos (keywordEach kws X.env)).all (·.1.isSome) = true := by rfl) (hks : (backToKw pos (keywordEach kws X.env)).filterMap (·.1) = ks := by rfl)
    (hdb : (x == ("__debug__" : Str)) = false := by decide) (he : starEach (e :: es) X.env = (false, eval e X.env) :: starEach es X.env := by rfl)
    (hpl : ((backTo pos (starEach (e :: es) X.env)).any (·.1) || (backToKw pos (keywordEach kws X.env)).any (·.1.isNone)) = false := by rfl) :
    PE X (.Call (.Name x p) (e :: es) kws pos) (tKl sp pm ms n m t tk) := by
  obtain ⟨mv, hb⟩ := hb
  subst hl
  exact pe_callN F hr hg hm hk hb hx ha hkw hall hks hdb he hpl
end
end SL

namespace SL
open PySem PySem.Spec PyProof.Rows L2
/-! ### repr of whole numbers, None and lists of data -/
theorem shown_len {i : Int} {k : Nat} (hk : 0 < k) (h : i.natAbs < 10 ^ k) : (PyData.int i).shown.length ≤ k + 1 := by
  rw [PyData.shown_int]
  show (Str.ofString (toString i)).length ≤ k + 1
  rw [PySem.ofString_length]
  exact int_text_length_le10 hk h
theorem log_10 {i : Int} (h : i.natAbs < 10 ^ 50) : i.natAbs.log2 < 1920 := Nat.lt_trans (PySem.Flt.log2_lt_of (k := 180) (by decide) (Nat.lt_of_lt_of_le h (by decide))) (by decide)
theorem short_int {i : Int} (h : i.natAbs < 10 ^ 50) : Short 60 (.int i) := ⟨by
  simp only [PyData.showable]
  exact decide_eq_true (log_10 h), by
  simp only [PyData.leavesShort]
  exact decide_eq_true (Nat.le_trans (shown_len (by decide) h) (by decide)), by simp [PyData.depth]⟩
theorem Short.shows {d : PyData} (h : Short 60 d) (hb : d.bulk ≤ 200000) : Shows d := ⟨h.sh, ⟨60, by decide, h.lf, by omega⟩, by
  have := h.dp
  omega⟩
section
variable {K : PySem.W.Frag} {H : Hp} {Q : VK} {M : List Addr}
theorem u_repr_l {a : Addr} {xs : List V} {ds : List PyData} (h : SqL K H a xs) (r : RpA [] K H xs ds) (s : ∀ d ∈ ds, Short 60 d) (hN : PyData.bulkAll ds ≤ 200000) (q : Q (.str (PyData.list ds).shown) H) : uRepr K [.ref a] H Q :=
  u_repr (d := .list ds) (Rp.lst (M := []) ⟨h, List.not_mem_nil⟩ r).dp (shows_list (B := 60) (N := 200000) (by decide) s hN (by decide)) q
/-- a number or None -/
def vO : Option Int → V
  | none => .non
  | some n => .int n
def dO : Option Int → PyData
  | none => .none
  | some n => .int n
theorem rp_o : ∀ o : Option Int, Rp M K H (vO o) (dO o)
  | none => .non
  | some n => .int n
theorem RpA.opts : ∀ os : List (Option Int), RpA M K H (os.map vO) (os.map dO)
  | [] => .nil
  | o :: os => .cons (rp_o o) (RpA.opts os)
def OkO (o : Option Int) : Prop := ∀ n, o = some n → n.natAbs < 10 ^ 50
theorem short_o : ∀ {o : Option Int}, OkO o → Short 60 (dO o)
  | none, _ => short_none 60
  | some n, h => short_int (h n rfl)
theorem bulk_o : ∀ o : Option Int, (dO o).bulk = 0
  | none => by simp [dO, PyData.bulk]
  | some n => by simp [dO, PyData.bulk]
theorem bulk_os : ∀ os : List (Option Int), PyData.bulkAll (os.map dO) = os.length
  | [] => by simp [PyData.bulkAll]
  | o :: os => by
    rw [List.map_cons, PyData.bulkAll, bulk_os os, bulk_o]
    simp
    omega
theorem u_repr_o {o : Option Int} (h : OkO o) (q : Q (.str (dO o).shown) H) : uRepr K [vO o] H Q := u_repr (rp_o (M := []) o).dp ((short_o h).shows (by rw [bulk_o]; decide)) q
theorem u_repr_os {a : Addr} {os : List (Option Int)} (h : H a = some (.lst (os.map vO))) (s : ∀ o ∈ os, OkO o) (hl : os.length ≤ 100000) (q : Q (.str (PyData.list (os.map dO)).shown) H) : uRepr K [.ref a] H Q :=
  u_repr_l (sqL h) (RpA.opts os) (fun d hd => by
    obtain ⟨o, ho, rfl⟩ := List.mem_map.mp hd
    exact short_o (s o ho)) (by rw [bulk_os]; omega) q
end
/-! ### small texts -/
theorem asc_of {z : Str} (h : (z.cps.toList.all fun c => decide (c < 128)) = true) : Asc z := fun c hc => of_decide_eq_true (List.all_eq_true.mp h c hc)
theorem digit_text {r : Int} (h0 : 0 ≤ r) (h1 : r < 10) : (Str.ofString (toString r)).length = 1 ∧ Asc (Str.ofString (toString r)) := by
  obtain ⟨n, rfl⟩ := Int.eq_ofNat_of_zero_le h0
  have hn : n < 10 := by omega
  have e := TL.tl_num n
  rw [TL.numL_lt hn] at e
  have e2 : (Str.ofString (toString ((n : Nat) : Int))).cps.toList = [48 + n] := e
  refine ⟨by rw [SL.len_str, e2]; rfl, fun c hc => ?_⟩
  rw [e2] at hc
  have := List.mem_singleton.mp hc
  omega
theorem asc_join {ys : List Str} (h : ∀ z ∈ ys, Asc z) : Asc (Txt.join "" ys) := by
  intro c hc
  rw [TL.join_eq] at hc
  have e : (Str.join "" ys).cps.toList = (ys.map TL.tl).flatten := by
    have e := TL.tl_join "" ys
    have e2 : TL.tl ("" : Str) = [] := by decide +kernel
    rw [e2, joinL_nil] at e
    exact e
  rw [e] at hc
  obtain ⟨l, hl, hcl⟩ := List.mem_flatten.mp hc
  obtain ⟨z, hz, rfl⟩ := List.mem_map.mp hl
  exact h z hz c hcl
theorem asc_rep {z : Str} {n : Nat} (h : Asc z) : Asc (repS z n) := fun c hc => by
  rw [repS_cps] at hc
  obtain ⟨l, hl, hcl⟩ := List.mem_flatten.mp hc
  rw [List.eq_of_mem_replicate hl] at hcl
  exact h c hcl
end SL

local macro_rules | `(tactic| walk_at "w1") => `(tactic| first
  | with_reducible refine SL.st_seq ?_ | with_reducible refine SL.st_asg ?_ | with_reducible refine SL.st_gn ?_ | with_reducible refine SL.st_ret ?_ | with_reducible refine SL.st_ifs ?_
  | ((with_reducible refine' SL.st_var ?hv ?_); (case hv => rfl)) | with_reducible refine SL.st_c ?_ | with_reducible refine SL.st_op ?_ | with_reducible refine SL.st_un ?_ | ((with_reducible refine' SL.chain_le ?h1 ?h2 ?h3 ?_); (case h1 => (first | exact SL.pv_var rfl | exact SL.pv_c)); (case h2 => (first | exact SL.pv_var rfl | exact SL.pv_c)); (case h3 => (first | exact SL.pv_var rfl | exact SL.pv_c))) | with_reducible refine SL.st_chain ?_
  | with_reducible refine SL.st_test ?_ | with_reducible refine SL.st_tB ?_ | with_reducible refine SL.st_tru ?_ | with_reducible refine SL.st_bl ?_ | with_reducible refine SL.st_trb ?_ | with_reducible refine SL.st_tri ?_ | with_reducible refine SL.st_trn ?_
  | with_reducible refine SL.st_and ?_ | with_reducible refine SL.st_or ?_ | with_reducible refine SL.st_not ?_ | with_reducible refine SL.st_notV ?_ | with_reducible refine SL.st_andV ?_ | with_reducible refine SL.st_orV ?_ | with_reducible refine SL.st_if ?_ | with_reducible refine SL.st_yes ?_
  | with_reducible refine SL.st_call ?_ | with_reducible refine SL.st_kw ?_ | with_reducible refine SL.st_kl ?_ | with_reducible refine SL.st_cb ?_ | with_reducible refine SL.st_cons ?_ | with_reducible refine SL.st_nil ?_ | with_reducible refine SL.st_lstN ?_ | with_reducible refine SL.st_tupN ?_
  | with_reducible refine SL.st_bm ?_ | with_reducible refine SL.st_bm0 ?_ | with_reducible refine SL.st_sl ?_ | with_reducible refine SL.st_part ?_ | with_reducible refine SL.st_parti ?_ | with_reducible refine SL.st_nopart ?_
  | with_reducible refine SL.st_drop ?_ | with_reducible refine SL.st_nx ?_ | with_reducible refine SL.st_par ?_ | with_reducible refine SL.st_par2 ?_ | with_reducible refine SL.st_retN ?_
  | with_reducible refine SL.u_add_i ?_ | with_reducible refine SL.u_sub ?_ | with_reducible refine SL.u_neg ?_
  | with_reducible refine SL.u_eq_i ?_ | with_reducible refine SL.u_ne_i ?_ | with_reducible refine SL.u_eq_s ?_ | with_reducible refine SL.u_ne_s ?_ | with_reducible refine SL.u_lt_i ?_ | with_reducible refine SL.u_lt_s ?_
  | with_reducible refine SL.u_le_i ?_ | with_reducible refine SL.u_gt_i ?_ | with_reducible refine SL.u_ge_i ?_ | with_reducible refine SL.u_is ?_ | with_reducible refine SL.u_isnt ?_ | with_reducible refine SL.u_in_s ?_ | with_reducible refine SL.u_ni_s ?_
  | with_reducible refine SL.u_max2 ?_ | with_reducible refine SL.u_min2 ?_ | with_reducible refine SL.u_str_s ?_ | with_reducible refine SL.u_rng ?_
  | with_reducible refine SL.st_disp ?_ | with_reducible refine SL.st_pc ?_ | with_reducible refine SL.st_pn ?_ | with_reducible refine SL.st_dnew ?_ | with_reducible refine SL.st_exc ?_
  | with_reducible refine SL.st_lc ?_ | with_reducible refine SL.st_for ?_ | with_reducible refine SL.st_rng1 ?_ | with_reducible refine SL.st_rng2 ?_ | with_reducible refine ⟨_, rfl, ?_⟩
  | with_reducible refine L2.iteT ?_ | with_reducible refine L2.iteF ?_ | with_reducible refine SL.iteNT ?_ | with_reducible refine SL.iteNF ?_)
local macro_rules | `(tactic| walk_at "w") => `(tactic| repeat walk_at "w1")
local macro_rules | `(tactic| walk_at "bx") => `(tactic| repeat' (first | assumption | (refine SL.Box.new ?_ (by assumption)) | (refine SL.Box.ex (M := []) ?_ (by assumption) (List.not_mem_nil))))
local macro_rules | `(tactic| walk_at "ex") => `(tactic| repeat' (first | assumption | exact SL.Ex.refl | (refine SL.Ex.trans ?_ (SL.Ex.new (by assumption))) | (refine SL.Ex.trans ?_ (SL.Ex.nil (by assumption))) | (refine SL.Ex.trans ?_ (by assumption))))
local macro_rules | `(tactic| walk_at "at") => `(tactic| repeat' (first | assumption | (refine SL.At.ex ?_ (SL.Ex.new (by assumption))) | (refine SL.At.ex ?_ (SL.Ex.nil (by assumption))) | (refine SL.At.ex ?_ (by assumption))))
local macro_rules | `(tactic| walk_at "sz") => `(tactic| exact SL.sz_le (Nat.le_of_ble_eq_true (by rfl)))
local macro_rules | `(tactic| walk_at "f") => `(tactic| first | exact SL.Ex.refl | assumption | solve_by_elim (config := { maxDepth := 12 }) only [SL.Ex.trans, SL.Ex.nil, SL.At.ex, *])
local macro_rules | `(tactic| walk_at "ky") => `(tactic| first | exact SL.ky_non | exact SL.ky_bl | exact SL.ky_int | exact SL.ky_str | (refine SL.ky_lst ⟨?_, List.not_mem_nil⟩; assumption) | (refine SL.ky_tup ⟨?_, List.not_mem_nil⟩; assumption) | (refine SL.ky_dK ⟨?_, List.not_mem_nil⟩; assumption))
local macro_rules | `(tactic| walk_at "nl") => `(tactic| first | refine SL.nw_l (Nat.le_of_ble_eq_true (by rfl)) ?_ | refine SL.nw_t (Nat.le_of_ble_eq_true (by rfl)) ?_ | refine SL.nw_d ?_)
namespace K3
open PySem PySem.Spec PyProof.Rows L2 SL

/-! ### the plain law: numbers -/
abbrev DG : Str := "0123456789"
def isDg (c : Nat) : Bool := decide (c ∈ DG.cps.toList)
def numO (z : Str) : Option Int := if z.length = 0 ∨ 30 < z.length ∨ z.cps.toList.all isDg = false then none else if z.cps.toList.getD 0 0 = 48 ∧ 1 < z.length then none else some ((NumText.digitsVal z.cps.toList : Nat) : Int)
def inO (o : Option Int) (lo hi : Int) : Option Int := o.bind fun n => if (decide (lo ≤ n) && decide (n ≤ hi)) = true then some n else none
theorem dg_iff {c : Nat} : isDg c = (decide (48 ≤ c) && decide (c ≤ 57)) := by
  unfold isDg
  have e : DG.cps.toList = [48, 49, 50, 51, 52, 53, 54, 55, 56, 57] := by decide +kernel
  rw [e, Bool.eq_iff_iff]
  simp only [List.mem_cons, List.not_mem_nil, or_false, decide_eq_true_eq, Bool.and_eq_true]
  omega
theorem range_getD {α : Type} {l : List Nat} {f : Nat → α} : (List.range l.length).map (fun i => f (l.getD i 0)) = l.map f := by
  apply List.ext_getElem (by simp)
  intro j h1 h2
  have hj : j < l.length := by simpa using h1
  rw [List.getElem_map, List.getElem_map, List.getElem_range, List.getD_eq_getElem?_getD, List.getElem?_eq_getElem hj]
  rfl
theorem size_cps {z : Str} : z.cps.size = z.cps.toList.length := by simp
theorem getD_of {z : Str} {i c : Nat} (h : z.cps[i]? = some c) : z.cps.toList.getD i 0 = c := by
  rw [List.getD_eq_getElem?_getD, Array.getElem?_toList, h]
  rfl
theorem any_all {l : List Nat} {p : Nat → Bool} : (l.map fun c => !p c).any id = !l.all p := by
  induction l with
  | nil => rfl
  | cons a r ih =>
    rw [List.map_cons, List.any_cons, List.all_cons, ih, Bool.not_and]
    rfl
theorem str_one {c : Nat} : (⟨#[c]⟩ : Str) = ("0" : Str) ↔ c = 48 := by
  constructor
  · intro h
    have e : (⟨#[c]⟩ : Str).cps.toList = ("0" : Str).cps.toList := by rw [h]
    have e2 : ("0" : Str).cps.toList = [48] := by decide +kernel
    rw [e2] at e
    simpa using e
  · rintro rfl
    exact str_ext (by decide +kernel)
theorem int_text {z : Str} (h : z.cps.toList.all isDg = true) (h0 : 0 < z.length) (h1 : z.length ≤ 4300) : PySem.intText? z = some ((NumText.digitsVal z.cps.toList : Nat) : Int) := by
  have e : z = SX.S z.cps.toList := str_ext rfl
  have k := SX.int_S (a := z.cps.toList) (by
    rw [List.all_eq_true] at h ⊢
    intro c hc
    rw [← dg_iff]
    exact h c hc) (fun q => by
      rw [SL.len_str, q] at h0
      exact absurd h0 (by decide)) (by rw [← SL.len_str]; exact h1)
  rw [← e] at k
  exact k
/-! ### parse_integer -/
def sp_parse_integer (K : PySem.W.Frag) : Sp := fun vs H Q _ => ∃ (v : V) (lo hi : Int), vs = [v, .int lo, .int hi] ∧ ((∃ z : Str, v = .str z ∧ z.length ≤ 100000 ∧ ∀ H', Ex [] H H' → Q (vO (inO (numO z) lo hi)) H') ∨ ((∃ t, TyY K H v t ∧ PySem.W.kitOne K t (.type "str") = some false) ∧ Q .non H))
def t_parse_integer (K : PySem.W.Frag) : TS := (tSeq (tIfS (tOr (tNot (tTruK K (tCB (vIsi K) (tCons (tVar 0) (tCons (tC (.ty "str")) tNil))))) (tNot (tTest (tChain (uLt K) uLe (tC (.int 0)) (tCB (uLen K) (tCons (tVar 0) tNil)) (tC (.int (30))))))) (tRet (tC .non)) tNext)
    (tSeq (tIfS (tOr (tTruK K (tCB (rAnyL K) (tCons (tLc (iU K (tVar 0)) (gName 4) tYes (tOp (uNi K) (tVar 4) (tC (.str "0123456789"))) [4]) tNil))) (tAnd (tTest (tOp (uEq K) (tOp (uIx K) (tVar 0) (tC (.int 0))) (tC (.str "0")))) (tTest (tOp SL.rGt (tCB (uLen K) (tCons (tVar 0) tNil)) (tC (.int 1)))))) (tRet (tC .non)) tNext)
    (tSeq (tAsg (tCB wInt (tCons (tVar 0) tNil)) (gName 3))
    (tRet (tIf (tTest (tChain uLe uLe (tVar 1) (tVar 3) (tVar 2))) (tVar 3) (tC .non))))))
theorem len_parse_integer {K : PySem.W.Frag} {vs : List V} {H : Hp} {Q : VK} {E : XK} (h : sp_parse_integer K vs H Q E) : vs.length = ["text", "low", "high"].length := by
  obtain ⟨v, lo, hi, rfl, _⟩ := h
  rfl
theorem pure_parse_integer {K : PySem.W.Frag} (vs : List V) (H : Hp) (Q : VK) (E : XK) (h : sp_parse_integer K vs H Q E) : t_parse_integer K { nx := fun _ H' => Q .non H', rt := Q } (start ["text", "low", "high", "number", "digit"] vs) H := by
  obtain ⟨v, lo, hi, rfl, h⟩ := h
  show t_parse_integer K _ [some v, some (.int lo), some (.int hi), none, none] H
  unfold t_parse_integer
  rcases h with ⟨z, rfl, hl, q⟩ | ⟨⟨t, ty, k⟩, q⟩
  · have no : (z.length = 0 ∨ 30 < z.length ∨ z.cps.toList.all isDg = false) → ∀ H', Ex [] H H' → Q .non H' := fun h H' e => by
      have q := q H' e
      unfold numO at q
      rw [if_pos h] at q
      exact q
    walk_at "w"
    refine v_isi (k := true) (.ty _) (.base (.base (.str z))) (kit_ty (by decide +kernel)) ?_
    walk_at "w"
    refine u_len_s (sz_le hl) ?_
    walk_at "w"
    refine ite_d (fun h1 => ?_) (fun h1 => ?_)
    · walk_at "w"
      refine ite_nd (fun h2 => ?_) (fun h2 => ?_)
      · walk_at "w"
        exact no (by omega) H Ex.refl
      · walk_at "w"
        refine st_iU_s ?_
        walk_at "w"
        intro D hD
        refine lc_p walk_str (fun i => .bl (!isDg (z.cps.toList.getD i 0))) hD (by show z.length ≤ 90000; omega) (fun _ _ => trivial) ?_ ?_
        · rintro i x H2 H' hi e1 ⟨rfl, c, hc, rfl⟩ P hP
          rw [getD_of hc] at hP
          walk_at "w"
          refine ⟨rfl, ?_⟩
          walk_at "w"
          exact hP _ Ex.refl
        · intro H2 ha e1
          rw [size_cps, range_getD (f := fun c => V.bl (!isDg c))] at ha
          walk_at "w"
          refine u_any (bs := z.cps.toList.map fun c => !isDg c) (sqL (by rw [List.map_map]; exact ha)) ?_
          rw [any_all]
          walk_at "w"
          refine ite_nb (fun h3 => ?_) (fun h3 => ?_)
          · walk_at "w"
            exact no (.inr (.inr h3)) H2 e1
          · obtain ⟨c, r, hc⟩ : ∃ c r, z.cps.toList = c :: r := by
              rw [SL.len_str] at h1
              cases hz : z.cps.toList with
              | nil =>
                rw [hz] at h1
                exact absurd h1 (by decide)
              | cons c r => exact ⟨c, r, rfl⟩
            have yes : ¬ (z.length = 0 ∨ 30 < z.length ∨ z.cps.toList.all isDg = false) := by
              rw [h3]
              intro h
              rcases h with h | h | h
              · omega
              · omega
              · cases h
            walk_at "w"
            refine u_ix_s (c := c) (sz_le hl) (atI_nat (j := 0) (by rw [hc]; rfl)) ?_
            walk_at "w"
            have e0 : z.cps.toList.getD 0 0 = c := by rw [hc]; rfl
            have fin : (¬ (z.cps.toList.getD 0 0 = 48 ∧ 1 < z.length)) → ∀ H', Ex [] H H' → Q (vO (inO (some ((NumText.digitsVal z.cps.toList : Nat) : Int)) lo hi)) H' := fun hn H' e => by
              have q := q H' e
              unfold numO at q
              rw [if_neg yes, if_neg hn] at q
              exact q
            have last : (¬ (z.cps.toList.getD 0 0 = 48 ∧ 1 < z.length)) → (tSeq (tAsg (tCB wInt (tCons (tVar 0) tNil)) (gName 3)) (tRet (tIf (tTest (tChain uLe uLe (tVar 1) (tVar 3) (tVar 2))) (tVar 3) (tC .non)))) { nx := fun _ H' => Q .non H', rt := Q } [some (.str z), some (.int lo), some (.int hi), none, none] H2 := fun hn => by
              walk_at "w"
              refine .inl ⟨z, _, rfl, int_text h3 (by omega) (by omega), by omega, ?_⟩
              walk_at "w"
              have q := fin hn H2 e1
              unfold inO at q
              rw [Option.bind_some] at q
              refine ite_b (fun h => ?_) (fun h => ?_)
              · rw [if_pos h] at q
                walk_at "w"
                exact q
              · rw [if_neg (by rw [h]; exact Bool.false_ne_true)] at q
                walk_at "w"
                exact q
            refine ite_d (fun h4 => ?_) (fun h4 => ?_)
            · walk_at "w"
              refine u_len_s (sz_le hl) ?_
              walk_at "w"
              refine ite_d (fun h5 => ?_) (fun h5 => ?_)
              · walk_at "w"
                have q := q H2 e1
                unfold numO at q
                rw [if_neg yes, if_pos ⟨by rw [e0]; exact str_one.mp h4, by omega⟩] at q
                exact q
              · exact last (fun h => h5 (by omega))
            · exact last (fun h => h4 (str_one.mpr (by rw [← e0]; exact h.1)))
    · walk_at "w"
      exact no (by omega) H Ex.refl
  · walk_at "w"
    refine v_isi (.ty _) ty k ?_
    walk_at "w"
    exact q
end K3

namespace K3
open PySem PySem.Spec PyProof.Rows L2 SL

/-! ### the plain law: words -/
def parts (c : Nat) : List Nat → List Nat → List (List Nat)
  | acc, [] => [acc]
  | acc, d :: r => if d = c then acc :: parts c [] r else parts c (acc ++ [d]) r
def toS (l : List Nat) : Str := ⟨l.toArray⟩
theorem toS_cps {l : List Nat} : (toS l).cps.toList = l := by simp [toS]
def partsS (c : Nat) (z : Str) : List Str := (parts c [] z.cps.toList).map toS
theorem spl_parts {c : Nat} : ∀ (l acc : List Nat), TL.spl [c] 0 acc l = parts c acc l
  | [], acc => TL.spl_nil _ _ _
  | d :: r, acc => by
    unfold parts
    by_cases h : d = c
    · subst h
      rw [if_pos rfl, TL.spl_hit (by simp [TL.pre]), ← spl_parts r []]
      rfl
    · rw [if_neg h, TL.spl_miss (by simp [TL.pre]; exact fun q => h (by omega)), spl_parts r]
theorem split_parts {c : Nat} {z s : Str} (hs : s.cps.toList = [c]) (hc : c < 256) : Txt.split z s = partsS c z := by
  have e := TL.split_spl z s (by show s.cps.toList ≠ []; rw [hs]; exact List.cons_ne_nil _ _) (TL.kind_ok (by
    rw [← Array.all_toList, hs]
    simp [hc]))
  have e2 : TL.tl s = [c] := hs
  rw [e2, spl_parts] at e
  unfold partsS
  have e3 : parts c [] z.cps.toList = (Txt.split z s).map TL.tl := e.symm
  rw [e3, List.map_map]
  have : (toS ∘ TL.tl) = (id : Str → Str) := funext fun x => str_ext toS_cps
  rw [this, List.map_id]
theorem parts_length {c : Nat} : ∀ (l acc : List Nat), (parts c acc l).length ≤ l.length + 1
  | [], acc => by simp [parts]
  | d :: r, acc => by
    unfold parts
    split
    · rw [List.length_cons, List.length_cons]
      have := parts_length (c := c) r []
      omega
    · rw [List.length_cons]
      have := parts_length (c := c) r (acc ++ [d])
      omega
theorem parts_mem {c : Nat} {P : Nat → Prop} : ∀ (l acc : List Nat), (∀ d ∈ l, P d) → (∀ d ∈ acc, P d) → ∀ p ∈ parts c acc l, ∀ d ∈ p, P d
  | [], acc, _, ha, p, hp => by
    have : p = acc := by simpa [parts] using hp
    subst this
    exact ha
  | d :: r, acc, hl, ha, p, hp => by
    unfold parts at hp
    split at hp
    · rcases List.mem_cons.mp hp with rfl | hp
      · exact ha
      · exact parts_mem r [] (fun x hx => hl x (List.mem_cons_of_mem _ hx)) (fun _ z => absurd z List.not_mem_nil) p hp
    · exact parts_mem r _ (fun x hx => hl x (List.mem_cons_of_mem _ hx)) (fun x hx => by
        rcases List.mem_append.mp hx with q | q
        · exact ha x q
        · rw [List.mem_singleton.mp q]
          exact hl d (List.mem_cons_self ..)) p hp
theorem parts_len_le {c n : Nat} : ∀ (l acc : List Nat), acc.length + l.length ≤ n → ∀ p ∈ parts c acc l, p.length ≤ n
  | [], acc, h, p, hp => by
    have : p = acc := by simpa [parts] using hp
    subst this
    simpa using h
  | d :: r, acc, h, p, hp => by
    unfold parts at hp
    rw [List.length_cons] at h
    split at hp
    · rcases List.mem_cons.mp hp with rfl | hp
      · omega
      · exact parts_len_le r [] (by rw [List.length_nil]; omega) p hp
    · exact parts_len_le r _ (by rw [List.length_append, List.length_singleton]; omega) p hp
def bad (c : Nat) (z : Str) : Bool := decide (10 ∈ z.cps.toList) || inV (.str "") ((partsS c z).map V.str)
theorem nl_cps : ("\n" : Str) = ⟨#[10]⟩ := str_ext (by decide +kernel)
theorem flat_strs {ys : List Str} : (ys.map V.str).all flatV = true := by
  rw [List.all_eq_true]
  intro x hx
  obtain ⟨z, _, rfl⟩ := List.mem_map.mp hx
  rfl
/-- what both give: None, or a new list -/
abbrev Gives (H : Hp) (Q : VK) (c : Nat) (z : Str) : Prop := (bad c z = true → ∀ H', Ex [] H H' → Q .non H') ∧ (bad c z = false → ∀ p H', H p = none → Ex [] H H' → H' p = some (.lst ((partsS c z).map V.str)) → Q (.ref p) H')
def sp_split_words (K : PySem.W.Frag) : Sp := fun vs H Q _ => ∃ (v : V) (s : Str) (c : Nat), vs = [v, .str s] ∧ s.cps.toList = [c] ∧ c < 256 ∧ ((∃ z : Str, v = .str z ∧ z.length ≤ 90000 ∧ Gives H Q c z) ∨ ((∃ t, TyY K H v t ∧ PySem.W.kitOne K t (.type "str") = some false) ∧ Q .non H))
def t_split_words (K : PySem.W.Frag) : TS := (tSeq (tIfS (tOr (tNot (tTruK K (tCB (vIsi K) (tCons (tVar 0) (tCons (tC (.ty "str")) tNil))))) (tTest (tOp (uIn K) (tC (.str "\n")) (tVar 0)))) (tRet (tC .non)) tNext)
    (tSeq (tAsg (tBM K "str" rSplit (tVar 0) (tCons (tVar 1) tNil)) (gName 2))
    (tRet (tIf (tTest (tOp (uIn K) (tC (.str "")) (tVar 2))) (tC .non) (tVar 2)))))
theorem len_split_words {K : PySem.W.Frag} {vs : List V} {H : Hp} {Q : VK} {E : XK} (h : sp_split_words K vs H Q E) : vs.length = ["text", "separator"].length := by
  obtain ⟨v, s, c, rfl, _⟩ := h
  rfl
theorem pure_split_words {K : PySem.W.Frag} (vs : List V) (H : Hp) (Q : VK) (E : XK) (h : sp_split_words K vs H Q E) : t_split_words K { nx := fun _ H' => Q .non H', rt := Q } (start ["text", "separator", "words"] vs) H := by
  obtain ⟨v, s, c, rfl, hs, hc, h⟩ := h
  show t_split_words K _ [some v, some (.str s), none] H
  unfold t_split_words
  rcases h with ⟨z, rfl, hl, q1, q2⟩ | ⟨⟨t, ty, k⟩, q⟩
  · walk_at "w"
    refine v_isi (k := true) (.ty _) (.base (.base (.str z))) (kit_ty (by decide +kernel)) ?_
    walk_at "w"
    rw [nl_cps]
    refine u_in_s ?_
    walk_at "w"
    refine ite_d (fun h1 => ?_) (fun h1 => ?_)
    · walk_at "w"
      exact q1 (by unfold bad; rw [decide_eq_true h1]; rfl) H Ex.refl
    · walk_at "w"
      refine ⟨ty_s, ?_⟩
      walk_at "w"
      refine ⟨z, s, rfl, rfl, ?_, by show z.length + 2 ≤ sizeLine; exact sz_le (by omega), ?_⟩
      · have : s.length = 1 := by rw [SL.len_str, hs]; rfl
        rw [this]
        rfl
      rw [split_parts hs hc]
      intro p hp
      walk_at "w"
      refine u_in_l (Or.inl (sqL upd_same)) rfl flat_strs ?_
      walk_at "w"
      refine ite_b (fun h2 => ?_) (fun h2 => ?_)
      · walk_at "w"
        exact q1 (by unfold bad; rw [h2, Bool.or_true]) _ (Ex.new hp)
      · walk_at "w"
        exact q2 (by unfold bad; rw [h2, decide_eq_false h1]; rfl) p _ hp (Ex.new hp) upd_same
  · walk_at "w"
    refine v_isi (.ty _) ty k ?_
    walk_at "w"
    exact q
/-! ### the law's own parting -/
def stepP (c : Nat) (s : List (List Nat) × List Nat) (d : Nat) : List (List Nat) × List Nat := if d = c then (s.1 ++ [s.2], []) else (s.1, s.2 ++ [d])
theorem fold_parts {c : Nat} : ∀ (l : List Nat) (F : List (List Nat)) (w : List Nat), (l ++ [c]).foldl (stepP c) (F, w) = (F ++ parts c w l, [])
  | [], F, w => by simp [stepP, parts]
  | d :: r, F, w => by
    rw [List.cons_append, List.foldl_cons]
    unfold stepP
    unfold parts
    by_cases h : d = c
    · rw [if_pos h, if_pos h]
      have e := fold_parts (c := c) r (F ++ [w]) []
      unfold stepP at e
      rw [e, List.append_assoc]
      rfl
    · rw [if_neg h, if_neg h]
      have e := fold_parts (c := c) r F (w ++ [d])
      unfold stepP at e
      exact e
theorem step_len {c : Nat} : ∀ (l : List Nat) (s : List (List Nat) × List Nat), (l.foldl (stepP c) s).1.length ≤ s.1.length + l.length ∧ (l.foldl (stepP c) s).2.length ≤ s.2.length + l.length
  | [], s => by simp
  | d :: r, s => by
    rw [List.foldl_cons]
    have h := step_len (c := c) r (stepP c s d)
    rw [List.length_cons]
    have h1 : (stepP c s d).1.length ≤ s.1.length + 1 ∧ (stepP c s d).2.length ≤ s.2.length + 1 := by
      unfold stepP
      split
      · simp
      · simp
    omega
def sp_l_law_parted (K : PySem.W.Frag) : Sp := fun vs H Q _ => ∃ (z s : Str) (c : Nat), vs = [.str z, .str s] ∧ s.cps.toList = [c] ∧ z.length ≤ 80000 ∧ Gives H Q c z
def t_l_law_parted (K : PySem.W.Frag) : TS := (tSeq (tPar 2 3 (tCons (tLst tNil) (tCons (tC (.str "")) tNil)))
    (tSeq (tFor (iU K (tOp (uAdd K) (tVar 0) (tVar 1))) (gName 4) (tIfS (tTest (tOp (uEq K) (tVar 4) (tVar 1))) (tSeq (tDrop (tBM K "list" rAppend (tVar 2) (tCons (tVar 3) tNil)))
    (tAsg (tC (.str "")) (gName 3))) (tAsg (tOp (uAdd K) (tVar 3) (tVar 4)) (gName 3))))
    (tRet (tIf (tOr (tTest (tOp (uIn K) (tC (.str "\n")) (tVar 0))) (tTest (tOp (uIn K) (tC (.str "")) (tVar 2)))) (tC .non) (tVar 2)))))
theorem len_l_law_parted {K : PySem.W.Frag} {vs : List V} {H : Hp} {Q : VK} {E : XK} (h : sp_l_law_parted K vs H Q E) : vs.length = ["_law_line", "_law_sign"].length := by
  obtain ⟨z, s, c, rfl, _⟩ := h
  rfl
theorem cps_one {s : Str} {c : Nat} (h : s.cps.toList = [c]) : s = ⟨#[c]⟩ := str_ext h
theorem pure_l_law_parted {K : PySem.W.Frag} (vs : List V) (H : Hp) (Q : VK) (E : XK) (h : sp_l_law_parted K vs H Q E) : t_l_law_parted K { nx := fun _ H' => Q .non H', rt := Q } (start ["_law_line", "_law_sign", "_law_found", "_law_word", "_law_one"] vs) H := by
  obtain ⟨z, s, c, rfl, hs, hl, q1, q2⟩ := h
  have hs1 : s = ⟨#[c]⟩ := cps_one hs
  subst hs1
  show t_l_law_parted K _ [some (.str z), some (.str ⟨#[c]⟩), none, none, none] H
  unfold t_l_law_parted
  walk_at "w"
  walk_at "nl"
  intro p H1 hp e1 a1
  walk_at "w"
  refine st_iU_s ?_
  walk_at "w"
  have hlz : (z ++ ⟨#[c]⟩ : Str).length = z.length + 1 := SL.len_add z ⟨#[c]⟩
  refine u_add_s (sz_le (by rw [← SL.len_add]; omega)) ?_
  walk_at "w"
  have cl : (z ++ ⟨#[c]⟩ : Str).cps.toList = z.cps.toList ++ [c] := cps_add _ _
  refine for_it walk_str (fun i σ H' => Ex [] H H' ∧ H' p = some (.lst ((((z.cps.toList ++ [c]).take i).foldl (stepP c) ([], [])).1.map fun l => V.str (toS l))) ∧ ∃ x, σ = [some (.str z), some (.str ⟨#[c]⟩), some (.ref p), some (.str (toS (((z.cps.toList ++ [c]).take i).foldl (stepP c) ([], [])).2)), x]) ⟨e1, a1, _, rfl⟩ (fun _ _ _ _ _ => trivial) ?_ ?_
  · rintro i x σ H2 H' hi ⟨e2, a2, y, rfl⟩ ⟨rfl, d, hd, rfl⟩
    have hd2 : (z.cps.toList ++ [c])[i]? = some d := by rw [← cl, Array.getElem?_toList]; exact hd
    have ht : ((z.cps.toList ++ [c]).take (i + 1)).foldl (stepP c) ([], []) = stepP c (((z.cps.toList ++ [c]).take i).foldl (stepP c) ([], [])) d := by
      rw [List.take_succ, hd2, List.foldl_append]
      rfl
    have hlen := step_len (c := c) ((z.cps.toList ++ [c]).take i) ([], [])
    have hti : ((z.cps.toList ++ [c]).take i).length ≤ z.length + 1 := by
      rw [SL.len_str]
      exact Nat.le_trans (List.length_take_le' ..) (by rw [List.length_append]; exact Nat.le_refl _)
    rw [ht]
    generalize ((z.cps.toList ++ [c]).take i).foldl (stepP c) ([], []) = S at a2 hlen ⊢
    obtain ⟨F, w⟩ := S
    dsimp only at a2 hlen ⊢
    simp only [List.length_nil] at hlen
    walk_at "w"
    refine ite_d (fun h => ?_) (fun h => ?_)
    · have hdc : d = c := by
        have e : (⟨#[d]⟩ : Str).cps.toList = (⟨#[c]⟩ : Str).cps.toList := by rw [h]
        simpa using e
      unfold stepP
      rw [if_pos hdc]
      walk_at "w"
      refine ⟨ty_l (sqL a2), ?_⟩
      walk_at "w"
      refine u_append a2 (by rw [List.length_map]; exact sz_lt (by omega)) ?_
      walk_at "w"
      refine ⟨fun b o m zz => ?_, by rw [upd_same, List.map_append]; rfl, _, rfl⟩
      have hne : b ≠ p := ne_of_none zz hp
      rw [upd_ne hne]
      exact e2 b o m zz
    · have hdc : ¬ d = c := fun e => h (by rw [e])
      unfold stepP
      rw [if_neg hdc]
      walk_at "w"
      have hw : (toS w).length = w.length := by rw [SL.len_str, toS_cps]
      refine u_add_s (sz_le (by rw [hw]; show w.length + 1 ≤ _; omega)) ?_
      walk_at "w"
      refine ⟨e2, a2, some (.str ⟨#[d]⟩), ?_⟩
      have e : toS w ++ ⟨#[d]⟩ = toS (w ++ [d]) := str_ext (by rw [cps_add, toS_cps, toS_cps])
      rw [e]
      rfl
  · rintro σ H2 ⟨e2, a2, y, rfl⟩
    have hz : (z ++ ⟨#[c]⟩ : Str).cps.size = (z.cps.toList ++ [c]).length := by rw [← cl]; simp
    rw [hz, List.take_length, fold_parts, List.nil_append] at a2
    have a2 : H2 p = some (.lst ((partsS c z).map V.str)) := by
      rw [a2]
      unfold partsS
      rw [List.map_map]
      rfl
    walk_at "w"
    rw [nl_cps]
    refine u_in_s ?_
    walk_at "w"
    refine ite_d (fun h1 => ?_) (fun h1 => ?_)
    · walk_at "w"
      exact q1 (by unfold bad; rw [decide_eq_true h1]; rfl) H2 e2
    · walk_at "w"
      refine u_in_l (Or.inl (sqL a2)) rfl flat_strs ?_
      walk_at "w"
      refine ite_b (fun h2 => ?_) (fun h2 => ?_)
      · walk_at "w"
        exact q1 (by unfold bad; rw [h2, Bool.or_true]) _ e2
      · walk_at "w"
        exact q2 (by unfold bad; rw [h2, decide_eq_false h1]; rfl) p _ hp e2 a2
end K3

namespace K3
open PySem PySem.Spec PyProof.Rows L2 SL

/-! ### the law's cell, box and digits -/
def sp_l_law_cell (K : PySem.W.Frag) : Sp := SL.spCell K
def t_l_law_cell (K : PySem.W.Frag) : TS := (tSeq (tIfS (tTest (tOp (uLt K) (tVar 1) (tCB (uLen K) (tCons (tVar 0) tNil)))) (tRet (tOp (uIx K) (tVar 0) (tVar 1))) tNext)
    (tRet (tOp (uAdd K) (tOp (uMul K) (tC (.int 15487637)) (tVar 1)) (tC (.int 367)))))
theorem len_l_law_cell {K : PySem.W.Frag} {vs : List V} {H : Hp} {Q : VK} {E : XK} (h : sp_l_law_cell K vs H Q E) : vs.length = ["_law_script", "_law_k"].length := by
  obtain ⟨a, ns, k, rfl, _⟩ := h
  rfl
theorem pure_l_law_cell {K : PySem.W.Frag} (vs : List V) (H : Hp) (Q : VK) (E : XK) (h : sp_l_law_cell K vs H Q E) : t_l_law_cell K { nx := fun _ H' => Q .non H', rt := Q } (start ["_law_script", "_law_k"] vs) H := by
  obtain ⟨a, ns, k, rfl, hs, h0, h1, q⟩ := h
  show t_l_law_cell K _ [some (.ref a), some (.int k)] H
  unfold t_l_law_cell
  walk_at "w"
  refine u_len_q (Or.inl hs) ?_
  walk_at "w"
  refine ite_d (fun h => ?_) (fun h => ?_)
  · walk_at "w"
    rw [List.length_map] at h
    have hk : k.toNat < ns.length := by omega
    refine u_ix_l (v := .int ns[k.toNat]) hs ?_ (q _)
    refine at_of (j := k.toNat) (by omega) ?_
    rw [List.getElem?_map, List.getElem?_eq_getElem hk]
    rfl
  · walk_at "w"
    refine u_mul (wide_mul (a := 40) (b := 40) (by decide) (by omega) (by decide) (by decide) (by decide)) ?_
    walk_at "w"
    exact q _
def sp_l_law_box (K : PySem.W.Frag) : Sp := spBox
def t_l_law_box (K : PySem.W.Frag) : TS := (tRet (tLst (tCons (tCB rMax2 (tCons (tC (.int 0)) (tCons (tOp SL.rSub (tVar 0) (tOp SL.rPow (tC (.int 10)) (tC (.int 18)))) tNil))) (tCons (tOp SL.rMod (tVar 0) (tC (.int 2147483629))) (tCons (tC (.int 0)) tNil)))))
theorem len_l_law_box {K : PySem.W.Frag} {vs : List V} {H : Hp} {Q : VK} {E : XK} (h : sp_l_law_box K vs H Q E) : vs.length = ["_law_cell_here"].length := by
  obtain ⟨n, rfl, _⟩ := h
  rfl
theorem pure_l_law_box {K : PySem.W.Frag} (vs : List V) (H : Hp) (Q : VK) (E : XK) (h : sp_l_law_box K vs H Q E) : t_l_law_box K { nx := fun _ H' => Q .non H', rt := Q } (start ["_law_cell_here"] vs) H := by
  obtain ⟨n, rfl, q⟩ := h
  show t_l_law_box K _ [some (.int n)] H
  unfold t_l_law_box
  walk_at "w"
  refine u_pow ⟨by decide, by decide, by decide⟩ ?_
  walk_at "w"
  refine u_modp (n := 2147483629) (by decide) ?_
  walk_at "w"
  refine ⟨by show 3 ≤ sizeLine; decide, fun b hb => q b _ hb (Ex.new hb) ⟨_, _, 0, upd_same, ?_, ?_, ?_, by decide, by decide⟩⟩
  · split <;> omega
  · exact Int.emod_nonneg _ (by decide)
  · exact Int.lt_of_lt_of_le (Int.emod_lt_of_pos _ (by decide)) (by decide)
def sp_l_law_take (K : PySem.W.Frag) : Sp := spTake
def t_l_law_take (K : PySem.W.Frag) : TS := (tSeq (tIfS (tTest (tOp SL.rGt (tOp (uIx K) (tVar 0) (tC (.int 0))) (tC (.int 0)))) (tSeq (tAsg (tOp SL.rMod (tOp (uIx K) (tVar 0) (tC (.int 0))) (tVar 1)) (gName 3))
    (tSeq (tAsg (tOp SL.rDiv (tOp (uIx K) (tVar 0) (tC (.int 0))) (tVar 1)) (gSub (tVar 0) (tC (.int 0)) rSetL))
    (tRet (tVar 3)))) tNext)
    (tSeq (tAsg (tOp (uAdd K) (tOp (uIx K) (tVar 0) (tC (.int 2))) (tC (.int 1))) (gSub (tVar 0) (tC (.int 2)) rSetL))
    (tSeq (tAsg (tOp SL.rMod (tOp SL.rPow (tOp (uAdd K) (tOp (uAdd K) (tOp (uIx K) (tVar 0) (tC (.int 1))) (tOp (uMul K) (tC (.int 15487637)) (tOp (uIx K) (tVar 0) (tC (.int 2))))) (tC (.int 367))) (tC (.int 5))) (tC (.int 2147483647))) (gName 2))
    (tSeq (tAsg (tOp SL.rMod (tOp SL.rPow (tOp (uAdd K) (tVar 2) (tOp (uMul K) (tC (.int 104723)) (tOp (uIx K) (tVar 0) (tC (.int 2))))) (tC (.int 3))) (tC (.int 2147483587))) (gName 2))
    (tRet (tOp SL.rMod (tOp SL.rDiv (tVar 2) (tC (.int 16))) (tVar 1)))))))
theorem len_l_law_take {K : PySem.W.Frag} {vs : List V} {H : Hp} {Q : VK} {E : XK} (h : sp_l_law_take K vs H Q E) : vs.length = ["_law_box_here", "_law_many"].length := by
  obtain ⟨b, m, n, rfl, _⟩ := h
  rfl
theorem log_40 {m : Int} (h0 : 0 < m) (h : m < 10 ^ 40) {a : Int} : CDivW a m := wide_div (b := 200) h0 (by
  have : m.natAbs < 10 ^ 40 := by omega
  exact Nat.lt_trans this (by decide +kernel)) (by decide) (by decide)
theorem pure_l_law_take {K : PySem.W.Frag} (vs : List V) (H : Hp) (Q : VK) (E : XK) (h : sp_l_law_take K vs H Q E) : t_l_law_take K { nx := fun _ H' => Q .non H', rt := Q } (start ["_law_box_here", "_law_many", "_law_mixed", "_law_digit"] vs) H := by
  obtain ⟨b, m, n, rfl, ⟨a, s, c, hb, ha0, hs0, hs1, hc0, hc1⟩, hn, hm0, hm1, q⟩ := h
  show t_l_law_take K _ [some (.ref b), some (.int m), none, none] H
  unfold t_l_law_take
  have ex : ∀ o, Ex [b] H (upd H b o) := fun o => Ex.mut (List.mem_singleton.mpr rfl)
  walk_at "w"
  refine u_ix_l (v := .int a) (sqL hb) rfl ?_
  walk_at "w"
  refine ite_d (fun h => ?_) (fun h => ?_)
  · walk_at "w"
    refine u_ix_l (v := .int a) (sqL hb) rfl ?_
    walk_at "w"
    refine u_modp hm0 ?_
    walk_at "w"
    refine u_ix_l (v := .int a) (sqL hb) rfl ?_
    walk_at "w"
    refine u_div (log_40 hm0 hm1) ?_
    refine st_gsub ?_
    walk_at "w"
    refine u_setL hb (j := 0) rfl ?_
    walk_at "w"
    refine q _ _ (Int.emod_nonneg _ (by omega)) (Int.emod_lt_of_pos _ hm0) (ex _) ⟨a / m, s, c, upd_same, Int.ediv_nonneg ha0 (by omega), hs0, hs1, hc0, by omega⟩
  · walk_at "w"
    refine u_ix_l (v := .int c) (sqL hb) rfl ?_
    walk_at "w"
    refine st_gsub ?_
    walk_at "w"
    refine u_setL hb (j := 2) rfl ?_
    walk_at "w"
    refine u_ix_l (v := .int s) (sqL upd_same) rfl ?_
    walk_at "w"
    refine u_ix_l (v := .int (c + 1)) (sqL upd_same) rfl ?_
    refine u_mul (wide_mul (a := 40) (b := 40) (by decide) (by omega) (by decide) (by decide) (by decide)) ?_
    walk_at "w"
    refine u_pow ⟨by decide, by decide, by omega⟩ ?_
    walk_at "w"
    refine u_modp (n := 2147483647) (by decide) ?_
    have r1 := Int.emod_nonneg ((s + 15487637 * (c + 1) + 367) ^ (5 : Int).toNat) (show (2147483647 : Int) ≠ 0 by decide)
    have r2 := Int.emod_lt_of_pos ((s + 15487637 * (c + 1) + 367) ^ (5 : Int).toNat) (show (0 : Int) < 2147483647 by decide)
    generalize (s + 15487637 * (c + 1) + 367) ^ (5 : Int).toNat % 2147483647 = r at r1 r2
    walk_at "w"
    refine u_ix_l (v := .int (c + 1)) (sqL upd_same) rfl ?_
    refine u_mul (wide_mul (a := 40) (b := 40) (by decide) (by omega) (by decide) (by decide) (by decide)) ?_
    walk_at "w"
    refine u_pow ⟨by decide, by decide, by omega⟩ ?_
    walk_at "w"
    refine u_modp (n := 2147483587) (by decide) ?_
    walk_at "w"
    refine u_div (wide_div (b := 10) (by decide) (by decide) (by decide) (by decide)) ?_
    walk_at "w"
    refine u_modp hm0 ?_
    refine q _ _ (Int.emod_nonneg _ (by omega)) (Int.emod_lt_of_pos _ hm0) (ex _) ⟨a, s, c + 1, upd_same, ha0, hs0, hs1, by omega, by omega⟩
/-! ### the law's own reading of a number -/
def sp_l_law_within (K : PySem.W.Frag) : Sp := fun vs H Q _ => ∃ (o : Option Int) (lo hi : Int), vs = [vO o, .int lo, .int hi] ∧ Q (vO (inO o lo hi)) H
def t_l_law_within (K : PySem.W.Frag) : TS := (tRet (tIf (tAnd (tTest (tOp uIsnt (tVar 0) (tC .non))) (tTest (tChain uLe uLe (tVar 1) (tVar 0) (tVar 2)))) (tVar 0) (tC .non)))
theorem len_l_law_within {K : PySem.W.Frag} {vs : List V} {H : Hp} {Q : VK} {E : XK} (h : sp_l_law_within K vs H Q E) : vs.length = ["_law_number_here", "_law_least", "_law_most"].length := by
  obtain ⟨o, lo, hi, rfl, _⟩ := h
  rfl
theorem pure_l_law_within {K : PySem.W.Frag} (vs : List V) (H : Hp) (Q : VK) (E : XK) (h : sp_l_law_within K vs H Q E) : t_l_law_within K { nx := fun _ H' => Q .non H', rt := Q } (start ["_law_number_here", "_law_least", "_law_most"] vs) H := by
  obtain ⟨o, lo, hi, rfl, q⟩ := h
  show t_l_law_within K _ [some (vO o), some (.int lo), some (.int hi)] H
  unfold t_l_law_within
  cases o with
  | none =>
    have q : Q .non H := q
    show tRet _ _ [some V.non, some (.int lo), some (.int hi)] H
    walk_at "w"
    refine ite_nd (fun h => absurd rfl h) (fun _ => ?_)
    walk_at "w"
    exact q
  | some n =>
    show tRet _ _ [some (.int n), some (.int lo), some (.int hi)] H
    walk_at "w"
    refine ite_nd (fun _ => ?_) (fun h => by cases h)
    walk_at "w"
    unfold inO at q
    rw [Option.bind_some] at q
    refine ite_b (fun h => ?_) (fun h => ?_)
    · rw [if_pos h] at q
      walk_at "w"
      exact q
    · rw [if_neg (by rw [h]; exact Bool.false_ne_true)] at q
      walk_at "w"
      exact q
theorem dg_ix {c : Nat} (h : isDg c = true) : Txt.index0 DG ⟨#[c]⟩ = some (c - 48) := by
  rw [dg_iff, Bool.and_eq_true, decide_eq_true_eq, decide_eq_true_eq] at h
  have h10 : c = 48 ∨ c = 49 ∨ c = 50 ∨ c = 51 ∨ c = 52 ∨ c = 53 ∨ c = 54 ∨ c = 55 ∨ c = 56 ∨ c = 57 := by omega
  rcases h10 with rfl | rfl | rfl | rfl | rfl | rfl | rfl | rfl | rfl | rfl <;> decide +kernel
theorem val_lt {l : List Nat} (h : l.all isDg = true) : NumText.digitsVal l < 10 ^ l.length := by
  have key : ∀ (l : List Nat) (a n : Nat), (∀ c ∈ l, isDg c = true) → a < 10 ^ n → l.foldl (fun acc c => acc * 10 + (c - 48)) a < 10 ^ (n + l.length) := by
    intro l
    induction l with
    | nil => exact fun a n _ h => h
    | cons c r ih =>
      intro a n hd ha
      have hc := hd c (List.mem_cons_self ..)
      rw [dg_iff, Bool.and_eq_true, decide_eq_true_eq, decide_eq_true_eq] at hc
      rw [List.foldl_cons, List.length_cons]
      have e : n + (r.length + 1) = (n + 1) + r.length := by omega
      rw [e]
      refine ih _ _ (fun x hx => hd x (List.mem_cons_of_mem _ hx)) ?_
      have e2 : 10 ^ (n + 1) = 10 ^ n * 10 := Nat.pow_succ ..
      omega
  have := key l 0 0 (List.all_eq_true.mp h) (by decide)
  rwa [Nat.zero_add] at this
theorem numO_lt {z : Str} {n : Int} (h : numO z = some n) : 0 ≤ n ∧ n < 10 ^ 30 := by
  unfold numO at h
  split at h
  · cases h
  · rename_i h1
    split at h
    · cases h
    · injection h with h
      have hd : z.cps.toList.all isDg = true := by
        cases hq : z.cps.toList.all isDg with
        | true => rfl
        | false => exact absurd (.inr (.inr hq)) h1
      have hl : z.cps.toList.length ≤ 30 := by
        rw [← SL.len_str]
        exact Nat.le_of_not_lt fun q => h1 (.inr (.inl q))
      have k := val_lt hd
      have k2 : 10 ^ z.cps.toList.length ≤ 10 ^ 30 := Nat.pow_le_pow_right (by decide) hl
      omega
def sp_l_law_number (K : PySem.W.Frag) : Sp := fun vs H Q _ => ∃ z : Str, vs = [.str z] ∧ z.length ≤ 80000 ∧ Asc z ∧ ∀ H', Ex [] H H' → Q (vO (numO z)) H'
def t_l_law_number (K : PySem.W.Frag) : TS := (tSeq (tIfS (tOr (tTest (tOp (uEq K) (tVar 0) (tC (.str "")))) (tOr (tTest (tOp SL.rGt (tCB (uLen K) (tCons (tVar 0) tNil)) (tC (.int 30)))) (tTest (tOp (uNe K) (tLc (iU K (tVar 0)) (gName 2) (tTest (tOp (uNi K) (tVar 2) (tC (.str "0123456789")))) (tVar 2) [2]) (tLst tNil))))) (tRet (tC .non)) tNext)
    (tSeq (tIfS (tAnd (tTest (tOp (uEq K) (tOp (uIx K) (tVar 0) (tC (.int 0))) (tC (.str "0")))) (tTest (tOp SL.rGt (tCB (uLen K) (tCons (tVar 0) tNil)) (tC (.int 1))))) (tRet (tC .non)) tNext)
    (tSeq (tAsg (tC (.int 0)) (gName 1))
    (tSeq (tFor (iU K (tVar 0)) (gName 2) (tAsg (tOp (uAdd K) (tOp (uMul K) (tC (.int 10)) (tVar 1)) (tBM K "str" rIndexS (tC (.str "0123456789")) (tCons (tVar 2) tNil))) (gName 1)))
    (tRet (tVar 1))))))
theorem len_l_law_number {K : PySem.W.Frag} {vs : List V} {H : Hp} {Q : VK} {E : XK} (h : sp_l_law_number K vs H Q E) : vs.length = ["_law_line"].length := by
  obtain ⟨z, rfl, _⟩ := h
  rfl
theorem eq_empty {z : Str} : z = ("" : Str) ↔ z.length = 0 := by
  constructor
  · rintro rfl
    decide +kernel
  · intro h
    refine str_ext ?_
    rw [SL.len_str] at h
    rw [List.eq_nil_of_length_eq_zero h]
    decide +kernel
theorem pure_l_law_number {K : PySem.W.Frag} (vs : List V) (H : Hp) (Q : VK) (E : XK) (h : sp_l_law_number K vs H Q E) : t_l_law_number K { nx := fun _ H' => Q .non H', rt := Q } (start ["_law_line", "_law_number_here", "_law_sign"] vs) H := by
  obtain ⟨z, rfl, hl, za, q⟩ := h
  show t_l_law_number K _ [some (.str z), none, none] H
  have no : (z.length = 0 ∨ 30 < z.length ∨ z.cps.toList.all isDg = false) → ∀ H', Ex [] H H' → Q .non H' := fun h H' e => by
    have q := q H' e
    unfold numO at q
    rw [if_pos h] at q
    exact q
  unfold t_l_law_number
  walk_at "w"
  refine ite_d (fun h => ?_) (fun h => ?_)
  · walk_at "w"
    exact no (.inl (eq_empty.mp h)) H Ex.refl
  have h0 : z.length ≠ 0 := fun q => h (eq_empty.mpr q)
  walk_at "w"
  refine u_len_s (sz_le (by omega)) ?_
  walk_at "w"
  refine ite_d (fun h1 => ?_) (fun h1 => ?_)
  · walk_at "w"
    exact no (.inr (.inl (by omega))) H Ex.refl
  walk_at "w"
  refine st_iU_s ?_
  walk_at "w"
  intro D hD
  refine lc_f walk_str (M := []) (S := fun _ _ => True) (keep := fun i => !isDg (z.cps.toList.getD i 0)) (val := fun i => .str ⟨#[z.cps.toList.getD i 0]⟩) hD (List.not_mem_nil) (by show z.length ≤ 90000; omega) (fun _ _ => trivial) (fun _ _ _ _ _ _ => trivial) (fun _ _ _ _ => trivial) ?_ ?_
  · rintro i x H2 H' hi e1 e2 _ ⟨rfl, c, hc, rfl⟩ PN PV hN hV
    rw [getD_of hc] at hN hV
    walk_at "w"
    refine ⟨rfl, ?_⟩
    walk_at "w"
    refine ite_nd (fun h1 => ?_) (fun h1 => ?_)
    · walk_at "w"
      exact hV (by unfold isDg; rw [decide_eq_false h1]; rfl) _ Ex.refl trivial
    · exact hN (by unfold isDg; rw [decide_eq_true h1]; rfl) _ Ex.refl trivial
  intro H2 ha e1 _
  walk_at "w"
  walk_at "nl"
  intro p2 H3 hp2 e3 a3
  have hasc : ∀ y ∈ ((List.range z.cps.size).filter fun i => !isDg (z.cps.toList.getD i 0)).map (fun i => (⟨#[z.cps.toList.getD i 0]⟩ : Str)), Asc y := by
    intro y hy
    obtain ⟨i, hi, rfl⟩ := List.mem_map.mp hy
    have hi2 : i < z.cps.size := List.mem_range.mp (List.mem_filter.mp hi).1
    refine Asc.one (za _ ?_)
    rw [List.getD_eq_getElem?_getD, Array.getElem?_toList, Array.getElem?_eq_getElem hi2]
    exact Array.mem_toList_iff.mpr (Array.getElem_mem hi2)
  have hemp : ((List.range z.cps.size).filter fun i => !isDg (z.cps.toList.getD i 0)).isEmpty = z.cps.toList.all isDg := by
    rw [Bool.eq_iff_iff]
    simp only [List.isEmpty_iff, List.filter_eq_nil_iff, List.mem_range, List.all_eq_true]
    constructor
    · intro h1 c hc
      obtain ⟨i, hi, rfl⟩ := List.mem_iff_getElem.mp hc
      have := h1 i (by simpa using hi)
      rw [List.getD_eq_getElem?_getD, List.getElem?_eq_getElem hi] at this
      simpa using this
    · intro h1 i hi
      have hi2 : i < z.cps.toList.length := by simpa using hi
      rw [List.getD_eq_getElem?_getD, List.getElem?_eq_getElem hi2]
      simpa using h1 _ (List.getElem_mem hi2)
  generalize ((List.range z.cps.size).filter fun i => !isDg (z.cps.toList.getD i 0)) = S at ha hasc hemp
  have e : (S.map fun i => V.str ⟨#[z.cps.toList.getD i 0]⟩) = (S.map fun i => (⟨#[z.cps.toList.getD i 0]⟩ : Str)).map V.str := by rw [List.map_map]; rfl
  rw [e] at ha
  have ha3 := e3 D _ List.not_mem_nil ha
  refine u_ne_d (d := .list ((S.map fun i => (⟨#[z.cps.toList.getD i 0]⟩ : Str)).map PyData.str)) (e := .list []) ?_ ?_ (shaped_strs hasc) shaped_nil ?_
  · exact (Rp.lst (M := []) (At.lt ⟨ha3, List.not_mem_nil⟩) (RpA.strs _)).dp
  · exact (Rp.lst (M := []) (At.lt ⟨a3, List.not_mem_nil⟩) .nil).dp
  rw [eqv_nil_l]
  have hem2 : ((S.map fun i => (⟨#[z.cps.toList.getD i 0]⟩ : Str)).map PyData.str).isEmpty = z.cps.toList.all isDg := by
    rw [← hemp, List.isEmpty_map, List.isEmpty_map]
  rw [hem2]
  have eA := e1.trans e3
  walk_at "w"
  refine ite_nb (fun h2 => ?_) (fun h2 => ?_)
  · walk_at "w"
    exact no (.inr (.inr h2)) H3 eA
  obtain ⟨c, r, hc⟩ : ∃ c r, z.cps.toList = c :: r := by
    rw [SL.len_str] at h0
    cases hz : z.cps.toList with
    | nil =>
      rw [hz] at h0
      exact absurd rfl h0
    | cons c r => exact ⟨c, r, rfl⟩
  have yes : ¬ (z.length = 0 ∨ 30 < z.length ∨ z.cps.toList.all isDg = false) := by
    rw [h2]
    intro h
    rcases h with h | h | h
    · omega
    · omega
    · cases h
  walk_at "w"
  refine u_ix_s (c := c) (sz_le (by omega)) (atI_nat (j := 0) (by rw [hc]; rfl)) ?_
  walk_at "w"
  have e0 : z.cps.toList.getD 0 0 = c := by rw [hc]; rfl
  have last : (¬ (z.cps.toList.getD 0 0 = 48 ∧ 1 < z.length)) → (tSeq (tAsg (tC (.int 0)) (gName 1)) (tSeq (tFor (iU K (tVar 0)) (gName 2) (tAsg (tOp (uAdd K) (tOp (uMul K) (tC (.int 10)) (tVar 1)) (tBM K "str" rIndexS (tC (.str "0123456789")) (tCons (tVar 2) tNil))) (gName 1))) (tRet (tVar 1)))) { nx := fun _ H' => Q .non H', rt := Q } [some (.str z), none, none] H3 := fun hn => by
    walk_at "w"
    refine st_iU_s ?_
    walk_at "w"
    refine for_it walk_str (fun i σ H' => H' = H3 ∧ ∃ x, σ = [some (.str z), some (.int ((NumText.digitsVal (z.cps.toList.take i) : Nat) : Int)), x]) ⟨rfl, _, rfl⟩ (fun _ _ _ _ _ => trivial) ?_ ?_
    · rintro i x σ H4 H' hi ⟨rfl, y, rfl⟩ ⟨rfl, d, hd, rfl⟩
      have hd2 : z.cps.toList[i]? = some d := by rw [Array.getElem?_toList]; exact hd
      have hdd : isDg d = true := List.all_eq_true.mp h2 d (List.mem_of_getElem? hd2)
      have hk : (z.cps.toList.take i).all isDg = true := List.all_eq_true.mpr fun x hx => List.all_eq_true.mp h2 x (List.mem_of_mem_take hx)
      have hlt := val_lt hk
      have hli : (z.cps.toList.take i).length ≤ 30 := by
        have := List.length_take_le' i z.cps.toList
        rw [← SL.len_str] at this
        omega
      have hp := Nat.pow_le_pow_right (show 0 < 10 by decide) hli
      have ht : NumText.digitsVal (z.cps.toList.take (i + 1)) = NumText.digitsVal (z.cps.toList.take i) * 10 + (d - 48) := by
        rw [List.take_succ, hd2]
        exact NumText.digitsVal_snoc _ _
      rw [ht]
      generalize NumText.digitsVal (z.cps.toList.take i) = m at hlt ⊢
      have hm : m < 10 ^ 30 := Nat.lt_of_lt_of_le hlt hp
      walk_at "w"
      refine u_mul (wide_mul (a := 4) (b := 200) (by decide) (by omega) (by decide) (by decide) (by decide)) ?_
      walk_at "w"
      refine ⟨ty_s, ?_⟩
      walk_at "w"
      refine ⟨DG, ⟨#[d]⟩, d - 48, rfl, rfl, dg_ix hdd, ?_⟩
      walk_at "w"
      refine ⟨rfl, some (.str ⟨#[d]⟩), ?_⟩
      have e : (10 : Int) * ((m : Nat) : Int) + ((d - 48 : Nat) : Int) = ((m * 10 + (d - 48) : Nat) : Int) := by omega
      rw [e]
      rfl
    · rintro σ H' ⟨rfl, y, rfl⟩
      have hz : z.cps.size = z.cps.toList.length := by simp
      rw [hz, List.take_length]
      walk_at "w"
      have q := q _ eA
      unfold numO at q
      rw [if_neg yes, if_neg hn] at q
      exact q
  refine ite_d (fun h4 => ?_) (fun h4 => ?_)
  · walk_at "w"
    refine u_len_s (sz_le (by omega)) ?_
    walk_at "w"
    refine ite_d (fun h5 => ?_) (fun h5 => ?_)
    · walk_at "w"
      have q := q H3 eA
      unfold numO at q
      rw [if_neg yes, if_pos ⟨by rw [e0]; exact str_one.mp h4, by omega⟩] at q
      exact q
    · exact last (fun h => h5 (by omega))
  · exact last (fun h => h4 (str_one.mpr (by rw [← e0]; exact h.1)))
end K3

namespace K3
open PySem PySem.Spec PyProof.Rows L2 SL

/-! ### a drawn number's text -/
def sp_l_law_digits (K : PySem.W.Frag) : Sp := fun vs H Q _ => ∃ (b : Addr) (n : Nat), vs = [.ref b] ∧ Box b n H ∧ n ≤ 900000 ∧ ∀ (z : Str) H', z.length ≤ 100 → Asc z → Ex [b] H H' → Box b (n + 60) H' → Q (.str z) H'
def t_l_law_digits (K : PySem.W.Frag) : TS := (tSeq (tAsg (tOp (uAdd K) (tC (.int 1)) (tCall (sp_l_law_take K) [] E0 (tCons (tVar 0) (tCons (tOp (uIx K) (tLst (tCons (tC (.int 3)) (tCons (tC (.int 7)) (tCons (tC (.int 34)) tNil)))) (tCall (sp_l_law_take K) [] E0 (tCons (tVar 0) (tCons (tC (.int 3)) tNil)))) tNil)))) (gName 1))
    (tSeq (tAsg (tBM K "str" (rJoin K) (tC (.str "")) (tCons (tLc (iRng1 (tCons (tVar 1) tNil)) (gName 6) tYes (tCB (uStr K) (tCons (tCall (sp_l_law_take K) [] E0 (tCons (tVar 0) (tCons (tC (.int 10)) tNil))) tNil)) [6]) tNil)) (gName 2))
    (tSeq (tPar 3 4 (tCons (tCall (sp_l_law_take K) [] E0 (tCons (tVar 0) (tCons (tC (.int 5)) tNil))) (tCons (tCall (sp_l_law_take K) [] E0 (tCons (tVar 0) (tCons (tVar 1) tNil))) tNil)))
    (tSeq (tIfS (tTest (tOp (uEq K) (tVar 3) (tC (.int 0)))) (tRet (tOp (uAdd K) (tOp (uAdd K) (tSl (uSl K) (tVar 2) tNoPart (tPart (tVar 4))) (tOp (uIx K) (tOp (uAdd K) (tC (.str "+- a._~/:")) (tC (.str "\n"))) (tCall (sp_l_law_take K) [] E0 (tCons (tVar 0) (tCons (tC (.int 10)) tNil))))) (tSl (uSl K) (tVar 2) (tPart (tOp (uAdd K) (tVar 4) (tC (.int 1)))) tNoPart))) tNext)
    (tSeq (tIfS (tTest (tOp (uEq K) (tVar 3) (tC (.int 1)))) (tSeq (tAsg (tLst (tCons (tC (.str "")) (tCons (tC (.str "0")) (tCons (tC (.str "00")) (tCons (tOp (uAdd K) (tC (.str "0")) (tVar 2)) (tCons (tOp (uAdd K) (tVar 2) (tC (.str " "))) (tCons (tOp (uAdd K) (tC (.str " ")) (tVar 2)) (tCons (tOp (uAdd K) (tC (.str "-")) (tVar 2)) (tCons (tOp (uAdd K) (tVar 2) (tC (.str "\n"))) (tCons (tOp (uAdd K) (tC (.str "\n")) (tVar 2)) tNil)))))))))) (gName 5))
    (tRet (tOp (uIx K) (tVar 5) (tCall (sp_l_law_take K) [] E0 (tCons (tVar 0) (tCons (tC (.int 9)) tNil)))))) tNext)
    (tRet (tVar 2)))))))
theorem len_l_law_digits {K : PySem.W.Frag} {vs : List V} {H : Hp} {Q : VK} {E : XK} (h : sp_l_law_digits K vs H Q E) : vs.length = ["_law_box_here"].length := by
  obtain ⟨b, n, rfl, _⟩ := h
  rfl
theorem pure_l_law_digits {K : PySem.W.Frag} (vs : List V) (H : Hp) (Q : VK) (E : XK) (h : sp_l_law_digits K vs H Q E) : t_l_law_digits K { nx := fun _ H' => Q .non H', rt := Q } (start ["_law_box_here", "_law_many", "_law_found", "_law_way", "_law_at", "_law_some", "_law_k"] vs) H := by
  obtain ⟨b, n, rfl, hb, hn, q⟩ := h
  show t_l_law_digits K _ [some (.ref b), none, none, none, none, none, none] H
  unfold t_l_law_digits
  walk_at "w"
  walk_at "nl"
  intro p1 H1 hp1 e1 a1
  walk_at "w"
  refine use_take (hb.ex e1 List.not_mem_nil) (by omega) (by decide) (by decide) (fun r1 H2 r10 r11 e2 hb2 => ?_)
  obtain ⟨v, hv, ⟨g, rfl, g1, g2⟩, _⟩ := at_in (xs := [V.int 3, .int 7, .int 34]) (P := fun v => ∃ g : Int, v = .int g ∧ 3 ≤ g ∧ g ≤ 34) r10 r11 (by
    refine all_cons ?_ (all_cons ?_ (all_cons ?_ all_nil)) <;> exact ⟨_, rfl, by decide, by decide⟩)
  refine u_ix_l (sqL (e2 p1 _ (hb.off hp1) a1)) hv ?_
  walk_at "w"
  refine use_take hb2 (by omega) (by omega) (by omega) (fun r2 H3 r20 r21 e3 hb3 => ?_)
  have eA : Ex [b] H H3 := (e1.nil.trans e2).trans e3
  clear e1 e2 e3 a1 hv hp1 hb2
  walk_at "w"
  have m1 : 1 ≤ 1 + r2 := by omega
  have m2 : 1 + r2 ≤ 34 := by omega
  generalize 1 + r2 = m at m1 m2 ⊢
  refine ⟨ty_s, ?_⟩
  walk_at "w"
  refine ⟨by omega, by omega, fun D hD => ?_⟩
  refine lc_u walk_range (M := [b]) (S := fun i H => Box b (n + 2 + i) H) (F := fun j y _ => ∃ z, y = .str z ∧ (z.length = 1 ∧ Asc z)) hD (hb3.off hD) (by omega) (fun _ e => hb3.ex e (List.not_mem_nil)) (fun i H2 acc ha hS acc' => hS.upd (hb3.ne hD)) (fun _ _ _ _ => trivial) (fun _ _ _ _ _ z => z) ?_ ?_
  · rintro i x H2 H' hi e2 _ hS ⟨rfl, rfl⟩ P hP
    walk_at "w"
    refine ⟨rfl, ?_⟩
    walk_at "w"
    refine use_take hS (by omega) (by decide) (by decide) (fun r3 H4 r30 r31 e4 hb4 => ?_)
    walk_at "w"
    refine u_str_i (log_10 (by omega)) ?_
    exact hP _ _ e4 ⟨_, rfl, digit_text r30 r31⟩ hb4
  intro H4 acc ha hlen e4 hF hS
  obtain ⟨ys, rfl, hy⟩ := strs_of hF
  rw [List.length_map] at hlen
  have h1 : ∀ z ∈ ys, z.length = 1 := fun z hz => (hy z hz).1
  have hyl : ys.length ≤ 34 := by omega
  walk_at "w"
  refine u_join (Or.inl (sqL ha)) (by rw [sum_ones h1]; have : ("" : Str).length = 0 := by decide +kernel
                                      rw [this]; omega) ?_
  have zl : (Txt.join "" ys).length ≤ 34 := by rw [join_len h1]; exact hyl
  have za : Asc (Txt.join "" ys) := asc_join fun z hz => (hy z hz).2
  generalize Txt.join "" ys = z at zl za ⊢
  have hb4 : Box b (n + 40) H4 := hS.mono (by omega)
  walk_at "w"
  refine use_take hb4 (by omega) (by decide) (by decide) (fun r5 H5 r50 r51 e5 hb5 => ?_)
  walk_at "w"
  refine use_take hb5 (by omega) (by omega) (by omega) (fun r6 H6 r60 r61 e6 hb6 => ?_)
  have eB : Ex [b] H H6 := ((eA.trans e4).trans e5).trans e6
  walk_at "w"
  have l0 : ("0" : Str).length = 1 := by decide +kernel
  have ls : (" " : Str).length = 1 := by decide +kernel
  have lm : ("-" : Str).length = 1 := by decide +kernel
  have lr : ("\n" : Str).length = 1 := by decide +kernel
  refine ite_d (fun h => ?_) (fun h => ?_)
  · walk_at "w"
    refine u_sl_s (sz_le (by omega)) ?_
    walk_at "w"
    refine u_add_s (by rw [sizeLine_eq]; decide +kernel) ?_
    walk_at "w"
    refine use_take hb6 (by omega) (by decide) (by decide) (fun r7 H7 r70 r71 e7 hb7 => ?_)
    have hlit : ("+- a._~/:" ++ "\n" : Str).cps.toList.length = 10 := by decide +kernel
    obtain ⟨c, hc, hm⟩ := atc_in (xs := ("+- a._~/:" ++ "\n" : Str).cps.toList) r70 (by rw [hlit]; exact r71)
    have hc2 : c < 128 := asc_of (z := ("+- a._~/:" ++ "\n" : Str)) (by decide +kernel) c hm
    refine u_ix_s (by rw [sizeLine_eq]; decide +kernel) hc ?_
    have l1 := cutS_le z none (some r6)
    have l2 := cutS_le z (some (r6 + 1)) none
    have l3 : (⟨#[c]⟩ : Str).length = 1 := rfl
    have l4 := SL.len_add (cutS z none (some r6)) ⟨#[c]⟩
    have l5 := SL.len_add (cutS z none (some r6) ++ ⟨#[c]⟩) (cutS z (some (r6 + 1)) none)
    refine u_add_s (sz_le (by omega)) ?_
    walk_at "w"
    refine u_sl_s (sz_le (by omega)) ?_
    refine u_add_s (sz_le (by omega)) ?_
    exact q _ H7 (by omega) (((za.cut _ _).add (Asc.one hc2)).add (za.cut _ _)) (eB.trans e7) (hb7.mono (by omega))
  · walk_at "w"
    refine ite_d (fun h2 => ?_) (fun h2 => ?_)
    · walk_at "w"
      refine u_add_s (sz_le (by omega)) ?_
      walk_at "w"
      refine u_add_s (sz_le (by omega)) ?_
      walk_at "w"
      refine u_add_s (sz_le (by omega)) ?_
      walk_at "w"
      refine u_add_s (sz_le (by omega)) ?_
      walk_at "w"
      refine u_add_s (sz_le (by omega)) ?_
      walk_at "w"
      refine u_add_s (sz_le (by omega)) ?_
      walk_at "w"
      walk_at "nl"
      intro p7 H7 hp7 e7 a7
      walk_at "w"
      refine use_take (hb6.ex e7 List.not_mem_nil) (by omega) (by decide) (by decide) (fun r8 H8 r80 r81 e8 hb8 => ?_)
      have A0 : Asc ("0" : Str) := asc_of (by decide +kernel)
      have As : Asc (" " : Str) := asc_of (by decide +kernel)
      have Am : Asc ("-" : Str) := asc_of (by decide +kernel)
      have Ar : Asc ("\n" : Str) := asc_of (by decide +kernel)
      obtain ⟨v, hv, ⟨y, rfl, yl, ya⟩, _⟩ := at_in (xs := [V.str "", .str "0", .str "00", .str ("0" ++ z), .str (z ++ " "), .str (" " ++ z), .str ("-" ++ z), .str (z ++ "\n"), .str ("\n" ++ z)]) (P := fun v => ∃ y : Str, v = .str y ∧ y.length ≤ 60 ∧ Asc y) r80 r81 (by
        refine all_cons ⟨_, rfl, by decide +kernel, asc_of (by decide +kernel)⟩ (all_cons ⟨_, rfl, by decide +kernel, A0⟩ (all_cons ⟨_, rfl, by decide +kernel, asc_of (by decide +kernel)⟩ (all_cons ⟨_, rfl, ?_, A0.add za⟩ (all_cons ⟨_, rfl, ?_, za.add As⟩ (all_cons ⟨_, rfl, ?_, As.add za⟩ (all_cons ⟨_, rfl, ?_, Am.add za⟩ (all_cons ⟨_, rfl, ?_, za.add Ar⟩ (all_cons ⟨_, rfl, ?_, Ar.add za⟩ all_nil)))))))) <;>
          (rw [SL.len_add]; omega))
      refine u_ix_l (sqL (e8 p7 _ (hb6.off hp7) a7)) hv ?_
      exact q y H8 (by omega) ya ((eB.trans e7.nil).trans e8) (hb8.mono (by omega))
    · walk_at "w"
      exact q z H6 (by omega) za eB (hb6.mono (by omega))
end K3

namespace K3
open PySem PySem.Spec PyProof.Rows L2 SL

theorem numL_head : ∀ (n : Nat), 0 < n → ∃ c r, TL.numL n = c :: r ∧ c ≠ 48 := by
  intro n
  induction n using Nat.strongRecOn with
  | ind n ih =>
    intro hn
    by_cases h : n < 10
    · exact ⟨48 + n, [], TL.numL_lt h, by omega⟩
    · obtain ⟨c, r, e, hc⟩ := ih (n / 10) (by omega) (by omega)
      exact ⟨c, r ++ [48 + n % 10], by rw [TL.numL_step (by omega), e]; rfl, hc⟩
theorem numO_num {n : Nat} (h : n < 10 ^ 30) : numO (Str.ofString (toString ((n : Nat) : Int))) = some (n : Int) := by
  have e : (Str.ofString (toString ((n : Nat) : Int))).cps.toList = TL.numL n := TL.tl_num n
  have hl : (TL.numL n).length ≤ 30 := TL.numL_len (by decide) h
  have hd : (TL.numL n).all isDg = true := List.all_eq_true.mpr fun c hc => by
    have := TL.numL_digits n c hc
    rw [dg_iff, Bool.and_eq_true, decide_eq_true_eq, decide_eq_true_eq]
    exact this
  have hne : (TL.numL n).length ≠ 0 := fun q => TL.numL_ne n (List.eq_nil_of_length_eq_zero q)
  unfold numO
  rw [SL.len_str, e, if_neg (by
    rw [hd]
    intro q
    rcases q with q | q | q
    · exact hne q
    · omega
    · cases q), TL.numL_val]
  rw [if_neg]
  rintro ⟨q1, q2⟩
  by_cases h0 : n = 0
  · subst h0
    rw [TL.numL_lt (by decide)] at q2
    exact absurd q2 (by decide)
  · obtain ⟨c, r, e2, hc⟩ := numL_head n (by omega)
    rw [e2] at q1
    exact hc q1
theorem okO_numO {z : Str} : OkO (numO z) := fun n h => by
  have := numO_lt h
  omega
theorem okO_inO {o : Option Int} {lo hi : Int} (h : OkO o) : OkO (inO o lo hi) := fun n e => by
  cases o with
  | none => cases e
  | some m =>
    unfold inO at e
    rw [Option.bind_some] at e
    split at e
    · injection e with e
      subst e
      exact h m rfl
    · cases e
theorem inO_wide {z : Str} {lo hi : Int} (h1 : lo ≤ 0) (h2 : 10 ^ 30 - 1 ≤ hi) : inO (numO z) lo hi = numO z := by
  cases e : numO z with
  | none => rfl
  | some n =>
    have := numO_lt e
    unfold inO
    rw [Option.bind_some, decide_eq_true (by omega), decide_eq_true (by omega)]
    rfl
/-- what the law needs of the written part -/
def fk (K : PySem.W.Frag) : Bool := fnB K (He.ga K "parse_integer") && fnB K (He.ga K "split_words")
theorem filter_none {n : Nat} {f : Nat → V} : ((List.range n).filter fun _ => false).map f = [] := by
  rw [List.filter_eq_nil_iff.mpr (fun _ _ => Bool.false_ne_true)]
  rfl
def sp_l_law_numbers_right (K : PySem.W.Frag) : Sp := fun vs H Q _ => ∃ (b : Addr) (n : Nat), vs = [.ref b] ∧ fk K = true ∧ Box b n H ∧ n ≤ 800000 ∧ ∀ H', Ex [b] H H' → Box b (n + 70) H' → Q (.bl true) H'
def t_l_law_numbers_right (K : PySem.W.Frag) : TS := (tSeq (tAsg (tCall (sp_l_law_digits K) [] E0 (tCons (tVar 0) tNil)) (gName 1))
    (tSeq (tAsg (tCall (sp_l_law_number K) [] E0 (tCons (tVar 1) tNil)) (gName 2))
    (tSeq (tAsg (tIf (tTest (tOp uIsnt (tVar 2) (tC .non))) (tCB rMin2 (tCons (tVar 2) (tCons (tOp SL.rSub (tOp SL.rPow (tC (.int 10)) (tC (.int 30))) (tC (.int 5))) tNil))) (tC (.int 50))) (gName 3))
    (tSeq (tAsg (tOp SL.rSub (tOp SL.rPow (tC (.int 10)) (tC (.int 30))) (tC (.int 1))) (gName 4))
    (tSeq (tIfS (tTest (tOp (uNe K) (tCB (uRepr K) (tCons (tKw (sp_parse_integer K) [.pos 0, .key 0, .key 1] 1 2 (tCons (tVar 1) tNil) (tCons (tOp SL.rSub (tC (.int 0)) (tVar 4)) (tCons (tVar 4) tNil))) tNil)) (tCB (uRepr K) (tCons (tVar 2) tNil)))) (tRet (tC (.bl false))) tNext)
    (tSeq (tPar 5 6 (tCons (tOp (uAdd K) (tOp SL.rSub (tVar 3) (tC (.int 2))) (tCall (sp_l_law_take K) [] E0 (tCons (tVar 0) (tCons (tC (.int 5)) tNil)))) (tCons (tOp (uAdd K) (tOp SL.rSub (tVar 3) (tC (.int 2))) (tCall (sp_l_law_take K) [] E0 (tCons (tVar 0) (tCons (tC (.int 5)) tNil)))) tNil)))
    (tSeq (tAsg (tLst (tCons (tKl (sp_parse_integer K) [.pos 0, .low 0, .low 1] [(V.int 0), (V.int 999999)] 1 0 (tCons (tVar 1) tNil) tNil) (tCons (tKw (sp_parse_integer K) [.pos 0, .key 0, .key 1] 1 2 (tCons (tVar 1) tNil) (tCons (tVar 5) (tCons (tVar 6) tNil))) (tCons (tKl (sp_parse_integer K) [.key 0, .low 0, .key 1] [(V.int 0)] 0 2 tNil (tCons (tVar 1) (tCons (tVar 6) tNil))) tNil)))) (gName 7))
    (tSeq (tAsg (tLst (tCons (tCall (sp_l_law_within K) [] E0 (tCons (tVar 2) (tCons (tC (.int 0)) (tCons (tC (.int 999999)) tNil)))) (tCons (tCall (sp_l_law_within K) [] E0 (tCons (tVar 2) (tCons (tVar 5) (tCons (tVar 6) tNil)))) (tCons (tCall (sp_l_law_within K) [] E0 (tCons (tVar 2) (tCons (tC (.int 0)) (tCons (tVar 6) tNil)))) tNil)))) (gName 8))
    (tSeq (tIfS (tTest (tOp (uNe K) (tCB (uRepr K) (tCons (tVar 7) tNil)) (tCB (uRepr K) (tCons (tVar 8) tNil)))) (tRet (tC (.bl false))) tNext)
    (tSeq (tIfS (tTest (tOp (uNe K) (tCB (uRepr K) (tCons (tKl (sp_parse_integer K) [.pos 0, .key 0, .low 0] [(V.int 999999)] 1 1 (tCons (tVar 1) tNil) (tCons (tVar 5) tNil)) tNil)) (tCB (uRepr K) (tCons (tCall (sp_l_law_within K) [] E0 (tCons (tVar 2) (tCons (tVar 5) (tCons (tC (.int 999999)) tNil)))) tNil)))) (tRet (tC (.bl false))) tNext)
    (tSeq (tFor (iU K (tLst (tCons (tC (.int 0)) (tCons (tC (.int 1)) (tCons (tC (.int 9)) (tCons (tC (.int 10)) (tCons (tC (.int 999)) (tCons (tC (.int 1000)) (tCons (tC (.int 99999)) (tCons (tC (.int 100000)) (tCons (tC (.int 999999)) (tCons (tC (.int 1000000)) (tCons (tCall (sp_l_law_take K) [] E0 (tCons (tVar 0) (tCons (tC (.int 1000000)) tNil))) tNil))))))))))))) (gName 2) (tIfS (tTest (tOp (uNe K) (tCB (uRepr K) (tCons (tKl (sp_parse_integer K) [.pos 0, .low 0, .low 1] [(V.int 0), (V.int 999999)] 1 0 (tCons (tCB (uStr K) (tCons (tVar 2) tNil)) tNil) tNil) tNil)) (tCB (uRepr K) (tCons (tCall (sp_l_law_within K) [] E0 (tCons (tVar 2) (tCons (tC (.int 0)) (tCons (tC (.int 999999)) tNil)))) tNil)))) (tRet (tC (.bl false))) tNext))
    (tSeq (tAsg (tLst (tCons (tC .non) (tCons (tC (.bl true)) (tCons (tC (.int 7)) (tCons (tLst (tCons (tC (.str "7")) tNil)) (tCons (tTup (tCons (tC (.str "7")) tNil)) (tCons (tDisp (((tC (.str "7")), (tC (.int 7))) :: [])) (tCons (tOp (wMul K) (tC (.str "7")) (tC (.int 3000))) (tCons (tC (.ref (He.ga K "split_words"))) tNil))))))))) (gName 9))
    (tRet (tOp (uEq K) (tLc (iU K (tVar 9)) (gName 10) (tTest (tOp uIsnt (tKl (sp_parse_integer K) [.pos 0, .low 0, .low 1] [(V.int 0), (V.int 999999)] 1 0 (tCons (tVar 10) tNil) tNil) (tC .non))) (tVar 10) [10]) (tLst tNil)))))))))))))))
theorem len_l_law_numbers_right {K : PySem.W.Frag} {vs : List V} {H : Hp} {Q : VK} {E : XK} (h : sp_l_law_numbers_right K vs H Q E) : vs.length = ["_law_box_here"].length := by
  obtain ⟨b, n, rfl, _⟩ := h
  rfl
theorem pure_l_law_numbers_right {K : PySem.W.Frag} (vs : List V) (H : Hp) (Q : VK) (E : XK) (h : sp_l_law_numbers_right K vs H Q E) : t_l_law_numbers_right K { nx := fun _ H' => Q .non H', rt := Q } (start ["_law_box_here", "_law_line", "_law_number_here", "_law_near", "_law_far", "_law_least", "_law_most", "_law_found", "_law_due", "_law_some", "_law_thing"] vs) H := by
  obtain ⟨b, n, rfl, k, hb, hn, q⟩ := h
  show t_l_law_numbers_right K _ [some (.ref b), none, none, none, none, none, none, none, none, none, none] H
  rw [fk, Bool.and_eq_true] at k
  unfold t_l_law_numbers_right
  walk_at "w"
  refine ⟨b, n, rfl, hb, by omega, fun z H1 hz za e1 hb1 => ?_⟩
  walk_at "w"
  refine ⟨z, rfl, by omega, za, fun H2 e2 => ?_⟩
  walk_at "w1"
  walk_at "w1"
  walk_at "w1"
  have near : ∃ m : Int, Pv (tIf (tTest (tOp uIsnt (tVar 2) (tC .non))) (tCB rMin2 (tCons (tVar 2) (tCons (tOp SL.rSub (tOp SL.rPow (tC (.int 10)) (tC (.int 30))) (tC (.int 5))) tNil))) (tC (.int 50))) [some (.ref b), some (.str z), some (vO (numO z)), none, none, none, none, none, none, none, none] H2 (.int m) := by
    cases numO z with
    | none =>
      refine ⟨50, ?_⟩
      intro Q q
      show tIf _ _ _ [some (.ref b), some (.str z), some .non, none, none, none, none, none, none, none, none] H2 Q
      walk_at "w"
      refine ite_nd (fun h => absurd rfl h) (fun _ => ?_)
      walk_at "w"
      exact q
    | some v =>
      refine ⟨(if (10 ^ (30 : Int).toNat - 5 : Int) < v then 10 ^ (30 : Int).toNat - 5 else v), ?_⟩
      intro Q q
      show tIf _ _ _ [some (.ref b), some (.str z), some (.int v), none, none, none, none, none, none, none, none] H2 Q
      walk_at "w"
      refine ite_nd (fun _ => ?_) (fun h => by cases h)
      walk_at "w"
      refine u_pow ⟨by decide, by decide, by decide⟩ ?_
      walk_at "w"
      exact q
  obtain ⟨m, near⟩ := near
  refine near _ ?_
  walk_at "w"
  refine u_pow ⟨by decide, by decide, by decide⟩ ?_
  walk_at "w"
  refine ⟨rfl, rfl, ?_⟩
  refine ⟨.str z, _, _, rfl, Or.inl ⟨z, rfl, by omega, fun H3 e3 => ?_⟩⟩
  rw [inO_wide (by decide) (by decide)]
  walk_at "w"
  refine u_repr_o okO_numO ?_
  walk_at "w"
  refine u_repr_o okO_numO ?_
  walk_at "w"
  refine ite_nd (fun h => absurd rfl h) (fun _ => ?_)
  have hb3 := hb1.ex (e2.trans e3) List.not_mem_nil
  have eA : Ex [b] H H3 := e1.trans (e2.trans e3).nil
  clear e1 e2 e3 near hb1
  walk_at "w"
  refine use_take hb3 (by omega) (by decide) (by decide) (fun r4 H4 r40 r41 e4 hb4 => ?_)
  walk_at "w"
  refine use_take hb4 (by omega) (by decide) (by decide) (fun r5 H5 r50 r51 e5 hb5 => ?_)
  walk_at "w"
  generalize m - 2 + r4 = lo
  generalize m - 2 + r5 = hi
  have eB := (eA.trans e4).trans e5
  refine ⟨rfl, rfl, ?_⟩
  refine ⟨.str z, _, _, rfl, Or.inl ⟨z, rfl, by omega, fun H6 e6 => ?_⟩⟩
  walk_at "w"
  refine ⟨rfl, rfl, ?_⟩
  refine ⟨.str z, _, _, rfl, Or.inl ⟨z, rfl, by omega, fun H7 e7 => ?_⟩⟩
  walk_at "w"
  refine ⟨rfl, rfl, ?_⟩
  refine ⟨.str z, _, _, rfl, Or.inl ⟨z, rfl, by omega, fun H8 e8 => ?_⟩⟩
  walk_at "w"
  walk_at "nl"
  intro p9 H9 hp9 e9 a9
  walk_at "w"
  refine ⟨numO z, _, _, rfl, ?_⟩
  walk_at "w"
  refine ⟨numO z, _, _, rfl, ?_⟩
  walk_at "w"
  refine ⟨numO z, _, _, rfl, ?_⟩
  walk_at "w"
  walk_at "nl"
  intro p10 H10 hp10 e10 a10
  have ok3 : ∀ o ∈ [inO (numO z) 0 999999, inO (numO z) lo hi, inO (numO z) 0 hi], OkO o := all_cons (okO_inO okO_numO) (all_cons (okO_inO okO_numO) (all_cons (okO_inO okO_numO) all_nil))
  walk_at "w"
  refine u_repr_os (os := [inO (numO z) 0 999999, inO (numO z) lo hi, inO (numO z) 0 hi]) (e10 p9 _ List.not_mem_nil a9) ok3 (Nat.le_of_ble_eq_true (by rfl)) ?_
  walk_at "w"
  refine u_repr_os (os := [inO (numO z) 0 999999, inO (numO z) lo hi, inO (numO z) 0 hi]) a10 ok3 (Nat.le_of_ble_eq_true (by rfl)) ?_
  walk_at "w"
  refine ite_nd (fun h => absurd rfl h) (fun _ => ?_)
  walk_at "w"
  refine ⟨rfl, rfl, ?_⟩
  refine ⟨.str z, _, _, rfl, Or.inl ⟨z, rfl, by omega, fun H11 e11 => ?_⟩⟩
  walk_at "w"
  refine u_repr_o (okO_inO okO_numO) ?_
  walk_at "w"
  refine ⟨numO z, _, _, rfl, ?_⟩
  walk_at "w"
  refine u_repr_o (okO_inO okO_numO) ?_
  walk_at "w"
  refine ite_nd (fun h => absurd rfl h) (fun _ => ?_)
  have eC := ((((e6.trans e7).trans e8).trans e9).trans e10).trans e11
  have hb11 := hb5.ex eC List.not_mem_nil
  have eD := eB.trans eC.nil
  clear eC e6 e7 e8 e9 e10 e11 a9 a10 hb5 eB e4 e5 eA hb4 hb3
  walk_at "w"
  refine st_iU_l ?_
  walk_at "w"
  refine use_take hb11 (by omega) (by decide) (by decide) (fun r12 H12 r120 r121 e12 hb12 => ?_)
  walk_at "w"
  walk_at "nl"
  intro p13 H13 hp13 e13 a13
  walk_at "w"
  refine ⟨⟨_, sqL a13⟩, ?_⟩
  have small : ∀ x ∈ [V.int 0, .int 1, .int 9, .int 10, .int 999, .int 1000, .int 99999, .int 100000, .int 999999, .int 1000000, .int r12], ∃ j : Nat, x = .int (j : Nat) ∧ j ≤ 1000000 := by
    refine all_cons ⟨0, rfl, by decide⟩ (all_cons ⟨1, rfl, by decide⟩ (all_cons ⟨9, rfl, by decide⟩ (all_cons ⟨10, rfl, by decide⟩ (all_cons ⟨999, rfl, by decide⟩ (all_cons ⟨1000, rfl, by decide⟩ (all_cons ⟨99999, rfl, by decide⟩ (all_cons ⟨100000, rfl, by decide⟩ (all_cons ⟨999999, rfl, by decide⟩ (all_cons ⟨1000000, rfl, by decide⟩ (all_cons ⟨r12.toNat, ?_, by omega⟩ all_nil))))))))))
    rw [Int.toNat_of_nonneg r120]
  have eE := eD.trans e12
  refine for_it (walk_list (xs := [V.int 0, .int 1, .int 9, .int 10, .int 999, .int 1000, .int 99999, .int 100000, .int 999999, .int 1000000, .int r12])) (fun i σ H' => Ex [] H12 H' ∧ Ex [] H13 H' ∧ ∃ x2 x3 x4 x5 x6 x7 x8 x9 x10, σ = [some (.ref b), some (.str z), x2, x3, x4, x5, x6, x7, x8, x9, x10]) ⟨e13, Ex.refl, _, _, _, _, _, _, _, _, _, rfl⟩ (fun i σ H _ e => sqL (e.2.1 p13 _ List.not_mem_nil a13)) ?_ ?_
  · rintro i x σ H' _ hi ⟨e, e', x2, x3, x4, x5, x6, x7, x8, x9, x10, rfl⟩ ⟨rfl, hc⟩
    obtain ⟨j, rfl, hj⟩ := small x (List.mem_of_getElem? hc)
    walk_at "w"
    refine u_str_i (log_10 (by omega)) ?_
    walk_at "w"
    have hlen : (Str.ofString (toString ((j : Nat) : Int))).length ≤ 30 := by
      rw [SL.len_str, show (Str.ofString (toString ((j : Nat) : Int))).cps.toList = TL.numL j from TL.tl_num j]
      exact TL.numL_len (by decide) (by omega)
    refine ⟨rfl, rfl, ?_⟩
    refine ⟨.str _, _, _, rfl, Or.inl ⟨_, rfl, by omega, fun H14 e14 => ?_⟩⟩
    rw [numO_num (by omega)]
    have ok1 : OkO (some ((j : Nat) : Int)) := fun n e => by
      cases e
      omega
    walk_at "w"
    refine u_repr_o (okO_inO ok1) ?_
    walk_at "w"
    refine ⟨some ((j : Nat) : Int), _, _, rfl, ?_⟩
    walk_at "w"
    refine u_repr_o (okO_inO ok1) ?_
    walk_at "w"
    refine ite_nd (fun h => absurd rfl h) (fun _ => ?_)
    walk_at "w"
    exact ⟨e.trans e14, e'.trans e14, _, _, _, _, _, _, _, _, _, rfl⟩
  · rintro σ H14 ⟨e, _, x2, x3, x4, x5, x6, x7, x8, x9, x10, rfl⟩
    have hb14 := hb12.ex e List.not_mem_nil
    have eF := eE.trans e.nil
    clear e a13 e13 eE eD e12 hb12 hb11 hp13 small
    walk_at "w"
    walk_at "nl"
    intro p1 G1 _ f1 g1
    walk_at "w"
    walk_at "nl"
    intro p2 G2 _ f2 g2
    walk_at "w"
    intro p3 hp3
    walk_at "w"
    refine u_disp1 (k := .inr "7") hp3 rfl (fun G3 f3 g3 => ?_)
    walk_at "w"
    refine .inl ⟨"7", 3000, rfl, rfl, by decide, by decide, by decide +kernel, ?_⟩
    walk_at "w"
    walk_at "nl"
    intro p4 G4 _ f4 g4
    have t1 := ((f2.trans f3).trans f4) p1 _ List.not_mem_nil g1
    have t2 := (f3.trans f4) p2 _ List.not_mem_nil g2
    have t3 := f4 p3 _ List.not_mem_nil g3
    have fs := ((f1.trans f2).trans f3).trans f4
    have hbG := hb14.ex fs List.not_mem_nil
    have eG := eF.trans fs.nil
    clear f1 f2 f3 f4 g1 g2 g3 fs hb14 eF hp3
    have things : ∀ x ∈ [V.non, .bl true, .int 7, .ref p1, .ref p2, .ref p3, .str (repS "7" (3000 : Int).toNat), .ref (He.ga K "split_words")], KyN [] K G4 "str" x ∨ x = .str (repS "7" (3000 : Int).toNat) := by
      refine all_cons (.inl ⟨_, ky_non, ?_⟩) (all_cons (.inl ⟨_, ky_bl, ?_⟩) (all_cons (.inl ⟨_, ky_int, ?_⟩) (all_cons (.inl ⟨_, ky_lst ⟨t1, List.not_mem_nil⟩, ?_⟩) (all_cons (.inl ⟨_, ky_tup ⟨t2, List.not_mem_nil⟩, ?_⟩) (all_cons (.inl ⟨_, ky_dK ⟨t3, List.not_mem_nil⟩, ?_⟩) (all_cons (.inr rfl) (all_cons (.inl ⟨_, ky_fnB k.2, ?_⟩) all_nil))))))) <;> exact kit_ty (by decide +kernel)
    have l3000 : (repS "7" (3000 : Int).toNat).length = 3000 := by
      rw [repS_len]
      decide +kernel
    walk_at "w"
    refine st_iU_l ?_
    walk_at "w"
    refine ⟨⟨_, sqL g4⟩, fun D hD => ?_⟩
    refine lc_f (walk_list (xs := [V.non, .bl true, .int 7, .ref p1, .ref p2, .ref p3, .str (repS "7" (3000 : Int).toNat), .ref (He.ga K "split_words")])) (M := []) (S := fun _ _ => True) (keep := fun _ => false) (val := fun _ => .non) hD (List.not_mem_nil) (by show 8 ≤ 90000; decide) (fun _ _ => trivial) (fun _ _ _ _ _ _ => trivial) (fun _ H2 e _ => ?_) ?_ ?_
    · have hne : p4 ≠ D := ne_of_none g4 hD
      exact sqL (e p4 _ (fun z => hne (List.mem_singleton.mp z)) g4)
    · rintro i x H2 H' hi e1 e2 _ ⟨rfl, hc⟩ PN PV hN hV
      walk_at "w"
      refine ⟨rfl, ?_⟩
      walk_at "w"
      refine ⟨rfl, rfl, ?_⟩
      rcases things x (List.mem_of_getElem? hc) with y | rfl
      · obtain ⟨t, ty, kt⟩ := y.ex e1
        refine ⟨x, _, _, rfl, Or.inr ⟨⟨t, ty.ty, kt⟩, ?_⟩⟩
        walk_at "w"
        refine ite_nd (fun h => absurd rfl h) (fun _ => ?_)
        exact hN rfl _ Ex.refl trivial
      · refine ⟨_, _, _, rfl, Or.inl ⟨_, rfl, by omega, fun H3 e3 => ?_⟩⟩
        have e0 : numO (repS "7" (3000 : Int).toNat) = none := by
          unfold numO
          rw [if_pos (.inr (.inl (by omega)))]
        rw [e0]
        walk_at "w"
        refine ite_nd (fun h => absurd rfl h) (fun _ => ?_)
        exact hN rfl _ e3 trivial
    · intro H2 ha e2 _
      rw [filter_none] at ha
      walk_at "w"
      walk_at "nl"
      intro p5 H5 hp5 e5 a5
      refine u_eq_d (d := .list []) (e := .list []) ?_ ?_ shaped_nil shaped_nil ?_
      · exact (Rp.lst (M := []) (At.lt ⟨e5 D _ List.not_mem_nil ha, List.not_mem_nil⟩) .nil).dp
      · exact (Rp.lst (M := []) (At.lt ⟨a5, List.not_mem_nil⟩) .nil).dp
      rw [eqv_nil_l]
      have eL := e2.trans e5
      exact q _ (eG.trans eL.nil) ((hbG.ex eL List.not_mem_nil).mono (by omega))
end K3

namespace K3
open PySem PySem.Spec PyProof.Rows L2 SL

/-! ### drawn words -/
theorem rep_le {z : Str} {b : Bool} : (repS z (if b = true then (1 : Int) else 0).toNat).length ≤ z.length := by
  rw [repS_len]
  cases b
  · simp
  · simp
def sp_l_law_words (K : PySem.W.Frag) : Sp := fun vs H Q _ => ∃ (b : Addr) (n : Nat) (c : Nat), vs = [.ref b, .str ⟨#[c]⟩] ∧ c < 128 ∧ Box b n H ∧ n ≤ 800000 ∧ ∀ (z : Str) H', z.length ≤ 200 → Asc z → Ex [b] H H' → Box b (n + 100) H' → Q (.str z) H'
def t_l_law_words (K : PySem.W.Frag) : TS := (tSeq (tAsg (tC (.str "abz019+-:*.,| AZ'\"x")) (gName 2))
    (tSeq (tAsg (tOp (wMul K) (tVar 1) (tCB wInt (tCons (tOp (uEq K) (tCall (sp_l_law_take K) [] E0 (tCons (tVar 0) (tCons (tC (.int 8)) tNil))) (tC (.int 0))) tNil))) (gName 3))
    (tSeq (tFor (iRng1 (tCons (tOp (uAdd K) (tC (.int 1)) (tCall (sp_l_law_take K) [] E0 (tCons (tVar 0) (tCons (tC (.int 5)) tNil)))) tNil)) (gName 4) (tSeq (tAsg (tBM K "str" (rJoin K) (tC (.str "")) (tCons (tLc (iRng1 (tCons (tOp (uAdd K) (tC (.int 1)) (tCall (sp_l_law_take K) [] E0 (tCons (tVar 0) (tCons (tC (.int 6)) tNil)))) tNil)) (gName 7) tYes (tOp (uIx K) (tVar 2) (tCall (sp_l_law_take K) [] E0 (tCons (tVar 0) (tCons (tC (.int 19)) tNil)))) [7]) tNil)) (gName 5))
    (tSeq (tAsg (tOp (uIx K) (tLst (tCons (tVar 1) (tCons (tVar 1) (tCons (tVar 1) (tCons (tVar 1) (tCons (tOp (wMul K) (tVar 1) (tC (.int 2))) (tCons (tC (.str "\n")) tNil))))))) (tCall (sp_l_law_take K) [] E0 (tCons (tVar 0) (tCons (tC (.int 6)) tNil)))) (gName 6))
    (tAsg (tOp (uAdd K) (tOp (uAdd K) (tVar 3) (tOp (wMul K) (tVar 6) (tCB wInt (tCons (tOp SL.rGt (tVar 4) (tC (.int 0))) tNil)))) (tVar 5)) (gName 3)))))
    (tRet (tOp (uAdd K) (tVar 3) (tOp (uIx K) (tLst (tCons (tVar 1) (tCons (tC (.str "\n")) (tCons (tC (.str "")) (tCons (tC (.str "")) (tCons (tC (.str "")) (tCons (tC (.str "")) tNil))))))) (tCall (sp_l_law_take K) [] E0 (tCons (tVar 0) (tCons (tC (.int 6)) tNil)))))))))
theorem len_l_law_words {K : PySem.W.Frag} {vs : List V} {H : Hp} {Q : VK} {E : XK} (h : sp_l_law_words K vs H Q E) : vs.length = ["_law_box_here", "_law_sign"].length := by
  obtain ⟨b, n, c, rfl, _⟩ := h
  rfl
theorem pure_l_law_words {K : PySem.W.Frag} (vs : List V) (H : Hp) (Q : VK) (E : XK) (h : sp_l_law_words K vs H Q E) : t_l_law_words K { nx := fun _ H' => Q .non H', rt := Q } (start ["_law_box_here", "_law_sign", "_law_letters", "_law_line", "_law_k", "_law_word", "_law_gap", "_law_j"] vs) H := by
  obtain ⟨b, n, c, rfl, hc, hb, hn, q⟩ := h
  show t_l_law_words K _ [some (.ref b), some (.str ⟨#[c]⟩), none, none, none, none, none, none] H
  have A1 : Asc ⟨#[c]⟩ := Asc.one hc
  have L1 : (⟨#[c]⟩ : Str).length = 1 := rfl
  have Ar : Asc ("\n" : Str) := asc_of (by decide +kernel)
  have lr : ("\n" : Str).length = 1 := by decide +kernel
  have Ae : Asc ("" : Str) := asc_of (by decide +kernel)
  have le : ("" : Str).length = 0 := by decide +kernel
  unfold t_l_law_words
  walk_at "w"
  refine use_take hb (by omega) (by decide) (by decide) (fun r1 H1 r10 r11 e1 hb1 => ?_)
  walk_at "w"
  refine .inr (.inr ⟨_, rfl, ?_⟩)
  generalize hf : decide (r1 = 0) = f
  have l0 := rep_le (z := ⟨#[c]⟩) (b := f)
  refine .inl ⟨⟨#[c]⟩, _, rfl, rfl, by split <;> decide, by split <;> decide, by rw [L1]; split <;> decide, ?_⟩
  have a0 : Asc (repS ⟨#[c]⟩ (if f = true then (1 : Int) else 0).toNat) := asc_rep A1
  generalize repS ⟨#[c]⟩ (if f = true then (1 : Int) else 0).toNat = line0 at l0 a0 ⊢
  walk_at "w"
  refine use_take hb1 (by omega) (by decide) (by decide) (fun r2 H2 r20 r21 e2 hb2 => ?_)
  walk_at "w"
  refine ⟨by omega, by omega, ?_⟩
  refine for_it walk_range (fun i σ H' => Ex [b] H2 H' ∧ Box b (n + 2 + 10 * i) H' ∧ ∃ (line : Str) (x4 x5 x6 x7 : Option V), line.length ≤ 1 + 10 * i ∧ Asc line ∧ σ = [some (.ref b), some (.str ⟨#[c]⟩), some (.str "abz019+-:*.,| AZ'\"x"), some (.str line), x4, x5, x6, x7]) ⟨Ex.refl, hb2, _, _, _, _, _, l0, a0, rfl⟩ (fun _ _ _ _ _ => trivial) ?_ ?_
  · rintro i x σ H3 H' hi ⟨e3, hb3, line, x4, x5, x6, x7, ll, la, rfl⟩ ⟨rfl, rfl⟩
    have hi : i < 5 := by
      have : i < (1 + r2).toNat := hi
      omega
    walk_at "w"
    refine ⟨ty_s, ?_⟩
    walk_at "w"
    refine use_take hb3 (by omega) (by decide) (by decide) (fun r4 H4 r40 r41 e4 hb4 => ?_)
    walk_at "w"
    refine ⟨by omega, by omega, fun D hD => ?_⟩
    refine lc_u walk_range (M := [b]) (S := fun j H => Box b (n + 3 + 10 * i + j) H) (F := fun j y _ => ∃ z, y = .str z ∧ (z.length = 1 ∧ Asc z)) hD (hb4.off hD) (by omega) (fun _ e => (hb4.ex e List.not_mem_nil).mono (by omega)) (fun i H2 acc ha hS acc' => hS.upd (hb4.ne hD)) (fun _ _ _ _ => trivial) (fun _ _ _ _ _ z => z) ?_ ?_
    · rintro j x H2 H' hj e2 _ hS ⟨rfl, rfl⟩ P hP
      walk_at "w"
      refine ⟨rfl, ?_⟩
      walk_at "w"
      refine use_take hS (by omega) (by decide) (by decide) (fun r5 H5 r50 r51 e5 hb5 => ?_)
      have hlit : ("abz019+-:*.,| AZ'\"x" : Str).cps.toList.length = 19 := by decide +kernel
      obtain ⟨d, hd, hm⟩ := atc_in (xs := ("abz019+-:*.,| AZ'\"x" : Str).cps.toList) r50 (by rw [hlit]; exact r51)
      have hd2 : d < 128 := asc_of (z := "abz019+-:*.,| AZ'\"x") (by decide +kernel) d hm
      refine u_ix_s (by rw [sizeLine_eq]; decide +kernel) hd ?_
      exact hP _ _ e5 ⟨_, rfl, rfl, Asc.one hd2⟩ hb5
    intro H5 acc ha hlen e5 hF hS
    obtain ⟨ys, rfl, hy⟩ := strs_of hF
    rw [List.length_map] at hlen
    have h1 : ∀ z ∈ ys, z.length = 1 := fun z hz => (hy z hz).1
    have hyl : ys.length ≤ 6 := by omega
    walk_at "w"
    refine u_join (Or.inl (sqL ha)) (by rw [sum_ones h1, le]; omega) ?_
    have zl : (Txt.join "" ys).length ≤ 6 := by rw [join_len h1]; exact hyl
    have za : Asc (Txt.join "" ys) := asc_join fun z hz => (hy z hz).2
    generalize Txt.join "" ys = word at zl za ⊢
    have hb5 : Box b (n + 10 + 10 * i) H5 := hS.mono (by omega)
    walk_at "w"
    refine .inl ⟨⟨#[c]⟩, 2, rfl, rfl, by decide, by decide, by rw [L1]; decide, ?_⟩
    walk_at "w"
    walk_at "nl"
    intro p6 H6 hp6 e6 a6
    walk_at "w"
    refine use_take (hb5.ex e6 List.not_mem_nil) (by omega) (by decide) (by decide) (fun r7 H7 r70 r71 e7 hb7 => ?_)
    obtain ⟨v, hv, ⟨gap, rfl, gl, ga⟩, _⟩ := at_in (xs := [V.str ⟨#[c]⟩, .str ⟨#[c]⟩, .str ⟨#[c]⟩, .str ⟨#[c]⟩, .str (repS ⟨#[c]⟩ (2 : Int).toNat), .str "\n"]) (P := fun v => ∃ y : Str, v = .str y ∧ y.length ≤ 2 ∧ Asc y) r70 r71 (by
      refine all_cons ⟨_, rfl, by rw [L1]; decide, A1⟩ (all_cons ⟨_, rfl, by rw [L1]; decide, A1⟩ (all_cons ⟨_, rfl, by rw [L1]; decide, A1⟩ (all_cons ⟨_, rfl, by rw [L1]; decide, A1⟩ (all_cons ⟨_, rfl, by rw [repS_len, L1]; decide, asc_rep A1⟩ (all_cons ⟨_, rfl, by rw [lr]; decide, Ar⟩ all_nil))))))
    refine u_ix_l (sqL (e7 p6 _ (hb5.off hp6) a6)) hv ?_
    walk_at "w"
    refine .inr (.inr ⟨_, rfl, ?_⟩)
    generalize decide (0 < 0 + (i : Int)) = f2
    have l8 := rep_le (z := gap) (b := f2)
    have a8 : Asc (repS gap (if f2 = true then (1 : Int) else 0).toNat) := asc_rep ga
    refine .inl ⟨gap, _, rfl, rfl, by split <;> decide, by split <;> decide, ?_, ?_⟩
    · have : (if f2 = true then (1 : Int) else 0).toNat ≤ 1 := by split <;> decide
      have := Nat.mul_le_mul gl this
      omega
    generalize repS gap (if f2 = true then (1 : Int) else 0).toNat = g2 at l8 a8 ⊢
    walk_at "w"
    have s1 := SL.len_add line g2
    have s2 := SL.len_add (line ++ g2) word
    refine u_add_s (sz_le (by omega)) ?_
    walk_at "w"
    refine u_add_s (sz_le (by omega)) ?_
    walk_at "w"
    exact ⟨(((e3.trans e4).trans e5).trans e6.nil).trans e7, hb7.mono (by omega), _, _, _, _, _, by omega, (la.add a8).add za, rfl⟩
  · rintro σ H3 ⟨e3, hb3, line, x4, x5, x6, x7, ll, la, rfl⟩
    have hb3 : Box b (n + 60) H3 := hb3.mono (by omega)
    have ll : line.length ≤ 51 := by omega
    walk_at "w"
    walk_at "nl"
    intro p4 H4 hp4 e4 a4
    walk_at "w"
    refine use_take (hb3.ex e4 List.not_mem_nil) (by omega) (by decide) (by decide) (fun r5 H5 r50 r51 e5 hb5 => ?_)
    obtain ⟨v, hv, ⟨y, rfl, yl, ya⟩, _⟩ := at_in (xs := [V.str ⟨#[c]⟩, .str "\n", .str "", .str "", .str "", .str ""]) (P := fun v => ∃ y : Str, v = .str y ∧ y.length ≤ 2 ∧ Asc y) r50 r51 (by
      refine all_cons ⟨_, rfl, by rw [L1]; decide, A1⟩ (all_cons ⟨_, rfl, by rw [lr]; decide, Ar⟩ (all_cons ⟨_, rfl, by rw [le]; decide, Ae⟩ (all_cons ⟨_, rfl, by rw [le]; decide, Ae⟩ (all_cons ⟨_, rfl, by rw [le]; decide, Ae⟩ (all_cons ⟨_, rfl, by rw [le]; decide, Ae⟩ all_nil))))))
    refine u_ix_l (sqL (e5 p4 _ (hb3.off hp4) a4)) hv ?_
    have s1 := SL.len_add line y
    refine u_add_s (sz_le (by omega)) ?_
    exact q _ H5 (by omega) (la.add ya) ((((e1.trans e2).trans e3).trans e4.nil).trans e5) (hb5.mono (by omega))
/-! ### what the words' parts are -/
theorem inV_strs {x : Str} {ys : List Str} : inV (.str x) (ys.map V.str) = decide (x ∈ ys) := by
  unfold inV
  rw [Bool.eq_iff_iff, List.any_eq_true, decide_eq_true_eq]
  constructor
  · rintro ⟨v, hv, e⟩
    obtain ⟨y, hy, rfl⟩ := List.mem_map.mp hv
    have : y = x := by simpa [eqV] using e
    rw [← this]
    exact hy
  · intro h
    exact ⟨.str x, List.mem_map.mpr ⟨x, h, rfl⟩, by simp [eqV]⟩
theorem parts_asc {c : Nat} {z : Str} (h : Asc z) : ∀ y ∈ partsS c z, Asc y := by
  intro y hy
  obtain ⟨l, hl, rfl⟩ := List.mem_map.mp hy
  intro d hd
  rw [toS_cps] at hd
  exact parts_mem (P := fun d => d < 128) z.cps.toList [] h (fun _ z => absurd z List.not_mem_nil) l hl d hd
theorem bulk_strs {m : Nat} : ∀ {ys : List Str}, (∀ y ∈ ys, y.length ≤ m) → PyData.bulkAll (ys.map PyData.str) ≤ ys.length * (m + 1)
  | [], _ => by simp [PyData.bulkAll]
  | y :: r, h => by
    have h1 : y.cps.size ≤ m := h y (List.mem_cons_self ..)
    have h2 := bulk_strs (ys := r) (fun x hx => h x (List.mem_cons_of_mem _ hx))
    rw [List.map_cons, PyData.bulkAll, List.length_cons, Nat.succ_mul]
    simp only [PyData.bulk]
    omega
theorem bulk_parts {c : Nat} {z : Str} (h : z.length ≤ 200) : PyData.bulkAll ((partsS c z).map PyData.str) ≤ 200000 := by
  have h1 : ∀ y ∈ partsS c z, y.length ≤ 200 := by
    intro y hy
    obtain ⟨l, hl, rfl⟩ := List.mem_map.mp hy
    rw [SL.len_str, toS_cps]
    exact parts_len_le z.cps.toList [] (by rw [List.length_nil, ← SL.len_str]; omega) l hl
  have h2 : (partsS c z).length ≤ 201 := by
    unfold partsS
    rw [List.length_map]
    have := parts_length (c := c) z.cps.toList []
    rw [← SL.len_str] at this
    omega
  have h3 := bulk_strs h1
  have h4 : (partsS c z).length * (200 + 1) ≤ 201 * 201 := Nat.mul_le_mul h2 (by decide)
  omega
theorem u_repr_parts {K : PySem.W.Frag} {H : Hp} {Q : VK} {a : Addr} {c : Nat} {z : Str} (h : H a = some (.lst ((partsS c z).map V.str))) (hl : z.length ≤ 200) (za : Asc z) (q : Q (.str (PyData.list ((partsS c z).map PyData.str)).shown) H) : uRepr K [.ref a] H Q :=
  u_repr_l (sqL h) (RpA.strs _) (fun d hd => by
    obtain ⟨y, hy, rfl⟩ := List.mem_map.mp hd
    exact short_str 60 (parts_asc za y hy)) (bulk_parts hl) q
theorem eqv_strs {ys : List Str} (h : ∀ y ∈ ys, Asc y) : PyData.eqv (.list (ys.map PyData.str)) (.list (ys.map PyData.str)) = true := by
  refine SeqAt.eqv_refl _ ?_
  have := shaped_strs h
  unfold SeqAt.shaped at this
  simp only [Bool.and_eq_true] at this
  exact this.1
/-- two lists of the same texts -/
theorem u_eq_strs {K : PySem.W.Frag} {H : Hp} {Q : VK} {a b : Addr} {ys : List Str} (h1 : H a = some (.lst (ys.map V.str))) (h2 : H b = some (.lst (ys.map V.str))) (hy : ∀ y ∈ ys, Asc y) (q : Q (.bl true) H) : uEq K (.ref a) (.ref b) H Q := by
  refine u_eq_d (d := .list (ys.map PyData.str)) (e := .list (ys.map PyData.str)) ?_ ?_ (shaped_strs hy) (shaped_strs hy) ?_
  · exact (Rp.lst (M := []) (At.lt ⟨h1, List.not_mem_nil⟩) (RpA.strs _)).dp
  · exact (Rp.lst (M := []) (At.lt ⟨h2, List.not_mem_nil⟩) (RpA.strs _)).dp
  rw [eqv_strs hy]
  exact q
theorem u_ne_strs {K : PySem.W.Frag} {H : Hp} {Q : VK} {a b : Addr} {ys : List Str} (h1 : H a = some (.lst (ys.map V.str))) (h2 : H b = some (.lst (ys.map V.str))) (hy : ∀ y ∈ ys, Asc y) (q : Q (.bl false) H) : uNe K (.ref a) (.ref b) H Q := by
  refine u_ne_d (d := .list (ys.map PyData.str)) (e := .list (ys.map PyData.str)) ?_ ?_ (shaped_strs hy) (shaped_strs hy) ?_
  · exact (Rp.lst (M := []) (At.lt ⟨h1, List.not_mem_nil⟩) (RpA.strs _)).dp
  · exact (Rp.lst (M := []) (At.lt ⟨h2, List.not_mem_nil⟩) (RpA.strs _)).dp
  rw [eqv_strs hy]
  exact q
end K3

namespace K3
open PySem PySem.Spec PyProof.Rows L2 SL

theorem sp32 : (" " : Str) = ⟨#[32]⟩ := str_ext (by decide +kernel)
theorem pl43 : ("+" : Str) = ⟨#[43]⟩ := str_ext (by decide +kernel)
def sp_l_law_words_right (K : PySem.W.Frag) : Sp := fun vs H Q _ => ∃ (b : Addr) (n : Nat), vs = [.ref b] ∧ fk K = true ∧ Box b n H ∧ n ≤ 700000 ∧ ∀ H', Ex [b] H H' → Box b (n + 110) H' → Q (.bl true) H'
def t_l_law_words_right (K : PySem.W.Frag) : TS := (tSeq (tAsg (tOp (uIx K) (tC (.str " +:,|-aA0'")) (tCall (sp_l_law_take K) [] E0 (tCons (tVar 0) (tCons (tC (.int 10)) tNil)))) (gName 1))
    (tSeq (tAsg (tCall (sp_l_law_words K) [] E0 (tCons (tVar 0) (tCons (tVar 1) tNil))) (gName 2))
    (tSeq (tFor (iRng1 (tCons (tC (.int 2)) tNil)) (gName 3) (tSeq (tAsg (tKw (sp_split_words K) [.pos 0, .key 0] 1 1 (tCons (tVar 2) tNil) (tCons (tVar 1) tNil)) (gName 5))
    (tSeq (tIfS (tTest (tOp (uNe K) (tCB (uRepr K) (tCons (tVar 5) tNil)) (tCB (uRepr K) (tCons (tCall (sp_l_law_parted K) [] E0 (tCons (tVar 2) (tCons (tVar 1) tNil))) tNil)))) (tRet (tC (.bl false))) tNext)
    (tIfS (tTest (tOp uIsnt (tVar 5) (tC .non))) (tDrop (tBM K "list" rAppend (tVar 5) (tCons (tC (.str "late")) tNil))) tNext))))
    (tSeq (tIfS (tOr (tTest (tOp (uNe K) (tCB (uRepr K) (tCons (tKl (sp_split_words K) [.pos 0, .low 0] [(V.str " ")] 1 0 (tCons (tVar 2) tNil) tNil) tNil)) (tCB (uRepr K) (tCons (tCall (sp_l_law_parted K) [] E0 (tCons (tVar 2) (tCons (tC (.str " ")) tNil))) tNil)))) (tTest (tOp (uNe K) (tKw (sp_split_words K) [.key 1, .key 0] 0 2 tNil (tCons (tVar 1) (tCons (tC (.str "~")) tNil))) (tLst (tCons (tC (.str "~")) tNil))))) (tRet (tC (.bl false))) tNext)
    (tSeq (tIfS (tTest (tOp (uNe K) (tKw (sp_split_words K) [.pos 0, .key 0] 1 1 (tCons (tC (.str "a b+ c +d")) tNil) (tCons (tC (.str "+")) tNil)) (tLst (tCons (tC (.str "a b")) (tCons (tC (.str " c ")) (tCons (tC (.str "d")) tNil)))))) (tRet (tC (.bl false))) tNext)
    (tSeq (tAsg (tLst (tCons (tC .non) (tCons (tC (.bl true)) (tCons (tC (.int 3)) (tCons (tLst (tCons (tC (.str "a")) tNil)) (tCons (tTup (tCons (tC (.str "a")) (tCons (tC (.str "b")) tNil))) (tCons (tDisp (((tC (.str "a")), (tC (.int 1))) :: [])) (tCons (tC (.str "")) (tCons (tC (.str " ")) (tCons (tC (.str "\n")) (tCons (tC (.ref (He.ga K "parse_integer"))) tNil))))))))))) (gName 4))
    (tRet (tOp (uEq K) (tLc (iU K (tVar 4)) (gName 6) (tTest (tOp uIsnt (tKl (sp_split_words K) [.pos 0, .low 0] [(V.str " ")] 1 0 (tCons (tVar 6) tNil) tNil) (tC .non))) (tVar 6) [6]) (tLst tNil)))))))))
theorem len_l_law_words_right {K : PySem.W.Frag} {vs : List V} {H : Hp} {Q : VK} {E : XK} (h : sp_l_law_words_right K vs H Q E) : vs.length = ["_law_box_here"].length := by
  obtain ⟨b, n, rfl, _⟩ := h
  rfl
theorem tilde {c : Nat} (h : c ≠ 126) : partsS c "~" = [("~" : Str)] := by
  have e : ("~" : Str).cps.toList = [126] := by decide +kernel
  unfold partsS
  rw [e]
  unfold parts
  rw [if_neg (fun q => h q.symm)]
  unfold parts
  rw [List.map_cons, List.map_nil]
  have : toS ([] ++ [126]) = ("~" : Str) := str_ext (by rw [toS_cps]; decide +kernel)
  rw [this]
theorem pure_l_law_words_right {K : PySem.W.Frag} (vs : List V) (H : Hp) (Q : VK) (E : XK) (h : sp_l_law_words_right K vs H Q E) : t_l_law_words_right K { nx := fun _ H' => Q .non H', rt := Q } (start ["_law_box_here", "_law_sign", "_law_line", "_law_lap", "_law_some", "_law_found", "_law_thing"] vs) H := by
  obtain ⟨b, n, rfl, k, hb, hn, q⟩ := h
  show t_l_law_words_right K _ [some (.ref b), none, none, none, none, none, none] H
  rw [fk, Bool.and_eq_true] at k
  unfold t_l_law_words_right
  walk_at "w"
  refine use_take hb (by omega) (by decide) (by decide) (fun r1 H1 r10 r11 e1 hb1 => ?_)
  have hlit : (" +:,|-aA0'" : Str).cps.toList.length = 10 := by decide +kernel
  obtain ⟨c, hc, hm⟩ := atc_in (xs := (" +:,|-aA0'" : Str).cps.toList) r10 (by rw [hlit]; exact r11)
  have hc2 : c < 128 := asc_of (z := " +:,|-aA0'") (by decide +kernel) c hm
  have hct : c ≠ 126 := fun q => by
    rw [q] at hm
    revert hm
    decide +kernel
  refine u_ix_s (by rw [sizeLine_eq]; decide +kernel) hc ?_
  walk_at "w"
  refine ⟨b, n + 1, c, rfl, hc2, hb1, by omega, fun z H2 hz za e2 hb2 => ?_⟩
  walk_at "w"
  refine ⟨by decide, by decide, ?_⟩
  refine for_it walk_range (fun i σ H' => Ex [] H2 H' ∧ ∃ x3 x5, σ = [some (.ref b), some (.str ⟨#[c]⟩), some (.str z), x3, none, x5, none]) ⟨Ex.refl, _, _, rfl⟩ (fun _ _ _ _ _ => trivial) ?_ ?_
  · rintro i x σ H3 H' hi ⟨e3, x3, x5, rfl⟩ ⟨rfl, rfl⟩
    walk_at "w"
    refine ⟨rfl, rfl, ?_⟩
    refine ⟨.str z, ⟨#[c]⟩, c, rfl, rfl, by omega, Or.inl ⟨z, rfl, by omega, fun hbad H4 e4 => ?_, fun hbad p H4 hp e4 a4 => ?_⟩⟩
    · walk_at "w"
      refine u_repr_o (o := none) (fun n h => by cases h) ?_
      walk_at "w"
      refine ⟨z, ⟨#[c]⟩, c, rfl, rfl, by omega, fun _ H5 e5 => ?_, fun h2 => (by rw [hbad] at h2; cases h2)⟩
      walk_at "w"
      refine u_repr_o (o := none) (fun n h => by cases h) ?_
      walk_at "w"
      refine ite_nd (fun h => absurd rfl h) (fun _ => ?_)
      walk_at "w"
      refine ite_nd (fun h => absurd rfl h) (fun _ => ?_)
      walk_at "w"
      exact ⟨(e3.trans e4).trans e5, _, _, rfl⟩
    · walk_at "w"
      refine u_repr_parts a4 hz za ?_
      walk_at "w"
      refine ⟨z, ⟨#[c]⟩, c, rfl, rfl, by omega, fun h2 => (by rw [hbad] at h2; cases h2), fun _ p5 H5 hp5 e5 a5 => ?_⟩
      walk_at "w"
      refine u_repr_parts a5 hz za ?_
      walk_at "w"
      refine ite_nd (fun h => absurd rfl h) (fun _ => ?_)
      walk_at "w"
      refine ite_nd (fun _ => ?_) (fun h => by cases h)
      walk_at "w"
      have a4' := e5 p _ List.not_mem_nil a4
      refine ⟨ty_l (sqL a4'), ?_⟩
      walk_at "w"
      refine u_append a4' ?_ ?_
      · rw [List.length_map]
        unfold partsS
        rw [List.length_map]
        have := parts_length (c := c) z.cps.toList []
        rw [← SL.len_str] at this
        exact sz_lt (by omega)
      walk_at "w"
      refine ⟨fun a o m y => ?_, _, _, rfl⟩
      have hne : a ≠ p := ne_of_none (e3 a o m y) hp
      rw [upd_ne hne]
      exact (e3.trans (e4.trans e5)) a o m y
  · rintro σ H3 ⟨e3, x3, x5, rfl⟩
    have hb3 := hb2.ex e3 List.not_mem_nil
    have eA := (e1.trans e2).trans e3.nil
    clear e1 e2 e3 hb2 hb1
    have mid : ∀ (H4 : Hp), Ex [] H3 H4 → (tSeq (tAsg (tLst (tCons (tC .non) (tCons (tC (.bl true)) (tCons (tC (.int 3)) (tCons (tLst (tCons (tC (.str "a")) tNil)) (tCons (tTup (tCons (tC (.str "a")) (tCons (tC (.str "b")) tNil))) (tCons (tDisp (((tC (.str "a")), (tC (.int 1))) :: [])) (tCons (tC (.str "")) (tCons (tC (.str " ")) (tCons (tC (.str "\n")) (tCons (tC (.ref (He.ga K "parse_integer"))) tNil))))))))))) (gName 4))
    (tRet (tOp (uEq K) (tLc (iU K (tVar 4)) (gName 6) (tTest (tOp uIsnt (tKl (sp_split_words K) [.pos 0, .low 0] [(V.str " ")] 1 0 (tCons (tVar 6) tNil) tNil) (tC .non))) (tVar 6) [6]) (tLst tNil)))) { nx := fun _ H' => Q .non H', rt := Q } [some (.ref b), some (.str ⟨#[c]⟩), some (.str z), x3, none, x5, none] H4 := by
      intro H4 e4
      walk_at "w"
      walk_at "nl"
      intro p1 G1 _ f1 g1
      walk_at "w"
      walk_at "nl"
      intro p2 G2 _ f2 g2
      walk_at "w"
      intro p3 hp3
      walk_at "w"
      refine u_disp1 (k := .inr "a") hp3 rfl (fun G3 f3 g3 => ?_)
      walk_at "w"
      walk_at "nl"
      intro p4 G4 _ f4 g4
      have t1 := ((f2.trans f3).trans f4) p1 _ List.not_mem_nil g1
      have t2 := (f3.trans f4) p2 _ List.not_mem_nil g2
      have t3 := f4 p3 _ List.not_mem_nil g3
      have fs := (((e4.trans f1).trans f2).trans f3).trans f4
      have hbG := hb3.ex fs List.not_mem_nil
      have eG := eA.trans fs.nil
      clear f1 f2 f3 f4 g1 g2 g3 fs hp3
      have things : ∀ x ∈ [V.non, .bl true, .int 3, .ref p1, .ref p2, .ref p3, .str "", .str " ", .str "\n", .ref (He.ga K "parse_integer")], KyN [] K G4 "str" x ∨ ∃ y : Str, x = .str y ∧ y.length ≤ 10 ∧ bad 32 y = true := by
        refine all_cons (.inl ⟨_, ky_non, ?_⟩) (all_cons (.inl ⟨_, ky_bl, ?_⟩) (all_cons (.inl ⟨_, ky_int, ?_⟩) (all_cons (.inl ⟨_, ky_lst ⟨t1, List.not_mem_nil⟩, ?_⟩) (all_cons (.inl ⟨_, ky_tup ⟨t2, List.not_mem_nil⟩, ?_⟩) (all_cons (.inl ⟨_, ky_dK ⟨t3, List.not_mem_nil⟩, ?_⟩)
          (all_cons (.inr ⟨_, rfl, by decide +kernel, by decide +kernel⟩) (all_cons (.inr ⟨_, rfl, by decide +kernel, by decide +kernel⟩) (all_cons (.inr ⟨_, rfl, by decide +kernel, by decide +kernel⟩) (all_cons (.inl ⟨_, ky_fnB k.1, ?_⟩) all_nil))))))))) <;> exact kit_ty (by decide +kernel)
      walk_at "w"
      refine st_iU_l ?_
      walk_at "w"
      refine ⟨⟨_, sqL g4⟩, fun D hD => ?_⟩
      refine lc_f (walk_list (xs := [V.non, .bl true, .int 3, .ref p1, .ref p2, .ref p3, .str "", .str " ", .str "\n", .ref (He.ga K "parse_integer")])) (M := []) (S := fun _ _ => True) (keep := fun _ => false) (val := fun _ => .non) hD (List.not_mem_nil) (by show 10 ≤ 90000; decide) (fun _ _ => trivial) (fun _ _ _ _ _ _ => trivial) (fun _ H2 e _ => ?_) ?_ ?_
      · have hne : p4 ≠ D := ne_of_none g4 hD
        exact sqL (e p4 _ (fun z => hne (List.mem_singleton.mp z)) g4)
      · rintro i x H2 H' hi e1 e2 _ ⟨rfl, hc⟩ PN PV hN hV
        walk_at "w"
        refine ⟨rfl, ?_⟩
        walk_at "w"
        refine ⟨rfl, rfl, ?_⟩
        rcases things x (List.mem_of_getElem? hc) with y | ⟨y, rfl, yl, yb⟩
        · obtain ⟨t, ty, kt⟩ := y.ex e1
          refine ⟨x, " ", 32, rfl, by decide +kernel, by decide, Or.inr ⟨⟨t, ty.ty, kt⟩, ?_⟩⟩
          walk_at "w"
          refine ite_nd (fun h => absurd rfl h) (fun _ => ?_)
          exact hN rfl _ Ex.refl trivial
        · refine ⟨.str y, " ", 32, rfl, by decide +kernel, by decide, Or.inl ⟨y, rfl, by omega, fun _ H3 e3 => ?_, fun h2 => (by rw [yb] at h2; cases h2)⟩⟩
          walk_at "w"
          refine ite_nd (fun h => absurd rfl h) (fun _ => ?_)
          exact hN rfl _ e3 trivial
      · intro H2 ha e2 _
        rw [filter_none] at ha
        walk_at "w"
        walk_at "nl"
        intro p5 H5 hp5 e5 a5
        refine u_eq_d (d := .list []) (e := .list []) ?_ ?_ shaped_nil shaped_nil ?_
        · exact (Rp.lst (M := []) (At.lt ⟨e5 D _ List.not_mem_nil ha, List.not_mem_nil⟩) .nil).dp
        · exact (Rp.lst (M := []) (At.lt ⟨a5, List.not_mem_nil⟩) .nil).dp
        rw [eqv_nil_l]
        have eL := e2.trans e5
        exact q _ (eG.trans eL.nil) ((hbG.ex eL List.not_mem_nil).mono (by omega))
    -- by the blank, and two words of one's own
    have third : ∀ (H4 : Hp), Ex [] H3 H4 → (tSeq (tIfS (tTest (tOp (uNe K) (tKw (sp_split_words K) [.pos 0, .key 0] 1 1 (tCons (tC (.str "a b+ c +d")) tNil) (tCons (tC (.str "+")) tNil)) (tLst (tCons (tC (.str "a b")) (tCons (tC (.str " c ")) (tCons (tC (.str "d")) tNil)))))) (tRet (tC (.bl false))) tNext)
      (tSeq (tAsg (tLst (tCons (tC .non) (tCons (tC (.bl true)) (tCons (tC (.int 3)) (tCons (tLst (tCons (tC (.str "a")) tNil)) (tCons (tTup (tCons (tC (.str "a")) (tCons (tC (.str "b")) tNil))) (tCons (tDisp (((tC (.str "a")), (tC (.int 1))) :: [])) (tCons (tC (.str "")) (tCons (tC (.str " ")) (tCons (tC (.str "\n")) (tCons (tC (.ref (He.ga K "parse_integer"))) tNil))))))))))) (gName 4))
    (tRet (tOp (uEq K) (tLc (iU K (tVar 4)) (gName 6) (tTest (tOp uIsnt (tKl (sp_split_words K) [.pos 0, .low 0] [(V.str " ")] 1 0 (tCons (tVar 6) tNil) tNil) (tC .non))) (tVar 6) [6]) (tLst tNil))))) { nx := fun _ H' => Q .non H', rt := Q } [some (.ref b), some (.str ⟨#[c]⟩), some (.str z), x3, none, x5, none] H4 := by
      intro H4 e4
      walk_at "w1"
      walk_at "w"
      refine ⟨rfl, rfl, ?_⟩
      have hb43 : bad 43 "a b+ c +d" = false := by decide +kernel
      have hp43 : partsS 43 "a b+ c +d" = [("a b" : Str), (" c " : Str), ("d" : Str)] := by decide +kernel
      refine ⟨.str _, "+", 43, rfl, by decide +kernel, by decide, Or.inl ⟨_, rfl, by decide +kernel, fun h2 => (by rw [hb43] at h2; cases h2), fun _ p5 H5 hp5 e5 a5 => ?_⟩⟩
      rw [hp43] at a5
      walk_at "w"
      walk_at "nl"
      intro p6 H6 hp6 e6 a6
      refine u_ne_strs (ys := [("a b" : Str), (" c " : Str), ("d" : Str)]) (e6 p5 _ List.not_mem_nil a5) a6 (all_cons (asc_of (by decide +kernel)) (all_cons (asc_of (by decide +kernel)) (all_cons (asc_of (by decide +kernel)) all_nil))) ?_
      walk_at "w"
      exact mid H6 ((e4.trans e5).trans e6)
    have second : ∀ (H4 : Hp), Ex [] H3 H4 → ∀ QB : Bool → Hp → Prop, (∀ H5, Ex [] H3 H5 → QB false H5) → (tTest (tOp (uNe K) (tKw (sp_split_words K) [.key 1, .key 0] 0 2 tNil (tCons (tVar 1) (tCons (tC (.str "~")) tNil))) (tLst (tCons (tC (.str "~")) tNil)))) [some (.ref b), some (.str ⟨#[c]⟩), some (.str z), x3, none, x5, none] H4 QB := by
      intro H4 e4 QB hQ
      walk_at "w"
      refine ⟨rfl, rfl, ?_⟩
      have hbt : bad c "~" = false := by
        unfold bad
        rw [tilde hct]
        decide +kernel
      refine ⟨.str _, ⟨#[c]⟩, c, rfl, rfl, by omega, Or.inl ⟨_, rfl, by decide +kernel, fun h2 => (by rw [hbt] at h2; cases h2), fun _ p5 H5 hp5 e5 a5 => ?_⟩⟩
      rw [tilde hct] at a5
      walk_at "w"
      walk_at "nl"
      intro p6 H6 hp6 e6 a6
      refine u_ne_strs (ys := [("~" : Str)]) (e6 p5 _ List.not_mem_nil a5) a6 (all_cons (asc_of (by decide +kernel)) all_nil) ?_
      walk_at "w"
      exact hQ _ ((e4.trans e5).trans e6)
    walk_at "w"
    refine ⟨rfl, rfl, ?_⟩
    refine ⟨.str z, " ", 32, rfl, by decide +kernel, by decide, Or.inl ⟨z, rfl, by omega, fun hbad H4 e4 => ?_, fun hbad p H4 hp e4 a4 => ?_⟩⟩
    · walk_at "w"
      refine u_repr_o (o := none) (fun n h => by cases h) ?_
      walk_at "w"
      refine ⟨z, " ", 32, rfl, by decide +kernel, by omega, fun _ H5 e5 => ?_, fun h2 => (by rw [hbad] at h2; cases h2)⟩
      walk_at "w"
      refine u_repr_o (o := none) (fun n h => by cases h) ?_
      walk_at "w"
      refine ite_nd (fun h => absurd rfl h) (fun _ => ?_)
      refine second H5 (e4.trans e5) _ (fun H6 e6 => ?_)
      refine L2.iteF ?_
      refine SL.st_nx ?_
      exact third H6 e6
    · walk_at "w"
      refine u_repr_parts a4 hz za ?_
      walk_at "w"
      refine ⟨z, " ", 32, rfl, by decide +kernel, by omega, fun h2 => (by rw [hbad] at h2; cases h2), fun _ p5 H5 hp5 e5 a5 => ?_⟩
      walk_at "w"
      refine u_repr_parts a5 hz za ?_
      walk_at "w"
      refine ite_nd (fun h => absurd rfl h) (fun _ => ?_)
      refine second H5 (e4.trans e5) _ (fun H6 e6 => ?_)
      refine L2.iteF ?_
      refine SL.st_nx ?_
      exact third H6 e6
end K3

namespace K3
open PySem PySem.Spec PyProof.Rows L2 SL

theorem ab_one {l : List Nat} : parts 32 [] (97 :: 98 :: 32 :: l) = [97, 98] :: parts 32 [] l := by simp [parts]
theorem parts_ab : ∀ (n : Nat) (rest : List Nat), parts 32 [] ((List.replicate n [97, 98, 32]).flatten ++ rest) = List.replicate n [97, 98] ++ parts 32 [] rest
  | 0, rest => by simp
  | n + 1, rest => by
    have e := ab_one (l := (List.replicate n [97, 98, 32]).flatten ++ rest)
    rw [parts_ab n rest] at e
    rw [List.replicate_succ, List.flatten_cons, List.replicate_succ]
    exact e
theorem ab_cps : ("ab " : Str).cps.toList = [97, 98, 32] := by decide +kernel
theorem toS_ab : toS [97, 98] = ("ab" : Str) := str_ext (by rw [toS_cps]; decide +kernel)
theorem toS_a : toS [97] = ("a" : Str) := str_ext (by rw [toS_cps]; decide +kernel)
theorem toS_nil : toS [] = ("" : Str) := str_ext (by rw [toS_cps]; decide +kernel)
theorem long1 {n : Nat} : partsS 32 (repS "ab " n ++ "a") = List.replicate n ("ab" : Str) ++ [("a" : Str)] := by
  unfold partsS
  have e : ("a" : Str).cps.toList = [97] := by decide +kernel
  rw [cps_add, repS_cps, ab_cps, e, parts_ab, List.map_append, List.map_replicate, toS_ab]
  have e2 : parts 32 [] [97] = [[97]] := by decide
  rw [e2, List.map_cons, List.map_nil, toS_a]
theorem long2 {n : Nat} : partsS 32 (repS "ab " n) = List.replicate n ("ab" : Str) ++ [("" : Str)] := by
  unfold partsS
  have h := parts_ab n []
  rw [List.append_nil] at h
  rw [repS_cps, ab_cps, h, List.map_append, List.map_replicate, toS_ab]
  have e2 : parts 32 [] [] = [[]] := by decide
  rw [e2, List.map_cons, List.map_nil, toS_nil]
theorem asc_ab : Asc ("ab" : Str) := asc_of (by decide +kernel)
theorem asc_a : Asc ("a" : Str) := asc_of (by decide +kernel)
theorem long_asc {n : Nat} : ∀ y ∈ List.replicate n ("ab" : Str) ++ [("a" : Str)], Asc y := fun y hy => by
  rcases List.mem_append.mp hy with h | h
  · rw [List.eq_of_mem_replicate h]
    exact asc_ab
  · rw [List.mem_singleton.mp h]
    exact asc_a
theorem bad1 {n : Nat} : bad 32 (repS "ab " n ++ "a") = false := by
  unfold bad
  rw [long1, inV_strs, Bool.or_eq_false_iff]
  constructor
  · refine decide_eq_false fun h => ?_
    have e : ("a" : Str).cps.toList = [97] := by decide +kernel
    rw [cps_add, repS_cps, ab_cps, e] at h
    rcases List.mem_append.mp h with h | h
    · obtain ⟨l, hl, hc⟩ := List.mem_flatten.mp h
      rw [List.eq_of_mem_replicate hl] at hc
      revert hc
      decide
    · exact absurd (List.mem_singleton.mp h) (by decide)
  · refine decide_eq_false fun h => ?_
    rcases List.mem_append.mp h with h | h
    · have := List.eq_of_mem_replicate h
      revert this
      decide +kernel
    · have := List.mem_singleton.mp h
      revert this
      decide +kernel
theorem bad2 {n : Nat} : bad 32 (repS "ab " n) = true := by
  unfold bad
  rw [long2, inV_strs, decide_eq_true (show ("" : Str) ∈ List.replicate n ("ab" : Str) ++ [("" : Str)] from List.mem_append_right _ (List.mem_singleton.mpr rfl)), Bool.or_true]
theorem w_mul_l {K : PySem.W.Frag} {H : Hp} {Q : VK} {a : Addr} {n : Int} {xs ys : List V} (h1 : H a = some (.lst xs)) (h0 : 0 ≤ n) (hn : n < 100000) (hl : xs.length = 1) (e : (List.replicate n.toNat xs).flatten = ys) (q : ∀ p H', H p = none → Ex [] H H' → H' p = some (.lst ys) → Q (.ref p) H') : wMul K (.ref a) (.int n) H Q := by
  subst e
  exact .inr (u_mul_l h1 h0 (by omega) (by rw [hl]; exact sz_le (by omega)) (nw q))
def sp_l_law_long_right (K : PySem.W.Frag) : Sp := fun vs H Q _ => ∃ (b : Addr) (n : Nat), vs = [.ref b] ∧ Box b n H ∧ n ≤ 700000 ∧ ∀ H', Ex [b] H H' → Box b (n + 10) H' → Q (.bl true) H'
def t_l_law_long_right (K : PySem.W.Frag) : TS := (tSeq (tPar 1 2 (tCons (tOp (uIx K) (tLst (tCons (tC (.int 1333)) (tCons (tOp (uAdd K) (tC (.int 300)) (tCall (sp_l_law_take K) [] E0 (tCons (tVar 0) (tCons (tC (.int 1034)) tNil)))) tNil))) (tCall (sp_l_law_take K) [] E0 (tCons (tVar 0) (tCons (tC (.int 2)) tNil)))) (tCons (tOp SL.rSub (tOp SL.rPow (tC (.int 10)) (tC (.int 30))) (tC (.int 1))) tNil)))
    (tSeq (tIfS (tTest (tOp (uNe K) (tCB (uRepr K) (tCons (tKl (sp_parse_integer K) [.pos 0, .low 0, .key 0] [(V.int 0)] 1 1 (tCons (tOp (wMul K) (tC (.str "9")) (tC (.int 30))) tNil) (tCons (tVar 2) tNil)) tNil)) (tCB (uRepr K) (tCons (tVar 2) tNil)))) (tRet (tC (.bl false))) tNext)
    (tRet (tAndV (tOp (uEq K) (tKl (sp_split_words K) [.pos 0, .low 0] [(V.str " ")] 1 0 (tCons (tOp (uAdd K) (tOp (wMul K) (tC (.str "ab ")) (tVar 1)) (tC (.str "a"))) tNil) tNil) (tOp (uAdd K) (tOp (wMul K) (tLst (tCons (tC (.str "ab")) tNil)) (tVar 1)) (tLst (tCons (tC (.str "a")) tNil)))) (tOp uIs (tKl (sp_split_words K) [.pos 0, .low 0] [(V.str " ")] 1 0 (tCons (tOp (wMul K) (tC (.str "ab ")) (tVar 1)) tNil) tNil) (tC .non))))))
theorem len_l_law_long_right {K : PySem.W.Frag} {vs : List V} {H : Hp} {Q : VK} {E : XK} (h : sp_l_law_long_right K vs H Q E) : vs.length = ["_law_box_here"].length := by
  obtain ⟨b, n, rfl, _⟩ := h
  rfl
theorem pure_l_law_long_right {K : PySem.W.Frag} (vs : List V) (H : Hp) (Q : VK) (E : XK) (h : sp_l_law_long_right K vs H Q E) : t_l_law_long_right K { nx := fun _ H' => Q .non H', rt := Q } (start ["_law_box_here", "_law_many", "_law_far"] vs) H := by
  obtain ⟨b, n, rfl, hb, hn, q⟩ := h
  show t_l_law_long_right K _ [some (.ref b), none, none] H
  unfold t_l_law_long_right
  walk_at "w"
  refine use_take hb (by omega) (by decide) (by decide) (fun r1 H1 r10 r11 e1 hb1 => ?_)
  walk_at "w"
  walk_at "nl"
  intro p2 H2 hp2 e2 a2
  walk_at "w"
  refine use_take (hb1.ex e2 List.not_mem_nil) (by omega) (by decide) (by decide) (fun r3 H3 r30 r31 e3 hb3 => ?_)
  obtain ⟨v, hv, ⟨m, rfl, m1, m2⟩, _⟩ := at_in (xs := [V.int 1333, .int (300 + r1)]) (P := fun v => ∃ g : Int, v = .int g ∧ 300 ≤ g ∧ g ≤ 1333) r30 r31 (by
    refine all_cons ⟨_, rfl, by decide, by decide⟩ (all_cons ⟨_, rfl, by omega, by omega⟩ all_nil))
  refine u_ix_l (sqL (e3 p2 _ (hb1.off hp2) a2)) hv ?_
  have eA := (e1.trans e2.nil).trans e3
  walk_at "w"
  refine u_pow ⟨by decide, by decide, by decide⟩ ?_
  walk_at "w"
  refine .inl ⟨"9", 30, rfl, rfl, by decide, by decide, by decide +kernel, ?_⟩
  walk_at "w"
  refine ⟨rfl, rfl, ?_⟩
  have e9 : inO (numO (repS "9" (30 : Int).toNat)) 0 (10 ^ (30 : Int).toNat - 1) = some (10 ^ (30 : Int).toNat - 1) := by decide +kernel
  refine ⟨.str _, _, _, rfl, Or.inl ⟨_, rfl, by decide +kernel, fun H4 e4 => ?_⟩⟩
  rw [e9]
  have ok9 : OkO (some (10 ^ (30 : Int).toNat - 1)) := fun n h => by
    injection h with h
    subst h
    decide +kernel
  walk_at "w"
  refine u_repr_o ok9 ?_
  walk_at "w"
  refine u_repr_o (o := some (10 ^ (30 : Int).toNat - 1)) ok9 ?_
  walk_at "w"
  refine ite_nd (fun h => absurd rfl h) (fun _ => ?_)
  walk_at "w"
  have l3 : ("ab " : Str).length = 3 := by decide +kernel
  have la : ("a" : Str).length = 1 := by decide +kernel
  have lm : m.toNat ≤ 1333 := by omega
  have lr : (repS "ab " m.toNat).length = m.toNat * 3 := by rw [repS_len, l3]
  refine .inl ⟨"ab ", m, rfl, rfl, by omega, by omega, by rw [l3]; omega, ?_⟩
  walk_at "w"
  refine u_add_s (sz_le (by omega)) ?_
  refine ⟨rfl, rfl, ?_⟩
  refine ⟨.str _, " ", 32, rfl, by decide +kernel, by decide, Or.inl ⟨_, rfl, by rw [SL.len_add]; omega, fun h2 => (by rw [bad1] at h2; cases h2), fun _ p5 H5 hp5 e5 a5 => ?_⟩⟩
  rw [long1] at a5
  walk_at "w"
  walk_at "nl"
  intro p6 H6 hp6 e6 a6
  walk_at "w"
  refine w_mul_l (ys := (List.replicate m.toNat ("ab" : Str)).map V.str) a6 (by omega) (by omega) rfl (by rw [List.map_replicate, List.flatten_replicate_singleton]) (fun p7 H7 hp7 e7 a7 => ?_)
  walk_at "w"
  walk_at "nl"
  intro p8 H8 hp8 e8 a8
  refine u_add_f (e8 p7 _ List.not_mem_nil a7) a8 (by rw [List.length_map, List.length_replicate]; show m.toNat + 1 ≤ 100000; omega) (fun p9 H9 hp9 e9' a9 => ?_)
  have a9 : H9 p9 = some (.lst ((List.replicate m.toNat ("ab" : Str) ++ [("a" : Str)]).map V.str)) := by
    rw [a9, List.map_append]
    rfl
  refine u_eq_strs ((((e6.trans e7).trans e8).trans e9') p5 _ List.not_mem_nil a5) a9 long_asc ?_
  walk_at "w"
  refine .inl ⟨"ab ", m, rfl, rfl, by omega, by omega, by rw [l3]; omega, ?_⟩
  walk_at "w"
  refine ⟨rfl, rfl, ?_⟩
  refine ⟨.str _, " ", 32, rfl, by decide +kernel, by decide, Or.inl ⟨_, rfl, by omega, fun _ H10 e10 => ?_, fun h2 => (by rw [bad2] at h2; cases h2)⟩⟩
  walk_at "w"
  rw [decide_eq_true rfl]
  have eL := (((((e4.trans e5).trans e6).trans e7).trans e8).trans e9').trans e10
  exact q _ (eA.trans eL.nil) ((hb3.ex eL List.not_mem_nil).mono (by omega))
/-! ### the law -/
def sp_law (K : PySem.W.Frag) : Sp := fun vs H Q _ => ∃ (a : Addr) (ns : List Int), vs = [.ref a] ∧ fk K = true ∧ SqL K H a (ns.map V.int) ∧ ns.length ≤ 63 ∧ ∀ H', Q (.bl true) H'
def t_law (K : PySem.W.Frag) : TS := (tSeq (tFor (iRng1 (tCons (tCB rMax2 (tCons (tC (.int 2)) (tCons (tCB rMin2 (tCons (tC (.int 8)) (tCons (tCB (uLen K) (tCons (tVar 0) tNil)) tNil))) tNil))) tNil)) (gName 1) (tSeq (tAsg (tCall (sp_l_law_box K) [] E0 (tCons (tCall (sp_l_law_cell K) [] E0 (tCons (tVar 0) (tCons (tVar 1) tNil))) tNil)) (gName 2))
    (tSeq (tIfS (tNot (tTruK K (tCall (sp_l_law_long_right K) [] E0 (tCons (tVar 2) tNil)))) (tRet (tC (.bl false))) tNext)
    (tFor (iRng1 (tCons (tC (.int 3)) tNil)) (gName 3) (tIfS (tOr (tNot (tTruK K (tCall (sp_l_law_numbers_right K) [] E0 (tCons (tVar 2) tNil)))) (tNot (tTruK K (tCall (sp_l_law_words_right K) [] E0 (tCons (tVar 2) tNil))))) (tRet (tC (.bl false))) tNext)))))
    (tRet (tC (.bl true))))
theorem len_law {K : PySem.W.Frag} {vs : List V} {H : Hp} {Q : VK} {E : XK} (h : sp_law K vs H Q E) : vs.length = ["_law_script"].length := by
  obtain ⟨a, ns, rfl, _⟩ := h
  rfl
theorem pure_law {K : PySem.W.Frag} (vs : List V) (H : Hp) (Q : VK) (E : XK) (h : sp_law K vs H Q E) : t_law K { nx := fun _ H' => Q .non H', rt := Q } (start ["_law_script", "_law_k", "_law_box_here", "_law_turn"] vs) H := by
  obtain ⟨a, ns, rfl, k, hs, hl, q⟩ := h
  show t_law K _ [some (.ref a), none, none, none] H
  have ha : Lt [] K H a (ns.map V.int) := ⟨hs, List.not_mem_nil⟩
  unfold t_law
  walk_at "w"
  refine u_len_q (Or.inl hs) ?_
  walk_at "w"
  rw [List.length_map]
  refine ⟨by split <;> split <;> omega, by split <;> split <;> omega, ?_⟩
  have hm : (if (if (ns.length : Int) < 8 then (ns.length : Int) else 8) > 2 then (if (ns.length : Int) < 8 then (ns.length : Int) else 8) else 2).toNat ≤ 8 := by split <;> split <;> omega
  generalize (if (if (ns.length : Int) < 8 then (ns.length : Int) else 8) > 2 then (if (ns.length : Int) < 8 then (ns.length : Int) else 8) else 2).toNat = m at hm ⊢
  refine for_it walk_range (fun i σ H' => Ex [] H H' ∧ ∃ x1 x2 x3, σ = [some (.ref a), x1, x2, x3]) ⟨Ex.refl, _, _, _, rfl⟩ (fun _ _ _ _ _ => trivial) ?_ ?_
  · rintro i x σ H1 H' hi ⟨e1, x1, x2, x3, rfl⟩ ⟨rfl, rfl⟩
    walk_at "w"
    refine ⟨a, ns, _, rfl, (ha.ex e1).sq, by omega, by omega, fun z => ?_⟩
    walk_at "w"
    refine ⟨z, rfl, fun b H2 hb0 e2 hb => ?_⟩
    walk_at "w"
    refine ⟨b, _, rfl, hb, by omega, fun H3 e3 hb3 => ?_⟩
    walk_at "w"
    refine ⟨by decide, by decide, ?_⟩
    refine for_it walk_range (fun j σ H' => Ex [b] H3 H' ∧ Box b (10 + 200 * j) H' ∧ ∃ x1 x3, σ = [some (.ref a), x1, some (.ref b), x3]) ⟨Ex.refl, hb3.mono (by omega), _, _, rfl⟩ (fun _ _ _ _ _ => trivial) ?_ ?_
    · rintro j x σ H4 H' hj ⟨e4, hb4, y1, y3, rfl⟩ ⟨rfl, rfl⟩
      have hj : j < 3 := hj
      walk_at "w"
      refine ⟨b, _, rfl, k, hb4, by omega, fun H5 e5 hb5 => ?_⟩
      walk_at "w"
      refine ⟨b, _, rfl, k, hb5, by omega, fun H6 e6 hb6 => ?_⟩
      walk_at "w"
      exact ⟨(e4.trans e5).trans e6, hb6.mono (by omega), _, _, rfl⟩
    · rintro σ H' ⟨e4, hb4, y1, y3, rfl⟩
      refine ⟨(e1.trans (Ex.drop hb0 ((e2.nil.trans e3).trans e4))), _, _, _, rfl⟩
  · rintro σ H' ⟨e1, x1, x2, x3, rfl⟩
    walk_at "w"
    exact q _
end K3

namespace K3
open PySem PySem.Spec PyProof.Rows L2 SL
def top (i : Nat) : Stmt := PySem.Challenge.pw_searchorders_k03_numbers_and_words_in_te.main.body.getD i (.Pass ⟨0, 0, 0, 0⟩)
abbrev s_parse_integer : Stmt := (top 3)
def d_parse_integer : He.DefD := ⟨("parse_integer", none), "parse_integer", "parse_integer", defArgs s_parse_integer, defBody s_parse_integer, defScope s_parse_integer, [], [("low", .int 0), ("high", .int 999999)]⟩
abbrev s_split_words : Stmt := (top 4)
def d_split_words : He.DefD := ⟨("split_words", none), "split_words", "split_words", defArgs s_split_words, defBody s_split_words, defScope s_split_words, [], [("separator", .str " ")]⟩
abbrev s_l_law_cell : Stmt := (top 6)
def d_l_law_cell : He.DefD := ⟨("_law_cell", none), "_law_cell", "_law_cell", defArgs s_l_law_cell, defBody s_l_law_cell, defScope s_l_law_cell, [], []⟩
abbrev s_l_law_box : Stmt := (top 7)
def d_l_law_box : He.DefD := ⟨("_law_box", none), "_law_box", "_law_box", defArgs s_l_law_box, defBody s_l_law_box, defScope s_l_law_box, [], []⟩
abbrev s_l_law_take : Stmt := (top 8)
def d_l_law_take : He.DefD := ⟨("_law_take", none), "_law_take", "_law_take", defArgs s_l_law_take, defBody s_l_law_take, defScope s_l_law_take, [], []⟩
abbrev s_l_law_digits : Stmt := (top 9)
def d_l_law_digits : He.DefD := ⟨("_law_digits", none), "_law_digits", "_law_digits", defArgs s_l_law_digits, defBody s_l_law_digits, defScope s_l_law_digits, [], []⟩
abbrev s_l_law_number : Stmt := (top 10)
def d_l_law_number : He.DefD := ⟨("_law_number", none), "_law_number", "_law_number", defArgs s_l_law_number, defBody s_l_law_number, defScope s_l_law_number, [], []⟩
abbrev s_l_law_within : Stmt := (top 11)
def d_l_law_within : He.DefD := ⟨("_law_within", none), "_law_within", "_law_within", defArgs s_l_law_within, defBody s_l_law_within, defScope s_l_law_within, [], []⟩
abbrev s_l_law_numbers_right : Stmt := (top 12)
def d_l_law_numbers_right : He.DefD := ⟨("_law_numbers_right", none), "_law_numbers_right", "_law_numbers_right", defArgs s_l_law_numbers_right, defBody s_l_law_numbers_right, defScope s_l_law_numbers_right, [], []⟩
abbrev s_l_law_words : Stmt := (top 13)
def d_l_law_words : He.DefD := ⟨("_law_words", none), "_law_words", "_law_words", defArgs s_l_law_words, defBody s_l_law_words, defScope s_l_law_words, [], []⟩
abbrev s_l_law_parted : Stmt := (top 14)
def d_l_law_parted : He.DefD := ⟨("_law_parted", none), "_law_parted", "_law_parted", defArgs s_l_law_parted, defBody s_l_law_parted, defScope s_l_law_parted, [], []⟩
abbrev s_l_law_words_right : Stmt := (top 15)
def d_l_law_words_right : He.DefD := ⟨("_law_words_right", none), "_law_words_right", "_law_words_right", defArgs s_l_law_words_right, defBody s_l_law_words_right, defScope s_l_law_words_right, [], []⟩
abbrev s_l_law_long_right : Stmt := (top 16)
def d_l_law_long_right : He.DefD := ⟨("_law_long_right", none), "_law_long_right", "_law_long_right", defArgs s_l_law_long_right, defBody s_l_law_long_right, defScope s_l_law_long_right, [], []⟩
abbrev s_law : Stmt := (top 17)
def d_law : He.DefD := ⟨("law", none), "law", "law", defArgs s_law, defBody s_law, defScope s_law, [], []⟩
abbrev Fun_parse_integer (K : PySem.W.Frag) (fd : FuncData) : Prop := FunD K d_parse_integer.name d_parse_integer.qual d_parse_integer.params d_parse_integer.body d_parse_integer.scope (d_parse_integer.dvs K) (d_parse_integer.kws K) (He.fAd K d_parse_integer.at_) fd
abbrev Fun_split_words (K : PySem.W.Frag) (fd : FuncData) : Prop := FunD K d_split_words.name d_split_words.qual d_split_words.params d_split_words.body d_split_words.scope (d_split_words.dvs K) (d_split_words.kws K) (He.fAd K d_split_words.at_) fd
abbrev Fun_l_law_cell (K : PySem.W.Frag) (fd : FuncData) : Prop := FunD K d_l_law_cell.name d_l_law_cell.qual d_l_law_cell.params d_l_law_cell.body d_l_law_cell.scope (d_l_law_cell.dvs K) (d_l_law_cell.kws K) (He.fAd K d_l_law_cell.at_) fd
theorem bind_l_law_cell {K : PySem.W.Frag} {fd : FuncData} (F : Fun_l_law_cell K fd) : Binds K fd ["_law_script", "_law_k"] [] := FunD.bindsN F fun _ _ _ _ _ _ us hl => match us, hl with | [_, _], _ => rfl
abbrev Fun_l_law_box (K : PySem.W.Frag) (fd : FuncData) : Prop := FunD K d_l_law_box.name d_l_law_box.qual d_l_law_box.params d_l_law_box.body d_l_law_box.scope (d_l_law_box.dvs K) (d_l_law_box.kws K) (He.fAd K d_l_law_box.at_) fd
theorem bind_l_law_box {K : PySem.W.Frag} {fd : FuncData} (F : Fun_l_law_box K fd) : Binds K fd ["_law_cell_here"] [] := FunD.bindsN F fun _ _ _ _ _ _ us hl => match us, hl with | [_], _ => rfl
abbrev Fun_l_law_take (K : PySem.W.Frag) (fd : FuncData) : Prop := FunD K d_l_law_take.name d_l_law_take.qual d_l_law_take.params d_l_law_take.body d_l_law_take.scope (d_l_law_take.dvs K) (d_l_law_take.kws K) (He.fAd K d_l_law_take.at_) fd
theorem bind_l_law_take {K : PySem.W.Frag} {fd : FuncData} (F : Fun_l_law_take K fd) : Binds K fd ["_law_box_here", "_law_many"] [] := FunD.bindsN F fun _ _ _ _ _ _ us hl => match us, hl with | [_, _], _ => rfl
abbrev Fun_l_law_digits (K : PySem.W.Frag) (fd : FuncData) : Prop := FunD K d_l_law_digits.name d_l_law_digits.qual d_l_law_digits.params d_l_law_digits.body d_l_law_digits.scope (d_l_law_digits.dvs K) (d_l_law_digits.kws K) (He.fAd K d_l_law_digits.at_) fd
theorem bind_l_law_digits {K : PySem.W.Frag} {fd : FuncData} (F : Fun_l_law_digits K fd) : Binds K fd ["_law_box_here"] [] := FunD.bindsN F fun _ _ _ _ _ _ us hl => match us, hl with | [_], _ => rfl
abbrev Fun_l_law_number (K : PySem.W.Frag) (fd : FuncData) : Prop := FunD K d_l_law_number.name d_l_law_number.qual d_l_law_number.params d_l_law_number.body d_l_law_number.scope (d_l_law_number.dvs K) (d_l_law_number.kws K) (He.fAd K d_l_law_number.at_) fd
theorem bind_l_law_number {K : PySem.W.Frag} {fd : FuncData} (F : Fun_l_law_number K fd) : Binds K fd ["_law_line"] [] := FunD.bindsN F fun _ _ _ _ _ _ us hl => match us, hl with | [_], _ => rfl
abbrev Fun_l_law_within (K : PySem.W.Frag) (fd : FuncData) : Prop := FunD K d_l_law_within.name d_l_law_within.qual d_l_law_within.params d_l_law_within.body d_l_law_within.scope (d_l_law_within.dvs K) (d_l_law_within.kws K) (He.fAd K d_l_law_within.at_) fd
theorem bind_l_law_within {K : PySem.W.Frag} {fd : FuncData} (F : Fun_l_law_within K fd) : Binds K fd ["_law_number_here", "_law_least", "_law_most"] [] := FunD.bindsN F fun _ _ _ _ _ _ us hl => match us, hl with | [_, _, _], _ => rfl
abbrev Fun_l_law_numbers_right (K : PySem.W.Frag) (fd : FuncData) : Prop := FunD K d_l_law_numbers_right.name d_l_law_numbers_right.qual d_l_law_numbers_right.params d_l_law_numbers_right.body d_l_law_numbers_right.scope (d_l_law_numbers_right.dvs K) (d_l_law_numbers_right.kws K) (He.fAd K d_l_law_numbers_right.at_) fd
theorem bind_l_law_numbers_right {K : PySem.W.Frag} {fd : FuncData} (F : Fun_l_law_numbers_right K fd) : Binds K fd ["_law_box_here"] [] := FunD.bindsN F fun _ _ _ _ _ _ us hl => match us, hl with | [_], _ => rfl
abbrev Fun_l_law_words (K : PySem.W.Frag) (fd : FuncData) : Prop := FunD K d_l_law_words.name d_l_law_words.qual d_l_law_words.params d_l_law_words.body d_l_law_words.scope (d_l_law_words.dvs K) (d_l_law_words.kws K) (He.fAd K d_l_law_words.at_) fd
theorem bind_l_law_words {K : PySem.W.Frag} {fd : FuncData} (F : Fun_l_law_words K fd) : Binds K fd ["_law_box_here", "_law_sign"] [] := FunD.bindsN F fun _ _ _ _ _ _ us hl => match us, hl with | [_, _], _ => rfl
abbrev Fun_l_law_parted (K : PySem.W.Frag) (fd : FuncData) : Prop := FunD K d_l_law_parted.name d_l_law_parted.qual d_l_law_parted.params d_l_law_parted.body d_l_law_parted.scope (d_l_law_parted.dvs K) (d_l_law_parted.kws K) (He.fAd K d_l_law_parted.at_) fd
theorem bind_l_law_parted {K : PySem.W.Frag} {fd : FuncData} (F : Fun_l_law_parted K fd) : Binds K fd ["_law_line", "_law_sign"] [] := FunD.bindsN F fun _ _ _ _ _ _ us hl => match us, hl with | [_, _], _ => rfl
abbrev Fun_l_law_words_right (K : PySem.W.Frag) (fd : FuncData) : Prop := FunD K d_l_law_words_right.name d_l_law_words_right.qual d_l_law_words_right.params d_l_law_words_right.body d_l_law_words_right.scope (d_l_law_words_right.dvs K) (d_l_law_words_right.kws K) (He.fAd K d_l_law_words_right.at_) fd
theorem bind_l_law_words_right {K : PySem.W.Frag} {fd : FuncData} (F : Fun_l_law_words_right K fd) : Binds K fd ["_law_box_here"] [] := FunD.bindsN F fun _ _ _ _ _ _ us hl => match us, hl with | [_], _ => rfl
abbrev Fun_l_law_long_right (K : PySem.W.Frag) (fd : FuncData) : Prop := FunD K d_l_law_long_right.name d_l_law_long_right.qual d_l_law_long_right.params d_l_law_long_right.body d_l_law_long_right.scope (d_l_law_long_right.dvs K) (d_l_law_long_right.kws K) (He.fAd K d_l_law_long_right.at_) fd
theorem bind_l_law_long_right {K : PySem.W.Frag} {fd : FuncData} (F : Fun_l_law_long_right K fd) : Binds K fd ["_law_box_here"] [] := FunD.bindsN F fun _ _ _ _ _ _ us hl => match us, hl with | [_], _ => rfl
abbrev Fun_law (K : PySem.W.Frag) (fd : FuncData) : Prop := FunD K d_law.name d_law.qual d_law.params d_law.body d_law.scope (d_law.dvs K) (d_law.kws K) (He.fAd K d_law.at_) fd
theorem bind_law {K : PySem.W.Frag} {fd : FuncData} (F : Fun_law K fd) : Binds K fd ["_law_script"] [] := FunD.bindsN F fun _ _ _ _ _ _ us hl => match us, hl with | [_], _ => rfl
theorem kl1__parse_integer {K : PySem.W.Frag} {fd : FuncData} (F : Fun_parse_integer K fd) : KBl K fd ["text", "low", "high"] 1 [] [.pos 0, .low 0, .low 1] [(V.int 0), (V.int 999999)] :=
  kb_low (kws := ([("low", (V.int 0)), ("high", (V.int 999999))] : List (Str × V))) (ms := ([("low", (V.int 0)), ("high", (V.int 999999))] : List (Str × V))) F (fun z => nomatch z) (fun q hq => by
    simp only [List.mem_cons, List.not_mem_nil, or_false] at hq
    rcases hq with rfl | rfl
    · exact (.head _)
    · exact (.tail _ (.head _))) fun _ _ _ _ _ _ us mv ws h1 h2 h3 => match us, mv, ws, h1, h2, h3 with | [_], [_, _], [], _, _, _ => ⟨_, _, _, _, _, _, rfl, rfl, ⟨_, _, _, _, _, _, rfl, rfl, rfl⟩⟩
theorem kl1_low_parse_integer {K : PySem.W.Frag} {fd : FuncData} (F : Fun_parse_integer K fd) : KBl K fd ["text", "low", "high"] 1 ["low"] [.pos 0, .key 0, .low 0] [(V.int 999999)] :=
  kb_low (kws := ([("low", (V.int 0)), ("high", (V.int 999999))] : List (Str × V))) (ms := ([("high", (V.int 999999))] : List (Str × V))) F (fun z => nomatch z) (fun q hq => by
    simp only [List.mem_cons, List.not_mem_nil, or_false] at hq
    rcases hq with rfl
    · exact (.tail _ (.head _))) fun _ _ _ _ _ _ us mv ws h1 h2 h3 => match us, mv, ws, h1, h2, h3 with | [_], [_], [_], _, _, _ => ⟨_, _, _, _, _, _, rfl, rfl, rfl⟩
theorem kl0_text_high_parse_integer {K : PySem.W.Frag} {fd : FuncData} (F : Fun_parse_integer K fd) : KBl K fd ["text", "low", "high"] 0 ["text", "high"] [.key 0, .low 0, .key 1] [(V.int 0)] :=
  kb_low (kws := ([("low", (V.int 0)), ("high", (V.int 999999))] : List (Str × V))) (ms := ([("low", (V.int 0))] : List (Str × V))) F (fun z => nomatch z) (fun q hq => by
    simp only [List.mem_cons, List.not_mem_nil, or_false] at hq
    rcases hq with rfl
    · exact (.head _)) fun _ _ _ _ _ _ us mv ws h1 h2 h3 => match us, mv, ws, h1, h2, h3 with | [], [_], [_, _], _, _, _ => ⟨_, _, _, _, _, _, rfl, rfl, rfl⟩
theorem kb1_low_high_parse_integer {K : PySem.W.Frag} {fd : FuncData} (F : Fun_parse_integer K fd) : KB K fd ["text", "low", "high"] 1 ["low", "high"] [.pos 0, .key 0, .key 1] := kb_fun F fun _ _ _ _ _ _ us ws h1 h2 => match us, ws, h1, h2 with | [_], [_, _], _, _ => rfl
theorem kl1__split_words {K : PySem.W.Frag} {fd : FuncData} (F : Fun_split_words K fd) : KBl K fd ["text", "separator"] 1 [] [.pos 0, .low 0] [(V.str " ")] :=
  kb_low (kws := ([("separator", (V.str " "))] : List (Str × V))) (ms := ([("separator", (V.str " "))] : List (Str × V))) F (fun z => nomatch z) (fun q hq => by
    simp only [List.mem_cons, List.not_mem_nil, or_false] at hq
    rcases hq with rfl
    · exact (.head _)) fun _ _ _ _ _ _ us mv ws h1 h2 h3 => match us, mv, ws, h1, h2, h3 with | [_], [_], [], _, _, _ => ⟨_, _, _, _, _, _, rfl, rfl, rfl⟩
theorem kb1_separator_split_words {K : PySem.W.Frag} {fd : FuncData} (F : Fun_split_words K fd) : KB K fd ["text", "separator"] 1 ["separator"] [.pos 0, .key 0] := kb_fun F fun _ _ _ _ _ _ us ws h1 h2 => match us, ws, h1, h2 with | [_], [_], _, _ => rfl
theorem kb0_separator_text_split_words {K : PySem.W.Frag} {fd : FuncData} (F : Fun_split_words K fd) : KB K fd ["text", "separator"] 0 ["separator", "text"] [.key 1, .key 0] := kb_fun F fun _ _ _ _ _ _ us ws h1 h2 => match us, ws, h1, h2 with | [], [_, _], _, _ => rfl
theorem kl1_high_parse_integer {K : PySem.W.Frag} {fd : FuncData} (F : Fun_parse_integer K fd) : KBl K fd ["text", "low", "high"] 1 ["high"] [.pos 0, .low 0, .key 0] [(V.int 0)] :=
  kb_low (kws := ([("low", (V.int 0)), ("high", (V.int 999999))] : List (Str × V))) (ms := ([("low", (V.int 0))] : List (Str × V))) F (fun z => nomatch z) (fun q hq => by
    simp only [List.mem_cons, List.not_mem_nil, or_false] at hq
    rcases hq with rfl
    · exact (.head _)) fun _ _ _ _ _ _ us mv ws h1 h2 h3 => match us, mv, ws, h1, h2, h3 with | [_], [_], [_], _, _, _ => ⟨_, _, _, _, _, _, rfl, rfl, rfl⟩
def defs : List He.DefD := [d_parse_integer, d_split_words, d_l_law_cell, d_l_law_box, d_l_law_take, d_l_law_digits, d_l_law_number, d_l_law_within, d_l_law_numbers_right, d_l_law_words, d_l_law_parted, d_l_law_words_right, d_l_law_long_right, d_law]
def looks : SL.Looks := [fun K => (He.Fa.glo "law").ok K,
  fk,
  fun K => (He.Fa.free "int").ok K,
  fun K => (He.Fa.free "len").ok K,
  fun K => (He.Fa.free "any").ok K,
  fun K => (He.Fa.str "DIGITS" "0123456789").ok K,
  fun K => (He.Fa.int "MOST_DIGITS" (30)).ok K,
  fun K => (He.Fa.free "isinstance").ok K,
  fun K => (He.Fa.free "str").ok K,
  fun K => (He.Fa.free "max").ok K,
  fun K => (He.Fa.glo "_law_take").ok K,
  fun K => (He.Fa.free "range").ok K,
  fun K => (He.Fa.glo "parse_integer").ok K,
  fun K => (He.Fa.glo "split_words").ok K,
  fun K => (He.Fa.free "repr").ok K,
  fun K => (He.Fa.glo "_law_within").ok K,
  fun K => (He.Fa.free "min").ok K,
  fun K => (He.Fa.glo "_law_number").ok K,
  fun K => (He.Fa.glo "_law_digits").ok K,
  fun K => (He.Fa.glo "_law_parted").ok K,
  fun K => (He.Fa.glo "_law_words").ok K,
  fun K => (He.Fa.glo "_law_words_right").ok K,
  fun K => (He.Fa.glo "_law_numbers_right").ok K,
  fun K => (He.Fa.glo "_law_long_right").ok K,
  fun K => (He.Fa.glo "_law_box").ok K,
  fun K => (He.Fa.glo "_law_cell").ok K]
theorem sc_parse_integer : FnScope ["text", "low", "high", "number", "digit"] ["text", "low", "high"] (defScope s_parse_integer) := ⟨rfl, rfl, rfl, by decide +kernel, rfl, by decide +kernel, by decide +kernel⟩
theorem ok_parse_integer {P : Program} {w : World} {K : PySem.W.Frag} {mg : Str → Option Value} {base h : Heap} {fd : FuncData} (c : SL.Says looks defs K) (hX : K.In h) (hG : h.Ns mainGlobals mg) (F_parse_integer : Fun_parse_integer K fd) : FnOk P w K mg base CX0 1 (He.fAd K d_parse_integer.at_) fd ["text", "low", "high"] (sp_parse_integer K) := by
  have F := F_parse_integer
  refine F.ok sc_parse_integer (fun vs H Q E h => len_parse_integer h) (fun cdv A outer s H vs Q E hr h => ⟨t_parse_integer K, PSs.nox ?_, pure_parse_integer vs H Q E h⟩)
  have hu := SL.hu64 hr
  exact (pss_cons (ps_if (PW.pt (pw_or (pt_not (pt_tru (pe_callB call_vIsi (by rfl) (He.free_ok hX hG (c.look 7)) (by decide +kernel) (pa_cons (pv 0) (pa_cons (pe_bltn (v := .ty "str") rfl (He.free_ok hX hG (c.look 8)) (by decide +kernel) rfl) pa_nil))) (by intro _; rfl))) (pw_or1 (pt_not (pt_chain (op_uLt hu) op_uLe pe_int (pe_callB call_uLen (by rfl) (He.free_ok hX hG (c.look 3)) (by decide +kernel) (pa_cons (pv 0) pa_nil)) (pe_gc rfl (gv_int (He.int_ok hX hG (c.look 6))))))))) (pss_one (ps_ret pe_non)) pss_nil)
    (pss_cons (ps_if (PW.pt (pw_or (pt_tru (pe_callB (cr_any rfl) (by rfl) (He.free_ok hX hG (c.look 4)) (by decide +kernel) (pa_cons (pe_lc (own := [("digit", 4)]) (wi := (iU K (tVar 0))) (g := (gName 4)) (tt := tYes) (te := (tOp (uNi K) (tVar 4) (tC (.str "0123456789")))) (by rfl) sc_parse_integer.nd (pi_u (pv 0)) (blkOk_by (own := [("digit", 4)]) (N := ["text", "low", "high", "number", "digit"]) (sc := defScope s_parse_integer) (by decide +kernel)) (fun _ _ _ _ _ => (pg_name (i := 4) sc_parse_integer.nd rfl (by first | exact Or.inl rfl | exact Or.inr rfl))) (fun _ _ _ _ _ => pts_nil) (fun _ _ _ _ _ => (pe_cmpR op_uNi (pv 4) (pe_gc rfl (gv_str (He.str_ok hX hG (c.look 5)))) (by rfl)))) pa_nil)) (by intro _; rfl)) (pw_or1 (PW.pt (pw_and (pt_cmpR (op_uEq hu) (pe_ix ix_u (pv 0) pe_int (fun _ _ => rfl)) pe_str (nomark _)) (pw_and1 (pt_cmpR op_gt (pe_callB call_uLen (by rfl) (He.free_ok hX hG (c.look 3)) (by decide +kernel) (pa_cons (pv 0) pa_nil)) pe_int (nomark _)))))))) (pss_one (ps_ret pe_non)) pss_nil)
    (pss_cons (ps_set (i := 3) sc_parse_integer.nd rfl (by first | exact Or.inl rfl | exact Or.inr rfl) (pe_callTy call_wInt (by rfl) (He.free_ok hX hG (c.look 2)) (by decide +kernel) (pa_cons (pv 0) pa_nil)))
    (pss_one (ps_ret (pe_ifExp (pt_chain op_uLe op_uLe (pv 1) (pv 3) (pv 2)) (pv 3) pe_non))))))
theorem sc_split_words : FnScope ["text", "separator", "words"] ["text", "separator"] (defScope s_split_words) := ⟨rfl, rfl, rfl, by decide +kernel, rfl, by decide +kernel, by decide +kernel⟩
theorem ok_split_words {P : Program} {w : World} {K : PySem.W.Frag} {mg : Str → Option Value} {base h : Heap} {fd : FuncData} (c : SL.Says looks defs K) (hX : K.In h) (hG : h.Ns mainGlobals mg) (F_split_words : Fun_split_words K fd) : FnOk P w K mg base CX0 1 (He.fAd K d_split_words.at_) fd ["text", "separator"] (sp_split_words K) := by
  have F := F_split_words
  refine F.ok sc_split_words (fun vs H Q E h => len_split_words h) (fun cdv A outer s H vs Q E hr h => ⟨t_split_words K, PSs.nox ?_, pure_split_words vs H Q E h⟩)
  have hu := SL.hu64 hr
  exact (pss_cons (ps_if (PW.pt (pw_or (pt_not (pt_tru (pe_callB call_vIsi (by rfl) (He.free_ok hX hG (c.look 7)) (by decide +kernel) (pa_cons (pv 0) (pa_cons (pe_bltn (v := .ty "str") rfl (He.free_ok hX hG (c.look 8)) (by decide +kernel) rfl) pa_nil))) (by intro _; rfl))) (pw_or1 (pt_cmpR op_uIn pe_str (pv 0) (by rfl))))) (pss_one (ps_ret pe_non)) pss_nil)
    (pss_cons (ps_set (i := 2) sc_split_words.nd rfl (by first | exact Or.inl rfl | exact Or.inr rfl) (pe_bm PySem.F.plainAttrs_str PySem.F.slot_str_split PySem.F.type_str_split mt_uSplit (pv 0) (pa_cons (pv 1) pa_nil)))
    (pss_one (ps_ret (pe_ifExp (pt_cmpR op_uIn pe_str (pv 2) (by rfl)) pe_non (pv 2))))))
theorem sc_l_law_cell : FnScope ["_law_script", "_law_k"] ["_law_script", "_law_k"] (defScope s_l_law_cell) := ⟨rfl, rfl, rfl, by decide +kernel, rfl, by decide +kernel, by decide +kernel⟩
theorem ok_l_law_cell {P : Program} {w : World} {K : PySem.W.Frag} {mg : Str → Option Value} {base h : Heap} {fd : FuncData} (c : SL.Says looks defs K) (hX : K.In h) (hG : h.Ns mainGlobals mg) (F_l_law_cell : Fun_l_law_cell K fd) : FnOk P w K mg base CX0 1 (He.fAd K d_l_law_cell.at_) fd ["_law_script", "_law_k"] (sp_l_law_cell K) := by
  have F := F_l_law_cell
  refine F.ok sc_l_law_cell (fun vs H Q E h => len_l_law_cell h) (fun cdv A outer s H vs Q E hr h => ⟨t_l_law_cell K, PSs.nox ?_, pure_l_law_cell vs H Q E h⟩)
  have hu := SL.hu64 hr
  exact (pss_cons (ps_if (pt_cmpR (op_uLt hu) (pv 1) (pe_callB call_uLen (by rfl) (He.free_ok hX hG (c.look 3)) (by decide +kernel) (pa_cons (pv 0) pa_nil)) (nomark _)) (pss_one (ps_ret (pe_ix ix_u (pv 0) (pv 1) (fun _ _ => rfl)))) pss_nil)
    (pss_one (ps_ret (pe_op op_uAdd (pe_op op_uMul pe_int (pv 1)) pe_int))))
theorem sc_l_law_box : FnScope ["_law_cell_here"] ["_law_cell_here"] (defScope s_l_law_box) := ⟨rfl, rfl, rfl, by decide +kernel, rfl, by decide +kernel, by decide +kernel⟩
theorem ok_l_law_box {P : Program} {w : World} {K : PySem.W.Frag} {mg : Str → Option Value} {base h : Heap} {fd : FuncData} (c : SL.Says looks defs K) (hX : K.In h) (hG : h.Ns mainGlobals mg) (F_l_law_box : Fun_l_law_box K fd) : FnOk P w K mg base CX0 1 (He.fAd K d_l_law_box.at_) fd ["_law_cell_here"] (sp_l_law_box K) := by
  have F := F_l_law_box
  refine F.ok sc_l_law_box (fun vs H Q E h => len_l_law_box h) (fun cdv A outer s H vs Q E hr h => ⟨t_l_law_box K, PSs.nox ?_, pure_l_law_box vs H Q E h⟩)
  have hu := SL.hu64 hr
  exact (pss_one (ps_ret (pe_lst (pa_cons (pe_callB (call_max2 rfl) (by rfl) (He.free_ok hX hG (c.look 9)) (by decide +kernel) (pa_cons pe_int (pa_cons (pe_op op_sub (pv 0) (pe_op op_pow pe_int pe_int)) pa_nil))) (pa_cons (pe_op op_modN (pv 0) pe_int) (pa_cons pe_int pa_nil))))))
theorem sc_l_law_take : FnScope ["_law_box_here", "_law_many", "_law_mixed", "_law_digit"] ["_law_box_here", "_law_many"] (defScope s_l_law_take) := ⟨rfl, rfl, rfl, by decide +kernel, rfl, by decide +kernel, by decide +kernel⟩
theorem ok_l_law_take {P : Program} {w : World} {K : PySem.W.Frag} {mg : Str → Option Value} {base h : Heap} {fd : FuncData} (c : SL.Says looks defs K) (hX : K.In h) (hG : h.Ns mainGlobals mg) (F_l_law_take : Fun_l_law_take K fd) : FnOk P w K mg base CX0 1 (He.fAd K d_l_law_take.at_) fd ["_law_box_here", "_law_many"] (sp_l_law_take K) := by
  have F := F_l_law_take
  refine F.ok sc_l_law_take (fun vs H Q E h => len_l_law_take h) (fun cdv A outer s H vs Q E hr h => ⟨t_l_law_take K, PSs.nox ?_, pure_l_law_take vs H Q E h⟩)
  have hu := SL.hu64 hr
  exact (pss_cons (ps_if (pt_cmpR op_gt (pe_ix ix_u (pv 0) pe_int (fun _ _ => rfl)) pe_int (nomark _)) (pss_cons (ps_set (i := 3) sc_l_law_take.nd rfl (by first | exact Or.inl rfl | exact Or.inr rfl) (pe_op op_modN (pe_ix ix_u (pv 0) pe_int (fun _ _ => rfl)) (pv 1)))
    (pss_cons (ps_asg (pe_op op_fdivW (pe_ix ix_u (pv 0) pe_int (fun _ _ => rfl)) (pv 1)) (pg_sub (pv 0) pe_int set_list))
    (pss_one (ps_ret (pv 3))))) pss_nil)
    (pss_cons (ps_asg (pe_op op_uAdd (pe_ix ix_u (pv 0) pe_int (fun _ _ => rfl)) pe_int) (pg_sub (pv 0) pe_int set_list))
    (pss_cons (ps_set (i := 2) sc_l_law_take.nd rfl (by first | exact Or.inl rfl | exact Or.inr rfl) (pe_op op_modN (pe_op op_pow (pe_op op_uAdd (pe_op op_uAdd (pe_ix ix_u (pv 0) pe_int (fun _ _ => rfl)) (pe_op op_uMul pe_int (pe_ix ix_u (pv 0) pe_int (fun _ _ => rfl)))) pe_int) pe_int) pe_int))
    (pss_cons (ps_set (i := 2) sc_l_law_take.nd rfl (by first | exact Or.inl rfl | exact Or.inr rfl) (pe_op op_modN (pe_op op_pow (pe_op op_uAdd (pv 2) (pe_op op_uMul pe_int (pe_ix ix_u (pv 0) pe_int (fun _ _ => rfl)))) pe_int) pe_int))
    (pss_one (ps_ret (pe_op op_modN (pe_op op_fdivW (pv 2) pe_int) (pv 1))))))))
theorem sc_l_law_digits : FnScope ["_law_box_here", "_law_many", "_law_found", "_law_way", "_law_at", "_law_some", "_law_k"] ["_law_box_here"] (defScope s_l_law_digits) := ⟨rfl, rfl, rfl, by decide +kernel, rfl, by decide +kernel, by decide +kernel⟩
theorem ok_l_law_digits {P : Program} {w : World} {K : PySem.W.Frag} {mg : Str → Option Value} {base h : Heap} {fd : FuncData} {fd_l_law_take : FuncData} (c : SL.Says looks defs K) (hX : K.In h) (hG : h.Ns mainGlobals mg) (F_l_law_digits : Fun_l_law_digits K fd) (O_l_law_take : FnOk P w K mg base CX0 1 (He.fAd K d_l_law_take.at_) fd_l_law_take ["_law_box_here", "_law_many"] (sp_l_law_take K)) (D_l_law_take : Fun_l_law_take K fd_l_law_take) : FnOk P w K mg base CX0 2 (He.fAd K d_l_law_digits.at_) fd ["_law_box_here"] (sp_l_law_digits K) := by
  have B_l_law_take := bind_l_law_take D_l_law_take
  have K_l_law_take := D_l_law_take.kp
  have F := F_l_law_digits
  refine F.ok sc_l_law_digits (fun vs H Q E h => len_l_law_digits h) (fun cdv A outer s H vs Q E hr h => ⟨t_l_law_digits K, PSs.nox ?_, pure_l_law_digits vs H Q E h⟩)
  have hu := SL.hu64 hr
  have hr_l_law_take : Room 1 _ := hr.mono (by decide)
  exact (pss_cons (ps_set (i := 1) sc_l_law_digits.nd rfl (by first | exact Or.inl rfl | exact Or.inr rfl) (pe_op op_uAdd pe_int (pe_call O_l_law_take hr_l_law_take (by rfl) (He.glo_ok hX hG (c.look 10)) K_l_law_take B_l_law_take .nil pass0 (pa_cons (pv 0) (pa_cons (pe_ix ix_u (pe_lst (pa_cons pe_int (pa_cons pe_int (pa_cons pe_int pa_nil)))) (pe_call O_l_law_take hr_l_law_take (by rfl) (He.glo_ok hX hG (c.look 10)) K_l_law_take B_l_law_take .nil pass0 (pa_cons (pv 0) (pa_cons pe_int pa_nil))) (fun _ _ => rfl)) pa_nil)))))
    (pss_cons (ps_set (i := 2) sc_l_law_digits.nd rfl (by first | exact Or.inl rfl | exact Or.inr rfl) (pe_bm PySem.F.plainAttrs_str PySem.F.slot_str_join PySem.F.type_str_join mt_uJoin pe_str (pa_cons (pe_lc (own := [("_law_k", 6)]) (wi := (iRng1 (tCons (tVar 1) tNil))) (g := (gName 6)) (tt := tYes) (te := (tCB (uStr K) (tCons (tCall (sp_l_law_take K) [] E0 (tCons (tVar 0) (tCons (tC (.int 10)) tNil))) tNil))) (by rfl) sc_l_law_digits.nd (pi_range1 rfl (He.free_ok hX hG (c.look 11)) (pa_cons (pv 1) pa_nil)) (blkOk_by (own := [("_law_k", 6)]) (N := ["_law_box_here", "_law_many", "_law_found", "_law_way", "_law_at", "_law_some", "_law_k"]) (sc := defScope s_l_law_digits) (by decide +kernel)) (fun _ _ _ _ _ => (pg_name (i := 6) sc_l_law_digits.nd rfl (by first | exact Or.inl rfl | exact Or.inr rfl))) (fun _ _ _ _ _ => pts_nil) (fun _ _ _ _ _ => (pe_callTy call_uStr (by rfl) (He.free_ok hX hG (c.look 8)) (by decide +kernel) (pa_cons (pe_call O_l_law_take hr_l_law_take (by rfl) (He.glo_ok hX hG (c.look 10)) K_l_law_take B_l_law_take .nil pass0 (pa_cons (pv 0) (pa_cons pe_int pa_nil))) pa_nil)))) pa_nil)))
    (pss_cons (ps_par (i := 3) (j := 4) (by rfl) sc_l_law_digits.nd rfl rfl (by decide) rfl rfl (pa_cons (pe_call O_l_law_take hr_l_law_take (by rfl) (He.glo_ok hX hG (c.look 10)) K_l_law_take B_l_law_take .nil pass0 (pa_cons (pv 0) (pa_cons pe_int pa_nil))) (pa_cons (pe_call O_l_law_take hr_l_law_take (by rfl) (He.glo_ok hX hG (c.look 10)) K_l_law_take B_l_law_take .nil pass0 (pa_cons (pv 0) (pa_cons (pv 1) pa_nil))) pa_nil)) (by rfl))
    (pss_cons (ps_if (pt_cmpR (op_uEq hu) (pv 3) pe_int (nomark _)) (pss_one (ps_ret (pe_op op_uAdd (pe_op op_uAdd (pe_slice sl_u (pv 2) po_none (po_some (pv 4))) (pe_ix ix_u (pe_op op_uAdd pe_str pe_str) (pe_call O_l_law_take hr_l_law_take (by rfl) (He.glo_ok hX hG (c.look 10)) K_l_law_take B_l_law_take .nil pass0 (pa_cons (pv 0) (pa_cons pe_int pa_nil))) (fun _ _ => rfl))) (pe_slice sl_u (pv 2) (po_some (pe_op op_uAdd (pv 4) pe_int)) po_none)))) pss_nil)
    (pss_cons (ps_if (pt_cmpR (op_uEq hu) (pv 3) pe_int (nomark _)) (pss_cons (ps_set (i := 5) sc_l_law_digits.nd rfl (by first | exact Or.inl rfl | exact Or.inr rfl) (pe_lst (pa_cons pe_str (pa_cons pe_str (pa_cons pe_str (pa_cons (pe_op op_uAdd pe_str (pv 2)) (pa_cons (pe_op op_uAdd (pv 2) pe_str) (pa_cons (pe_op op_uAdd pe_str (pv 2)) (pa_cons (pe_op op_uAdd pe_str (pv 2)) (pa_cons (pe_op op_uAdd (pv 2) pe_str) (pa_cons (pe_op op_uAdd pe_str (pv 2)) pa_nil)))))))))))
    (pss_one (ps_ret (pe_ix ix_u (pv 5) (pe_call O_l_law_take hr_l_law_take (by rfl) (He.glo_ok hX hG (c.look 10)) K_l_law_take B_l_law_take .nil pass0 (pa_cons (pv 0) (pa_cons pe_int pa_nil))) (fun _ _ => rfl))))) pss_nil)
    (pss_one (ps_ret (pv 2))))))))
theorem sc_l_law_number : FnScope ["_law_line", "_law_number_here", "_law_sign"] ["_law_line"] (defScope s_l_law_number) := ⟨rfl, rfl, rfl, by decide +kernel, rfl, by decide +kernel, by decide +kernel⟩
theorem ok_l_law_number {P : Program} {w : World} {K : PySem.W.Frag} {mg : Str → Option Value} {base h : Heap} {fd : FuncData} (c : SL.Says looks defs K) (hX : K.In h) (hG : h.Ns mainGlobals mg) (F_l_law_number : Fun_l_law_number K fd) : FnOk P w K mg base CX0 1 (He.fAd K d_l_law_number.at_) fd ["_law_line"] (sp_l_law_number K) := by
  have F := F_l_law_number
  refine F.ok sc_l_law_number (fun vs H Q E h => len_l_law_number h) (fun cdv A outer s H vs Q E hr h => ⟨t_l_law_number K, PSs.nox ?_, pure_l_law_number vs H Q E h⟩)
  have hu := SL.hu64 hr
  exact (pss_cons (ps_if (PW.pt (pw_or (pt_cmpR (op_uEq hu) (pv 0) pe_str (nomark _)) (pw_or (pt_cmpR op_gt (pe_callB call_uLen (by rfl) (He.free_ok hX hG (c.look 3)) (by decide +kernel) (pa_cons (pv 0) pa_nil)) pe_int (nomark _)) (pw_or1 (pt_cmpR (op_uNe hu) (pe_lc (own := [("_law_sign", 2)]) (wi := (iU K (tVar 0))) (g := (gName 2)) (tt := (tTest (tOp (uNi K) (tVar 2) (tC (.str "0123456789"))))) (te := (tVar 2)) (by rfl) sc_l_law_number.nd (pi_u (pv 0)) (blkOk_by (own := [("_law_sign", 2)]) (N := ["_law_line", "_law_number_here", "_law_sign"]) (sc := defScope s_l_law_number) (by decide +kernel)) (fun _ _ _ _ _ => (pg_name (i := 2) sc_l_law_number.nd rfl (by first | exact Or.inl rfl | exact Or.inr rfl))) (fun _ _ _ _ _ => (pts_one (pt_cmpR op_uNi (pv 2) pe_str (by rfl)))) (fun _ _ _ _ _ => (pv 2))) (pe_lst pa_nil) (nomark _)))))) (pss_one (ps_ret pe_non)) pss_nil)
    (pss_cons (ps_if (PW.pt (pw_and (pt_cmpR (op_uEq hu) (pe_ix ix_u (pv 0) pe_int (fun _ _ => rfl)) pe_str (nomark _)) (pw_and1 (pt_cmpR op_gt (pe_callB call_uLen (by rfl) (He.free_ok hX hG (c.look 3)) (by decide +kernel) (pa_cons (pv 0) pa_nil)) pe_int (nomark _))))) (pss_one (ps_ret pe_non)) pss_nil)
    (pss_cons (ps_set (i := 1) sc_l_law_number.nd rfl (by first | exact Or.inl rfl | exact Or.inr rfl) pe_int)
    (pss_cons (ps_for PassesOwn.never rfl (pi_u (pv 0)) (pg_name (i := 2) sc_l_law_number.nd rfl (by first | exact Or.inl rfl | exact Or.inr rfl)) (pss_one (ps_set (i := 1) sc_l_law_number.nd rfl (by first | exact Or.inl rfl | exact Or.inr rfl) (pe_op op_uAdd (pe_op op_uMul pe_int (pv 1)) (pe_bm PySem.F.plainAttrs_str PySem.F.slot_str_index PySem.F.type_str_index mt_indexS pe_str (pa_cons (pv 2) pa_nil))))))
    (pss_one (ps_ret (pv 1)))))))
theorem sc_l_law_within : FnScope ["_law_number_here", "_law_least", "_law_most"] ["_law_number_here", "_law_least", "_law_most"] (defScope s_l_law_within) := ⟨rfl, rfl, rfl, by decide +kernel, rfl, by decide +kernel, by decide +kernel⟩
theorem ok_l_law_within {P : Program} {w : World} {K : PySem.W.Frag} {mg : Str → Option Value} {base h : Heap} {fd : FuncData} (c : SL.Says looks defs K) (hX : K.In h) (hG : h.Ns mainGlobals mg) (F_l_law_within : Fun_l_law_within K fd) : FnOk P w K mg base CX0 1 (He.fAd K d_l_law_within.at_) fd ["_law_number_here", "_law_least", "_law_most"] (sp_l_law_within K) := by
  have F := F_l_law_within
  refine F.ok sc_l_law_within (fun vs H Q E h => len_l_law_within h) (fun cdv A outer s H vs Q E hr h => ⟨t_l_law_within K, PSs.nox ?_, pure_l_law_within vs H Q E h⟩)
  have hu := SL.hu64 hr
  exact (pss_one (ps_ret (pe_ifExp (PW.pt (pw_and (pt_cmpR op_uIn0 (pv 0) pe_non (nomark _)) (pw_and1 (pt_chain op_uLe op_uLe (pv 1) (pv 0) (pv 2))))) (pv 0) pe_non)))
theorem sc_l_law_numbers_right : FnScope ["_law_box_here", "_law_line", "_law_number_here", "_law_near", "_law_far", "_law_least", "_law_most", "_law_found", "_law_due", "_law_some", "_law_thing"] ["_law_box_here"] (defScope s_l_law_numbers_right) := ⟨rfl, rfl, rfl, by decide +kernel, rfl, by decide +kernel, by decide +kernel⟩
theorem ok_l_law_numbers_right {P : Program} {w : World} {K : PySem.W.Frag} {mg : Str → Option Value} {base h : Heap} {fd : FuncData} {fd_parse_integer : FuncData} {fd_l_law_take : FuncData} {fd_l_law_within : FuncData} {fd_l_law_number : FuncData} {fd_l_law_digits : FuncData} (c : SL.Says looks defs K) (hX : K.In h) (hG : h.Ns mainGlobals mg) (F_l_law_numbers_right : Fun_l_law_numbers_right K fd) (O_parse_integer : FnOk P w K mg base CX0 1 (He.fAd K d_parse_integer.at_) fd_parse_integer ["text", "low", "high"] (sp_parse_integer K)) (D_parse_integer : Fun_parse_integer K fd_parse_integer) (O_l_law_take : FnOk P w K mg base CX0 1 (He.fAd K d_l_law_take.at_) fd_l_law_take ["_law_box_here", "_law_many"] (sp_l_law_take K)) (D_l_law_take : Fun_l_law_take K fd_l_law_take) (O_l_law_within : FnOk P w K mg base CX0 1 (He.fAd K d_l_law_within.at_) fd_l_law_within ["_law_number_here", "_law_least", "_law_most"] (sp_l_law_within K)) (D_l_law_within : Fun_l_law_within K fd_l_law_within) (O_l_law_number : FnOk P w K mg base CX0 1 (He.fAd K d_l_law_number.at_) fd_l_law_number ["_law_line"] (sp_l_law_number K)) (D_l_law_number : Fun_l_law_number K fd_l_law_number) (O_l_law_digits : FnOk P w K mg base CX0 2 (He.fAd K d_l_law_digits.at_) fd_l_law_digits ["_law_box_here"] (sp_l_law_digits K)) (D_l_law_digits : Fun_l_law_digits K fd_l_law_digits) : SL.FnG P w K mg base CX0 3 (He.fAd K d_l_law_numbers_right.at_) fd ["_law_box_here"] (sp_l_law_numbers_right K) := by
  have K_parse_integer := D_parse_integer.kp
  have B_l_law_take := bind_l_law_take D_l_law_take
  have K_l_law_take := D_l_law_take.kp
  have B_l_law_within := bind_l_law_within D_l_law_within
  have K_l_law_within := D_l_law_within.kp
  have B_l_law_number := bind_l_law_number D_l_law_number
  have K_l_law_number := D_l_law_number.kp
  have B_l_law_digits := bind_l_law_digits D_l_law_digits
  have K_l_law_digits := D_l_law_digits.kp
  have Q0_parse_integer := kb1_low_high_parse_integer D_parse_integer
  have W0_parse_integer := kl1__parse_integer D_parse_integer
  have W1_parse_integer := kl1_low_parse_integer D_parse_integer
  have W2_parse_integer := kl0_text_high_parse_integer D_parse_integer
  have F := F_l_law_numbers_right
  refine SL.fun_g F sc_l_law_numbers_right (fun vs H Q E h => len_l_law_numbers_right h) (fun cdv A hg0 outer s H vs Q E hr h => ⟨t_l_law_numbers_right K, PSs.nox ?_, pure_l_law_numbers_right vs H Q E h⟩)
  have hg : (A.deeper (envOfC d_l_law_numbers_right.qual d_l_law_numbers_right.scope s.heap.objs.size (He.fAd K d_l_law_numbers_right.at_) cdv)).guards = some [] := SL.guards_deeper hg0
  have hu := SL.hu64 hr
  have hr_parse_integer : Room 1 _ := hr.mono (by decide)
  have hr_l_law_take : Room 1 _ := hr.mono (by decide)
  have hr_l_law_within : Room 1 _ := hr.mono (by decide)
  have hr_l_law_number : Room 1 _ := hr.mono (by decide)
  have hr_l_law_digits : Room 2 _ := hr.mono (by decide)
  exact (pss_cons (ps_set (i := 1) sc_l_law_numbers_right.nd rfl (by first | exact Or.inl rfl | exact Or.inr rfl) (pe_call O_l_law_digits hr_l_law_digits (by rfl) (He.glo_ok hX hG (c.look 18)) K_l_law_digits B_l_law_digits .nil pass0 (pa_cons (pv 0) pa_nil)))
    (pss_cons (ps_set (i := 2) sc_l_law_numbers_right.nd rfl (by first | exact Or.inl rfl | exact Or.inr rfl) (pe_call O_l_law_number hr_l_law_number (by rfl) (He.glo_ok hX hG (c.look 17)) K_l_law_number B_l_law_number .nil pass0 (pa_cons (pv 1) pa_nil)))
    (pss_cons (ps_set (i := 3) sc_l_law_numbers_right.nd rfl (by first | exact Or.inl rfl | exact Or.inr rfl) (pe_ifExp (pt_cmpR op_uIn0 (pv 2) pe_non (nomark _)) (pe_callB (call_min2 rfl) (by rfl) (He.free_ok hX hG (c.look 16)) (by decide +kernel) (pa_cons (pv 2) (pa_cons (pe_op op_sub (pe_op op_pow pe_int pe_int) pe_int) pa_nil))) pe_int))
    (pss_cons (ps_set (i := 4) sc_l_law_numbers_right.nd rfl (by first | exact Or.inl rfl | exact Or.inr rfl) (pe_op op_sub (pe_op op_pow pe_int pe_int) pe_int))
    (pss_cons (ps_if (pt_cmpR (op_uNe hu) (pe_callB (call_uRepr hg hu) (by rfl) (He.free_ok hX hG (c.look 14)) (by decide +kernel) (pa_cons (pe_kw1 O_parse_integer hr_parse_integer (by rfl) (He.glo_ok hX hG (c.look 12)) K_parse_integer Q0_parse_integer pass0 (pa_cons (pv 1) pa_nil) (pk_cons (pe_op op_sub pe_int (pv 4)) (pk_cons (pv 4) pk_nil)) rfl) pa_nil)) (pe_callB (call_uRepr hg hu) (by rfl) (He.free_ok hX hG (c.look 14)) (by decide +kernel) (pa_cons (pv 2) pa_nil)) (nomark _)) (pss_one (ps_ret pe_bl)) pss_nil)
    (pss_cons (ps_par (i := 5) (j := 6) (by rfl) sc_l_law_numbers_right.nd rfl rfl (by decide) rfl rfl (pa_cons (pe_op op_uAdd (pe_op op_sub (pv 3) pe_int) (pe_call O_l_law_take hr_l_law_take (by rfl) (He.glo_ok hX hG (c.look 10)) K_l_law_take B_l_law_take .nil pass0 (pa_cons (pv 0) (pa_cons pe_int pa_nil)))) (pa_cons (pe_op op_uAdd (pe_op op_sub (pv 3) pe_int) (pe_call O_l_law_take hr_l_law_take (by rfl) (He.glo_ok hX hG (c.look 10)) K_l_law_take B_l_law_take .nil pass0 (pa_cons (pv 0) (pa_cons pe_int pa_nil)))) pa_nil)) (by rfl))
    (pss_cons (ps_set (i := 7) sc_l_law_numbers_right.nd rfl (by first | exact Or.inl rfl | exact Or.inr rfl) (pe_lst (pa_cons (pe_kl1 O_parse_integer hr_parse_integer (by rfl) (He.glo_ok hX hG (c.look 12)) K_parse_integer W0_parse_integer pass0 (pa_cons (pv 1) pa_nil) pk_nil rfl) (pa_cons (pe_kw1 O_parse_integer hr_parse_integer (by rfl) (He.glo_ok hX hG (c.look 12)) K_parse_integer Q0_parse_integer pass0 (pa_cons (pv 1) pa_nil) (pk_cons (pv 5) (pk_cons (pv 6) pk_nil)) rfl) (pa_cons (pe_kl0 O_parse_integer hr_parse_integer (by rfl) (He.glo_ok hX hG (c.look 12)) K_parse_integer W2_parse_integer pass0 (pk_cons (pv 1) (pk_cons (pv 6) pk_nil)) rfl) pa_nil)))))
    (pss_cons (ps_set (i := 8) sc_l_law_numbers_right.nd rfl (by first | exact Or.inl rfl | exact Or.inr rfl) (pe_lst (pa_cons (pe_call O_l_law_within hr_l_law_within (by rfl) (He.glo_ok hX hG (c.look 15)) K_l_law_within B_l_law_within .nil pass0 (pa_cons (pv 2) (pa_cons pe_int (pa_cons pe_int pa_nil)))) (pa_cons (pe_call O_l_law_within hr_l_law_within (by rfl) (He.glo_ok hX hG (c.look 15)) K_l_law_within B_l_law_within .nil pass0 (pa_cons (pv 2) (pa_cons (pv 5) (pa_cons (pv 6) pa_nil)))) (pa_cons (pe_call O_l_law_within hr_l_law_within (by rfl) (He.glo_ok hX hG (c.look 15)) K_l_law_within B_l_law_within .nil pass0 (pa_cons (pv 2) (pa_cons pe_int (pa_cons (pv 6) pa_nil)))) pa_nil)))))
    (pss_cons (ps_if (pt_cmpR (op_uNe hu) (pe_callB (call_uRepr hg hu) (by rfl) (He.free_ok hX hG (c.look 14)) (by decide +kernel) (pa_cons (pv 7) pa_nil)) (pe_callB (call_uRepr hg hu) (by rfl) (He.free_ok hX hG (c.look 14)) (by decide +kernel) (pa_cons (pv 8) pa_nil)) (nomark _)) (pss_one (ps_ret pe_bl)) pss_nil)
    (pss_cons (ps_if (pt_cmpR (op_uNe hu) (pe_callB (call_uRepr hg hu) (by rfl) (He.free_ok hX hG (c.look 14)) (by decide +kernel) (pa_cons (pe_kl1 O_parse_integer hr_parse_integer (by rfl) (He.glo_ok hX hG (c.look 12)) K_parse_integer W1_parse_integer pass0 (pa_cons (pv 1) pa_nil) (pk_cons (pv 5) pk_nil) rfl) pa_nil)) (pe_callB (call_uRepr hg hu) (by rfl) (He.free_ok hX hG (c.look 14)) (by decide +kernel) (pa_cons (pe_call O_l_law_within hr_l_law_within (by rfl) (He.glo_ok hX hG (c.look 15)) K_l_law_within B_l_law_within .nil pass0 (pa_cons (pv 2) (pa_cons (pv 5) (pa_cons pe_int pa_nil)))) pa_nil)) (nomark _)) (pss_one (ps_ret pe_bl)) pss_nil)
    (pss_cons (ps_for PassesOwn.never rfl (pi_u (pe_lst (pa_cons pe_int (pa_cons pe_int (pa_cons pe_int (pa_cons pe_int (pa_cons pe_int (pa_cons pe_int (pa_cons pe_int (pa_cons pe_int (pa_cons pe_int (pa_cons pe_int (pa_cons (pe_call O_l_law_take hr_l_law_take (by rfl) (He.glo_ok hX hG (c.look 10)) K_l_law_take B_l_law_take .nil pass0 (pa_cons (pv 0) (pa_cons pe_int pa_nil))) pa_nil))))))))))))) (pg_name (i := 2) sc_l_law_numbers_right.nd rfl (by first | exact Or.inl rfl | exact Or.inr rfl)) (pss_one (ps_if (pt_cmpR (op_uNe hu) (pe_callB (call_uRepr hg hu) (by rfl) (He.free_ok hX hG (c.look 14)) (by decide +kernel) (pa_cons (pe_kl1 O_parse_integer hr_parse_integer (by rfl) (He.glo_ok hX hG (c.look 12)) K_parse_integer W0_parse_integer pass0 (pa_cons (pe_callTy call_uStr (by rfl) (He.free_ok hX hG (c.look 8)) (by decide +kernel) (pa_cons (pv 2) pa_nil)) pa_nil) pk_nil rfl) pa_nil)) (pe_callB (call_uRepr hg hu) (by rfl) (He.free_ok hX hG (c.look 14)) (by decide +kernel) (pa_cons (pe_call O_l_law_within hr_l_law_within (by rfl) (He.glo_ok hX hG (c.look 15)) K_l_law_within B_l_law_within .nil pass0 (pa_cons (pv 2) (pa_cons pe_int (pa_cons pe_int pa_nil)))) pa_nil)) (nomark _)) (pss_one (ps_ret pe_bl)) pss_nil)))
    (pss_cons (ps_set (i := 9) sc_l_law_numbers_right.nd rfl (by first | exact Or.inl rfl | exact Or.inr rfl) (pe_lst (pa_cons pe_non (pa_cons pe_bl (pa_cons pe_int (pa_cons (pe_lst (pa_cons pe_str pa_nil)) (pa_cons (pe_tup (pa_cons pe_str pa_nil)) (pa_cons (pe_disp (pps_cons pe_str pe_int pps_nil) (by rfl) (by rfl) (fun z => by cases z) (by decide)) (pa_cons (pe_op op_wMul pe_str pe_int) (pa_cons (pe_gc rfl (gv_ref (He.glo_ok hX hG (c.look 13)))) pa_nil))))))))))
    (pss_one (ps_ret (pe_cmpR (op_uEq hu) (pe_lc (own := [("_law_thing", 10)]) (wi := (iU K (tVar 9))) (g := (gName 10)) (tt := (tTest (tOp uIsnt (tKl (sp_parse_integer K) [.pos 0, .low 0, .low 1] [(V.int 0), (V.int 999999)] 1 0 (tCons (tVar 10) tNil) tNil) (tC .non)))) (te := (tVar 10)) (by rfl) sc_l_law_numbers_right.nd (pi_u (pv 9)) (blkOk_by (own := [("_law_thing", 10)]) (N := ["_law_box_here", "_law_line", "_law_number_here", "_law_near", "_law_far", "_law_least", "_law_most", "_law_found", "_law_due", "_law_some", "_law_thing"]) (sc := defScope s_l_law_numbers_right) (by decide +kernel)) (fun _ _ _ _ _ => (pg_name (i := 10) sc_l_law_numbers_right.nd rfl (by first | exact Or.inl rfl | exact Or.inr rfl))) (fun _ _ _ _ _ => (pts_one (pt_cmpR op_uIn0 (pe_kl1 O_parse_integer hr_parse_integer (by rfl) (He.glo_ok hX hG (c.look 12)) K_parse_integer W0_parse_integer pass0 (pa_cons (pv 10) pa_nil) pk_nil rfl) pe_non (nomark _)))) (fun _ _ _ _ _ => (pv 10))) (pe_lst pa_nil) (nomark _))))))))))))))))
theorem sc_l_law_words : FnScope ["_law_box_here", "_law_sign", "_law_letters", "_law_line", "_law_k", "_law_word", "_law_gap", "_law_j"] ["_law_box_here", "_law_sign"] (defScope s_l_law_words) := ⟨rfl, rfl, rfl, by decide +kernel, rfl, by decide +kernel, by decide +kernel⟩
theorem ok_l_law_words {P : Program} {w : World} {K : PySem.W.Frag} {mg : Str → Option Value} {base h : Heap} {fd : FuncData} {fd_l_law_take : FuncData} (c : SL.Says looks defs K) (hX : K.In h) (hG : h.Ns mainGlobals mg) (F_l_law_words : Fun_l_law_words K fd) (O_l_law_take : FnOk P w K mg base CX0 1 (He.fAd K d_l_law_take.at_) fd_l_law_take ["_law_box_here", "_law_many"] (sp_l_law_take K)) (D_l_law_take : Fun_l_law_take K fd_l_law_take) : FnOk P w K mg base CX0 2 (He.fAd K d_l_law_words.at_) fd ["_law_box_here", "_law_sign"] (sp_l_law_words K) := by
  have B_l_law_take := bind_l_law_take D_l_law_take
  have K_l_law_take := D_l_law_take.kp
  have F := F_l_law_words
  refine F.ok sc_l_law_words (fun vs H Q E h => len_l_law_words h) (fun cdv A outer s H vs Q E hr h => ⟨t_l_law_words K, PSs.nox ?_, pure_l_law_words vs H Q E h⟩)
  have hu := SL.hu64 hr
  have hr_l_law_take : Room 1 _ := hr.mono (by decide)
  exact (pss_cons (ps_set (i := 2) sc_l_law_words.nd rfl (by first | exact Or.inl rfl | exact Or.inr rfl) pe_str)
    (pss_cons (ps_set (i := 3) sc_l_law_words.nd rfl (by first | exact Or.inl rfl | exact Or.inr rfl) (pe_op op_wMul (pv 1) (pe_callTy call_wInt (by rfl) (He.free_ok hX hG (c.look 2)) (by decide +kernel) (pa_cons (pe_cmpR (op_uEq hu) (pe_call O_l_law_take hr_l_law_take (by rfl) (He.glo_ok hX hG (c.look 10)) K_l_law_take B_l_law_take .nil pass0 (pa_cons (pv 0) (pa_cons pe_int pa_nil))) pe_int (nomark _)) pa_nil))))
    (pss_cons (ps_for PassesOwn.never rfl (pi_range1 rfl (He.free_ok hX hG (c.look 11)) (pa_cons (pe_op op_uAdd pe_int (pe_call O_l_law_take hr_l_law_take (by rfl) (He.glo_ok hX hG (c.look 10)) K_l_law_take B_l_law_take .nil pass0 (pa_cons (pv 0) (pa_cons pe_int pa_nil)))) pa_nil)) (pg_name (i := 4) sc_l_law_words.nd rfl (by first | exact Or.inl rfl | exact Or.inr rfl)) (pss_cons (ps_set (i := 5) sc_l_law_words.nd rfl (by first | exact Or.inl rfl | exact Or.inr rfl) (pe_bm PySem.F.plainAttrs_str PySem.F.slot_str_join PySem.F.type_str_join mt_uJoin pe_str (pa_cons (pe_lc (own := [("_law_j", 7)]) (wi := (iRng1 (tCons (tOp (uAdd K) (tC (.int 1)) (tCall (sp_l_law_take K) [] E0 (tCons (tVar 0) (tCons (tC (.int 6)) tNil)))) tNil))) (g := (gName 7)) (tt := tYes) (te := (tOp (uIx K) (tVar 2) (tCall (sp_l_law_take K) [] E0 (tCons (tVar 0) (tCons (tC (.int 19)) tNil))))) (by rfl) sc_l_law_words.nd (pi_range1 rfl (He.free_ok hX hG (c.look 11)) (pa_cons (pe_op op_uAdd pe_int (pe_call O_l_law_take hr_l_law_take (by rfl) (He.glo_ok hX hG (c.look 10)) K_l_law_take B_l_law_take .nil pass0 (pa_cons (pv 0) (pa_cons pe_int pa_nil)))) pa_nil)) (blkOk_by (own := [("_law_j", 7)]) (N := ["_law_box_here", "_law_sign", "_law_letters", "_law_line", "_law_k", "_law_word", "_law_gap", "_law_j"]) (sc := defScope s_l_law_words) (by decide +kernel)) (fun _ _ _ _ _ => (pg_name (i := 7) sc_l_law_words.nd rfl (by first | exact Or.inl rfl | exact Or.inr rfl))) (fun _ _ _ _ _ => pts_nil) (fun _ _ _ _ _ => (pe_ix ix_u (pv 2) (pe_call O_l_law_take hr_l_law_take (by rfl) (He.glo_ok hX hG (c.look 10)) K_l_law_take B_l_law_take .nil pass0 (pa_cons (pv 0) (pa_cons pe_int pa_nil))) (fun _ _ => rfl)))) pa_nil)))
    (pss_cons (ps_set (i := 6) sc_l_law_words.nd rfl (by first | exact Or.inl rfl | exact Or.inr rfl) (pe_ix ix_u (pe_lst (pa_cons (pv 1) (pa_cons (pv 1) (pa_cons (pv 1) (pa_cons (pv 1) (pa_cons (pe_op op_wMul (pv 1) pe_int) (pa_cons pe_str pa_nil))))))) (pe_call O_l_law_take hr_l_law_take (by rfl) (He.glo_ok hX hG (c.look 10)) K_l_law_take B_l_law_take .nil pass0 (pa_cons (pv 0) (pa_cons pe_int pa_nil))) (fun _ _ => rfl)))
    (pss_one (ps_set (i := 3) sc_l_law_words.nd rfl (by first | exact Or.inl rfl | exact Or.inr rfl) (pe_op op_uAdd (pe_op op_uAdd (pv 3) (pe_op op_wMul (pv 6) (pe_callTy call_wInt (by rfl) (He.free_ok hX hG (c.look 2)) (by decide +kernel) (pa_cons (pe_cmpR op_gt (pv 4) pe_int (nomark _)) pa_nil)))) (pv 5)))))))
    (pss_one (ps_ret (pe_op op_uAdd (pv 3) (pe_ix ix_u (pe_lst (pa_cons (pv 1) (pa_cons pe_str (pa_cons pe_str (pa_cons pe_str (pa_cons pe_str (pa_cons pe_str pa_nil))))))) (pe_call O_l_law_take hr_l_law_take (by rfl) (He.glo_ok hX hG (c.look 10)) K_l_law_take B_l_law_take .nil pass0 (pa_cons (pv 0) (pa_cons pe_int pa_nil))) (fun _ _ => rfl))))))))
theorem sc_l_law_parted : FnScope ["_law_line", "_law_sign", "_law_found", "_law_word", "_law_one"] ["_law_line", "_law_sign"] (defScope s_l_law_parted) := ⟨rfl, rfl, rfl, by decide +kernel, rfl, by decide +kernel, by decide +kernel⟩
theorem ok_l_law_parted {P : Program} {w : World} {K : PySem.W.Frag} {mg : Str → Option Value} {base h : Heap} {fd : FuncData} (c : SL.Says looks defs K) (hX : K.In h) (hG : h.Ns mainGlobals mg) (F_l_law_parted : Fun_l_law_parted K fd) : FnOk P w K mg base CX0 1 (He.fAd K d_l_law_parted.at_) fd ["_law_line", "_law_sign"] (sp_l_law_parted K) := by
  have F := F_l_law_parted
  refine F.ok sc_l_law_parted (fun vs H Q E h => len_l_law_parted h) (fun cdv A outer s H vs Q E hr h => ⟨t_l_law_parted K, PSs.nox ?_, pure_l_law_parted vs H Q E h⟩)
  have hu := SL.hu64 hr
  exact (pss_cons (ps_par (i := 2) (j := 3) (by rfl) sc_l_law_parted.nd rfl rfl (by decide) rfl rfl (pa_cons (pe_lst pa_nil) (pa_cons pe_str pa_nil)) (by rfl))
    (pss_cons (ps_for PassesOwn.never rfl (pi_u (pe_op op_uAdd (pv 0) (pv 1))) (pg_name (i := 4) sc_l_law_parted.nd rfl (by first | exact Or.inl rfl | exact Or.inr rfl)) (pss_one (ps_if (pt_cmpR (op_uEq hu) (pv 4) (pv 1) (nomark _)) (pss_cons (ps_expr (pe_bm PySem.F.plainAttrs_list PySem.F.slot_list_append PySem.F.type_list_append mt_append (pv 2) (pa_cons (pv 3) pa_nil)))
    (pss_one (ps_set (i := 3) sc_l_law_parted.nd rfl (by first | exact Or.inl rfl | exact Or.inr rfl) pe_str))) (pss_one (ps_set (i := 3) sc_l_law_parted.nd rfl (by first | exact Or.inl rfl | exact Or.inr rfl) (pe_op op_uAdd (pv 3) (pv 4)))))))
    (pss_one (ps_ret (pe_ifExp (PW.pt (pw_or (pt_cmpR op_uIn pe_str (pv 0) (by rfl)) (pw_or1 (pt_cmpR op_uIn pe_str (pv 2) (by rfl))))) pe_non (pv 2))))))
theorem sc_l_law_words_right : FnScope ["_law_box_here", "_law_sign", "_law_line", "_law_lap", "_law_some", "_law_found", "_law_thing"] ["_law_box_here"] (defScope s_l_law_words_right) := ⟨rfl, rfl, rfl, by decide +kernel, rfl, by decide +kernel, by decide +kernel⟩
theorem ok_l_law_words_right {P : Program} {w : World} {K : PySem.W.Frag} {mg : Str → Option Value} {base h : Heap} {fd : FuncData} {fd_split_words : FuncData} {fd_l_law_parted : FuncData} {fd_l_law_words : FuncData} {fd_l_law_take : FuncData} (c : SL.Says looks defs K) (hX : K.In h) (hG : h.Ns mainGlobals mg) (F_l_law_words_right : Fun_l_law_words_right K fd) (O_split_words : FnOk P w K mg base CX0 1 (He.fAd K d_split_words.at_) fd_split_words ["text", "separator"] (sp_split_words K)) (D_split_words : Fun_split_words K fd_split_words) (O_l_law_parted : FnOk P w K mg base CX0 1 (He.fAd K d_l_law_parted.at_) fd_l_law_parted ["_law_line", "_law_sign"] (sp_l_law_parted K)) (D_l_law_parted : Fun_l_law_parted K fd_l_law_parted) (O_l_law_words : FnOk P w K mg base CX0 2 (He.fAd K d_l_law_words.at_) fd_l_law_words ["_law_box_here", "_law_sign"] (sp_l_law_words K)) (D_l_law_words : Fun_l_law_words K fd_l_law_words) (O_l_law_take : FnOk P w K mg base CX0 1 (He.fAd K d_l_law_take.at_) fd_l_law_take ["_law_box_here", "_law_many"] (sp_l_law_take K)) (D_l_law_take : Fun_l_law_take K fd_l_law_take) : SL.FnG P w K mg base CX0 3 (He.fAd K d_l_law_words_right.at_) fd ["_law_box_here"] (sp_l_law_words_right K) := by
  have K_split_words := D_split_words.kp
  have B_l_law_parted := bind_l_law_parted D_l_law_parted
  have K_l_law_parted := D_l_law_parted.kp
  have B_l_law_words := bind_l_law_words D_l_law_words
  have K_l_law_words := D_l_law_words.kp
  have B_l_law_take := bind_l_law_take D_l_law_take
  have K_l_law_take := D_l_law_take.kp
  have Q0_split_words := kb1_separator_split_words D_split_words
  have Q1_split_words := kb0_separator_text_split_words D_split_words
  have W0_split_words := kl1__split_words D_split_words
  have F := F_l_law_words_right
  refine SL.fun_g F sc_l_law_words_right (fun vs H Q E h => len_l_law_words_right h) (fun cdv A hg0 outer s H vs Q E hr h => ⟨t_l_law_words_right K, PSs.nox ?_, pure_l_law_words_right vs H Q E h⟩)
  have hg : (A.deeper (envOfC d_l_law_words_right.qual d_l_law_words_right.scope s.heap.objs.size (He.fAd K d_l_law_words_right.at_) cdv)).guards = some [] := SL.guards_deeper hg0
  have hu := SL.hu64 hr
  have hr_split_words : Room 1 _ := hr.mono (by decide)
  have hr_l_law_parted : Room 1 _ := hr.mono (by decide)
  have hr_l_law_words : Room 2 _ := hr.mono (by decide)
  have hr_l_law_take : Room 1 _ := hr.mono (by decide)
  exact (pss_cons (ps_set (i := 1) sc_l_law_words_right.nd rfl (by first | exact Or.inl rfl | exact Or.inr rfl) (pe_ix ix_u pe_str (pe_call O_l_law_take hr_l_law_take (by rfl) (He.glo_ok hX hG (c.look 10)) K_l_law_take B_l_law_take .nil pass0 (pa_cons (pv 0) (pa_cons pe_int pa_nil))) (fun _ _ => rfl)))
    (pss_cons (ps_set (i := 2) sc_l_law_words_right.nd rfl (by first | exact Or.inl rfl | exact Or.inr rfl) (pe_call O_l_law_words hr_l_law_words (by rfl) (He.glo_ok hX hG (c.look 20)) K_l_law_words B_l_law_words .nil pass0 (pa_cons (pv 0) (pa_cons (pv 1) pa_nil))))
    (pss_cons (ps_for PassesOwn.never rfl (pi_range1 rfl (He.free_ok hX hG (c.look 11)) (pa_cons pe_int pa_nil)) (pg_name (i := 3) sc_l_law_words_right.nd rfl (by first | exact Or.inl rfl | exact Or.inr rfl)) (pss_cons (ps_set (i := 5) sc_l_law_words_right.nd rfl (by first | exact Or.inl rfl | exact Or.inr rfl) (pe_kw1 O_split_words hr_split_words (by rfl) (He.glo_ok hX hG (c.look 13)) K_split_words Q0_split_words pass0 (pa_cons (pv 2) pa_nil) (pk_cons (pv 1) pk_nil) rfl))
    (pss_cons (ps_if (pt_cmpR (op_uNe hu) (pe_callB (call_uRepr hg hu) (by rfl) (He.free_ok hX hG (c.look 14)) (by decide +kernel) (pa_cons (pv 5) pa_nil)) (pe_callB (call_uRepr hg hu) (by rfl) (He.free_ok hX hG (c.look 14)) (by decide +kernel) (pa_cons (pe_call O_l_law_parted hr_l_law_parted (by rfl) (He.glo_ok hX hG (c.look 19)) K_l_law_parted B_l_law_parted .nil pass0 (pa_cons (pv 2) (pa_cons (pv 1) pa_nil))) pa_nil)) (nomark _)) (pss_one (ps_ret pe_bl)) pss_nil)
    (pss_one (ps_if (pt_cmpR op_uIn0 (pv 5) pe_non (nomark _)) (pss_one (ps_expr (pe_bm PySem.F.plainAttrs_list PySem.F.slot_list_append PySem.F.type_list_append mt_append (pv 5) (pa_cons pe_str pa_nil)))) pss_nil)))))
    (pss_cons (ps_if (PW.pt (pw_or (pt_cmpR (op_uNe hu) (pe_callB (call_uRepr hg hu) (by rfl) (He.free_ok hX hG (c.look 14)) (by decide +kernel) (pa_cons (pe_kl1 O_split_words hr_split_words (by rfl) (He.glo_ok hX hG (c.look 13)) K_split_words W0_split_words pass0 (pa_cons (pv 2) pa_nil) pk_nil rfl) pa_nil)) (pe_callB (call_uRepr hg hu) (by rfl) (He.free_ok hX hG (c.look 14)) (by decide +kernel) (pa_cons (pe_call O_l_law_parted hr_l_law_parted (by rfl) (He.glo_ok hX hG (c.look 19)) K_l_law_parted B_l_law_parted .nil pass0 (pa_cons (pv 2) (pa_cons pe_str pa_nil))) pa_nil)) (nomark _)) (pw_or1 (pt_cmpR (op_uNe hu) (pe_kw0 O_split_words hr_split_words (by rfl) (He.glo_ok hX hG (c.look 13)) K_split_words Q1_split_words pass0 (pk_cons (pv 1) (pk_cons pe_str pk_nil)) rfl) (pe_lst (pa_cons pe_str pa_nil)) (nomark _))))) (pss_one (ps_ret pe_bl)) pss_nil)
    (pss_cons (ps_if (pt_cmpR (op_uNe hu) (pe_kw1 O_split_words hr_split_words (by rfl) (He.glo_ok hX hG (c.look 13)) K_split_words Q0_split_words pass0 (pa_cons pe_str pa_nil) (pk_cons pe_str pk_nil) rfl) (pe_lst (pa_cons pe_str (pa_cons pe_str (pa_cons pe_str pa_nil)))) (nomark _)) (pss_one (ps_ret pe_bl)) pss_nil)
    (pss_cons (ps_set (i := 4) sc_l_law_words_right.nd rfl (by first | exact Or.inl rfl | exact Or.inr rfl) (pe_lst (pa_cons pe_non (pa_cons pe_bl (pa_cons pe_int (pa_cons (pe_lst (pa_cons pe_str pa_nil)) (pa_cons (pe_tup (pa_cons pe_str (pa_cons pe_str pa_nil))) (pa_cons (pe_disp (pps_cons pe_str pe_int pps_nil) (by rfl) (by rfl) (fun z => by cases z) (by decide)) (pa_cons pe_str (pa_cons pe_str (pa_cons pe_str (pa_cons (pe_gc rfl (gv_ref (He.glo_ok hX hG (c.look 12)))) pa_nil))))))))))))
    (pss_one (ps_ret (pe_cmpR (op_uEq hu) (pe_lc (own := [("_law_thing", 6)]) (wi := (iU K (tVar 4))) (g := (gName 6)) (tt := (tTest (tOp uIsnt (tKl (sp_split_words K) [.pos 0, .low 0] [(V.str " ")] 1 0 (tCons (tVar 6) tNil) tNil) (tC .non)))) (te := (tVar 6)) (by rfl) sc_l_law_words_right.nd (pi_u (pv 4)) (blkOk_by (own := [("_law_thing", 6)]) (N := ["_law_box_here", "_law_sign", "_law_line", "_law_lap", "_law_some", "_law_found", "_law_thing"]) (sc := defScope s_l_law_words_right) (by decide +kernel)) (fun _ _ _ _ _ => (pg_name (i := 6) sc_l_law_words_right.nd rfl (by first | exact Or.inl rfl | exact Or.inr rfl))) (fun _ _ _ _ _ => (pts_one (pt_cmpR op_uIn0 (pe_kl1 O_split_words hr_split_words (by rfl) (He.glo_ok hX hG (c.look 13)) K_split_words W0_split_words pass0 (pa_cons (pv 6) pa_nil) pk_nil rfl) pe_non (nomark _)))) (fun _ _ _ _ _ => (pv 6))) (pe_lst pa_nil) (nomark _))))))))))
theorem sc_l_law_long_right : FnScope ["_law_box_here", "_law_many", "_law_far"] ["_law_box_here"] (defScope s_l_law_long_right) := ⟨rfl, rfl, rfl, by decide +kernel, rfl, by decide +kernel, by decide +kernel⟩
theorem ok_l_law_long_right {P : Program} {w : World} {K : PySem.W.Frag} {mg : Str → Option Value} {base h : Heap} {fd : FuncData} {fd_split_words : FuncData} {fd_parse_integer : FuncData} {fd_l_law_take : FuncData} (c : SL.Says looks defs K) (hX : K.In h) (hG : h.Ns mainGlobals mg) (F_l_law_long_right : Fun_l_law_long_right K fd) (O_split_words : FnOk P w K mg base CX0 1 (He.fAd K d_split_words.at_) fd_split_words ["text", "separator"] (sp_split_words K)) (D_split_words : Fun_split_words K fd_split_words) (O_parse_integer : FnOk P w K mg base CX0 1 (He.fAd K d_parse_integer.at_) fd_parse_integer ["text", "low", "high"] (sp_parse_integer K)) (D_parse_integer : Fun_parse_integer K fd_parse_integer) (O_l_law_take : FnOk P w K mg base CX0 1 (He.fAd K d_l_law_take.at_) fd_l_law_take ["_law_box_here", "_law_many"] (sp_l_law_take K)) (D_l_law_take : Fun_l_law_take K fd_l_law_take) : SL.FnG P w K mg base CX0 2 (He.fAd K d_l_law_long_right.at_) fd ["_law_box_here"] (sp_l_law_long_right K) := by
  have K_split_words := D_split_words.kp
  have K_parse_integer := D_parse_integer.kp
  have B_l_law_take := bind_l_law_take D_l_law_take
  have K_l_law_take := D_l_law_take.kp
  have W0_split_words := kl1__split_words D_split_words
  have W1_parse_integer := kl1_high_parse_integer D_parse_integer
  have F := F_l_law_long_right
  refine SL.fun_g F sc_l_law_long_right (fun vs H Q E h => len_l_law_long_right h) (fun cdv A hg0 outer s H vs Q E hr h => ⟨t_l_law_long_right K, PSs.nox ?_, pure_l_law_long_right vs H Q E h⟩)
  have hg : (A.deeper (envOfC d_l_law_long_right.qual d_l_law_long_right.scope s.heap.objs.size (He.fAd K d_l_law_long_right.at_) cdv)).guards = some [] := SL.guards_deeper hg0
  have hu := SL.hu64 hr
  have hr_split_words : Room 1 _ := hr.mono (by decide)
  have hr_parse_integer : Room 1 _ := hr.mono (by decide)
  have hr_l_law_take : Room 1 _ := hr.mono (by decide)
  exact (pss_cons (ps_par (i := 1) (j := 2) (by rfl) sc_l_law_long_right.nd rfl rfl (by decide) rfl rfl (pa_cons (pe_ix ix_u (pe_lst (pa_cons pe_int (pa_cons (pe_op op_uAdd pe_int (pe_call O_l_law_take hr_l_law_take (by rfl) (He.glo_ok hX hG (c.look 10)) K_l_law_take B_l_law_take .nil pass0 (pa_cons (pv 0) (pa_cons pe_int pa_nil)))) pa_nil))) (pe_call O_l_law_take hr_l_law_take (by rfl) (He.glo_ok hX hG (c.look 10)) K_l_law_take B_l_law_take .nil pass0 (pa_cons (pv 0) (pa_cons pe_int pa_nil))) (fun _ _ => rfl)) (pa_cons (pe_op op_sub (pe_op op_pow pe_int pe_int) pe_int) pa_nil)) (by rfl))
    (pss_cons (ps_if (pt_cmpR (op_uNe hu) (pe_callB (call_uRepr hg hu) (by rfl) (He.free_ok hX hG (c.look 14)) (by decide +kernel) (pa_cons (pe_kl1 O_parse_integer hr_parse_integer (by rfl) (He.glo_ok hX hG (c.look 12)) K_parse_integer W1_parse_integer pass0 (pa_cons (pe_op op_wMul pe_str pe_int) pa_nil) (pk_cons (pv 2) pk_nil) rfl) pa_nil)) (pe_callB (call_uRepr hg hu) (by rfl) (He.free_ok hX hG (c.look 14)) (by decide +kernel) (pa_cons (pv 2) pa_nil)) (nomark _)) (pss_one (ps_ret pe_bl)) pss_nil)
    (pss_one (ps_ret (pe_and (pe_cmpR (op_uEq hu) (pe_kl1 O_split_words hr_split_words (by rfl) (He.glo_ok hX hG (c.look 13)) K_split_words W0_split_words pass0 (pa_cons (pe_op op_uAdd (pe_op op_wMul pe_str (pv 1)) pe_str) pa_nil) pk_nil rfl) (pe_op op_uAdd (pe_op op_wMul (pe_lst (pa_cons pe_str pa_nil)) (pv 1)) (pe_lst (pa_cons pe_str pa_nil))) (nomark _)) (pe_one (pe_cmpR op_uIs (pe_kl1 O_split_words hr_split_words (by rfl) (He.glo_ok hX hG (c.look 13)) K_split_words W0_split_words pass0 (pa_cons (pe_op op_wMul pe_str (pv 1)) pa_nil) pk_nil rfl) pe_non (nomark _))))))))
theorem sc_law : FnScope ["_law_script", "_law_k", "_law_box_here", "_law_turn"] ["_law_script"] (defScope s_law) := ⟨rfl, rfl, rfl, by decide +kernel, rfl, by decide +kernel, by decide +kernel⟩
theorem ok_law {P : Program} {w : World} {K : PySem.W.Frag} {mg : Str → Option Value} {base h : Heap} {fd : FuncData} {fd_l_law_words_right : FuncData} {fd_l_law_numbers_right : FuncData} {fd_l_law_long_right : FuncData} {fd_l_law_box : FuncData} {fd_l_law_cell : FuncData} (c : SL.Says looks defs K) (hX : K.In h) (hG : h.Ns mainGlobals mg) (F_law : Fun_law K fd) (O_l_law_words_right : SL.FnG P w K mg base CX0 3 (He.fAd K d_l_law_words_right.at_) fd_l_law_words_right ["_law_box_here"] (sp_l_law_words_right K)) (D_l_law_words_right : Fun_l_law_words_right K fd_l_law_words_right) (O_l_law_numbers_right : SL.FnG P w K mg base CX0 3 (He.fAd K d_l_law_numbers_right.at_) fd_l_law_numbers_right ["_law_box_here"] (sp_l_law_numbers_right K)) (D_l_law_numbers_right : Fun_l_law_numbers_right K fd_l_law_numbers_right) (O_l_law_long_right : SL.FnG P w K mg base CX0 2 (He.fAd K d_l_law_long_right.at_) fd_l_law_long_right ["_law_box_here"] (sp_l_law_long_right K)) (D_l_law_long_right : Fun_l_law_long_right K fd_l_law_long_right) (O_l_law_box : FnOk P w K mg base CX0 1 (He.fAd K d_l_law_box.at_) fd_l_law_box ["_law_cell_here"] (sp_l_law_box K)) (D_l_law_box : Fun_l_law_box K fd_l_law_box) (O_l_law_cell : FnOk P w K mg base CX0 1 (He.fAd K d_l_law_cell.at_) fd_l_law_cell ["_law_script", "_law_k"] (sp_l_law_cell K)) (D_l_law_cell : Fun_l_law_cell K fd_l_law_cell) : SL.FnG P w K mg base CX0 4 (He.fAd K d_law.at_) fd ["_law_script"] (sp_law K) := by
  have B_l_law_words_right := bind_l_law_words_right D_l_law_words_right
  have K_l_law_words_right := D_l_law_words_right.kp
  have B_l_law_numbers_right := bind_l_law_numbers_right D_l_law_numbers_right
  have K_l_law_numbers_right := D_l_law_numbers_right.kp
  have B_l_law_long_right := bind_l_law_long_right D_l_law_long_right
  have K_l_law_long_right := D_l_law_long_right.kp
  have B_l_law_box := bind_l_law_box D_l_law_box
  have K_l_law_box := D_l_law_box.kp
  have B_l_law_cell := bind_l_law_cell D_l_law_cell
  have K_l_law_cell := D_l_law_cell.kp
  have F := F_law
  refine SL.fun_g F sc_law (fun vs H Q E h => len_law h) (fun cdv A hg0 outer s H vs Q E hr h => ⟨t_law K, PSs.nox ?_, pure_law vs H Q E h⟩)
  have hg : (A.deeper (envOfC d_law.qual d_law.scope s.heap.objs.size (He.fAd K d_law.at_) cdv)).guards = some [] := SL.guards_deeper hg0
  have hu := SL.hu64 hr
  have hr_l_law_words_right : Room 3 _ := hr.mono (by decide)
  have hr_l_law_numbers_right : Room 3 _ := hr.mono (by decide)
  have hr_l_law_long_right : Room 2 _ := hr.mono (by decide)
  have hr_l_law_box : Room 1 _ := hr.mono (by decide)
  have hr_l_law_cell : Room 1 _ := hr.mono (by decide)
  exact (pss_cons (ps_for PassesOwn.never rfl (pi_range1 rfl (He.free_ok hX hG (c.look 11)) (pa_cons (pe_callB (call_max2 rfl) (by rfl) (He.free_ok hX hG (c.look 9)) (by decide +kernel) (pa_cons pe_int (pa_cons (pe_callB (call_min2 rfl) (by rfl) (He.free_ok hX hG (c.look 16)) (by decide +kernel) (pa_cons pe_int (pa_cons (pe_callB call_uLen (by rfl) (He.free_ok hX hG (c.look 3)) (by decide +kernel) (pa_cons (pv 0) pa_nil)) pa_nil))) pa_nil))) pa_nil)) (pg_name (i := 1) sc_law.nd rfl (by first | exact Or.inl rfl | exact Or.inr rfl)) (pss_cons (ps_set (i := 2) sc_law.nd rfl (by first | exact Or.inl rfl | exact Or.inr rfl) (pe_call O_l_law_box hr_l_law_box (by rfl) (He.glo_ok hX hG (c.look 24)) K_l_law_box B_l_law_box .nil pass0 (pa_cons (pe_call O_l_law_cell hr_l_law_cell (by rfl) (He.glo_ok hX hG (c.look 25)) K_l_law_cell B_l_law_cell .nil pass0 (pa_cons (pv 0) (pa_cons (pv 1) pa_nil))) pa_nil)))
    (pss_cons (ps_if (pt_not (pt_tru (pe_cg O_l_law_long_right hg hr_l_law_long_right (by rfl) (He.glo_ok hX hG (c.look 23)) K_l_law_long_right B_l_law_long_right .nil pass0 (pa_cons (pv 2) pa_nil)) (by intro _; rfl))) (pss_one (ps_ret pe_bl)) pss_nil)
    (pss_one (ps_for PassesOwn.never rfl (pi_range1 rfl (He.free_ok hX hG (c.look 11)) (pa_cons pe_int pa_nil)) (pg_name (i := 3) sc_law.nd rfl (by first | exact Or.inl rfl | exact Or.inr rfl)) (pss_one (ps_if (PW.pt (pw_or (pt_not (pt_tru (pe_cg O_l_law_numbers_right hg hr_l_law_numbers_right (by rfl) (He.glo_ok hX hG (c.look 22)) K_l_law_numbers_right B_l_law_numbers_right .nil pass0 (pa_cons (pv 2) pa_nil)) (by intro _; rfl))) (pw_or1 (pt_not (pt_tru (pe_cg O_l_law_words_right hg hr_l_law_words_right (by rfl) (He.glo_ok hX hG (c.look 21)) K_l_law_words_right B_l_law_words_right .nil pass0 (pa_cons (pv 2) pa_nil)) (by intro _; rfl)))))) (pss_one (ps_ret pe_bl)) pss_nil)))))))
    (pss_one (ps_ret pe_bl)))
abbrev R : PySem.W.OpenRow := PySem.W.OpenLaw.row PySem.Challenge.rw_searchorders_k03_numbers_and_words_in_te
abbrev hk : PySem.W.Hook := SL.hookM 6 looks defs
def ob (s : PySem.W.SharedT) : SL.AlM := SL.obsMG 6 looks defs (HandSHeadRun.getT s)
theorem ob_eq (s : PySem.W.SharedT) : ob s = hk.obs s.abs := SL.obsMG_eq (HandSHeadRun.getT_eq s)
theorem run (w : World) : HandSHeadRun.RunEq R (PySem.W.view R.prog [17]) hk ob 3000 ["__name__", "DIGITS", "MOST_DIGITS", "parse_integer", "split_words", "_law_cell", "_law_box", "_law_take", "_law_digits", "_law_number", "_law_within", "_law_numbers_right", "_law_words", "_law_parted", "_law_words_right", "_law_long_right"] w := by
  intro os
  kernel_rfl
theorem facts {P : Program} {w : World} {K : PySem.W.Frag} {h : Heap} {mg : Str → Option Value} {f : Addr} (X : K.In h) (G : h.Ns mainGlobals mg) (hfa : mg ("law" : Str) = some (.ref f)) (c : SL.Says looks defs K) :
    ∃ fd : FuncData, (∀ (s : Shared) (v : Value), BindsTo s fd ⟨[v], []⟩ [("_law_script", v)]) ∧ ∀ base : Heap, K.In base → base.Ns mainGlobals mg → SL.FnG P w K mg base CX0 4 f fd ["_law_script"] (sp_law K) := by
  obtain ⟨fd_parse_integer, F_parse_integer⟩ := c.defn 0 (d := d_parse_integer) rfl
  obtain ⟨fd_split_words, F_split_words⟩ := c.defn 1 (d := d_split_words) rfl
  obtain ⟨fd_l_law_cell, F_l_law_cell⟩ := c.defn 2 (d := d_l_law_cell) rfl
  obtain ⟨fd_l_law_box, F_l_law_box⟩ := c.defn 3 (d := d_l_law_box) rfl
  obtain ⟨fd_l_law_take, F_l_law_take⟩ := c.defn 4 (d := d_l_law_take) rfl
  obtain ⟨fd_l_law_digits, F_l_law_digits⟩ := c.defn 5 (d := d_l_law_digits) rfl
  obtain ⟨fd_l_law_number, F_l_law_number⟩ := c.defn 6 (d := d_l_law_number) rfl
  obtain ⟨fd_l_law_within, F_l_law_within⟩ := c.defn 7 (d := d_l_law_within) rfl
  obtain ⟨fd_l_law_numbers_right, F_l_law_numbers_right⟩ := c.defn 8 (d := d_l_law_numbers_right) rfl
  obtain ⟨fd_l_law_words, F_l_law_words⟩ := c.defn 9 (d := d_l_law_words) rfl
  obtain ⟨fd_l_law_parted, F_l_law_parted⟩ := c.defn 10 (d := d_l_law_parted) rfl
  obtain ⟨fd_l_law_words_right, F_l_law_words_right⟩ := c.defn 11 (d := d_l_law_words_right) rfl
  obtain ⟨fd_l_law_long_right, F_l_law_long_right⟩ := c.defn 12 (d := d_l_law_long_right) rfl
  obtain ⟨fd_law, F_law⟩ := c.defn 13 (d := d_law) rfl
  have e := hfa.symm.trans (He.glo_ok X G (c.look 0))
  cases e
  have b := FunD.bindsA (ps := ["_law_script"]) F_law fun _ _ _ _ _ _ us hl => match us, hl with | [_], _ => rfl
  refine ⟨fd_law, fun s v => b s [v] rfl, fun base X2 G2 => ?_⟩
  have O_parse_integer := ok_parse_integer (P := P) (w := w) (base := base) c X G F_parse_integer
  have O_split_words := ok_split_words (P := P) (w := w) (base := base) c X G F_split_words
  have O_l_law_cell := ok_l_law_cell (P := P) (w := w) (base := base) c X G F_l_law_cell
  have O_l_law_box := ok_l_law_box (P := P) (w := w) (base := base) c X G F_l_law_box
  have O_l_law_take := ok_l_law_take (P := P) (w := w) (base := base) c X G F_l_law_take
  have O_l_law_digits := ok_l_law_digits (P := P) (w := w) (base := base) c X G F_l_law_digits O_l_law_take F_l_law_take
  have O_l_law_number := ok_l_law_number (P := P) (w := w) (base := base) c X G F_l_law_number
  have O_l_law_within := ok_l_law_within (P := P) (w := w) (base := base) c X G F_l_law_within
  have O_l_law_numbers_right := ok_l_law_numbers_right (P := P) (w := w) (base := base) c X G F_l_law_numbers_right O_parse_integer F_parse_integer O_l_law_take F_l_law_take O_l_law_within F_l_law_within O_l_law_number F_l_law_number O_l_law_digits F_l_law_digits
  have O_l_law_words := ok_l_law_words (P := P) (w := w) (base := base) c X G F_l_law_words O_l_law_take F_l_law_take
  have O_l_law_parted := ok_l_law_parted (P := P) (w := w) (base := base) c X G F_l_law_parted
  have O_l_law_words_right := ok_l_law_words_right (P := P) (w := w) (base := base) c X G F_l_law_words_right O_split_words F_split_words O_l_law_parted F_l_law_parted O_l_law_words F_l_law_words O_l_law_take F_l_law_take
  have O_l_law_long_right := ok_l_law_long_right (P := P) (w := w) (base := base) c X G F_l_law_long_right O_split_words F_split_words O_parse_integer F_parse_integer O_l_law_take F_l_law_take
  have O_law := ok_law (P := P) (w := w) (base := base) c X G F_law O_l_law_words_right F_l_law_words_right O_l_law_numbers_right F_l_law_numbers_right O_l_law_long_right F_l_law_long_right O_l_law_box F_l_law_box O_l_law_cell F_l_law_cell
  exact O_law
end K3
open PySem PySem.W PySem.Calls PyProof.Rows
theorem PySem.Challenge.cw_searchorders_k03_numbers_and_words_in_te_holds : PySem.Challenge.rw_searchorders_k03_numbers_and_words_in_te.Holds := by
  w_on; o_law
  refine HandSHeadRun.head_any (r := OpenLaw.row PySem.Challenge.rw_searchorders_k03_numbers_and_words_in_te) (q := view (OpenLaw.row PySem.Challenge.rw_searchorders_k03_numbers_and_words_in_te).prog [17]) (H := K3.hk) (ob := K3.ob) (M := 3000) (loose := ["__name__", "DIGITS", "MOST_DIGITS", "parse_integer", "split_words", "_law_cell", "_law_box", "_law_take", "_law_digits", "_law_number", "_law_within", "_law_numbers_right", "_law_words", "_law_parted", "_law_words_right", "_law_long_right"]) (d := HandSHeadRun.topDef (OpenLaw.row PySem.Challenge.rw_searchorders_k03_numbers_and_words_in_te).prog 17) (kwd := []) K3.ob_eq
    (by kernel_rfl) (fun s => by kernel_rfl) K3.run (by kernel_rfl) (by kernel_rfl) (by kernel_rfl) (by rfl) (by first | assumption | decide +kernel) (by decide +kernel) ⟨rfl, rfl, rfl, rfl, rfl, by decide +kernel⟩ ?hw ?hc
  case hw => w_witness2
  case hc =>
    refine SL.walk_g (l := PySem.Challenge.rw_searchorders_k03_numbers_and_words_in_te) (n := 63) (k := 4) (x := "_law_script") (CX := L2.CX0) rfl (by decide) (by kernel_rfl) ⟨rfl, by decide, by decide⟩ ?F (fun _ _ _ _ z => z)
    intro w mg fa h Y G hmg0
    obtain ⟨K, KX, c⟩ := Y
    have hmg : mg ("law" : PySem.Str) = some (.ref fa) := by
      have e : (HandSHeadRun.topDef (OpenLaw.row PySem.Challenge.rw_searchorders_k03_numbers_and_words_in_te).prog 17).name = ("law" : PySem.Str) := by kernel_rfl
      rw [← e]
      exact hmg0
    obtain ⟨fd, hb, hF⟩ := K3.facts (P := (PySem.Challenge.rw_searchorders_k03_numbers_and_words_in_te).prog) (w := w) KX G hmg c
    exact ⟨K, fd, K3.sp_law K, KX, hb, fun H a ns hl _ hS => ⟨a, ns, rfl, (c.look 1), hS, hl, fun _ => rfl⟩, hF⟩
