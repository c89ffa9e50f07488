import PyProof.Rows.All
import Wide.All
import OpenK.AllK
import Wide.FinOn
import HandS.ForMost
import HandS.Exc
import HandS.TryOnly
import HandS.ExcOwn
import HandS.WordsExc
import HandS.Flow
import HandS.Defaults
import HandS.IsInst
import HandS.Wide
import HandS.TupAny
import HandS.TupMul
import HandS.Head0
import HandS.Head1
import HandS.Head2
import HandS.HeadEnd
import HandS.HeadHook1
import HandS.HeadHook2
import PyProof.ReprRoads
import HandS.Sort
import HandS.More
import HandS.RaiseMore
import HandS.Conv
import HandS.Style
import PyProof.IsiBase
import PyProof.FactsAll.set
import PyProof.IsiH_set
import KE.KExcIs
import HandS.ExcInit
import HandS.Walk
import HandS.StrMore
import HandS.MakeKwOnly
import HandS.Codes
import OpenK.KOps
import KE.KCallOwn
import HandS.OwnEq
import HandS.SlotsOwn
import PyProof.InstNe
import PyProof.EqKinds
import PyProof.NeKinds
import HandS.Property
import HandS.FStr
import PySem.Challenge.RW_searchorders_k12_shapes_served
set_option Elab.async false
set_option linter.all false
set_option maxRecDepth 100000
set_option maxHeartbeats 0
/-! SL0: promises of defs that may ask for a repr (no guard stands around), the head's hook, the end. -/
namespace SL
open PySem PySem.Spec PyProof.Rows L2

/-- as the layer's promise, where no guard stands around the call -/
structure FnG (P : Program) (w : World) (K : PySem.W.Frag) (mg : Str → Option Value) (base : Heap) (CX : CXT) (k : Nat) (f : Addr) (fd : FuncData) (ps : List Str) (sp : Sp) : Prop where
  len : ∀ vs H Q E, sp vs H Q E → vs.length = ps.length
  go : ∀ (A : Around), A.guards = some [] → ∀ (outer : List Env) (s : Shared) (H : Hp) (args : Args) (us : List Value) (vs : List V) (Q : VK) (E : XK), Room k A →
    Env0 P w K mg base A outer s H → BindsTo s fd args (ps.zip us) → Vals vs us → sp vs H Q E → codeAny (model P w) A (.call (.ref f) args) (CR CX outer P w H s Q E) s

section
variable {P : Program} {w : World} {K : PySem.W.Frag} {mg : Str → Option Value} {base : Heap} {CX : CXT} {j k : Nat} {f : Addr} {fd : FuncData} {ps : List Str} {sp sp' : Sp}
theorem FnG.of (F : FnOk P w K mg base CX k f fd ps sp) : FnG P w K mg base CX k f fd ps sp :=
  ⟨F.len, fun A _ outer s H args us vs Q E hr => F.run A outer s H args us vs Q E hr⟩
theorem FnG.mono (F : FnG P w K mg base CX j f fd ps sp) (h : j ≤ k) : FnG P w K mg base CX k f fd ps sp :=
  ⟨F.len, fun A g outer s H args us vs Q E hr => F.go A g outer s H args us vs Q E (hr.mono h)⟩

/-- a def by its body; the body may use that no guard stands around -/
theorem fn_g {name qual : Str} {params : Arguments} {body : List Stmt} {scope : Scope} {dV kV doc pm cdv ct oc : Value} {an od : Option Addr} {osl : Array (Option Value)} {N : List Str}
    (lk : K.lookup f = some ⟨oc, od, .func (PySem.W.fnOf name qual params body scope dV kV doc pm an cdv ct), osl⟩) (hcd : PySem.W.codeIn K cdv qual = true) (S : FnScope N ps scope)
    (len : ∀ vs H Q E, sp vs H Q E → vs.length = ps.length)
    (hb : ∀ (A : Around), A.guards = some [] → ∀ (outer : List Env) (s : Shared) (H : Hp) (vs : List V) (Q : VK) (E : XK), Room k (A.deeper (envOfC qual scope s.heap.objs.size f cdv)) → sp vs H Q E →
      ∃ t, PSs (cxOf CX P w K mg base N qual scope f cdv A outer s H E) body t ∧ t { nx := fun _ H' => Q .non H', rt := Q } (start N vs) H) :
    FnG P w K mg base CX (k + 1) f (PySem.W.fnOf name qual params body scope dV kV doc pm an cdv ct) ps sp := by
  constructor
  · exact len
  · intro A hg outer s H args us vs Q E room e0 bnd rv hs
    have lenv : vs.length = ps.length := len vs H Q E hs
    have inK : K.In s.heap := e0.mod.kin.keeps (fun b o e => (e0.bs b o e).1)
    have noL : s.heap.NoLimit := e0.mod.nolimit.keeps (fun b o e => (e0.bs b o e).1)
    have hk : ∀ y ∈ ps.zip us, scope.names.lookup y.1 = some .local ∨ (scope.names.lookup y.1 = some .cell ∧ ((cellsFrom (s.heap.objs.size + 1) scope.names []).lookup y.1).isSome = true) := by
      rintro ⟨n, v⟩ hy
      cases S.par n (List.of_mem_zip hy).1 with
      | inl z => exact Or.inl z
      | inr z => exact Or.inr ⟨z, PySem.W.cellsFrom_some _ _ _ (Or.inl z)⟩
    refine codeAny_call_function room.depth (inK _ _ lk) rfl S.co S.gen rfl (PySem.W.codeRec_of inK hcd) (bnd _ _ _ _ ?_)
    refine wpAny_newFunctionEnv_cells S.kind hk (fun env henv s1 inc => ?_)
    subst henv
    refine ⟨noL.keeps inc.toInCall.keep, codeAny_func ?_⟩
    rcases hb A hg outer s H vs Q E (room.deeper _) hs with ⟨t, pss, rd⟩
    have iv : Inv (cxOf CX P w K mg base N qual scope f cdv A outer s H E) [] (start N vs) H s1 := inv_start S room.hd e0 lenv rv inc
    refine wpAny_mono (pss.run [] s1 (start N vs) H _ iv rd) ?_ (fun _ _ z => z)
    have done : ∀ {σ' : L2.St} {H' : Hp} {v : V} {u : Value} {s' : Shared}, Inv (cxOf CX P w K mg base N qual scope f cdv A outer s H E) [] σ' H' s' → RelV v u → Q v H' → CE outer P w H s Q u s' := by
      intro σ' H' v u s' J r q
      exact ⟨v, H', J.os, J.bare, J.base, J.hok, r, q⟩
    intro fl s' z
    match fl, z with
    | .ret u, ⟨v, σ', H', J, r, q⟩ => exact done J r q
    | .next, ⟨σ', H', J, q⟩ => exact done (v := V.non) (u := Value.none) J rfl q
    | .brk, ⟨_, _, _, q⟩ => exact q.elim
    | .cont, ⟨_, _, _, q⟩ => exact q.elim
/-- the same of a def of the text, told by the head -/
theorem fun_g {x qual : Str} {params : Arguments} {body : List Stmt} {scope : Scope} {dvs : List V} {kws : List (Str × V)} {N : List Str} (F : FunD K x qual params body scope dvs kws f fd) (S : FnScope N ps scope)
    (len : ∀ vs H Q E, sp vs H Q E → vs.length = ps.length)
    (hb : ∀ (cdv : Value) (A : Around), A.guards = some [] → ∀ (outer : List Env) (s : Shared) (H : Hp) (vs : List V) (Q : VK) (E : XK), Room k (A.deeper (envOfC qual scope s.heap.objs.size f cdv)) → sp vs H Q E →
      ∃ t, PSs (cxOf CX P w K mg base N qual scope f cdv A outer s H E) body t ∧ t { nx := fun _ H' => Q .non H', rt := Q } (start N vs) H) : FnG P w K mg base CX (k + 1) f fd ps sp := by
  obtain ⟨oc, od, dV, kV, doc, pm, an, cdv, ct, osl, rfl, lk, hcd, _, _⟩ := F.ex
  exact fn_g lk hcd S len fun A hg outer s H vs Q E hr hs => hb cdv A hg outer s H vs Q E hr hs
end

section
variable {X : Cx} {CX : CXT} {k : Nat} {f : Addr} {fd : FuncData} {ps : List Str} {sp : Sp} {dvs : List V} {ds : List Value} {E : XK} {x : Str} {p pos : Pos} {e : Expr} {es : List Expr} {t : TA}
theorem call_g {pins : List (Addr × Obj)} {σ : L2.St} {H : Hp} {s : Shared} {Q : VK} {us : List Value} {vs : List V} (F : FnG X.prog X.w X.K X.mg X.base CX k f fd ps sp) (hg : X.A.guards = some []) (hr : Room k X.A) (hb : Binds X.K fd ps ds)
    (hd : Vals dvs ds) (hx : Passes CX X E) (I : Inv X pins σ H s) (r : Vals vs us) (h : sp (vs ++ dvs) H Q E) : wpAny (model X.prog X.w) X.A (call (.ref f) us) (EP X pins σ Q) X.xe s := by
  have r2 : Vals (vs ++ dvs) (us ++ ds) := r.append hd
  have lenu : (us ++ ds).length = ps.length := r2.length.symm.trans (F.len _ _ _ _ h)
  refine wpAny_call (codeAny_mono (F.go X.A hg X.stack s H ⟨us, []⟩ (us ++ ds) (vs ++ dvs) Q E hr I.env0 (hb s us I.kIn lenu) r2 h) ?_)
  intro r s' z
  match r, z with
  | .error e, z => exact hx pins σ H s e s' I z
  | .ok (.ret u), z => exact I.after z
  | .ok .next, z => exact z.elim
  | .ok .brk, z => exact z.elim
  | .ok .cont, z => exact z.elim
/-- f(e, ..) -/
theorem pe_cg (F : FnG X.prog X.w X.K X.mg X.base CX k f fd ps sp) (hg : X.A.guards = some []) (hr : Room k X.A) (gl : Gl X x) (hm : X.mg x = some (.ref f)) (hk : PySem.W.keepIn X.K (.ref f) = true) (hb : Binds X.K fd ps ds) (hd : Vals dvs ds)
    (hx : Passes CX X E) (ha : PA X (e :: es) t) (hdb : (x == ("__debug__" : Str)) = false := by decide) (he : starEach (e :: es) X.env = (false, eval e X.env) :: starEach es X.env := by rfl)
    (hpl : (backTo pos (starEach es X.env)).any (·.1) = false := by rfl) : PE X (.Call (.Name x p) (e :: es) [] pos) (tCall sp dvs E t) := by
  constructor
  intro pins s σ H Q I h
  refine wpAny_Call_Name_kw (ld_glob I gl hm ?_ hdb)
  refine PySem.W.callWith_K (h₀ := X.base) I.ok.mod.kin hk (thn (ha.run pos pins s σ H _ I h) ?_) he hpl
  rintro us s1 ⟨vs, H1, I1, r, q⟩
  exact ⟨I1.kIn, call_g F hg hr hb hd hx I1 r q⟩
end

/-! ### the end -/
theorem guards_caller : callerA.guards = some [] := rfl
/-- the abstract heap at the law's entry: the script alone, locked as its object, unless it is the text's own -/
def entryH (a : Addr) (o : Obj) (xs : List V) : Hp := fun b => if b = a then some (.frz o (.lst xs)) else none
theorem entryH_ne {a b : Addr} {o : Obj} {xs : List V} (h : b ≠ a) : entryH a o xs b = none := if_neg h
theorem entryH_at {a : Addr} {o : Obj} {xs : List V} : entryH a o xs a = some (.frz o (.lst xs)) := if_pos rfl
section
variable {P : Program} {w : World} {K : PySem.W.Frag} {mg mb : Str → Option Value} {CX : CXT} {k : Nat} {fa a : Addr} {fd : FuncData} {x : Str} {sp : Sp} {s₁ : Shared} {vs : List Value} {ns : List Int}
/-- the law's call, once an abstract heap is chosen that tracks at most the script -/
theorem call_from (KX : K.In s₁.heap) (hns : s₁.heap.Ns mainGlobals mg) (hb : s₁.heap.Ns builtinsNs mb) (hbb : ∀ x : Str, x ≠ "__name__" → mb x = bootBuiltins x) (hlim : s₁.heap.NoLimit) (hg : s₁.gens = #[])
    (ha : s₁.heap.get? a = some { cls := .type "list", data := .seq vs.toArray }) (hr : Room k callerA)
    (F : ∀ base : Heap, K.In base → base.Ns mainGlobals mg → FnG P w K mg base CX k fa fd [x] sp) (hbind : ∀ (s : Shared) (u : Value), BindsTo s fd ⟨[u], []⟩ [(x, u)])
    (hCX : ∀ H e s', CX [] H s₁ (fun _ _ _ => False) e s' → False) (H : Hp) (only : ∀ b, H b = none ∨ (b = a ∧ ∃ o xs, H b = some (.frz o (.lst xs)))) (hK : H a ≠ none → K.lookup a = none) (ok : HOk P w H s₁.heap)
    (hsp : sp [.ref a] H (fun v _ => v = .bl true) fun _ _ _ => False) :
    codeAny (model P w) callerA (.call (.ref fa) ⟨[.ref a], []⟩) (fun r s' => r = .ok (.ret (.bool true)) ∧ OldK s₁.heap s'.heap ∧ s'.os = s₁.os ∧ AllBare s'.gens) s₁ := by
  have dictFree : ∀ {b : Addr} {o : Obj} {es : Array DictEntry} {ep : Nat}, s₁.heap.get? b = some o → o.data = .dict es ep → H b = none := by
    intro b o es ep hb hd
    rcases only b with z | ⟨rfl, _⟩
    · exact z
    · rw [ha] at hb
      cases hb
      cases hd
  have inB : ∀ {b : Addr} {o : Obj}, s₁.heap.get? b = some o → H b = none → (hidT s₁.heap H).get? b = some o := fun e n => hidT_get e n
  have nsB : ∀ {b : Addr} {m : Str → Option Value}, s₁.heap.Ns b m → (hidT s₁.heap H).Ns b m := by
    rintro b m ⟨o, es, ep, e, d, r⟩
    exact ⟨o, es, ep, inB e (dictFree e d), d, r⟩
  have kB : K.In (hidT s₁.heap H) := by
    intro b o e
    refine inB (KX b o e) ?_
    rcases only b with z | ⟨rfl, o', xs, z⟩
    · exact z
    · have q := hK (by rw [z]; exact fun y => by cases y)
      rw [q] at e
      cases e
  obtain ⟨mc, m1, m2⟩ := hlim
  have md : Mod K mg (hidT s₁.heap H) := ⟨kB, nsB hns, ⟨mb, nsB hb, hbb⟩, mc, nsB m1, m2⟩
  have ev : Env0 P w K mg (hidT s₁.heap H) callerA [] s₁ H := ⟨rfl, md, fun b o e => of_hidT e, Nat.le_of_eq (hidT_size _ _), trivial, fun b z => (List.not_mem_nil z).elim, ok, .of_eq hg⟩
  refine codeAny_mono ((F _ kB (nsB hns)).go callerA rfl [] s₁ H ⟨[.ref a], []⟩ [.ref a] [.ref a] _ _ hr ev (hbind s₁ (.ref a)) (.cons rfl .nil) hsp) ?_
  intro r s' z
  match r, z with
  | .error e, z => exact (hCX H e s' z).elim
  | .ok .next, z => exact z.elim
  | .ok .brk, z => exact z.elim
  | .ok .cont, z => exact z.elim
  | .ok (.ret u), z =>
    obtain ⟨v, H', hos, hbare, un, ok', rv, rfl⟩ := z
    cases (show u = Value.bool true from rv)
    refine ⟨rfl, OldK.of_keep (fun b o e => ?_), hos, hbare⟩
    rcases only b with q | ⟨rfl, ob, xs, q⟩
    · exact un.keep b o e q (fun y => (List.not_mem_nil y).elim) (fun y => (List.not_mem_nil y).elim)
    · have e1 := (ok b _ q).1
      have e2 := (ok' b _ (un.frzs b ob _ q)).1
      rw [e] at e1
      cases e1
      exact e2
theorem law_g (KX : K.In s₁.heap) (hns : s₁.heap.Ns mainGlobals mg) (hb : s₁.heap.Ns builtinsNs mb) (hbb : ∀ x : Str, x ≠ "__name__" → mb x = bootBuiltins x) (hlim : s₁.heap.NoLimit) (hg : s₁.gens = #[])
    (ha : s₁.heap.get? a = some { cls := .type "list", data := .seq vs.toArray }) (hi : IntsAre vs ns) (hl : ns.length ≤ sizeLine) (hr : Room k callerA)
    (F : ∀ base : Heap, K.In base → base.Ns mainGlobals mg → FnG P w K mg base CX k fa fd [x] sp) (hbind : ∀ (s : Shared) (u : Value), BindsTo s fd ⟨[u], []⟩ [(x, u)])
    (hCX : ∀ H e s', CX [] H s₁ (fun _ _ _ => False) e s' → False)
    (hsp : ∀ H : Hp, Only H → SqL K H a (ns.map V.int) → sp [.ref a] H (fun v _ => v = .bl true) fun _ _ _ => False) :
    codeAny (model P w) callerA (.call (.ref fa) ⟨[.ref a], []⟩) (fun r s' => r = .ok (.ret (.bool true)) ∧ OldK s₁.heap s'.heap ∧ s'.os = s₁.os ∧ AllBare s'.gens) s₁ := by
  have rv := vals_ints hi
  cases hk : K.lookup a with
  | some o =>
    have e : s₁.heap.get? a = some o := KX a o hk
    rw [ha] at e
    cases e
    refine call_from KX hns hb hbb hlim hg ha hr F hbind hCX (fun _ => none) (fun _ => Or.inl rfl) (fun z => absurd rfl z) (fun b u z => by cases (show (none : Option HO) = some u from z)) (hsp _ (fun _ => Or.inl rfl) ?_)
    exact Or.inr ⟨_, vs.toArray, _, hk, rfl, rfl, rfl, (by rw [List.size_toArray, hi.length]; exact hl), (by simpa using rv)⟩
  | none =>
    have only : ∀ b, entryH a { cls := .type "list", data := .seq vs.toArray } (ns.map V.int) b = none ∨ (b = a ∧ ∃ o xs, entryH a { cls := .type "list", data := .seq vs.toArray } (ns.map V.int) b = some (.frz o (.lst xs))) := by
      intro b
      by_cases e : b = a
      · subst e
        exact Or.inr ⟨rfl, _, _, entryH_at⟩
      · exact Or.inl (entryH_ne e)
    refine call_from KX hns hb hbb hlim hg ha hr F hbind hCX _ only (fun _ => hk) ?_ (hsp _ (fun b => (only b).imp id fun z => z.2) (Or.inl (Or.inr ⟨_, entryH_at⟩)))
    intro b u z
    rcases only b with q | ⟨rfl, _⟩
    · rw [q] at z
      cases z
    · rw [entryH_at] at z
      cases z
      exact ⟨ha, (by rw [List.length_map]; exact hl), vs, _, rv, ha⟩
end
/-- the goal that the head leaves, from the law's promise -/
theorem walk_g {l : PySem.W.OpenLaw} {n k : Nat} {q : Program} {loose : List Str} {XP : (Str → Option Value) → Heap → Prop} {YP : World → Heap → Prop} {d : DefRec} {CX : CXT} {x : Str}
    (hn : l.most = some n) (hn2 : n ≤ sizeLine) (hdf : d.params.defaults = []) (hr : Room k callerA)
    (F : ∀ (w : World) (mg : Str → Option Value) (fa : Addr) (h : Heap), YP w h → h.Ns mainGlobals mg → mg d.name = some (.ref fa) →
      ∃ (K : PySem.W.Frag) (fd : FuncData) (sp : Sp), K.In h ∧ (∀ (s : Shared) (u : Value), BindsTo s fd ⟨[u], []⟩ [(x, u)]) ∧
        (∀ (H : Hp) (a : Addr) (ns : List Int), ns.length ≤ n → Only H → SqL K H a (ns.map V.int) → sp [.ref a] H (fun v _ => v = .bl true) fun _ _ _ => False) ∧
        ∀ base : Heap, K.In base → base.Ns mainGlobals mg → FnG l.prog w K mg base CX k fa fd [x] sp)
    (hCX : ∀ (H : Hp) (s : Shared) (e : Value) (s' : Shared), CX [] H s (fun _ _ _ => False) e s' → False) :
    PySem.W.WalkO q loose XP YP l.row.toRowW d [] (fun f vs => PySem.call f vs) := by
  refine Att.attach_call hn hdf ?_
  intro w s₀ s₁ mg mb fa o pm cd doc a vs ns G Y ho hd hcd hmg hobj hints hlen hg
  obtain ⟨K, fd, sp, KX, hb, hs, hF⟩ := F w mg fa _ Y G.T.g hmg
  exact law_g KX G.T.g G.T.b G.T.builtins G.T.nolimit hg hobj hints (Nat.le_trans hlen hn2) hr hF hb (fun H e s' => hCX H s₁ e s') (fun H hO hS => hs H a ns hlen hO hS)
end SL

/-! ### the head's hook: any looks at the written part, and the defs -/
namespace SL
open PySem PySem.Spec PyProof.Rows L2
abbrev Looks := List (PySem.W.Frag → Bool)
abbrev AlM : Type := Bool × List He.FnW
def obsM (ok : Looks) (fn : List He.DefD) (K : PySem.W.Frag) : AlM := ((ok.all fun f => f K) && fn.all fun d => d.ok K, fn.map fun d => He.fnW K d.at_)
def valM (fn : List He.DefD) : AlM := (true, fn.map He.DefD.val)
/-- what the end leans on -/
def Says (ok : Looks) (fn : List He.DefD) (K : PySem.W.Frag) : Prop := obsM ok fn K = valM fn
def obsMG (n : Nat) (ok : Looks) (fn : List He.DefD) (g : Addr → Option Obj) : AlM := obsM ok fn (He.frG g (cStatics :: He.asD g n))
def hookM (n : Nat) (ok : Looks) (fn : List He.DefD) : PySem.W.Hook where
  α := AlM
  obs s := obsMG n ok fn s.heap.get?
  val _ := valM fn
  says _ h := ∃ K : PySem.W.Frag, K.In h ∧ Says ok fn K
  of _ _ e := ⟨_, He.frG_in, e⟩
  keeps _ _ _ := fun ⟨K, hK, c⟩ k => ⟨K, PySem.W.Frag.In.keeps hK k, c⟩
theorem obsMG_eq {n : Nat} {ok : Looks} {fn : List He.DefD} {g : Addr → Option Obj} {s : Shared} (h : ∀ a, g a = s.heap.get? a) : obsMG n ok fn g = (hookM n ok fn).obs s := by
  rw [show g = s.heap.get? from funext h]
  rfl
section
variable {ok : Looks} {fn : List He.DefD} {K : PySem.W.Frag}
theorem Says.look (c : Says ok fn K) (i : Nat) {f : PySem.W.Frag → Bool} (h : ok[i]? = some f := by rfl) : f K = true := by
  have c1 : ((ok.all fun f => f K) && fn.all fun d => d.ok K) = true := congrArg Prod.fst c
  exact List.all_eq_true.mp (Bool.and_eq_true_iff.mp c1).1 f (List.mem_of_getElem? h)
theorem Says.defn (c : Says ok fn K) (i : Nat) {d : He.DefD} (h : fn[i]? = some d := by rfl) : ∃ fd, FunD K d.name d.qual d.params d.body d.scope (d.dvs K) (d.kws K) (He.fAd K d.at_) fd := by
  have c1 : ((ok.all fun f => f K) && fn.all fun d => d.ok K) = true := congrArg Prod.fst c
  have c2 : fn.map (fun d => He.fnW K d.at_) = fn.map He.DefD.val := congrArg Prod.snd c
  have c3 : (fn.map fun d => He.fnW K d.at_)[i]? = (fn.map He.DefD.val)[i]? := congrArg (fun l => l[i]?) c2
  rw [List.getElem?_map, List.getElem?_map, h] at c3
  exact He.DefD.funD (Option.some.inj c3) (List.all_eq_true.mp (Bool.and_eq_true_iff.mp c1).2 d (List.mem_of_getElem? h))
end
end SL

/-! SL1: rules joined by kinds, their steps; what stands in the heap. -/
namespace SL
open PySem PySem.Spec PyProof.Rows L2

theorem hu64 {k : Nat} {A : Around} {env : Env} (hr : Room k (A.deeper env)) : (A.deeper env).units + 130 < cLine := by
  have := hr.un
  omega
theorem guards_deeper {A : Around} {env : Env} (h : A.guards = some []) : (A.deeper env).guards = some [] := by
  first
    | exact h
    | simp [Around.deeper, h]

/-! ### module names as values -/
section
variable {mg : Str → Option Value} {x : Str}
theorem gv_int {i : Int} (h : ∃ t, mg x = some (.int i t)) : ∃ u, mg x = some u ∧ RelV (.int i) u := by
  obtain ⟨t, e⟩ := h
  exact ⟨_, e, t, rfl⟩
theorem gv_str {z : Str} (h : ∃ t, mg x = some (.str z t)) : ∃ u, mg x = some u ∧ RelV (.str z) u := by
  obtain ⟨t, e⟩ := h
  exact ⟨_, e, t, rfl⟩
theorem gv_ref {a : Addr} (h : mg x = some (.ref a)) : ∃ u, mg x = some u ∧ RelV (.ref a) u := ⟨_, h, rfl⟩
end

/-! ### joined readings -/
abbrev rSub : R2 := rI0 fun i j => .int (i - j)
abbrev rMod : R2 := rI (fun _ j => j ≠ 0) fun i j => .int (i.fmod j)
abbrev rDiv : R2 := rI CDivW fun i j => .int (i / j)
abbrev rPow : R2 := rI CPow fun i j => .int (i ^ j.toNat)
abbrev rNeg : V → Hp → VK → Prop := rU fun i => .int (-i)
def rAddI : R2 := rI0 fun i j => .int (i + j)
def rAddS : R2 := fun x y H Q => ∃ i j, x = .str i ∧ y = .str j ∧ i.length + j.length ≤ sizeLine ∧ Q (.str (i ++ j)) H
def uAdd (K : PySem.W.Frag) : R2 := fun x y H Q => rAddI x y H Q ∨ rAddS x y H Q ∨ rCat x y H Q ∨ rCatA K x y H Q
def rMulW : R2 := rI CMulW fun i j => .int (i * j)
def uMul (K : PySem.W.Frag) : R2 := fun x y H Q => rMulW x y H Q ∨ rRep x y H Q ∨ rRepT K x y H Q
def rAddF (x y : V) : Prop := True
section
variable {X : Cx}
theorem op_uAdd : OpR X (binaryOp .Add) (uAdd X.K) := op_add.or (op_add_str.or (op_cat.or op_catA))
theorem op_uMul : OpR X (binaryOp .Mult) (uMul X.K) := op_mulW.or (op_rep.or op_repT)
end
def uEq (K : PySem.W.Frag) : R2 := fun x y H Q => rEq x y H Q ∨ rEqD K x y H Q
def uNe (K : PySem.W.Frag) : R2 := fun x y H Q => rNe x y H Q ∨ rNeD K x y H Q
def rLtI : R2 := rI0 fun i j => .bl (decide (i < j))
def rLtS : R2 := fun x y H Q => ∃ i j, x = .str i ∧ y = .str j ∧ Q (.bl (decide (i.cps.toList < j.cps.toList))) H
def uLt (K : PySem.W.Frag) : R2 := fun x y H Q => rLtI x y H Q ∨ rLtS x y H Q ∨ rLtT K x y H Q
def uLe : R2 := rI0 fun i j => .bl (decide (i ≤ j))
abbrev rGt : R2 := rI0 fun i j => .bl (decide (j < i))
abbrev rGe : R2 := rI0 fun i j => .bl (decide (j ≤ i))
def rInS : R2 := fun x y H Q => ∃ (c : Nat) (z : Str), x = .str ⟨#[c]⟩ ∧ y = .str z ∧ Q (.bl (decide (c ∈ z.cps.toList))) H
def rNiS : R2 := fun x y H Q => ∃ (c : Nat) (z : Str), x = .str ⟨#[c]⟩ ∧ y = .str z ∧ Q (.bl (!decide (c ∈ z.cps.toList))) H
def rInR : R2 := fun x y H Q => ∃ i a lo hi, x = V.int i ∧ y = V.ref a ∧ H a = some (.rng lo hi) ∧ Q (.bl (decide (lo ≤ i ∧ i < hi))) H
def uIn (K : PySem.W.Frag) : R2 := fun x y H Q => rInS x y H Q ∨ rIn K false x y H Q ∨ rInR x y H Q
def uNi (K : PySem.W.Frag) : R2 := fun x y H Q => rNiS x y H Q ∨ rIn K true x y H Q
def uIs : R2 := fun x y H Q => y = .non ∧ Q (.bl (decide (x = .non))) H
def uIsnt : R2 := fun x y H Q => y = .non ∧ Q (.bl (!decide (x = .non))) H
section
variable {X : Cx}
theorem op_uEq (hu : X.A.units + 130 < cLine) : OpR X (compareOp .Eq) (uEq X.K) := op_eq.or (op_eqD (by omega))
theorem op_uNe (hu : X.A.units + 130 < cLine) : OpR X (compareOp .NotEq) (uNe X.K) := op_ne.or (op_neD (by omega))
theorem op_uLt (hu : X.A.units + 130 < cLine) : OpR X (compareOp .Lt) (uLt X.K) := op_lt.or (op_lt_str.or (op_ltT (by omega)))
theorem op_uLe : OpR X (compareOp .LtE) uLe := op_le
theorem op_uIn : OpR X (compareOp .In) (uIn X.K) := op_in_sign.or (op_in_seq.or op_in_rng)
theorem op_uNi : OpR X (compareOp .NotIn) (uNi X.K) := op_notIn_sign.or op_notIn_seq
theorem op_uIs : OpR X (compareOp .Is) uIs := op_isN
theorem op_uIn0 : OpR X (compareOp .IsNot) uIsnt := op_notN
end
def uIx (K : PySem.W.Frag) : R2 := rIx K
theorem ix_u {X : Cx} : IxR X (uIx X.K) := ix_seq
def uSl (K : PySem.W.Frag) : V → Option Int → Option Int → Hp → VK → Prop := fun x lo hi H Q => rSlS x lo hi H Q ∨ rSlL K x lo hi H Q ∨ rSlA K x lo hi H Q
theorem sl_u {X : Cx} : SlR X (uSl X.K) := sl_str.or (sl_list.or sl_tupA)
/-- what is walked -/
theorem PI.or {X : Cx} {tg it : Expr} {w1 w2 : TI} (h1 : PI X tg it w1) (h2 : PI X tg it w2) : PI X tg it (fun σ H R => w1 σ H R ∨ w2 σ H R) :=
  ⟨fun pins s σ H R I h => h.elim (h1.run pins s σ H R I) (h2.run pins s σ H R I)⟩
def iU (K : PySem.W.Frag) (t : TE) : TI := fun σ H R => iList K t σ H R ∨ (iTup K t σ H R ∨ iStr t σ H R)
theorem pi_u {X : Cx} {tg e : Expr} {t : TE} (h : PE X e t) : PI X tg e (iU X.K t) := PI.or (pi_list h) (PI.or (pi_tup h) (pi_str h))
/-- a test by the value's truth -/
def tTruK (K : PySem.W.Frag) (t : TE) : TT := fun σ H Q => t σ H fun x H' => ∃ k, TruV K x H' k ∧ Q k H'
theorem pt_tru {X : Cx} {a : Expr} {t : TE} (h : PE X a t) (he : ∀ whole, isTrue a X.env whole = (do let v ← whole; standAt a.pos; holding [v] (truthy v))) : PT X a (tTruK X.K t) := pt_truth h he

/-! ### built-ins -/
def uLen (K : PySem.W.Frag) : List V → Hp → VK → Prop := fun xs H Q => (∃ p ys, xs = [.ref p] ∧ (SqL K H p ys ∨ SqT K H p ys) ∧ Q (.int ys.length) H) ∨ (∃ x n, xs = [x] ∧ LenV K x H n ∧ Q (.int n) H)
theorem call_uLen {X : Cx} : CallR X (.builtin "len") (uLen X.K) := call_len_seq.or call_len
def rMax2 : List V → Hp → VK → Prop := fun xs H Q => ∃ i j, xs = [.int i, .int j] ∧ Q (.int (if j > i then j else i)) H
def rMin2 : List V → Hp → VK → Prop := fun xs H Q => ∃ i j, xs = [.int i, .int j] ∧ Q (.int (if j < i then j else i)) H
abbrev rMaxL := L2.rMax
abbrev rMinL := L2.rMin
abbrev rAllL := L2.rAll
abbrev rAnyL := L2.rAny
abbrev rSumL := L2.rSum
def uIsi (K : PySem.W.Frag) : List V → Hp → VK → Prop := fun xs H Q => rIsi K xs H Q ∨ rIsiT K xs H Q
theorem call_uIsi {X : Cx} : CallR X (.builtin "isinstance") (uIsi X.K) := call_isi.or call_isiT
def uStr (K : PySem.W.Frag) : List V → Hp → VK → Prop := fun xs H Q => (∃ i, xs = [.int i] ∧ i.natAbs.log2 < 1920 ∧ Q (.str (toString i)) H) ∨ (∃ a, xs = [.str a] ∧ Q (.str a) H)
theorem call_uStr {X : Cx} : CallR X (.type "str") (uStr X.K) := call_str_int.or SkE.call_str_str
def uList (K : PySem.W.Frag) : List V → Hp → VK → Prop := fun xs H Q => ∃ p ys, xs = [.ref p] ∧ (SqL K H p ys ∨ SqT K H p ys) ∧ ∀ l, H l = none → Q (.ref l) (upd H l (.lst ys))
theorem call_list_u {X : Cx} : CallR X (.type "list") (uList X.K) := call_list_of
def uTuple (K : PySem.W.Frag) : List V → Hp → VK → Prop := fun xs H Q => ∃ p ys, xs = [.ref p] ∧ ((SqL K H p ys ∧ ∀ l, H l = none → Q (.ref l) (upd H l (.tup ys))) ∨ (SqT K H p ys ∧ Q (.ref p) H))
theorem call_tuple_u {X : Cx} : CallR X (.type "tuple") (uTuple X.K) := call_tuple_of
def uInt : List V → Hp → VK → Prop := fun xs H Q => (∃ i, xs = [.int i] ∧ Q (.int i) H) ∨ ∃ k, xs = [.bl k] ∧ Q (.int (if k then 1 else 0)) H
theorem call_int_u {X : Cx} : CallR X (.type "int") uInt := call_int1
def rRangeV2 : List V → Hp → VK → Prop := fun vs H Q => ∃ i j, vs = [V.int i, V.int j] ∧ ∀ p, H p = none → Q (.ref p) (upd H p (.rng i j))
theorem call_rangeV2 {X : Cx} : CallR X (.type "range") rRangeV2 := cr_range2
def rJoin (K : PySem.W.Frag) : V → List V → Hp → VK → Prop := fun x xs H Q => ∃ a p, ∃ ys : List Str, x = .str a ∧ xs = [.ref p] ∧ (SqL K H p (ys.map V.str) ∨ SqT K H p (ys.map V.str)) ∧ (ys.map (·.length)).sum + ys.length * a.length ≤ 16777216 ∧ Q (.str (Txt.join a ys)) H
theorem mt_uJoin {X : Cx} : MtR X "str.join" (rJoin X.K) := mt_join

/-! ### keywords: where each value goes -/
inductive Pm where
  | pos (i : Nat)
  | key (i : Nat)
def Pm.v (vs zs : List V) : Pm → V
  | .pos i => vs.getD i .non
  | .key i => zs.getD i .non
def Pm.u (us ws : List Value) : Pm → Value
  | .pos i => us.getD i .none
  | .key i => ws.getD i .none
theorem getD_rel : ∀ {vs : List V} {us : List Value}, Vals vs us → ∀ i, RelV (vs.getD i .non) (us.getD i .none)
  | _, _, .nil, i => by
    cases i <;> rfl
  | _, _, .cons r t, 0 => r
  | _, _, .cons r t, i + 1 => by
    have := getD_rel t i
    simpa using this
theorem Pm.rel {vs zs : List V} {us ws : List Value} (r : Vals vs us) (q : Vals zs ws) : ∀ ps : List Pm, Vals (ps.map (Pm.v vs zs)) (ps.map (Pm.u us ws))
  | [] => .nil
  | .pos i :: ps => .cons (getD_rel r i) (Pm.rel r q ps)
  | .key i :: ps => .cons (getD_rel q i) (Pm.rel r q ps)
abbrev KB (K : PySem.W.Frag) (fd : FuncData) (ps : List Str) (n : Nat) (ks : List Str) (pm : List Pm) : Prop := KBn K fd ps n ks (fun us ws => pm.map (Pm.u us ws)) (fun vs zs => pm.map (Pm.v vs zs))
theorem kb_of {K : PySem.W.Frag} {fd : FuncData} {ps : List Str} {n : Nat} {ks : List Str} {pm : List Pm}
    (h : ∀ (us ws : List Value), us.length = n → ws.length = ks.length → bindArgs fd ⟨us, ks.zip ws⟩ = pure (ps.zip (pm.map (Pm.u us ws)))) : KB K fd ps n ks pm :=
  ⟨fun s us ws _ h1 h2 => .of_eq (h us ws h1 h2), fun r q => Pm.rel r q pm⟩
def tKw (sp : Sp) (pm : List Pm) (n m : Nat) (t tk : TA) : TE := tCallN n m sp (fun vs zs => pm.map (Pm.v vs zs)) E0 t tk
section
variable {X : Cx} {CX : CXT} {k n : Nat} {f : Addr} {fd : FuncData} {ps ks : List Str} {sp : Sp} {x : Str} {p pos : Pos} {e : Expr} {es : List Expr} {kws : List Keyword} {t tk : TA} {pm : List Pm}
theorem pe_k1 (F : FnOk X.prog X.w X.K X.mg X.base CX k f fd ps sp) (hr : Room k X.A) (hg : Gl X x) (hm : X.mg x = some (.ref f)) (hk : PySem.W.keepIn X.K (.ref f) = true) (hb : KB X.K fd ps n ks pm) (hx : Passes CX X E0)
    (ha : PA X (e :: es) t) (hkw : PK X kws tk) (hall : (backToKw pos (keywordEach kws X.env)).all (·.1.isSome) = true := by rfl) (hks : (backToKw pos (keywordEach kws X.env)).filterMap (·.1) = ks := by rfl)
    (hdb : (x == ("__debug__" : Str)) = false := by decide) (he : starEach (e :: es) X.env = (false, eval e X.env) :: starEach es X.env := by rfl)
    (hpl : ((backTo pos (starEach (e :: es) X.env)).any (·.1) || (backToKw pos (keywordEach kws X.env)).any (·.1.isNone)) = false := by rfl) :
    PE X (.Call (.Name x p) (e :: es) kws pos) (tKw sp pm n ks.length t tk) := pe_callN F hr hg hm hk hb hx ha hkw hall hks hdb he hpl
end
end SL

/-! SL2: frames, what stands, repr, steps. -/
namespace SL
open PySem PySem.Spec PyProof.Rows L2

/-! ### frames: all that is tracked outside M stands -/
def Ex (M : List Addr) (H H' : Hp) : Prop := ∀ a o, a ∉ M → H a = some o → H' a = some o
section
variable {M M' : List Addr} {K : PySem.W.Frag} {H H' H1 H2 : Hp} {p q b : Addr} {o : HO} {xs : List V}
theorem Ex.refl : Ex M H H := fun _ _ _ h => h
theorem Ex.trans (a : Ex M H H1) (c : Ex M H1 H2) : Ex M H H2 := fun x o m h => c x o m (a x o m h)
theorem Ex.mono (h : ∀ x ∈ M, x ∈ M') (e : Ex M H H') : Ex M' H H' := fun x o m z => e x o (fun y => m (h x y)) z
theorem Ex.nil (e : Ex [] H H') : Ex M H H' := Ex.mono (fun x z => absurd z (List.not_mem_nil)) e
theorem Ex.new (h : H p = none) : Ex M H (upd H p o) := fun a u _ z => by
  rw [upd_ne (ne_of_none z h)]
  exact z
theorem Ex.mut (h : p ∈ M) : Ex M H (upd H p o) := fun a u m z => by
  rw [upd_ne (fun e => m (by rw [e]; exact h))]
  exact z
theorem Ex.free (e : Ex M H H') (h : H' p = none) (hm : p ∉ M) : H p = none := by
  cases z : H p with
  | none => rfl
  | some u =>
    rw [e p u hm z] at h
    cases h
/-- freshness is kept back over a new object -/
theorem free_new (h : (upd H q o) p = none) : H p = none ∧ p ≠ q := by
  by_cases e : p = q
  · rw [e, upd_same] at h
    cases h
  · rw [upd_ne e] at h
    exact ⟨h, e⟩

/-! ### what stands -/
structure Lt (M : List Addr) (K : PySem.W.Frag) (H : Hp) (p : Addr) (xs : List V) : Prop where
  sq : SqL K H p xs
  off : p ∉ M
structure Tp (M : List Addr) (K : PySem.W.Frag) (H : Hp) (p : Addr) (xs : List V) : Prop where
  sq : SqT K H p xs
  off : p ∉ M
structure At (M : List Addr) (H : Hp) (p : Addr) (o : HO) : Prop where
  at_ : H p = some o
  off : p ∉ M
theorem rd_ex {u : HO} (e : Ex M H H') (off : p ∉ M) (h : Rd H p u) : Rd H' p u := by
  rcases h with h | ⟨o, h⟩
  · exact Or.inl (e p _ off h)
  · exact Or.inr ⟨o, e p _ off h⟩
theorem Lt.ex (h : Lt M K H p xs) (e : Ex M H H') : Lt M K H' p xs := ⟨h.sq.imp (rd_ex e h.off) id, h.off⟩
theorem Tp.ex (h : Tp M K H p xs) (e : Ex M H H') : Tp M K H' p xs := ⟨h.sq.imp (rd_ex e h.off) id, h.off⟩
theorem At.ex (h : At M H p o) (e : Ex M H H') : At M H' p o := ⟨e p o h.off h.at_, h.off⟩
theorem At.lt (h : At M H p (.lst xs)) : Lt M K H p xs := ⟨Or.inl (Or.inl h.at_), h.off⟩
theorem At.tp (h : At M H p (.tup xs)) : Tp M K H p xs := ⟨Or.inl (Or.inl h.at_), h.off⟩
theorem Lt.mono (hm : ∀ x ∈ M', x ∈ M) (h : Lt M K H p xs) : Lt M' K H p xs := ⟨h.sq, fun z => h.off (hm p z)⟩
theorem Tp.mono (hm : ∀ x ∈ M', x ∈ M) (h : Tp M K H p xs) : Tp M' K H p xs := ⟨h.sq, fun z => h.off (hm p z)⟩
theorem At.mono (hm : ∀ x ∈ M', x ∈ M) (h : At M H p o) : At M' H p o := ⟨h.at_, fun z => h.off (hm p z)⟩

/-! ### the law's box -/
def Box (b : Addr) (n : Nat) (H : Hp) : Prop := ∃ a s c : Int, H b = some (.lst [.int a, .int s, .int c]) ∧ 0 ≤ a ∧ 0 ≤ s ∧ s < 2147483648 ∧ 0 ≤ c ∧ c ≤ (n : Int)
theorem Box.ex {n : Nat} (h : Box b n H) (e : Ex M H H') (off : b ∉ M) : Box b n H' := by
  obtain ⟨a, s, c, h1, h2⟩ := h
  exact ⟨a, s, c, e b _ off h1, h2⟩
theorem Box.mono {n m : Nat} (h : Box b n H) (hn : n ≤ m) : Box b m H := by
  obtain ⟨a, s, c, h1, h2, h3, h4, h5, h6⟩ := h
  exact ⟨a, s, c, h1, h2, h3, h4, h5, by omega⟩
theorem Box.new {n : Nat} (h : Box b n H) (hp : H p = none) : Box b n (upd H p o) := h.ex (M := []) (Ex.new hp) (List.not_mem_nil)
theorem Box.ne {n : Nat} (h : Box b n H) (hp : H p = none) : p ≠ b := by
  obtain ⟨a, s, c, h1, _⟩ := h
  intro e
  rw [e, h1] at hp
  cases hp
theorem Box.off {n : Nat} (h : Box b n H) (hp : H p = none) : p ∉ [b] := fun z => h.ne hp (List.mem_singleton.mp z)
end

/-! ### data -/
mutual
inductive Rp (M : List Addr) (K : PySem.W.Frag) (H : Hp) : V → PyData → Prop
  | non : Rp M K H .non .none
  | bl (b : Bool) : Rp M K H (.bl b) (.bool b)
  | int (i : Int) : Rp M K H (.int i) (.int i)
  | str (x : Str) : Rp M K H (.str x) (.str x)
  | lst {a : Addr} {xs : List V} {ds : List PyData} : Lt M K H a xs → RpA M K H xs ds → Rp M K H (.ref a) (.list ds)
  | tup {a : Addr} {xs : List V} {ds : List PyData} : Tp M K H a xs → RpA M K H xs ds → Rp M K H (.ref a) (.tuple ds)
inductive RpA (M : List Addr) (K : PySem.W.Frag) (H : Hp) : List V → List PyData → Prop
  | nil : RpA M K H [] []
  | cons {v : V} {vs : List V} {d : PyData} {ds : List PyData} : Rp M K H v d → RpA M K H vs ds → RpA M K H (v :: vs) (d :: ds)
end
section
variable {M M' : List Addr} {K : PySem.W.Frag} {H H' : Hp}
mutual
theorem Rp.ex (e : Ex M H H') : ∀ {v : V} {d : PyData}, Rp M K H v d → Rp M K H' v d
  | _, _, .non => .non
  | _, _, .bl b => .bl b
  | _, _, .int i => .int i
  | _, _, .str x => .str x
  | _, _, .lst h a => .lst (h.ex e) (RpA.ex e a)
  | _, _, .tup h a => .tup (h.ex e) (RpA.ex e a)
theorem RpA.ex (e : Ex M H H') : ∀ {vs : List V} {ds : List PyData}, RpA M K H vs ds → RpA M K H' vs ds
  | _, _, .nil => .nil
  | _, _, .cons h a => .cons (Rp.ex e h) (RpA.ex e a)
end
mutual
theorem Rp.mono (hm : ∀ x ∈ M', x ∈ M) : ∀ {v : V} {d : PyData}, Rp M K H v d → Rp M' K H v d
  | _, _, .non => .non
  | _, _, .bl b => .bl b
  | _, _, .int i => .int i
  | _, _, .str x => .str x
  | _, _, .lst h a => .lst (h.mono hm) (RpA.mono hm a)
  | _, _, .tup h a => .tup (h.mono hm) (RpA.mono hm a)
theorem RpA.mono (hm : ∀ x ∈ M', x ∈ M) : ∀ {vs : List V} {ds : List PyData}, RpA M K H vs ds → RpA M' K H vs ds
  | _, _, .nil => .nil
  | _, _, .cons h a => .cons (Rp.mono hm h) (RpA.mono hm a)
end
mutual
theorem Rp.dp : ∀ {v : V} {d : PyData}, Rp M K H v d → Dp K H v d
  | _, _, .non => .non
  | _, _, .bl b => .bl b
  | _, _, .int i => .int i
  | _, _, .str x => .str x
  | _, _, .lst h a => .lst h.sq (RpA.dp a)
  | _, _, .tup h a => .tup h.sq (RpA.dp a)
theorem RpA.dp : ∀ {vs : List V} {ds : List PyData}, RpA M K H vs ds → DpAll K H vs ds
  | _, _, .nil => .nil
  | _, _, .cons h a => .cons (Rp.dp h) (RpA.dp a)
end
mutual
theorem dp_noDict : ∀ {v : V} {d : PyData}, Dp K H v d → d.hasDict = false
  | _, _, .non => by simp only [PyData.hasDict]
  | _, _, .bl b => by simp only [PyData.hasDict]
  | _, _, .int i => by simp only [PyData.hasDict]
  | _, _, .str x => by simp only [PyData.hasDict]
  | _, _, .lst _ a => by
    simp only [PyData.hasDict]
    exact dpA_noDict a
  | _, _, .tup _ a => by
    simp only [PyData.hasDict]
    exact dpA_noDict a
theorem dpA_noDict : ∀ {vs : List V} {ds : List PyData}, DpAll K H vs ds → PyData.hasDictAll ds = false
  | _, _, .nil => by simp only [PyData.hasDictAll]
  | _, _, .cons h a => by
    simp only [PyData.hasDictAll, Bool.or_eq_false_iff]
    exact ⟨dp_noDict h, dpA_noDict a⟩
end
theorem RpA.bools : ∀ bs : List Bool, RpA M K H (bs.map V.bl) (bs.map PyData.bool)
  | [] => .nil
  | b :: bs => .cons (.bl b) (RpA.bools bs)
theorem RpA.append : ∀ {vs ws : List V} {ds es : List PyData}, RpA M K H vs ds → RpA M K H ws es → RpA M K H (vs ++ ws) (ds ++ es)
  | _, _, _, _, .nil, b => b
  | _, _, _, _, .cons h a, b => .cons h (RpA.append a b)
theorem RpA.strs : ∀ zs : List Str, RpA M K H (zs.map V.str) (zs.map PyData.str)
  | [] => .nil
  | z :: zs => .cons (.str z) (RpA.strs zs)
theorem RpA.ints : ∀ zs : List Int, RpA M K H (zs.map V.int) (zs.map PyData.int)
  | [] => .nil
  | z :: zs => .cons (.int z) (RpA.ints zs)
end

/-! ### repr -/
/-- data whose repr fits -/
structure Shows (d : PyData) : Prop where
  sh : d.showable = true
  ex : ∃ B, 8 ≤ B ∧ d.leavesShort B = true ∧ (B + 2) * d.bulk + B ≤ 16777216
  dp : d.depth ≤ 60
theorem Shows.fits {d : PyData} (h : Shows d) : d.shown.length ≤ sizeLine := by
  obtain ⟨B, h1, h2, h3⟩ := h.ex
  rw [sizeLine_eq]
  exact Nat.le_trans (PyData.shown_le_bulk B h1 d h2) h3
def uRepr (K : PySem.W.Frag) : List V → Hp → VK → Prop := fun xs H Q => ∃ v d, xs = [v] ∧ Dp K H v d ∧ Shows d ∧ Q (.str d.shown) H
theorem call_uRepr {X : Cx} (hg : X.A.guards = some []) (hu : X.A.units + 130 < cLine) : CallR X (.builtin "repr") (uRepr X.K) := by
  intro pins s σ H xs us Q I r h
  obtain ⟨v, d, rfl, hd, sh, q⟩ := h
  obtain ⟨u, rfl, ru⟩ := vals1 r
  obtain ⟨as, rd⟩ := Dp.reads I d v u hd ru
  have nd := dp_noDict hd
  cases hd with
  | non =>
    cases (show u = Value.none from ru)
    rw [PyData.shown_none] at q
    exact PySem.P.repr_of_none ⟨.str _, H, I.tok _, ⟨_, rfl⟩, q⟩
  | bl b =>
    cases (show u = Value.bool b from ru)
    rw [PyData.shown_bool] at q
    refine PySem.P.repr_of_bool ⟨.str _, H, I.tok _, ⟨_, rfl⟩, ?_⟩
    cases b
    · exact q
    · exact q
  | int i =>
    obtain ⟨t, rfl⟩ := ru
    rw [PyData.shown_int] at q
    refine PySem.P.repr_of_int ?_ ⟨.str _, H, I.tok _, ⟨_, rfl⟩, q⟩
    have z := sh.sh
    simp only [PyData.showable, decide_eq_true_eq] at z
    exact z
  | str x =>
    obtain ⟨t, rfl⟩ := ru
    have z := sh.fits
    rw [PyData.shown_str] at q z
    exact PySem.P.repr_of_str ⟨.str _, H, I.tok _, ⟨_, rfl⟩, q⟩ z
  | lst _ _ =>
    cases (show u = Value.ref _ from ru)
    refine repr_of_reads' rd sh.sh (PyData.noDict_hsm nd) hg (by have := sh.dp; omega) (fun _ _ e => e) (fun h' t tk k => ⟨.str _, H, I.kept k, ⟨_, rfl⟩, q⟩) sh.fits
  | tup _ _ =>
    cases (show u = Value.ref _ from ru)
    refine repr_of_reads' rd sh.sh (PyData.noDict_hsm nd) hg (by have := sh.dp; omega) (fun _ _ e => e) (fun h' t tk k => ⟨.str _, H, I.kept k, ⟨_, rfl⟩, q⟩) sh.fits

/-! ### a call by keywords alone -/
section
variable {X : Cx} {CX : CXT} {k n : Nat} {f : Addr} {fd : FuncData} {ps ks : List Str} {sp : Sp} {x : Str} {p pos : Pos} {kws : List Keyword} {tk : TA} {pm : List Pm}
theorem pe_k0 (F : FnOk X.prog X.w X.K X.mg X.base CX k f fd ps sp) (hr : Room k X.A) (hg : Gl X x) (hm : X.mg x = some (.ref f)) (hk : PySem.W.keepIn X.K (.ref f) = true) (hb : KB X.K fd ps 0 ks pm) (hx : Passes CX X E0)
    (hkw : PK X kws tk) (hall : (backToKw pos (keywordEach kws X.env)).all (·.1.isSome) = true := by rfl) (hks : (backToKw pos (keywordEach kws X.env)).filterMap (·.1) = ks := by rfl)
    (hdb : (x == ("__debug__" : Str)) = false := by decide)
    (hpl : ((backTo pos (starEach [] X.env)).any (·.1) || (backToKw pos (keywordEach kws X.env)).any (·.1.isNone)) = false := by rfl) :
    PE X (.Call (.Name x p) [] kws pos) (tKw sp pm 0 ks.length tNil tk) := by
  constructor
  intro pins s σ H Q I h
  refine wpAny_Call_Name_kw (ld_glob I hg hm ?_ hdb)
  refine PySem.W.callWith_KW0 (h₀ := X.base) I.ok.mod.kin hk hall ?_ hpl
  have h : tk σ H fun zs H2 => ([] : List V).length = 0 ∧ zs.length = ks.length ∧ sp (pm.map (Pm.v [] zs)) H2 Q E0 := h
  refine thn (hkw.run pos pins s σ H _ I h) ?_
  rintro ws s2 ⟨zs, H2, I2, rz, l1, l2, q2⟩
  refine ⟨I2.kIn, ?_⟩
  rw [hks]
  exact run_fnN (us := []) (vs := []) F hr hb hx I2 .nil rz rfl l2 q2
end
end SL

/-! SL3: the readings step by step. -/
namespace SL
open PySem PySem.Spec PyProof.Rows L2

section
variable {K : PySem.W.Frag} {σ : L2.St} {H : Hp} {D : Ends} {i j : Nat} {v x y : V} {Q : VK} {ta tb tc te : TE} {t u : TS} {c : TT} {QB : Bool → Hp → Prop} {r r' : R2} {g : TG} {QS : L2.St → Hp → Prop} {tr tk : TA} {QA : List V → Hp → Prop} {R : List V → Hp → VK → Prop}
theorem st_seq (h : t { D with nx := u D } σ H) : tSeq t u D σ H := h
theorem st_asg (h : te σ H fun x H1 => g x σ H1 D.nx) : tAsg te g D σ H := h
theorem st_gn (h : QS (σ.set i (some v)) H) : gName i v σ H QS := h
theorem st_ret (h : te σ H D.rt) : tRet te D σ H := h
theorem st_retN (h : D.rt .non H) : tRetN D σ H := h
theorem st_ifs (h : c σ H fun b H1 => if b = true then t D σ H1 else u D σ H1) : tIfS c t u D σ H := h
theorem st_drop (h : te σ H fun _ H1 => D.nx σ H1) : tDrop te D σ H := h
theorem st_nx (h : D.nx σ H) : tNext D σ H := h
theorem st_par (h : tr σ H fun vs H1 => ∃ v w, vs = [v, w] ∧ D.nx ((σ.set i (some v)).set j (some w)) H1) : tPar i j tr D σ H := h
theorem st_par2 {P : V → V → Prop} {a b : V} (h : P a b) : ∃ v w, [a, b] = [v, w] ∧ P v w := ⟨a, b, rfl, h⟩
theorem st_var (h : σ[i]? = some (some v)) (q : Q v H) : tVar i σ H Q := ⟨v, h, q⟩
theorem st_c (q : Q v H) : tC v σ H Q := q
theorem st_op (h : ta σ H fun x H1 => tb σ H1 fun y H2 => r x y H2 Q) : tOp r ta tb σ H Q := h
theorem st_un {r : V → Hp → VK → Prop} (h : ta σ H fun x H1 => r x H1 Q) : tUn r ta σ H Q := h
theorem st_chain (h : ta σ H fun x H1 => tb σ H1 fun y H2 => r x y H2 fun z H3 => ∃ k, z = .bl k ∧ (if k = true then tc σ H3 fun w' H4 => r' y w' H4 Q else Q (.bl false) H3)) : tChain r r' ta tb tc σ H Q := h
theorem st_test (h : te σ H fun x H' => ∃ k, x = .bl k ∧ QB k H') : tTest te σ H QB := h
theorem st_tB (h : te σ H fun x H' => ∃ k, x = .bl k ∧ QB k H') : tB te σ H QB := h
theorem st_tru (h : te σ H fun x H' => ∃ k, TruV K x H' k ∧ QB k H') : tTruK K te σ H QB := h
theorem st_bl {b : Bool} {P : Bool → Prop} (h : P b) : ∃ k, V.bl b = .bl k ∧ P k := ⟨b, rfl, h⟩
theorem st_trb {b : Bool} {P : Bool → Prop} (h : P b) : ∃ k, TruV K (.bl b) H k ∧ P k := ⟨b, rfl, h⟩
theorem st_tri {z : Int} {P : Bool → Prop} (h : P (z != 0)) : ∃ k, TruV K (.int z) H k ∧ P k := ⟨_, rfl, h⟩
theorem st_trn {P : Bool → Prop} (h : P false) : ∃ k, TruV K .non H k ∧ P k := ⟨_, rfl, h⟩
variable {tt tu : TT}
theorem st_and (h : tt σ H fun c H1 => if c = true then tu σ H1 QB else QB false H1) : tAnd tt tu σ H QB := h
theorem st_or (h : tt σ H fun c H1 => if c = true then QB true H1 else tu σ H1 QB) : tOr tt tu σ H QB := h
theorem st_not (h : tt σ H fun c H1 => QB (!c) H1) : tNot tt σ H QB := h
theorem st_notV (h : ta σ H fun x H1 => ∃ c, x = .bl c ∧ Q (.bl (!c)) H1) : tNotV ta σ H Q := h
theorem st_andV (h : ta σ H fun x H1 => ∃ c, x = .bl c ∧ if c = true then tb σ H1 Q else Q (.bl false) H1) : tAndV ta tb σ H Q := h
theorem st_orV (h : ta σ H fun x H1 => ∃ c, x = .bl c ∧ if c = true then Q (.bl true) H1 else tb σ H1 Q) : tOrV ta tb σ H Q := h
theorem st_if (h : tt σ H fun c H1 => if c = true then ta σ H1 Q else tb σ H1 Q) : tIf tt ta tb σ H Q := h
theorem st_yes (h : QB true H) : tYes σ H QB := h
theorem st_call {sp : Sp} {dvs : List V} {E : XK} (h : tr σ H fun vs H1 => sp (vs ++ dvs) H1 Q E) : tCall sp dvs E tr σ H Q := h
theorem st_kw {sp : Sp} {pm : List Pm} {n m : Nat} (h : tr σ H fun vs H1 => tk σ H1 fun zs H2 => vs.length = n ∧ zs.length = m ∧ sp (pm.map (Pm.v vs zs)) H2 Q E0) : tKw sp pm n m tr tk σ H Q := h
theorem st_cb (h : tr σ H fun vs H1 => R vs H1 Q) : tCB R tr σ H Q := h
theorem st_cons (h : ta σ H fun x H1 => tr σ H1 fun xs H2 => QA (x :: xs) H2) : tCons ta tr σ H QA := h
theorem st_nil (h : QA [] H) : tNil σ H QA := h
theorem st_lst (h : tr σ H fun xs H1 => xs.length ≤ sizeLine ∧ ∀ p, H1 p = none → Q (.ref p) (upd H1 p (.lst xs))) : tLst tr σ H Q := h
theorem st_tup (h : tr σ H fun xs H1 => xs.length ≤ sizeLine ∧ ∀ p, H1 p = none → Q (.ref p) (upd H1 p (.tup xs))) : tTup tr σ H Q := h
theorem st_bm {T : String} {rm : V → List V → Hp → VK → Prop} (h : te σ H fun x H1 => tyV K T x H1 ∧ tr σ H1 fun xs H2 => rm x xs H2 Q) : tBM K T rm te tr σ H Q := h
theorem st_bm0 {T : String} {rm : V → List V → Hp → VK → Prop} (h : te σ H fun x H1 => tyV K T x H1 ∧ rm x [] H1 Q) : tBM0 K T rm te σ H Q := h
theorem st_sl {rs : V → Option Int → Option Int → Hp → VK → Prop} {tl th : TO} (h : te σ H fun x H1 => tl σ H1 fun l H2 => th σ H2 fun u H3 => rs x l u H3 Q) : tSl rs te tl th σ H Q := h
theorem st_part {QO : Option Int → Hp → Prop} (h : te σ H fun x H1 => ∃ i, x = .int i ∧ QO (some i) H1) : tPart te σ H QO := h
theorem st_parti {z : Int} {P : Int → Prop} (h : P z) : ∃ i, V.int z = .int i ∧ P i := ⟨z, rfl, h⟩
theorem st_nopart {QO : Option Int → Hp → Prop} (h : QO none H) : tNoPart σ H QO := h
/-! values -/
variable {m n : Int} {w z : Str} {a b : Addr} {xs ys : List V}
theorem u_add_i (q : Q (.int (m + n)) H) : uAdd K (.int m) (.int n) H Q := Or.inl ⟨m, n, rfl, rfl, q⟩
theorem u_add_s (hl : w.length + z.length ≤ sizeLine) (q : Q (.str (w ++ z)) H) : uAdd K (.str w) (.str z) H Q := Or.inr (Or.inl ⟨w, z, rfl, rfl, hl, q⟩)
theorem u_add_l (h1 : H a = some (.lst xs)) (h2 : H b = some (.lst ys)) (hl : xs.length + ys.length ≤ sizeLine) (q : ∀ p, H p = none → Q (.ref p) (upd H p (.lst (xs ++ ys)))) : uAdd K (.ref a) (.ref b) H Q :=
  Or.inr (Or.inr (Or.inl ⟨a, b, xs, ys, rfl, rfl, h1, h2, hl, q⟩))
theorem u_add_t (h1 : SqT K H a xs) (h2 : SqT K H b ys) (hl : xs.length + ys.length ≤ sizeLine) (q0 : xs = [] → Q (.ref b) H) (q1 : xs ≠ [] → ys = [] → Q (.ref a) H) (q : xs ≠ [] → ys ≠ [] → ∀ p, H p = none → Q (.ref p) (upd H p (.tup (xs ++ ys)))) : uAdd K (.ref a) (.ref b) H Q :=
  Or.inr (Or.inr (Or.inr ⟨a, b, xs, ys, rfl, rfl, h1, h2, hl, q0, q1, q⟩))
theorem u_sub (q : Q (.int (m - n)) H) : rSub (.int m) (.int n) H Q := ⟨m, n, rfl, rfl, q⟩
theorem u_mul (h : CMulW m n) (q : Q (.int (m * n)) H) : uMul K (.int m) (.int n) H Q := Or.inl ⟨m, n, rfl, rfl, h, q⟩
theorem u_mul_l (h1 : H a = some (.lst xs)) (hn : 0 ≤ n) (hn2 : n < 2 ^ 63) (hl : xs.length * n.toNat ≤ sizeLine) (q : ∀ p, H p = none → Q (.ref p) (upd H p (.lst (List.replicate n.toNat xs).flatten))) : uMul K (.ref a) (.int n) H Q :=
  Or.inr (Or.inl ⟨a, n, xs, rfl, rfl, h1, by omega, hn2, hl, q⟩)
theorem u_mod (h : n ≠ 0) (q : Q (.int (m.fmod n)) H) : rMod (.int m) (.int n) H Q := ⟨m, n, rfl, rfl, h, q⟩
theorem u_modp (h : 0 < n) (q : Q (.int (m % n)) H) : rMod (.int m) (.int n) H Q := ⟨m, n, rfl, rfl, by omega, by
  show Q (.int (m.fmod n)) H
  rw [Int.fmod_eq_emod_of_nonneg m (by omega)]
  exact q⟩
theorem u_div (h : CDivW m n) (q : Q (.int (m / n)) H) : rDiv (.int m) (.int n) H Q := ⟨m, n, rfl, rfl, h, q⟩
theorem u_pow (h : CPow m n) (q : Q (.int (m ^ n.toNat)) H) : rPow (.int m) (.int n) H Q := ⟨m, n, rfl, rfl, h, q⟩
theorem u_neg (q : Q (.int (-m)) H) : rNeg (.int m) H Q := ⟨m, rfl, q⟩
theorem u_eq_i (q : Q (.bl (decide (m = n))) H) : uEq K (.int m) (.int n) H Q := Or.inl ⟨rfl, by
  have e : decide (V.int m = V.int n) = decide (m = n) := by simp
  rw [e]
  exact q⟩
theorem u_ne_i (q : Q (.bl (!decide (m = n))) H) : uNe K (.int m) (.int n) H Q := Or.inl ⟨rfl, by
  have e : decide (V.int m = V.int n) = decide (m = n) := by simp
  rw [e]
  exact q⟩
theorem u_eq_s (q : Q (.bl (decide (w = z))) H) : uEq K (.str w) (.str z) H Q := Or.inl ⟨rfl, by
  have e : decide (V.str w = V.str z) = decide (w = z) := by simp
  rw [e]
  exact q⟩
theorem u_ne_s (q : Q (.bl (!decide (w = z))) H) : uNe K (.str w) (.str z) H Q := Or.inl ⟨rfl, by
  have e : decide (V.str w = V.str z) = decide (w = z) := by simp
  rw [e]
  exact q⟩
theorem u_eq_d {d e : PyData} (h1 : Dp K H x d) (h2 : Dp K H y e) (s1 : SeqAt.shaped d = true) (s2 : SeqAt.shaped e = true) (q : Q (.bl (PyData.eqv d e)) H) : uEq K x y H Q := Or.inr ⟨d, e, h1, h2, s1, s2, q⟩
theorem u_ne_d {d e : PyData} (h1 : Dp K H x d) (h2 : Dp K H y e) (s1 : SeqAt.shaped d = true) (s2 : SeqAt.shaped e = true) (q : Q (.bl (!PyData.eqv d e)) H) : uNe K x y H Q := Or.inr ⟨d, e, h1, h2, s1, s2, q⟩
theorem u_lt_i (q : Q (.bl (decide (m < n))) H) : uLt K (.int m) (.int n) H Q := Or.inl ⟨m, n, rfl, rfl, q⟩
theorem u_lt_s (q : Q (.bl (decide (w.cps.toList < z.cps.toList))) H) : uLt K (.str w) (.str z) H Q := Or.inr (Or.inl ⟨w, z, rfl, rfl, q⟩)
theorem u_le_i (q : Q (.bl (decide (m ≤ n))) H) : uLe (.int m) (.int n) H Q := ⟨m, n, rfl, rfl, q⟩
theorem u_gt_i (q : Q (.bl (decide (n < m))) H) : rGt (.int m) (.int n) H Q := ⟨m, n, rfl, rfl, q⟩
theorem u_ge_i (q : Q (.bl (decide (n ≤ m))) H) : rGe (.int m) (.int n) H Q := ⟨m, n, rfl, rfl, q⟩
theorem u_is (q : Q (.bl (decide (x = .non))) H) : uIs x .non H Q := ⟨rfl, q⟩
theorem u_isnt (q : Q (.bl (!decide (x = .non))) H) : uIsnt x .non H Q := ⟨rfl, q⟩
theorem u_in_s {c : Nat} (q : Q (.bl (decide (c ∈ z.cps.toList))) H) : uIn K (.str ⟨#[c]⟩) (.str z) H Q := Or.inl ⟨c, z, rfl, rfl, q⟩
theorem u_ni_s {c : Nat} (q : Q (.bl (!decide (c ∈ z.cps.toList))) H) : uNi K (.str ⟨#[c]⟩) (.str z) H Q := Or.inl ⟨c, z, rfl, rfl, q⟩
theorem u_in_l (h : SqL K H b ys ∨ SqT K H b ys) (fx : flatV x = true) (fy : ys.all flatV = true) (q : Q (.bl (inV x ys)) H) : uIn K x (.ref b) H Q := Or.inr (Or.inl ⟨b, ys, rfl, h, fx, fy, q⟩)
theorem u_ni_l (h : SqL K H b ys ∨ SqT K H b ys) (fx : flatV x = true) (fy : ys.all flatV = true) (q : Q (.bl (!inV x ys)) H) : uNi K x (.ref b) H Q := Or.inr ⟨b, ys, rfl, h, fx, fy, q⟩
theorem u_in_r {lo hi : Int} (h : H b = some (.rng lo hi)) (q : Q (.bl (decide (lo ≤ m ∧ m < hi))) H) : uIn K (.int m) (.ref b) H Q := Or.inr (Or.inr ⟨m, b, lo, hi, rfl, rfl, h, q⟩)
theorem u_ix_l (h : SqL K H a xs) (e : atI xs n = some v) (q : Q v H) : uIx K (.ref a) (.int n) H Q := Or.inl ⟨a, xs, n, v, rfl, rfl, h, e, q⟩
theorem u_ix_t (h : SqT K H a xs) (e : atI xs n = some v) (q : Q v H) : uIx K (.ref a) (.int n) H Q := Or.inr (Or.inl ⟨a, xs, n, v, rfl, rfl, h, e, q⟩)
theorem u_ix_s {c : Nat} (hl : w.length ≤ sizeLine) (e : atI w.cps.toList n = some c) (q : Q (.str ⟨#[c]⟩) H) : uIx K (.str w) (.int n) H Q := Or.inr (Or.inr ⟨w, n, c, rfl, rfl, hl, e, q⟩)
theorem u_sl_s {lo hi : Option Int} (hl : w.length ≤ sizeLine) (q : Q (.str (cutS w lo hi)) H) : uSl K (.str w) lo hi H Q := Or.inl ⟨w, rfl, hl, q⟩
theorem u_sl_l {lo hi : Option Int} (h : SqL K H a xs) (q : ∀ p, H p = none → Q (.ref p) (upd H p (.lst (cutV xs lo hi)))) : uSl K (.ref a) lo hi H Q := Or.inr (Or.inl ⟨a, xs, rfl, h, q⟩)
theorem u_len_q (h : SqL K H a xs ∨ SqT K H a xs) (q : Q (.int xs.length) H) : uLen K [.ref a] H Q := Or.inl ⟨a, xs, rfl, h, q⟩
theorem u_len_s (hl : w.length ≤ sizeLine) (q : Q (.int w.length) H) : uLen K [.str w] H Q := Or.inr ⟨.str w, w.length, rfl, ⟨hl, rfl⟩, q⟩
theorem u_max2 (q : Q (.int (if n > m then n else m)) H) : rMax2 [.int m, .int n] H Q := ⟨m, n, rfl, q⟩
theorem u_min2 (q : Q (.int (if n < m then n else m)) H) : rMin2 [.int m, .int n] H Q := ⟨m, n, rfl, q⟩
theorem u_all {bs : List Bool} (h : SqL K H a (bs.map V.bl)) (q : Q (.bl (bs.all id)) H) : rAllL K [.ref a] H Q := ⟨a, bs, rfl, h, q⟩
theorem u_any {bs : List Bool} (h : SqL K H a (bs.map V.bl)) (q : Q (.bl (bs.any id)) H) : rAnyL K [.ref a] H Q := ⟨a, bs, rfl, h, q⟩
theorem u_repr {d : PyData} (h : Dp K H x d) (s : Shows d) (q : Q (.str d.shown) H) : uRepr K [x] H Q := ⟨x, d, rfl, h, s, q⟩
theorem u_str_i (h : m.natAbs.log2 < 1920) (q : Q (.str (toString m)) H) : uStr K [.int m] H Q := Or.inl ⟨m, rfl, h, q⟩
theorem u_str_s (q : Q (.str w) H) : uStr K [.str w] H Q := Or.inr ⟨w, rfl, q⟩
theorem u_list (h : SqL K H a xs ∨ SqT K H a xs) (q : ∀ p, H p = none → Q (.ref p) (upd H p (.lst xs))) : uList K [.ref a] H Q := ⟨a, xs, rfl, h, q⟩
theorem u_tuple (h : SqL K H a xs) (q : ∀ p, H p = none → Q (.ref p) (upd H p (.tup xs))) : uTuple K [.ref a] H Q := ⟨a, xs, rfl, Or.inl ⟨h, q⟩⟩
theorem u_rng (q : ∀ p, H p = none → Q (.ref p) (upd H p (.rng m n))) : rRangeV2 [.int m, .int n] H Q := ⟨m, n, rfl, q⟩
theorem u_isi {c : V} {t u : Value} {k : Bool} (hc : ClsV c u) (ht : TyX K H x t) (e : PySem.W.kitOne K t u = some k) (q : Q (.bl k) H) : uIsi K [x, c] H Q := Or.inl ⟨x, c, t, u, k, rfl, hc, ht, e, q⟩
end
/-- a test's two ways -/
theorem ite_d {p : Prop} [Decidable p] {A B : Prop} (h1 : p → A) (h2 : ¬ p → B) : if decide p = true then A else B := by
  by_cases h : p
  · rw [decide_eq_true h, if_pos rfl]
    exact h1 h
  · rw [decide_eq_false h, if_neg Bool.false_ne_true]
    exact h2 h
theorem ite_nd {p : Prop} [Decidable p] {A B : Prop} (h1 : ¬ p → A) (h2 : p → B) : if (!decide p) = true then A else B := by
  by_cases h : p
  · rw [decide_eq_true h]
    show if false = true then A else B
    rw [if_neg Bool.false_ne_true]
    exact h2 h
  · rw [decide_eq_false h]
    show if true = true then A else B
    rw [if_pos rfl]
    exact h1 h
theorem ite_b {b : Bool} {A B : Prop} (h1 : b = true → A) (h2 : b = false → B) : if b = true then A else B := by
  cases b
  · rw [if_neg Bool.false_ne_true]
    exact h2 rfl
  · rw [if_pos rfl]
    exact h1 rfl
theorem ite_nb {b : Bool} {A B : Prop} (h1 : b = false → A) (h2 : b = true → B) : if (!b) = true then A else B := by
  cases b
  · show if true = true then A else B
    rw [if_pos rfl]
    exact h1 rfl
  · show if false = true then A else B
    rw [if_neg Bool.false_ne_true]
    exact h2 rfl
end SL

/-! SL4: isinstance of defs and of exceptions; exceptions made as values. -/
namespace SL
open PySem PySem.Spec PyProof.Rows L2
/-- a kind whose things are looked at by object's own `__getattribute__`, and whose class is told by object's `__class__` -/
structure Tells (T : String) : Prop where
  ga : Slot T "__getattribute__" "object.__getattribute__"
  cls : typeLookup (.type T) "__class__" = pure (some (.builtin "object.__class__"))
  other : (Value.type T == Value.type "builtin_function_or_method") = false
  low : isSubtype (.type T) (.type (".".intercalate ("object.__class__".cutAt '.').dropLast)) = pure true
theorem ga_entry : entryFor table "object.__getattribute__" = some Builtin.«object.__getattribute__» := entryFor_of_tree (by kernel_rfl)
theorem ga_args (a b : Value) : argsOk "object.__getattribute__" ⟨[a, b], []⟩ := by unfold argsOk; kernel_rfl
section
variable {prog : Program} {w : World} {A : Around} {E : Value → Shared → Prop} {s : Shared} {a : Addr} {T : String}
/-- object's `__class__` tells the type -/
theorem Tells.descr (W : Tells T) {R : Result → Shared → Prop} (ty : s.TypeIs (.ref a) T) (q : R (.ok (.ret (.type T))) s) : codeAny (model prog w) A (.call (.builtin "getset_descriptor.__get__") ⟨[.builtin "object.__class__", .ref a, .type T], []⟩) R s := by
  have kind : s.TypeIs (.builtin "object.__class__") "getset_descriptor" := PySem.F.typeOf_object_class
  have low := W.low
  obtain ⟨o, at_, cl⟩ := id ty
  rcases s with ⟨o1, o2, o3, o4, o5⟩
  refine codeAny_call_builtin PySem.F.slot_gs_get.plain PySem.F.entry_gs_get (PySem.F.slot_gs_get.check _ _ _ _ _ _ _ _ kind (PySem.F.args_gs_get _ _ _) ?_)
  repeat (any_goals (first | assumption | wp_step))
  refine ⟨Code.quiet_builtin _ (by decide +kernel), codeAny_builtin PySem.F.entry_object_class ?_⟩
  repeat (any_goals (first | assumption | wp_step))
  rw [W.other]
  repeat (any_goals (first | assumption | wp_step))
/-- so x.__class__ is the type -/
theorem Tells.attr (W : Tells T) {Q : Option Value → Shared → Prop} (ty : s.TypeIs (.ref a) T) (q : Q (some (.type T)) { s with toks := s.toks + 1 }) : wpAny (model prog w) A (getAttr? (.ref a) "__class__") Q E s := by
  have ga := W.ga.lookup
  have bd := W.ga.bind (.ref a)
  have cls := W.cls
  have kind := PySem.F.typeOf_object_class
  have g1 := PySem.F.slot_gs_get.lookup
  have g2 := PySem.F.slot_gs_set.lookup
  have read : ∀ {A' : Around} {tk : Tok} {R : Result → Shared → Prop} {s' : Shared}, s'.TypeIs (.ref a) T → R (.ok (.ret (.type T))) s' → codeAny (model prog w) A' (.call (.builtin "object.__getattribute__") ⟨[.ref a, .str "__class__" tk], []⟩) R s' := by
    intro A' tk R s' ty q
    refine codeAny_call_builtin W.ga.plain ga_entry (W.ga.check _ _ _ _ _ _ _ _ ty (ga_args _ _) ?_)
    obtain ⟨o, at_, cl⟩ := id ty
    rcases s' with ⟨o1, o2, o3, o4, o5⟩
    repeat (any_goals (first | assumption | wp_step))
    refine W.descr ty ?_
    repeat (any_goals (first | assumption | wp_step))
  rcases s with ⟨o1, o2, o3, o4, o5⟩
  have by_ : ∀ {tk : Tok} {Q : Value → Shared → Prop} {E : Value → Shared → Prop}, Q (.type T) ⟨o1, o2, o3, o4 + 1, o5⟩ → wpAny (model prog w) A (getAttrBy (.ref a) (.str "__class__" tk) false) Q E ⟨o1, o2, o3, o4 + 1, o5⟩ := by
    intro tk Q E q
    have ty' : (⟨o1, o2, o3, o4 + 1, o5⟩ : Shared).TypeIs (.ref a) T := ty
    repeat (any_goals (first | assumption | wp_step))
    refine read ty ?_
    repeat (any_goals (first | assumption | wp_step))
  unfold getAttr? getAttrBy?
  repeat (any_goals (first | assumption | with_reducible apply by_ | wp_step))
end
theorem fn_tells : Tells "function" where
  ga := .of (owner := "object") (n := "__getattribute__") (by rw [typeLookup_type, builtinLookup_eq_fast]; kernel_rfl) (by decide +kernel) (by decide +kernel) (by decide +kernel) (by first | exact .inl (by decide +kernel) | exact .inr (by decide +kernel)) (by rw [isSubtype_type]; kernel_rfl)
  cls := by rw [typeLookup_type, builtinLookup_eq_fast]; kernel_rfl
  other := rfl
  low := by rw [PySem.F.owner_object_class, isSubtype_type]; kernel_rfl
theorem kit_fn {K : PySem.W.Frag} {a : Addr} : PySem.W.KitX K (.ref a) (.type "function") (PySem.W.KitAt a "function") :=
  PySem.W.kitx_of PySem.W.kitAt_ty (fun {_ _ _ _ _ s} p k => fn_tells.attr p k)
end SL

namespace SL
open PySem PySem.Spec PyProof.Rows L2
/-! ### kinds for isinstance -/
/-- what the written part says of an own exception class, for isinstance -/
def isiB (K : PySem.W.Frag) (C : Addr) : Bool := (PySem.W.clsIn K C).isSome && (decide (PySem.W.findIn K (.ref C) "__getattribute__" = some (some (.builtin "BaseException.__getattribute__"))) && ((PySem.W.findIn K (.ref C) "__getattr__").isSome &&
  (decide (PySem.W.subIn K (.ref C) (.type "BaseException") = some true) && (decide (PySem.W.findIn K (.ref C) "__class__" = some (some (.builtin "object.__class__"))) && (decide (PySem.W.specialIn K (.builtin "object.__class__") "__get__" = some (some (.builtin "getset_descriptor.__get__"))) &&
  (decide (PySem.W.takesIn K (.builtin "object.__class__") = some true) && decide (PySem.W.mroIn K C (.type "object") = some true)))))))
inductive TyY (K : PySem.W.Frag) (H : Hp) : V → Value → Prop where
  | base {x : V} {t : Value} (h : TyX K H x t) : TyY K H x t
  | fn {a : Addr} {o : Obj} (e : K.lookup a = some o) (c : o.cls = .type "function") : TyY K H (.ref a) (.type "function")
  | exc {a C dx : Addr} (e : H a = some (exo a C (some dx))) (fs : List (Str × V)) (d : H dx = some (exd dx fs)) (b : isiB K C = true) : TyY K H (.ref a) (.ref C)
theorem kit_y {X : Cx} {pins : List (Addr × Obj)} {σ : L2.St} {H : Hp} {s : Shared} {x : V} {u t : Value} (I : Inv X pins σ H s) (rx : RelV x u) (ty : TyY X.K H x t) :
    ∃ P : Heap → Prop, PySem.W.KitX X.K u t P ∧ P s.heap ∧ u ≠ .builtin "__main__.__loader__#opaque" := by
  cases ty with
  | base h => exact kit_of I rx h
  | @fn a o e c =>
    cases (show u = Value.ref a from rx)
    exact ⟨_, kit_fn, ⟨o, I.kIn _ _ e, c⟩, fun z => nomatch z⟩
  | @exc a C dx e fs hd b =>
    cases (show u = Value.ref a from rx)
    simp only [isiB, Bool.and_eq_true, decide_eq_true_eq] at b
    obtain ⟨b1, b2, b3, b4, b5, b6, b7, b8⟩ := b
    obtain ⟨gt, b3⟩ := Option.isSome_iff_exists.mp b3
    obtain ⟨t1, ho⟩ := exo_at I.hok e
    obtain ⟨mA, ⟨oD, es, ep, hD, _⟩, _⟩ := exd_at I.hok hd
    refine ⟨_, PySem.W.kitx_exc (od := some oD) b1 b2 b3 b4 b5 b6 b7 b8, (show PySem.W.InstAt s.heap a { cls := .ref C, dict := some dx, data := .fields #[.ref t1, .none, .none, .none, .bool false, .none] } C (some oD) from ⟨ho, rfl, rfl, hD⟩), fun z => nomatch z⟩
def rIsiY (K : PySem.W.Frag) : List V → Hp → VK → Prop := fun xs H Q => ∃ (x c : V) (t u : Value) (b : Bool), xs = [x, c] ∧ ClsV c u ∧ TyY K H x t ∧ PySem.W.kitOne K t u = some b ∧ Q (.bl b) H
def rIsiYT (K : PySem.W.Frag) : List V → Hp → VK → Prop := fun xs H Q => ∃ (x : V) (tp : Addr) (cs : List V) (t : Value) (us : List Value) (b : Bool), xs = [x, .ref tp] ∧ H tp = some (.tup cs) ∧ Paired ClsV cs us ∧ TyY K H x t ∧ PySem.W.kitAny K t us = some b ∧ Q (.bl b) H
section
variable {X : Cx}
theorem call_isiY : CallR X (.builtin "isinstance") (rIsiY X.K) := by
  rintro pins s σ H _ us Q I r ⟨x, c, t, u, b, rfl, k, ty, told, q⟩
  obtain ⟨v, w, rfl, rv, rw⟩ := vals2 r
  obtain rfl := k.eq rw
  obtain ⟨P, Z, p, far⟩ := kit_y I rv ty
  exact PySem.W.kia_one Z I.kIn p told far fun tk => ⟨.bl b, H, I.tok tk, rfl, q⟩
theorem call_isiYT : CallR X (.builtin "isinstance") (rIsiYT X.K) := by
  rintro pins s σ H _ us Q I r ⟨x, tp, cs, t, ws, b, rfl, tup, k, ty, told, q⟩
  obtain ⟨v, w, rfl, rv, rw⟩ := vals2 r
  obtain rfl : w = .ref tp := rw
  obtain ⟨P, Z, p, far⟩ := kit_y I rv ty
  obtain ⟨_, its, rs, ⟨oc, od, dt, sl⟩, at_, cl, ep, seq⟩ := (show ObjOk X.prog X.w H s.heap tp (.tup cs) from I.hok tp _ tup)
  obtain rfl : oc = .type "tuple" := cl
  obtain rfl : dt = .seq its.toArray ep := seq
  obtain rfl := ClsV.all k rs
  exact PySem.W.kia_tup Z I.kIn p at_ told far fun tk => ⟨.bl b, H, I.tok tk, rfl, q⟩
def vIsi (K : PySem.W.Frag) : List V → Hp → VK → Prop := fun xs H Q => rIsiY K xs H Q ∨ rIsiYT K xs H Q
theorem call_vIsi : CallR X (.builtin "isinstance") (vIsi X.K) := call_isiY.or call_isiYT
end
section
variable {K : PySem.W.Frag} {H : Hp} {x c : V} {t u : Value} {k : Bool} {Q : VK}
theorem v_isi (hc : ClsV c u) (ht : TyY K H x t) (e : PySem.W.kitOne K t u = some k) (q : Q (.bl k) H) : vIsi K [x, c] H Q := Or.inl ⟨x, c, t, u, k, rfl, hc, ht, e, q⟩
theorem v_isiT {tp : Addr} {cs : List V} {us : List Value} (h : H tp = some (.tup cs)) (hc : Paired ClsV cs us) (ht : TyY K H x t) (e : PySem.W.kitAny K t us = some k) (q : Q (.bl k) H) : vIsi K [x, .ref tp] H Q := Or.inr ⟨x, tp, cs, t, us, k, rfl, h, hc, ht, e, q⟩
end
end SL

/-! SL5: the package's exceptions: how they are made, their fields. -/
namespace SL
open PySem PySem.Spec PyProof.Rows L2
/-! ### looks -/
/-- the class object at C is one of an exception above ValueError, in own classes and ValueError's -/
def clsVE (K : PySem.W.Frag) (C : Addr) : Bool := match K.lookup C with
  | some ⟨.type "type", _, .cls ⟨_, _, .ref C' :: bm, _, _, true, _, _, _, _, false⟩, ⟨[_, _, _, _, some (.builtin n), _]⟩⟩ => (C' == C && n == "ValueError.__new__") && PySem.HandSPX.refsVE bm
  | _ => false
theorem clsVE_ok {K : PySem.W.Frag} {C : Addr} (h : clsVE K C = true) : ∃ nm q N bs bm sn sub ab col dd k0 k1 k2 k3 k5, K.lookup C = some (excClassObj nm q C N bs bm true sn sub ab col dd k0 k1 k2 k3 k5 "ValueError.__new__") ∧ PySem.HandSPX.refsVE bm = true := by
  unfold clsVE at h
  split at h
  · next e =>
    simp only [Bool.and_eq_true, beq_iff_eq] at h
    obtain ⟨⟨rfl, rfl⟩, low⟩ := h
    exact ⟨_, _, _, _, _, _, _, _, _, _, _, _, _, _, _, e, low⟩
  · cases h
def oexB (K : PySem.W.Frag) (C : Addr) : Bool := clsVE K C && (decide (PySem.W.findIn K (.ref C) "__setattr__" = some (some (.builtin "object.__setattr__"))) && (decide (PySem.W.subIn K (.ref C) (.type "BaseException") = some true) &&
  (decide (PySem.W.typeIn K (.ref C) = some (.type "type")) && PySem.W.keepIn K (.ref C))))
theorem oexB_ok {K : PySem.W.Frag} {C : Addr} (h : oexB K C = true) : OexC K C := by
  simp only [oexB, Bool.and_eq_true, decide_eq_true_eq] at h
  exact ⟨clsVE_ok h.1, h.2.1, h.2.2.1, h.2.2.2.1, h.2.2.2.2⟩
/-- reading __init__ off the own base class at S -/
def baseB (K : PySem.W.Frag) (S : Addr) : Bool := PySem.W.readsIn K S (.type "type") && ((match PySem.W.findCls K (.ref S) (.type "type") "__init__" with
  | some (.val (.builtin n)) => decide (n = "ValueError.__init__")
  | _ => false) && decide (PySem.W.specialIn K (.ref S) "__getattribute__" = some (some (.builtin "type.__getattribute__"))))
/-- how C's own __init__ is found -/
def initB (K : PySem.W.Frag) (C : Addr) : Bool := decide (PySem.W.findIn K (.ref C) "__init__" = some (some (.ref (He.ma K C "__init__")))) && decide (PySem.W.typeIn K (.ref (He.ma K C "__init__")) = some (.type "function"))

theorem baseB_ok {K : PySem.W.Frag} {S : Addr} (b : baseB K S = true) : PySem.W.readsIn K S (.type "type") = true ∧ PySem.W.findCls K (.ref S) (.type "type") "__init__" = some (.val (.builtin "ValueError.__init__")) ∧ PySem.W.specialIn K (.ref S) "__getattribute__" = some (some (.builtin "type.__getattribute__")) := by
  unfold baseB at b
  rcases e : PySem.W.findCls K (.ref S) (.type "type") "__init__" with _ | y
  · rw [e] at b; simp at b
  · rw [e] at b
    split at b
    · next n q => cases q; simp only [Bool.and_eq_true, decide_eq_true_eq] at b; exact ⟨b.1, by rw [b.2.1], b.2.2⟩
    · simp at b
theorem initB_ok {K : PySem.W.Frag} {C : Addr} (b : initB K C = true) : PySem.W.findIn K (.ref C) "__init__" = some (some (.ref (He.ma K C "__init__"))) ∧ PySem.W.typeIn K (.ref (He.ma K C "__init__")) = some (.type "function") := by
  simpa only [initB, Bool.and_eq_true, decide_eq_true_eq] using b

/-! ### SearchError.__init__(self, ..) -/
section
variable {X : Cx} {e : Expr} {es : List Expr} {ta : TA} {x : Str} {S : Addr} {p1 p2 pos : Pos}
theorem pe_sinit {pl : Sem Bool} (hg : Gl X x) (hm : X.mg x = some (.ref S)) (b : baseB X.K S = true) (ha : PA X (e :: es) ta) (hdb : (x == ("__debug__" : Str)) = false := by decide)
    (hc : eval (.Call (.Attribute (.Name x p1) "__init__" p2) (e :: es) [] pos) X.env = (do
      let ov ← eval (.Name x p1) X.env
      standAt p2.atName
      let (f, first) ← holding [ov] (getMethod ov "__init__" pl)
      callWith pos f first (backTo pos (starEach (e :: es) X.env)) (backToKw pos (keywordEach [] X.env))) := by rfl)
    (he : starEach (e :: es) X.env = (false, eval e X.env) :: starEach es X.env := by rfl) (hpl : (backTo pos (starEach es X.env)).any (·.1) = false := by rfl) :
    PE X (.Call (.Attribute (.Name x p1) "__init__" p2) (e :: es) [] pos) (tVeI X.K ta) := by
  obtain ⟨b1, b2, b3⟩ := baseB_ok b
  refine ⟨fun pins s σ H Q I h => PySem.W.methodCall_KW (ld_glob I hg hm (PySem.W.method_cls I.kIn b3 (PySem.W.cls_value I.kIn b1 b2 (by decide +kernel) ?_)) hdb) hc⟩
  refine PyProof.Rows.callWith_method1 (id := "ValueError.__init__") (thn (ha.run pos pins _ σ H _ (I.tok _) h) ?_) he hpl
  rintro _ s1 ⟨_, H1, I1, rs, a, C, ws, rfl, few, T, raw, q⟩
  cases rs with
  | cons ra rw =>
    cases ra
    exact oinit_ok T I1 raw (rw.length ▸ Nat.le_trans few (by decide)) fun s' J => ⟨.non, H1, J, rfl, q⟩
end
/-! ### C(e, ..) as a value -/
/-- what __init__ of a one-field exception promises -/
def spX (K : PySem.W.Frag) (C : Addr) (f : Str) : Sp := fun vs H Q _ => ∃ (a : Addr) (v : V), vs = [.ref a, v] ∧ H a = some (exo a C none) ∧ ∀ dx, H dx = none → dx ≠ a → Q .non (upd (upd H dx (exd dx [(f, v)])) a (exo a C (some dx)))
def tExcV (C : Addr) (sp : Sp) (ta : TA) : TE := fun σ H Q => ta σ H fun vs H1 => vs.length ≤ 1000 ∧ ∀ a, H1 a = none → sp (.ref a :: vs) (upd H1 a (exo a C none)) (fun v H2 => v = .non ∧ Q (.ref a) H2) E0
/-- the heap with a new error of the class C: what it was given, and the error -/
def newErr (C : Addr) (us : List Value) (s : Shared) : Shared := { s with heap := (s.heap.push (PySem.W.kdv_tup us)).push (PySem.HandSPX.excO C s.heap.objs.size) }
theorem newErr_grown {C : Addr} {us : List Value} {s : Shared} (b : Addr) (o : Obj) (at_ : s.heap.get? b = some o) : (newErr C us s).heap.get? b = some o := Heap.get?_push_of_some _ (Heap.get?_push_of_some _ at_)
section
variable {X : Cx} {pins : List (Addr × Obj)} {σ : L2.St} {H : Hp} {s : Shared} {C fI : Addr} {us : List Value} {vs : List V}
theorem newErr_free (I : Inv X pins σ H s) : H (s.heap.objs.size + 1) = none := I.hok.fresh (Nat.le_succ _)
theorem newErr_inv (I : Inv X pins σ H s) : Inv X pins σ (upd H (s.heap.objs.size + 1) (exo (s.heap.objs.size + 1) C none)) (newErr C us s) :=
  I.laid (t' := s.toks) newErr_grown (Nat.le_succ _) (exo_ok (by show Heap.get? _ _ = _; heap_get))
/-- the class's own __init__ runs on the new error -/
theorem newErr_init {CX : CXT} {k : Nat} {sp : Sp} {Q : VK} {E : XK} {R : Result → Shared → Prop} (I : Inv X pins σ H s) (r : Vals vs us) (F : FnR X.prog X.w X.K X.mg X.base CX k fI sp) (room : Room (k + 1) X.A)
    (q : sp (.ref (s.heap.objs.size + 1) :: vs) (upd H (s.heap.objs.size + 1) (exo (s.heap.objs.size + 1) C none)) Q E)
    (to : ∀ r s', CR CX X.stack X.prog X.w (upd H (s.heap.objs.size + 1) (exo (s.heap.objs.size + 1) C none)) (newErr C us s) Q E r s' → R r s') :
    codeAny (model X.prog X.w) (X.A.under (.builtin "type.__call__" ⟨.ref C :: us, []⟩)) (.call (.ref fI) ⟨.ref (s.heap.objs.size + 1) :: us, []⟩) R (newErr C us s) :=
  codeAny_mono (F _ X.stack _ _ (.ref (s.heap.objs.size + 1) :: us) (.ref (s.heap.objs.size + 1) :: vs) Q E (room.make C us []) ((newErr_inv I).env0.make C us []) (.cons rfl r) q) to
theorem few_args (r : Vals vs us) (few : vs.length ≤ 1000) : us.length ≤ sizeLine := r.length ▸ Nat.le_trans few (by decide)
end
section
variable {X : Cx} {CX : CXT} {x : Str} {C fI : Addr} {k : Nat} {fd : FuncData} {ps : List Str} {sp : Sp} {p pos : Pos} {e : Expr} {es : List Expr} {ta : TA}
theorem pe_excV (T : OexC X.K C) (ib : initB X.K C = true) (F1 : FnOk X.prog X.w X.K X.mg X.base CX0 k (He.ma X.K C "__init__") fd ps sp) (hr : Room (k + 1) X.A) (hb : Binds X.K fd ps []) (hg : Gl X x) (hm : X.mg x = some (.ref C)) (ha : PA X (e :: es) ta)
    (hdb : (x == ("__debug__" : Str)) = false := by decide) (he : starEach (e :: es) X.env = (false, eval e X.env) :: starEach es X.env := by rfl) (hpl : (backTo pos (starEach es X.env)).any (·.1) = false := by rfl) :
    PE X (.Call (.Name x p) (e :: es) [] pos) (tExcV C sp ta) := by
  obtain ⟨found, fn⟩ := initB_ok ib
  obtain ⟨nm, q, N, bs, bm, sn, sub, ab, col, dd, k0, k1, k2, k3, k5, cls, low⟩ := T.cls
  refine ⟨fun pins s σ H Q I h => wpAny_Call_Name_kw (ld_glob I hg hm (PySem.W.callWith_K (h₀ := X.base) I.ok.mod.kin T.kC (thn (ha.run pos pins s σ H _ I h) ?_) he hpl) hdb)⟩
  rintro us s1 ⟨vs, H1, I1, r, few, q⟩
  refine ⟨I1.kIn, wpAny_call (PySem.HandSPX.call_own F.excBase_ValueError (fun Y => PySem.HandSPX.refsVE_contains Y bm low) (I1.kIn _ _ cls) (PySem.W.looks_findIn I1.kIn found) (fun self => PySem.W.bind_fn I1.kIn self fn) (few_args r few)
    (newErr_init I1 r (F1.raw hb .nil) hr (by rw [List.append_nil]; exact q _ (newErr_free I1)) ?_))⟩
  rintro (e | _ | _ | _ | u) s' z
  case ok.ret =>
    obtain ⟨v, H', J, rv, rfl, q'⟩ := (newErr_inv I1).after z
    exact ⟨rv, .ref (s1.heap.objs.size + 1), H', J, rfl, q'⟩
  all_goals exact z.elim
end
/-- the end of C(v) as a value -/
theorem st_excV {K : PySem.W.Frag} {C : Addr} {f : Str} {σ : L2.St} {H : Hp} {Q : VK} {ta : TA} (h : ta σ H fun vs H1 => ∃ v, vs = [v] ∧ ∀ a dx, H1 a = none → H1 dx = none → dx ≠ a → Q (.ref a) (upd (upd (upd H1 a (exo a C none)) dx (exd dx [(f, v)])) a (exo a C (some dx))))
    (mono : ∀ {P P' : List V → Hp → Prop}, (∀ vs H, P vs H → P' vs H) → ta σ H P → ta σ H P') : tExcV C (spX K C f) ta σ H Q := by
  refine mono ?_ h
  rintro _ H1 ⟨v, rfl, q⟩
  exact ⟨(by show 1 ≤ 1000; decide), fun a free => ⟨a, v, rfl, upd_same, fun dx free2 ne => ⟨rfl, q a dx free ((upd_ne ne).symm.trans free2) ne⟩⟩⟩
end SL

/-! SL6: comprehensions by their items; helpers of the laws. -/
namespace SL
open PySem PySem.Spec PyProof.Rows L2

theorem sz_le {n : Nat} (h : n ≤ 100000) : n ≤ sizeLine := Nat.le_trans h (by decide)
theorem sz_lt {n : Nat} (h : n < 100000) : n < sizeLine := Nat.lt_of_lt_of_le h (by decide)

/-- what a comprehension needs of its source, and gives -/
theorem lc_u {J : It} {n : Nat} {G : Hp → Prop} {Y : Nat → Hp → V → Hp → Prop} (w : Walk J n G Y) {g : TG} {te : TE} {vs : List Nat} {σ : L2.St} {H1 : Hp} {D : Addr} {Qd : Hp → Prop} (M : List Addr) (S : Nat → Hp → Prop) (F : Nat → V → Hp → Prop)
    (hD : H1 D = none) (hM : D ∉ M) (hlen : n ≤ 90000) (S0 : ∀ H, Ex [] H1 H → S 0 H) (hS : ∀ i H acc, H D = some (.lst acc) → S i H → ∀ acc', S i (upd H D (.lst acc'))) (hG : ∀ i H, Ex (D :: M) H1 H → S i H → G H)
    (hF : ∀ j y H H', Ex (D :: M) H H' → F j y H → F j y H')
    (step : ∀ i x H H', i < n → Ex M H1 H → (∃ acc, H D = some (.lst acc)) → S i H → Y i H x H' → ∀ P : VK, (∀ y H4, Ex M H H4 → F i y H4 → S (i + 1) H4 → P y H4) → g x (wipe σ vs) H' fun σ2 H2 => wipe σ2 vs = wipe σ vs ∧ te σ2 H2 P)
    (hd : ∀ H acc, H D = some (.lst acc) → acc.length = n → Ex M H1 H → (∀ j y, acc[j]? = some y → F j y H) → S n H → Qd H) :
    ∃ W : Nat → Nat → Hp → Prop, (∃ m, W 0 m (upd H1 D (.lst []))) ∧ ∀ i m H, W i m H →
      (J.stop i H ∧ Qd H) ∨ (J.go i H ∧ ∃ Nx : Hp → Prop, (∀ H', Nx H' → ∃ m', m' < m ∧ W (i + 1) m' H') ∧ ∀ x H', J.yld i H x H' → g x (wipe σ vs) H' fun σ2 H2 => wipe σ2 vs = wipe σ vs ∧ tYes σ2 H2 fun b H3 =>
        if b = true then te σ2 H3 fun y H4 => ∃ acc, H4 D = some (.lst acc) ∧ acc.length < sizeLine ∧ Nx (upd H4 D (.lst (acc ++ [y]))) else Nx H3) := by
  have back : ∀ H, Ex (D :: M) H1 H → Ex M H1 H := fun H e a o m z => e a o (by
    intro q
    rcases List.mem_cons.mp q with q | q
    · rw [q, hD] at z
      cases z
    · exact m q) z
  refine lc_it w (fun i H => ∃ acc, H D = some (.lst acc) ∧ acc.length = i ∧ Ex (D :: M) H1 H ∧ (∀ j y, acc[j]? = some y → F j y H) ∧ S i H) ?_ ?_ ?_ ?_
  · refine ⟨[], upd_same, rfl, Ex.nil (Ex.new hD), fun j y z => by simp at z, S0 _ (Ex.new hD)⟩
  · rintro i H hi ⟨acc, h1, h2, h3, h4, h5⟩
    exact hG i H h3 h5
  · rintro i x H H' hi ⟨acc, h1, h2, h3, h4, h5⟩ y
    refine step i x H H' hi (back H h3) ⟨acc, h1⟩ h5 y _ ?_
    intro v H4 e3 e4 e5
    have hD4 : H4 D = some (.lst acc) := e3 D _ hM h1
    have up : Ex (D :: M) H4 (upd H4 D (.lst (acc ++ [v]))) := Ex.mut (List.mem_cons_self ..)
    have e6 : Ex (D :: M) H H4 := Ex.mono (fun x z => List.mem_cons_of_mem _ z) e3
    refine ⟨acc, hD4, sz_lt (by omega), acc ++ [v], upd_same, by simp [h2], h3.trans (e6.trans up), fun j z hj => ?_, hS _ _ _ hD4 e5 _⟩
    by_cases q : j < acc.length
    · rw [List.getElem?_append_left q] at hj
      exact hF _ _ _ _ (e6.trans up) (h4 j z hj)
    · have q2 : j = acc.length := by
        have := (List.getElem?_eq_some_iff.mp hj).1
        simp at this
        omega
      subst q2
      simp at hj
      subst hj
      rw [h2]
      exact hF _ _ _ _ up e4
  · rintro H ⟨acc, h1, h2, h3, h4, h5⟩
    exact hd H acc h1 h2 (back H h3) h4 h5
end SL

namespace SL
theorem iteNT {A B : Prop} (h : B) : if (!true) = true then A else B := by
  show if false = true then A else B
  rw [if_neg Bool.false_ne_true]
  exact h
theorem iteNF {A B : Prop} (h : A) : if (!false) = true then A else B := by
  show if true = true then A else B
  rw [if_pos rfl]
  exact h
end SL

namespace SL
open PySem PySem.Spec PyProof.Rows L2
section
variable {K : PySem.W.Frag} {σ : L2.St} {H : Hp} {t : TE} {ta : TA} {R : It → Hp → Prop} {D : Ends} {wi : TI} {g : TG} {tb : TS} {tt : TT} {te : TE} {vs : List Nat} {Q : VK}
theorem st_iU_s (h : t σ H fun v H1 => ∃ x, v = .str x ∧ R (Its x) H1) : iU K t σ H R := Or.inr (Or.inr h)
theorem st_iU_l (h : t σ H fun x H1 => ∃ a, x = .ref a ∧ (∃ xs, SqL K H1 a xs) ∧ R (Itl K a) H1) : iU K t σ H R := Or.inl h
theorem st_iU_t (h : t σ H fun x H1 => ∃ a, x = .ref a ∧ (∃ xs, SqT K H1 a xs) ∧ R (Itt K a) H1) : iU K t σ H R := Or.inr (Or.inl h)
theorem st_rng1 (h : ta σ H fun vs H1 => ∃ j : Int, vs = [.int j] ∧ -(2 ^ 62) ≤ j ∧ j < 2 ^ 62 ∧ R (Itr 0 j.toNat) H1) : iRng1 ta σ H R := h
theorem st_rng2 (h : ta σ H fun vs H1 => ∃ i j : Int, vs = [.int i, .int j] ∧ (-(2 ^ 62) ≤ i ∧ i < 2 ^ 62 ∧ -(2 ^ 62) ≤ j ∧ j < 2 ^ 62) ∧ R (Itr i (j - i).toNat) H1) : iRng2 ta σ H R := h
theorem st_lc (h : wi σ H fun J H1 => ∀ D, H1 D = none → ∃ W : Nat → Nat → Hp → Prop, (∃ m, W 0 m (upd H1 D (.lst []))) ∧ ∀ i m H, W i m H →
  (J.stop i H ∧ Q (.ref D) H) ∨ (J.go i H ∧ ∃ Nx : Hp → Prop, (∀ H', Nx H' → ∃ m', m' < m ∧ W (i + 1) m' H') ∧ ∀ x H', J.yld i H x H' → g x (wipe σ vs) H' fun σ2 H2 => wipe σ2 vs = wipe σ vs ∧ tt σ2 H2 fun b H3 =>
    if b = true then te σ2 H3 fun y H4 => ∃ acc, H4 D = some (.lst acc) ∧ acc.length < sizeLine ∧ Nx (upd H4 D (.lst (acc ++ [y]))) else Nx H3)) : tLc wi g tt te vs σ H Q := h
theorem st_for (h : wi σ H fun J H1 => ∃ W : Nat → Nat → L2.St → Hp → Prop, (∃ m, W 0 m σ H1) ∧ ∀ i m σ H, W i m σ H →
  (J.stop i H ∧ D.nx σ H) ∨ (J.go i H ∧ ∃ N : L2.St → Hp → Prop, (∀ σ' H', N σ' H' → ∃ m', m' < m ∧ W (i + 1) m' σ' H') ∧ ∀ x H', J.yld i H x H' → g x σ H' fun σ2 H2 => tb { D with nx := N, ct := N, bk := D.nx } σ2 H2)) : tFor wi g tb D σ H := h
theorem st_itl {a : Addr} {xs : List V} {P : It → Prop} (h : SqL K H a xs) (q : P (Itl K a)) : ∃ b, V.ref a = .ref b ∧ (∃ ys, SqL K H b ys) ∧ P (Itl K b) := ⟨a, rfl, ⟨xs, h⟩, q⟩
theorem st_itt {a : Addr} {xs : List V} {P : It → Prop} (h : SqT K H a xs) (q : P (Itt K a)) : ∃ b, V.ref a = .ref b ∧ (∃ ys, SqT K H b ys) ∧ P (Itt K b) := ⟨a, rfl, ⟨xs, h⟩, q⟩
theorem st_its {z : Str} {P : It → Prop} (q : P (Its z)) : ∃ x, V.str z = .str x ∧ P (Its x) := ⟨z, rfl, q⟩
theorem st_itr {n : Int} {P : It → Prop} (h1 : -(2 ^ 62) ≤ n) (h2 : n < 2 ^ 62) (q : P (Itr 0 n.toNat)) : ∃ j : Int, [V.int n] = [.int j] ∧ -(2 ^ 62) ≤ j ∧ j < 2 ^ 62 ∧ P (Itr 0 j.toNat) := ⟨n, rfl, h1, h2, q⟩
end
/-- a list by its items -/
theorem map_of {α : Type} {acc : List V} {xs : List α} {f : α → V} (hl : acc.length = xs.length) (h : ∀ (j : Nat) (y : V) (x : α), acc[j]? = some y → xs[j]? = some x → y = f x) : acc = xs.map f := by
  apply List.ext_getElem (by simpa using hl)
  intro j h1 h2
  rw [List.getElem_map]
  exact h j _ _ (List.getElem?_eq_getElem h1) (List.getElem?_eq_getElem (by simpa using h2))
end SL

namespace SL
open PySem PySem.Spec PyProof.Rows L2
section
variable {K : PySem.W.Frag} {H H' : Hp} {p a dx C : Addr} {xs : List V} {o : HO} {M : List Addr} {v x : V} {t : Value}
theorem sqL (h : H p = some (.lst xs)) : SqL K H p xs := Or.inl (Or.inl h)
theorem sqT (h : H p = some (.tup xs)) : SqT K H p xs := Or.inl (Or.inl h)
/-- a value's type, whatever comes outside M -/
def Ky (M : List Addr) (K : PySem.W.Frag) (H : Hp) (v : V) (t : Value) : Prop := ∀ H', Ex M H H' → TyY K H' v t
theorem Ky.ex (h : Ky M K H v t) (e : Ex M H H') : Ky M K H' v t := fun H2 e2 => h H2 (e.trans e2)
theorem Ky.ty (h : Ky M K H v t) : TyY K H v t := h H Ex.refl
theorem Ky.nil (h : Ky M K H v t) : Ky [] K H v t := fun H2 e => h H2 e.nil
theorem Ky.mono {M' : List Addr} (hm : ∀ x ∈ M', x ∈ M) (h : Ky M K H v t) : Ky M' K H v t := fun H2 e => h H2 (e.mono hm)
theorem ky_non : Ky M K H .non (.type "NoneType") := fun _ _ => .base (.base .non)
theorem ky_bl {b : Bool} : Ky M K H (.bl b) (.type "bool") := fun _ _ => .base (.base (.bl b))
theorem ky_int {i : Int} : Ky M K H (.int i) (.type "int") := fun _ _ => .base (.base (.int i))
theorem ky_str {z : Str} : Ky M K H (.str z) (.type "str") := fun _ _ => .base (.base (.str z))
theorem ky_lst (h : At M H a (.lst xs)) : Ky M K H (.ref a) (.type "list") := fun _ e => .base (.base (.lst (h.ex e).at_))
theorem ky_tup (h : At M H a (.tup xs)) : Ky M K H (.ref a) (.type "tuple") := fun _ e => .base (.base (.tup (h.ex e).at_))
theorem ky_dK {kvs : List (Key × V)} (h : At M H a (.dK kvs)) : Ky M K H (.ref a) (.type "dict") := fun _ e => .base (.base (.dK (h.ex e).at_))
theorem ky_fn {ob : Obj} (e : K.lookup a = some ob) (c : ob.cls = .type "function") : Ky M K H (.ref a) (.type "function") := fun _ _ => .fn e c
theorem ky_exc {fs : List (Str × V)} (h : At M H a (exo a C (some dx))) (d : At M H dx (exd dx fs)) (b : isiB K C = true) : Ky M K H (.ref a) (.ref C) := fun _ e => .exc (h.ex e).at_ fs (d.ex e).at_ b
variable {σ : L2.St} {Q : L2.St → Hp → Prop} {to ti : TE} {ts : TSet} {i : V} {n : Int} {j : Nat} {QH : Hp → Prop} {QV : VK}
theorem st_gsub (h : to σ H fun o H1 => ti σ H1 fun i H2 => ts o i v H2 fun H3 => Q σ H3) : gSub to ti ts v σ H Q := h
theorem u_setL (h : H p = some (.lst xs)) (e : ixN xs.length n = some j) (q : QH (upd H p (.lst (xs.set j v)))) : rSetL (.ref p) (.int n) v H QH := ⟨p, xs, n, j, rfl, rfl, h, e, q⟩
theorem u_append (h : H p = some (.lst xs)) (hl : xs.length < sizeLine) (q : QV .non (upd H p (.lst (xs ++ [v])))) : rAppend (.ref p) [v] H QV := ⟨p, xs, v, rfl, rfl, h, hl, q⟩
theorem ty_l (h : SqL K H p xs) : tyV K "list" (.ref p) H := Or.inl ⟨rfl, xs, h⟩
theorem ty_s {z : Str} : tyV K "str" (.str z) H := rfl
theorem u_join {z : Str} {ys : List Str} (h : SqL K H p (ys.map V.str) ∨ SqT K H p (ys.map V.str)) (hl : (ys.map (·.length)).sum + ys.length * z.length ≤ 16777216) (q : QV (.str (Txt.join z ys)) H) : rJoin K (.str z) [.ref p] H QV := ⟨z, p, ys, rfl, rfl, h, hl, q⟩
end
/-! ### what the laws' helpers promise -/
/-- a cell of the script, or a number made of its place -/
def spCell (K : PySem.W.Frag) : Sp := fun vs H Q _ => ∃ (a : Addr) (ns : List Int) (k : Int), vs = [.ref a, .int k] ∧ SqL K H a (ns.map V.int) ∧ 0 ≤ k ∧ k ≤ 100 ∧ ∀ i : Int, Q (.int i) H
def spBox : Sp := fun vs H Q _ => ∃ n : Int, vs = [.int n] ∧ ∀ b H', H b = none → Ex [] H H' → Box b 0 H' → Q (.ref b) H'
/-- a drawn number below m -/
def spTake : Sp := fun vs H Q _ => ∃ (b : Addr) (m : Int) (n : Nat), vs = [.ref b, .int m] ∧ Box b n H ∧ n ≤ 1000000 ∧ 0 < m ∧ m < 10 ^ 40 ∧ ∀ (r : Int) H', 0 ≤ r → r < m → Ex [b] H H' → Box b (n + 1) H' → Q (.int r) H'
end SL

namespace SL
open PySem PySem.Spec PyProof.Rows L2
/-! ### texts -/
theorem str_ext {a b : Str} (h : a.cps.toList = b.cps.toList) : a = b := by
  cases a with
  | mk x => cases b with
    | mk y =>
      have : x = y := Array.toList_inj.mp h
      rw [this]
theorem len_str (a : Str) : a.length = a.cps.toList.length := by simp [Str.length]
theorem cps_add (a b : Str) : (a ++ b).cps.toList = a.cps.toList ++ b.cps.toList := by
  rw [PySem.Str.cps_append]
  simp
theorem len_add (a b : Str) : (a ++ b).length = a.length + b.length := PySem.Str.length_append a b
end SL

namespace SL
open PySem PySem.Spec PyProof.Rows L2
theorem Box.upd {b p : Addr} {n : Nat} {H : Hp} {o : HO} (h : Box b n H) (ne : p ≠ b) : Box b n (upd H p o) := h.ex (M := [p]) (Ex.mut (List.mem_singleton.mpr rfl)) (fun z => ne (List.mem_singleton.mp z).symm)
theorem use_take {b : Addr} {m : Int} {n : Nat} {H : Hp} {Q : VK} {E : XK} (hb : Box b n H) (hn : n ≤ 1000000) (hm : 0 < m) (hm2 : m < 10 ^ 40) (q : ∀ (r : Int) H', 0 ≤ r → r < m → Ex [b] H H' → Box b (n + 1) H' → Q (.int r) H') : spTake [.ref b, .int m] H Q E :=
  ⟨b, m, n, rfl, hb, hn, hm, hm2, q⟩
/-- a comprehension with a test, its values known by their turns -/
theorem lc_f {J : It} {n : Nat} {G : Hp → Prop} {Y : Nat → Hp → V → Hp → Prop} (w : Walk J n G Y) {g : TG} {tt : TT} {te : TE} {vs : List Nat} {σ : L2.St} {H1 : Hp} {D : Addr} {Qd : Hp → Prop} (M : List Addr) (S : Nat → Hp → Prop) (keep : Nat → Bool) (val : Nat → V)
    (hD : H1 D = none) (hM : D ∉ M) (hlen : n ≤ 90000) (S0 : ∀ H, Ex [] H1 H → S 0 H) (hS : ∀ i H acc, H D = some (.lst acc) → S i H → ∀ acc', S i (upd H D (.lst acc'))) (hG : ∀ i H, Ex (D :: M) H1 H → S i H → G H)
    (step : ∀ i x H H', i < n → Ex M H1 H → (∃ acc, H D = some (.lst acc)) → S i H → Y i H x H' → ∀ (PN : Hp → Prop) (PV : VK), (keep i = false → ∀ H4, Ex M H H4 → S (i + 1) H4 → PN H4) → (keep i = true → ∀ H4, Ex M H H4 → S (i + 1) H4 → PV (val i) H4) →
      g x (wipe σ vs) H' fun σ2 H2 => wipe σ2 vs = wipe σ vs ∧ tt σ2 H2 fun b H3 => if b = true then te σ2 H3 PV else PN H3)
    (hd : ∀ H, H D = some (.lst (((List.range n).filter keep).map val)) → Ex M H1 H → S n H → Qd H) :
    ∃ W : Nat → Nat → Hp → Prop, (∃ m, W 0 m (upd H1 D (.lst []))) ∧ ∀ i m H, W i m H →
      (J.stop i H ∧ Qd H) ∨ (J.go i H ∧ ∃ Nx : Hp → Prop, (∀ H', Nx H' → ∃ m', m' < m ∧ W (i + 1) m' H') ∧ ∀ x H', J.yld i H x H' → g x (wipe σ vs) H' fun σ2 H2 => wipe σ2 vs = wipe σ vs ∧ tt σ2 H2 fun b H3 =>
        if b = true then te σ2 H3 fun y H4 => ∃ acc, H4 D = some (.lst acc) ∧ acc.length < sizeLine ∧ Nx (upd H4 D (.lst (acc ++ [y]))) else Nx H3) := by
  have back : ∀ H, Ex (D :: M) H1 H → Ex M H1 H := fun H e a o m z => e a o (by
    intro q
    rcases List.mem_cons.mp q with q | q
    · rw [q, hD] at z
      cases z
    · exact m q) z
  refine lc_it w (fun i H => H D = some (.lst (((List.range i).filter keep).map val)) ∧ Ex (D :: M) H1 H ∧ S i H) ?_ ?_ ?_ ?_
  · exact ⟨upd_same, Ex.nil (Ex.new hD), S0 _ (Ex.new hD)⟩
  · rintro i H hi ⟨h1, h3, h5⟩
    exact hG i H h3 h5
  · rintro i x H H' hi ⟨h1, h3, h5⟩ y
    refine step i x H H' hi (back H h3) ⟨_, h1⟩ h5 y _ _ ?_ ?_
    · intro k H4 e3 e5
      have hD4 := e3 D _ hM h1
      refine ⟨?_, h3.trans (Ex.mono (fun x z => List.mem_cons_of_mem _ z) e3), e5⟩
      rw [List.range_succ, List.filter_append]
      simp only [List.filter_cons, k, List.filter_nil, List.append_nil, Bool.false_eq_true, if_false]
      exact hD4
    · intro k H4 e3 e5
      have hD4 := e3 D _ hM h1
      have hl : (((List.range i).filter keep).map val).length ≤ i := by
        rw [List.length_map]
        exact Nat.le_trans (List.length_filter_le _ _) (by rw [List.length_range]; exact Nat.le_refl _)
      refine ⟨_, hD4, sz_lt (by omega), ?_, (h3.trans (Ex.mono (fun x z => List.mem_cons_of_mem _ z) e3)).trans (Ex.mut (List.mem_cons_self ..)), hS _ _ _ hD4 e5 _⟩
      rw [upd_same, List.range_succ, List.filter_append, List.map_append]
      simp only [List.filter_cons, k, List.filter_nil, if_true, List.map_cons, List.map_nil]
  · rintro H ⟨h1, h3, h5⟩
    exact hd H h1 (back H h3) h5
theorem strs_of {acc : List V} {P : Str → Prop} (h : ∀ (j : Nat) (y : V), acc[j]? = some y → ∃ z, y = .str z ∧ P z) : ∃ ys : List Str, acc = ys.map V.str ∧ ∀ z ∈ ys, P z := by
  induction acc with
  | nil => exact ⟨[], rfl, fun _ z => absurd z (List.not_mem_nil)⟩
  | cons a r ih =>
    obtain ⟨z, rfl, hz⟩ := h 0 a rfl
    obtain ⟨ys, rfl, hy⟩ := ih (fun j y q => h (j + 1) y (by simpa using q))
    refine ⟨z :: ys, rfl, fun x hx => ?_⟩
    rcases List.mem_cons.mp hx with rfl | hx
    · exact hz
    · exact hy x hx
theorem joinL_nil : ∀ l : List (List Nat), TL.joinL [] l = l.flatten
  | [] => rfl
  | [p] => by simp [TL.joinL]
  | p :: q :: r => by
    have ih := joinL_nil (q :: r)
    simp only [TL.joinL, List.nil_append, ih, List.flatten_cons]
theorem join_len {ys : List Str} (h : ∀ z ∈ ys, z.length = 1) : (Txt.join "" ys).length = ys.length := by
  rw [len_str, TL.join_eq]
  have e := TL.tl_join "" ys
  have e2 : TL.tl ("" : Str) = [] := by decide +kernel
  rw [e2, joinL_nil] at e
  have e3 : (Str.join "" ys).cps.toList = (ys.map TL.tl).flatten := e
  rw [e3]
  clear e e2 e3
  induction ys with
  | nil => rfl
  | cons a r ih =>
    rw [List.map_cons, List.flatten_cons, List.length_append, ih (fun z hz => h z (List.mem_cons_of_mem _ hz))]
    have := h a (List.mem_cons_self ..)
    rw [len_str] at this
    show a.cps.toList.length + r.length = r.length + 1
    omega
theorem sum_ones {ys : List Str} (h : ∀ z ∈ ys, z.length = 1) : (ys.map (·.length)).sum = ys.length := by
  induction ys with
  | nil => rfl
  | cons a r ih =>
    rw [List.map_cons, List.sum_cons, ih (fun z hz => h z (List.mem_cons_of_mem _ hz)), h a (List.mem_cons_self ..), List.length_cons]
    omega
theorem cutS_le (z : Str) (lo hi : Option Int) : (cutS z lo hi).length ≤ z.length := by
  rw [len_str, len_str]
  unfold cutS
  simp only [List.length_take, List.length_drop]
  omega
/-- an item at a place in bounds -/
theorem at_in {xs : List V} {r : Int} {P : V → Prop} (h0 : 0 ≤ r) (h1 : r < xs.length) (hP : ∀ x ∈ xs, P x) : ∃ v, atI xs r = some v ∧ P v ∧ v ∈ xs := by
  have h : r.toNat < xs.length := by omega
  exact ⟨xs[r.toNat], at_of (j := r.toNat) (by omega) (List.getElem?_eq_getElem h), hP _ (List.getElem_mem h), List.getElem_mem h⟩
theorem atc_in {xs : List Nat} {r : Int} (h0 : 0 ≤ r) (h1 : r < xs.length) : ∃ c, atI xs r = some c ∧ c ∈ xs := by
  have h : r.toNat < xs.length := by omega
  have e : ((r.toNat : Nat) : Int) = r := by omega
  have z := atI_nat (List.getElem?_eq_getElem h)
  rw [e] at z
  exact ⟨xs[r.toNat], z, List.getElem_mem h⟩
end SL

namespace SL
open PySem PySem.Spec PyProof.Rows L2
/-- plain signs alone -/
def Asc (z : Str) : Prop := ∀ c ∈ z.cps.toList, c < 128
theorem Asc.add {a b : Str} (h : Asc a) (k : Asc b) : Asc (a ++ b) := fun c hc => by
  rw [cps_add] at hc
  rcases List.mem_append.mp hc with q | q
  · exact h c q
  · exact k c q
theorem Asc.cut {a : Str} (h : Asc a) (lo hi : Option Int) : Asc (cutS a lo hi) := fun c hc => by
  unfold cutS at hc
  exact h c (List.mem_of_mem_drop (List.mem_of_mem_take (by simpa using hc)))
theorem Asc.one {c : Nat} (h : c < 128) : Asc ⟨#[c]⟩ := fun d hd => by
  have : d = c := by simpa using hd
  omega
theorem Asc.ok {z : Str} (h : Asc z) : (PyData.str z).canLay0 = true := by
  simp only [PyData.canLay0, PyData.strOk, Array.all_eq_true, decide_eq_true_eq]
  intro i hi
  have := h z.cps[i] (Array.mem_toList_iff.mpr (Array.getElem_mem hi))
  omega
theorem canLay_strs : ∀ {ys : List Str}, (∀ z ∈ ys, Asc z) → PyData.canLayAll0 (ys.map PyData.str) = true
  | [], _ => by simp [PyData.canLayAll0]
  | z :: r, h => by
    rw [List.map_cons, PyData.canLayAll0, (h z (List.mem_cons_self ..)).ok, canLay_strs (fun x q => h x (List.mem_cons_of_mem _ q))]
    rfl
theorem depth_strs : ∀ ys : List Str, PyData.depthAll (ys.map PyData.str) = 0
  | [] => by simp [PyData.depthAll]
  | z :: r => by
    rw [List.map_cons, PyData.depthAll, depth_strs r]
    simp [PyData.depth]
theorem shaped_strs {ys : List Str} (h : ∀ z ∈ ys, Asc z) : SeqAt.shaped (.list (ys.map PyData.str)) = true := by
  simp only [SeqAt.shaped, PyData.canLay0, PyData.depth, canLay_strs h, depth_strs]
  decide
theorem shaped_nil : SeqAt.shaped (.list []) = true := by
  simp [SeqAt.shaped, PyData.canLay0, PyData.depth, PyData.canLayAll0, PyData.depthAll]
theorem eqv_nil_l {xs : List PyData} : PyData.eqv (.list xs) (.list []) = xs.isEmpty := by
  cases xs <;> simp [PyData.eqv, PyData.eqvAll]
/-- an item whose repr is short -/
structure Short (B : Nat) (d : PyData) : Prop where
  sh : d.showable = true
  lf : d.leavesShort B = true
  dp : d.depth ≤ 50
theorem short_bool (B : Nat) (b : Bool) : Short B (.bool b) := ⟨by simp [PyData.showable], by simp [PyData.leavesShort], by simp [PyData.depth]⟩
theorem short_none (B : Nat) : Short B .none := ⟨by simp [PyData.showable], by simp [PyData.leavesShort], by simp [PyData.depth]⟩
theorem short_str (B : Nat) {z : Str} (h : Asc z) : Short B (.str z) := ⟨by simp [PyData.showable], by
  simp only [PyData.leavesShort, List.all_eq_true, decide_eq_true_eq]
  intro c hc
  have := h c hc
  exact Nat.lt_trans this (by decide), by simp [PyData.depth]⟩
theorem shows_list {B N : Nat} {xs : List PyData} (hB : 8 ≤ B) (h : ∀ x ∈ xs, Short B x) (hN : PyData.bulkAll xs ≤ N) (hs : (B + 2) * N + B ≤ 16777216) : Shows (.list xs) := by
  refine ⟨?_, ⟨B, hB, ?_, ?_⟩, ?_⟩
  · simp only [PyData.showable]
    clear hN
    induction xs with
    | nil => simp [PyData.showableAll]
    | cons a r ih =>
      simp only [PyData.showableAll, (h a (List.mem_cons_self ..)).sh, Bool.true_and]
      exact ih (fun x q => h x (List.mem_cons_of_mem _ q))
  · simp only [PyData.leavesShort]
    clear hN
    induction xs with
    | nil => simp [PyData.leavesShortAll]
    | cons a r ih =>
      simp only [PyData.leavesShortAll, (h a (List.mem_cons_self ..)).lf, Bool.true_and]
      exact ih (fun x q => h x (List.mem_cons_of_mem _ q))
  · simp only [PyData.bulk]
    exact Nat.le_trans (Nat.add_le_add_right (Nat.mul_le_mul_left _ hN) _) hs
  · simp only [PyData.depth]
    have z : PyData.depthAll xs ≤ 50 := by
      clear hN
      induction xs with
      | nil => simp [PyData.depthAll]
      | cons a r ih =>
        simp only [PyData.depthAll]
        have h1 := (h a (List.mem_cons_self ..)).dp
        have h2 := ih (fun x q => h x (List.mem_cons_of_mem _ q))
        omega
    omega
theorem bulk_bools : ∀ bs : List Bool, PyData.bulkAll (bs.map PyData.bool) = bs.length
  | [] => by simp [PyData.bulkAll]
  | b :: r => by
    rw [List.map_cons, PyData.bulkAll, bulk_bools r]
    simp [PyData.bulk]
    omega
theorem shows_bools {bs : List Bool} (h : bs.length ≤ 1000000) : Shows (.list (bs.map PyData.bool)) :=
  shows_list (B := 8) (N := 1000000) (Nat.le_refl _) (fun x hx => by
    obtain ⟨b, _, rfl⟩ := List.mem_map.mp hx
    exact short_bool 8 b) (by rw [bulk_bools]; exact h) (by decide)
end SL

/-! SL7: displays, exceptions as values, short rows of facts. -/
namespace SL
open PySem PySem.Spec PyProof.Rows L2
section
variable {K : PySem.W.Frag} {σ : L2.St} {H H' H2 : Hp} {Q : VK} {QP : List (V × V) → Hp → Prop} {tk tv : TE} {ta : TA} {r : List (TE × TE)} {xs ys : List V} {o : HO} {v x y : V} {C p : Addr} {f : Str} {M : List Addr} {sp : Sp}
/-- a new list, a new tuple -/
abbrev Dis (xs : List V) (H : Hp) (Q : VK) : Prop := xs.length ≤ sizeLine ∧ ∀ p, H p = none → Q (.ref p) (upd H p (.lst xs))
abbrev DisT (xs : List V) (H : Hp) (Q : VK) : Prop := xs.length ≤ sizeLine ∧ ∀ p, H p = none → Q (.ref p) (upd H p (.tup xs))
theorem st_lstN (h : ta σ H fun xs H1 => Dis xs H1 Q) : tLst ta σ H Q := h
theorem st_tupN (h : ta σ H fun xs H1 => DisT xs H1 Q) : tTup ta σ H Q := h
theorem nw (q : ∀ p H', H p = none → Ex [] H H' → H' p = some o → Q (.ref p) H') : ∀ p, H p = none → Q (.ref p) (upd H p o) := fun p hp => q p _ hp (Ex.new hp) upd_same
theorem nw_l (hl : xs.length ≤ 100000) (q : ∀ p H', H p = none → Ex [] H H' → H' p = some (.lst xs) → Q (.ref p) H') : Dis xs H Q := ⟨sz_le hl, nw q⟩
theorem nw_t (hl : xs.length ≤ 100000) (q : ∀ p H', H p = none → Ex [] H H' → H' p = some (.tup xs) → Q (.ref p) H') : DisT xs H Q := ⟨sz_le hl, nw q⟩
/-- the same for {k: v} and for an own exception -/
abbrev Dis1 (p : Addr) (ps : List (V × V)) (H2 : Hp) (Q : VK) : Prop := H2 p = some (.dK []) ∧ ∃ kvs : List (L2.Key × V), ps = kvs.map (fun kv => (kV kv.1, kv.2)) ∧ kvs.length ≤ 15 ∧ Q (.ref p) (upd H2 p (.dK (mergeK [] kvs)))
abbrev DisE (C : Addr) (sp : Sp) (vs : List V) (H1 : Hp) (Q : VK) : Prop := vs.length ≤ 1000 ∧ ∀ a, H1 a = none → sp (.ref a :: vs) (upd H1 a (exo a C none)) (fun v H2 => v = .non ∧ Q (.ref a) H2) E0
theorem st_disp (h : ∀ p, H p = none → tPairs r σ (upd H p (.dK [])) fun ps H2 => Dis1 p ps H2 Q) : tDisp r σ H Q := h
theorem st_pc (h : tk σ H fun x H1 => tv σ H1 fun y H2 => tPairs r σ H2 fun ps H3 => QP ((x, y) :: ps) H3) : tPairs ((tk, tv) :: r) σ H QP := h
theorem st_pn (h : QP [] H) : tPairs [] σ H QP := h
theorem u_disp1 {k : L2.Key} (hp : H p = none) (hx : x = kV k) (q : ∀ H', Ex [] H H' → H' p = some (.dK [(k, y)]) → Q (.ref p) H') : Dis1 p [(x, y)] (upd H p (.dK [])) Q :=
  ⟨upd_same, [(k, y)], (by rw [hx]; rfl), (by show 1 ≤ 15; decide), q _ (fun a u m z => by
    have hne : a ≠ p := ne_of_none z hp
    rw [upd_ne hne, upd_ne hne]
    exact z) upd_same⟩
abbrev DisD (H : Hp) (Q : VK) : Prop := ∀ p, H p = none → Q (.ref p) (upd H p (.dK []))
theorem st_dnew (h : DisD H Q) : tDNewK σ H Q := h
theorem nw_d (q : ∀ p H', H p = none → Ex [] H H' → H' p = some (.dK []) → Q (.ref p) H') : DisD H Q := nw q
theorem st_exc (h : ta σ H fun vs H1 => DisE C sp vs H1 Q) : tExcV C sp ta σ H Q := h
/-- an exception made as a value: its object and its fields -/
theorem u_exc (q : ∀ a dx H2, H a = none → H dx = none → Ex [] H H2 → H2 a = some (exo a C (some dx)) → H2 dx = some (exd dx [(f, v)]) → Q (.ref a) H2) :
    DisE C (spX K C f) [v] H Q :=
  ⟨(by show 1 ≤ 1000; decide), fun a ha => ⟨a, v, rfl, upd_same, fun dx hd hne => by
    have hd2 : H dx = none := by
      rw [upd_ne hne] at hd
      exact hd
    refine ⟨rfl, q a dx _ ha hd2 (fun b u m z => ?_) upd_same ?_⟩
    · have h1 : b ≠ a := ne_of_none z ha
      have h2 : b ≠ dx := ne_of_none z hd2
      rw [upd_ne h1, upd_ne h2, upd_ne h1]
      exact z
    · rw [upd_ne hne, upd_same]⟩⟩
/-- the values' kinds, a row at a time -/
def KyN (M : List Addr) (K : PySem.W.Frag) (H : Hp) (T : String) (v : V) : Prop := ∃ t, Ky M K H v t ∧ PySem.W.kitOne K t (.type T) = some false
theorem KyN.ex {T : String} (e : Ex M H H') (h : KyN M K H T v) : KyN M K H' T v := let ⟨t, a, b⟩ := h; ⟨t, a.ex e, b⟩
theorem all_cons {α : Type} {P : α → Prop} {a : α} {l : List α} (h : P a) (t : ∀ x ∈ l, P x) : ∀ x ∈ a :: l, P x := fun x z => by
  rcases List.mem_cons.mp z with rfl | z
  · exact h
  · exact t x z
theorem all_nil {α : Type} {P : α → Prop} : ∀ x ∈ ([] : List α), P x := fun _ z => absurd z (List.not_mem_nil)
theorem u_mul_f {n : Int} {a : Addr} (h1 : H a = some (.lst xs)) (hn : (decide (0 ≤ n) && (decide (n < 2 ^ 63) && decide (xs.length * n.toNat ≤ 100000))) = true) (e : (List.replicate n.toNat xs).flatten = ys) (q : ∀ p H', H p = none → Ex [] H H' → H' p = some (.lst ys) → Q (.ref p) H') : uMul K (.ref a) (.int n) H Q := by
  simp only [Bool.and_eq_true, decide_eq_true_eq] at hn
  subst e
  exact u_mul_l h1 hn.1 hn.2.1 (sz_le hn.2.2) (nw q)
theorem u_add_f {a b : Addr} (h1 : H a = some (.lst xs)) (h2 : H b = some (.lst ys)) (hl : xs.length + ys.length ≤ 100000) (q : ∀ p H', H p = none → Ex [] H H' → H' p = some (.lst (xs ++ ys)) → Q (.ref p) H') : uAdd K (.ref a) (.ref b) H Q := u_add_l h1 h2 (sz_le hl) (nw q)
theorem u_sl_f {a : Addr} {lo hi : Option Int} (h : SqL K H a xs) (q : ∀ p H', H p = none → Ex [] H H' → H' p = some (.lst (cutV xs lo hi)) → Q (.ref p) H') : uSl K (.ref a) lo hi H Q := u_sl_l h (nw q)
theorem u_tuple_f {a : Addr} (h : SqL K H a xs) (q : ∀ p H', H p = none → Ex [] H H' → H' p = some (.tup xs) → Q (.ref p) H') : uTuple K [.ref a] H Q := u_tuple h (nw q)
theorem u_list_f {a : Addr} (h : SqL K H a xs ∨ SqT K H a xs) (q : ∀ p H', H p = none → Ex [] H H' → H' p = some (.lst xs) → Q (.ref p) H') : uList K [.ref a] H Q := u_list h (nw q)
/-- repr of a list of truths -/
theorem u_repr_b {a : Addr} {bs : List Bool} (h : H a = some (.lst (bs.map V.bl))) (hl : bs.length ≤ 1000000) (q : Q (.str (PyData.list (bs.map PyData.bool)).shown) H) : uRepr K [.ref a] H Q :=
  u_repr (d := .list (bs.map PyData.bool)) (Rp.lst (M := []) (At.lt ⟨h, List.not_mem_nil⟩) (RpA.bools bs)).dp (shows_bools hl) q
def fnB (K : PySem.W.Frag) (a : Addr) : Bool := match K.lookup a with
  | some ob => decide (ob.cls = .type "function")
  | none => false
theorem ky_fnB {a : Addr} (h : fnB K a = true) : Ky M K H (.ref a) (.type "function") := by
  unfold fnB at h
  split at h
  · rename_i ob e
    exact ky_fn e (of_decide_eq_true h)
  · cases h
/-- no value of the type T is an exception of the class C -/
def noB (K : PySem.W.Frag) (C : Addr) (T : String) : Bool := isiB K C && decide (PySem.W.kitOne K (.ref C) (.type T) = some false)
theorem noB_ok {T : String} (h : noB K C T = true) : isiB K C = true ∧ PySem.W.kitOne K (.ref C) (.type T) = some false := by
  simpa only [noB, Bool.and_eq_true, decide_eq_true_eq] using h
end
/-- a comprehension whose items change nothing that stands -/
theorem lc_p {J : It} {n : Nat} {G : Hp → Prop} {Y : Nat → Hp → V → Hp → Prop} (w : Walk J n G Y) {g : TG} {te : TE} {vs : List Nat} {σ : L2.St} {H1 : Hp} {D : Addr} {Qd : Hp → Prop} (val : Nat → V)
    (hD : H1 D = none) (hlen : n ≤ 90000) (hG : ∀ H, Ex [D] H1 H → G H)
    (step : ∀ i x H H', i < n → Ex [] H1 H → Y i H x H' → ∀ P : VK, (∀ H4, Ex [] H H4 → P (val i) H4) → g x (wipe σ vs) H' fun σ2 H2 => wipe σ2 vs = wipe σ vs ∧ te σ2 H2 P)
    (hd : ∀ H, H D = some (.lst ((List.range n).map val)) → Ex [] H1 H → Qd H) :
    ∃ W : Nat → Nat → Hp → Prop, (∃ m, W 0 m (upd H1 D (.lst []))) ∧ ∀ i m H, W i m H →
      (J.stop i H ∧ Qd H) ∨ (J.go i H ∧ ∃ Nx : Hp → Prop, (∀ H', Nx H' → ∃ m', m' < m ∧ W (i + 1) m' H') ∧ ∀ x H', J.yld i H x H' → g x (wipe σ vs) H' fun σ2 H2 => wipe σ2 vs = wipe σ vs ∧ tYes σ2 H2 fun b H3 =>
        if b = true then te σ2 H3 fun y H4 => ∃ acc, H4 D = some (.lst acc) ∧ acc.length < sizeLine ∧ Nx (upd H4 D (.lst (acc ++ [y]))) else Nx H3) := by
  refine lc_u w (M := []) (S := fun _ _ => True) (F := fun j y _ => y = val j) hD (List.not_mem_nil) hlen (fun _ _ => trivial) (fun _ _ _ _ _ _ => trivial) (fun _ H e _ => hG H e) (fun _ _ _ _ _ z => z) ?_ ?_
  · intro i x H H' hi e1 _ _ y P hP
    exact step i x H H' hi e1 y P (fun H4 e => hP _ _ e rfl trivial)
  · intro H acc ha hl e hF _
    have ea : acc = (List.range n).map val := by
      apply List.ext_getElem (by simp [hl])
      intro j h1 h2
      rw [List.getElem_map, List.getElem_range]
      exact hF j _ (List.getElem?_eq_getElem h1)
    rw [ea] at ha
    exact hd H ha e
theorem range_const {n : Nat} {v : V} : (List.range n).map (fun _ => v) = List.replicate n v := by
  rw [List.map_const', List.length_range]
section
variable {K : PySem.W.Frag} {σ : L2.St} {H : Hp} {Q : VK} {ta tb tc : TE} {a b c : Int}
/-- a reading that gives a value at once -/
def Pv (t : TE) (σ : L2.St) (H : Hp) (v : V) : Prop := ∀ Q : VK, Q v H → t σ H Q
theorem pv_var {i : Nat} {v : V} (h : σ[i]? = some (some v)) : Pv (tVar i) σ H v := fun _ q => ⟨v, h, q⟩
theorem pv_c {v : V} : Pv (tC v) σ H v := fun _ q => q
theorem chain_le (h1 : Pv ta σ H (.int a)) (h2 : Pv tb σ H (.int b)) (h3 : Pv tc σ H (.int c)) (q : Q (.bl (decide (a ≤ b) && decide (b ≤ c))) H) : tChain uLe uLe ta tb tc σ H Q :=
  h1 _ (h2 _ ⟨a, b, rfl, rfl, _, rfl, by
    by_cases h : a ≤ b
    · rw [decide_eq_true h, if_pos rfl]
      rw [decide_eq_true h, Bool.true_and] at q
      exact h3 _ ⟨b, c, rfl, rfl, q⟩
    · rw [decide_eq_false h, if_neg Bool.false_ne_true]
      rw [decide_eq_false h, Bool.false_and] at q
      exact q⟩)
end
theorem mem_cutV {xs : List V} {lo hi : Option Int} {x : V} (h : x ∈ cutV xs lo hi) : x ∈ xs := List.mem_of_mem_drop (List.mem_of_mem_take h)
theorem all2_cons {α β : Type} {R : α → β → Prop} {a : α} {b d : β} {l : List α} {m : List β} (h : R a b) (t : ∀ (i : Nat) x, l[i]? = some x → R x (m.getD i d)) : ∀ (i : Nat) x, (a :: l)[i]? = some x → R x ((b :: m).getD i d)
  | 0, x, e => by
    have : a = x := by simpa using e
    subst this
    exact h
  | i + 1, x, e => t i x (by simpa using e)
theorem all2_nil {α β : Type} {R : α → β → Prop} {d : β} : ∀ (i : Nat) x, ([] : List α)[i]? = some x → R x (([] : List β).getD i d) := fun i x e => by simp at e
theorem Ex.drop {b : Addr} {H H' : Hp} (hb : H b = none) (e : Ex [b] H H') : Ex [] H H' := fun a o _ z => e a o (fun q => by
  have q := List.mem_singleton.mp q
  rw [q, hb] at z
  cases z) z
/-! ### what binds -/
section
variable {K : PySem.W.Frag} {x qual : Str} {params : Arguments} {body : List Stmt} {scope : Scope} {kws : List (Str × V)} {f : Addr} {fd : FuncData} {ps ks : List Str} {n : Nat} {pm : List Pm}
/-- a call by keywords, no defaults -/
theorem kb_fun (F : FunD K x qual params body scope [] kws f fd)
    (h : ∀ (kV doc pm' : Value) (an : Option Addr) (cdv ct : Value) (us ws : List Value), us.length = n → ws.length = ks.length → bindArgs (PySem.W.fnOf x qual params body scope .none kV doc pm' an cdv ct) ⟨us, ks.zip ws⟩ = pure (ps.zip (pm.map (Pm.u us ws)))) : KB K fd ps n ks pm := by
  obtain ⟨oc, od, dV, kV, doc, pm', an, cdv, ct, osl, rfl, lk, hcd, hD, hK⟩ := F.ex
  rcases hD with ⟨_, rfl⟩ | ⟨e, _⟩
  · exact kb_of (h kV doc pm' an cdv ct)
  · exact absurd rfl e
end
/-- the body of an own exception of one field -/
theorem exc_init {K : PySem.W.Frag} {C a : Addr} {f m : Str} {v : V} {H : Hp} {D : Ends} (T : OexC K C) (hno : PySem.W.findIn K (.ref C) f = some none) (ha : H a = some (exo a C none))
    (q : ∀ dx, H dx = none → dx ≠ a → D.nx [some (.ref a), some v] (upd (upd H dx (exd dx [(f, v)])) a (exo a C (some dx)))) :
    tSeq (tDrop (tVeI K (tCons (tVar 0) (tCons (tC (.str m)) tNil)))) (tOst K f (tVar 0) (tVar 1)) D [some (.ref a), some v] H :=
  ⟨_, rfl, a, C, [.str m], rfl, (by show 1 ≤ 1000; decide), T, ha, _, rfl, _, rfl, a, C, rfl, T, hno, Or.inl ⟨ha, q⟩⟩
/-- a name of the module by its value -/
theorem pe_gc {X : Cx} {x : Str} {pos : Pos} {v : V} (hg : Gl X x) (h : ∃ u, X.mg x = some u ∧ RelV v u) (hd : (x == ("__debug__" : Str)) = false := by decide) : PE X (.Name x pos) (tC v) :=
  let ⟨_, hm, r⟩ := h
  pe_glob hg hm r hd
section
variable {X : Cx} {CX : CXT} {k n m : Nat} {f : Addr} {fd : FuncData} {ps ks : List Str} {sp : Sp} {x : Str} {p pos : Pos} {e : Expr} {es : List Expr} {kws : List Keyword} {t tk : TA} {pm : List Pm}
theorem pe_kw0 (F : FnOk X.prog X.w X.K X.mg X.base CX k f fd ps sp) (hr : Room k X.A) (hg : Gl X x) (hm : X.mg x = some (.ref f)) (hk : PySem.W.keepIn X.K (.ref f) = true) (hb : KB X.K fd ps 0 ks pm) (hx : Passes CX X E0)
    (hkw : PK X kws tk) (hl : ks.length = m) (hall : (backToKw pos (keywordEach kws X.env)).all (·.1.isSome) = true := by rfl) (hks : (backToKw pos (keywordEach kws X.env)).filterMap (·.1) = ks := by rfl)
    (hdb : (x == ("__debug__" : Str)) = false := by decide)
    (hpl : ((backTo pos (starEach [] X.env)).any (·.1) || (backToKw pos (keywordEach kws X.env)).any (·.1.isNone)) = false := by rfl) :
    PE X (.Call (.Name x p) [] kws pos) (tKw sp pm 0 m tNil tk) := by
  subst hl
  exact pe_k0 F hr hg hm hk hb hx hkw hall hks hdb hpl
theorem pe_kw1 (F : FnOk X.prog X.w X.K X.mg X.base CX k f fd ps sp) (hr : Room k X.A) (hg : Gl X x) (hm : X.mg x = some (.ref f)) (hk : PySem.W.keepIn X.K (.ref f) = true) (hb : KB X.K fd ps n ks pm) (hx : Passes CX X E0)
    (ha : PA X (e :: es) t) (hkw : PK X kws tk) (hl : ks.length = m) (hall : (backToKw pos (keywordEach kws X.env)).all (·.1.isSome) = true := by rfl) (hks : (backToKw pos (keywordEach kws X.env)).filterMap (·.1) = ks := by rfl)
    (hdb : (x == ("__debug__" : Str)) = false := by decide) (he : starEach (e :: es) X.env = (false, eval e X.env) :: starEach es X.env := by rfl)
    (hpl : ((backTo pos (starEach (e :: es) X.env)).any (·.1) || (backToKw pos (keywordEach kws X.env)).any (·.1.isNone)) = false := by rfl) :
    PE X (.Call (.Name x p) (e :: es) kws pos) (tKw sp pm n m t tk) := by
  subst hl
  exact pe_k1 F hr hg hm hk hb hx ha hkw hall hks hdb he hpl
end
end SL

/-! SL8: texts: repeated, split, int of a text, index; keyword-only defaults. -/
namespace SL
open PySem PySem.Spec PyProof.Rows L2
/-! ### a text so many times -/
def repS (z : Str) (n : Nat) : Str := ⟨(List.replicate n z.cps.toList).flatten.toArray⟩
theorem repS_cps {z : Str} {n : Nat} : (repS z n).cps.toList = (List.replicate n z.cps.toList).flatten := by simp [repS]
theorem repS_len {z : Str} {n : Nat} : (repS z n).length = n * z.length := by
  rw [SL.len_str, SL.len_str, repS_cps]
  induction n with
  | zero => simp
  | succ n ih =>
    rw [List.replicate_succ, List.flatten_cons, List.length_append, ih, Nat.succ_mul]
    omega
theorem repS_one {z : Str} : repS z 1 = z := str_ext (by rw [repS_cps]; simp)
theorem repS_zero {z : Str} : repS z 0 = "" := str_ext (by
  rw [repS_cps, List.replicate_zero, List.flatten_nil]
  decide +kernel)
theorem repS_nil {z : Str} {n : Nat} (h : z.length = 0) : repS z n = z := by
  have e : z.cps.toList = [] := List.eq_nil_of_length_eq_zero (by rw [← SL.len_str]; exact h)
  refine str_ext ?_
  rw [repS_cps, e]
  induction n with
  | zero => rfl
  | succ n ih => rw [List.replicate_succ, List.flatten_cons, ih]; rfl
theorem fold_cat (c : Array Nat) : ∀ (k : Nat) (acc : Array Nat), ((List.replicate k c).foldl (· ++ ·) acc).toList = acc.toList ++ (List.replicate k c.toList).flatten
  | 0, acc => by simp
  | k + 1, acc => by
    rw [List.replicate_succ, List.foldl_cons, fold_cat c k, Array.toList_append, List.replicate_succ, List.flatten_cons, List.append_assoc]
def rRepS : R2 := fun x y H Q => ∃ (z : Str) (n : Int), x = .str z ∧ y = .int n ∧ 0 ≤ n ∧ n ≤ 1000000 ∧ z.length * n.toNat ≤ 16777216 ∧ Q (.str (repS z n.toNat)) H
theorem op_repS {X : Cx} : OpR X (binaryOp .Mult) rRepS := by
  intro pins s σ H x y v u Q I rx ry h
  obtain ⟨z, n, rfl, rfl, h0, h1, h2, q⟩ := h
  obtain ⟨t, rfl⟩ := rx
  obtain ⟨t2, rfl⟩ := ry
  have tl : PySem.Builtin.Str.tooLong (z.length * n.toNat) = false := by
    unfold PySem.Builtin.Str.tooLong
    rw [sizeLine_eq]
    exact decide_eq_false (by omega)
  refine PySem.P.mul_str ?_ ?_ (fun _ _ => tl) ?_
  · rw [decide_eq_false (show ¬ n < -(2 ^ 63 : Int) by omega), decide_eq_false (show ¬ n ≥ 2 ^ 63 by omega)]
    rfl
  · intro hn _ hgt
    have e1 : (n : Int) ≤ 1000000 := h1
    have e2 : ((2 : Int) ^ 63 - 1) / n ≥ 9223372036854 := by
      refine Int.le_ediv_of_mul_le (by omega) ?_
      have : 9223372036854 * n ≤ 9223372036854 * 1000000 := Int.mul_le_mul_of_nonneg_left h1 (by decide)
      have e3 : (2 : Int) ^ 63 - 1 = 9223372036854775807 := by decide
      omega
    have e4 : z.length ≤ 16777216 := by
      have : 1 ≤ n.toNat := by omega
      exact Nat.le_trans (Nat.le_mul_of_pos_right _ this) h2
    omega
  · by_cases hn : n < 1
    · rw [if_pos hn]
      have e : n.toNat = 0 := by omega
      rw [e, repS_zero] at q
      exact ⟨by decide, ⟨.str "", H, I.tok _, ⟨_, rfl⟩, q⟩⟩
    · rw [if_neg hn]
      by_cases h3 : (n == 1 || z.length == 0) = true
      · rw [if_pos h3]
        have e : repS z n.toNat = z := by
          rw [Bool.or_eq_true, beq_iff_eq, beq_iff_eq] at h3
          rcases h3 with h3 | h3
          · subst h3
            exact repS_one
          · exact repS_nil h3
        rw [e] at q
        exact ⟨.str z, H, I, ⟨_, rfl⟩, q⟩
      · rw [if_neg h3]
        have e : (⟨(List.replicate n.toNat z.cps).foldl (· ++ ·) #[]⟩ : Str) = repS z n.toNat := str_ext (by
          rw [repS_cps]
          show ((List.replicate n.toNat z.cps).foldl (· ++ ·) #[]).toList = _
          rw [fold_cat]
          simp)
        rw [e]
        exact ⟨by rw [repS_len, sizeLine_eq, Nat.mul_comm]; exact h2, ⟨.str _, H, I.tok _, ⟨_, rfl⟩, q⟩⟩
def wMul (K : PySem.W.Frag) : R2 := fun x y H Q => rRepS x y H Q ∨ uMul K x y H Q
theorem op_wMul {X : Cx} : OpR X (binaryOp .Mult) (wMul X.K) := op_repS.or op_uMul
/-! ### split -/
def rSplit : V → List V → Hp → VK → Prop := fun x xs H Q => ∃ a b, x = .str a ∧ xs = [.str b] ∧ (b.length == 0) = false ∧ a.length + 2 ≤ sizeLine ∧ rNewStrs (Txt.split a b) H Q
theorem mt_uSplit {X : Cx} : MtR X "str.split" rSplit := mt_split
/-! ### int of a text -/
def wInt : List V → Hp → VK → Prop := fun xs H Q => (∃ a n, xs = [.str a] ∧ PySem.intText? a = some n ∧ a.length ≤ 640 ∧ Q (.int n) H) ∨ uInt xs H Q
theorem call_wInt {X : Cx} : CallR X (.type "int") wInt := call_int_str.or call_int_u
/-! ### the place of a sign that is there -/
def rIndexS : V → List V → Hp → VK → Prop := fun x xs H Q => ∃ (a b : Str) (k : Nat), x = .str a ∧ xs = [.str b] ∧ Txt.index0 a b = some k ∧ Q (.int (k : Nat)) H
theorem mt_indexS {X : Cx} : MtR X "str.index" rIndexS := by
  intro pins s σ H x xs v us Q I rx rs h
  obtain ⟨a, b, k, rfl, rfl, e, q⟩ := h
  obtain ⟨t, rfl⟩ := rx
  cases rs with
  | cons r1 rs =>
    cases rs
    obtain ⟨u, rfl⟩ := r1
    cases ho : Builtin.Str.occurrences a b 0 a.length 1 with
    | nil =>
      unfold Txt.index0 at e
      rw [ho] at e
      cases e
    | cons k2 rest =>
      unfold Txt.index0 at e
      rw [ho] at e
      cases e
      exact PySem.SC.index ho ⟨.int (k : Nat), H, I.tok _, ⟨_, rfl⟩, q⟩
end SL

namespace SL
open PySem PySem.Spec PyProof.Rows L2
/-! ### keyword-only defaults -/
inductive Pl where
  | pos (i : Nat)
  | key (i : Nat)
  | low (i : Nat)
def Pl.v (vs ms zs : List V) : Pl → V
  | .pos i => vs.getD i .non
  | .key i => zs.getD i .non
  | .low i => ms.getD i .non
def Pl.u (us ms ws : List Value) : Pl → Value
  | .pos i => us.getD i .none
  | .key i => ws.getD i .none
  | .low i => ms.getD i .none
theorem Pl.rel {vs ms zs : List V} {us mv ws : List Value} (r : Vals vs us) (m : Vals ms mv) (q : Vals zs ws) : ∀ ps : List Pl, Vals (ps.map (Pl.v vs ms zs)) (ps.map (Pl.u us mv ws))
  | [] => .nil
  | .pos i :: ps => .cons (getD_rel r i) (Pl.rel r m q ps)
  | .key i :: ps => .cons (getD_rel q i) (Pl.rel r m q ps)
  | .low i :: ps => .cons (getD_rel m i) (Pl.rel r m q ps)
section
variable {K : PySem.W.Frag} {x qual : Str} {params : Arguments} {body : List Stmt} {scope : Scope} {kws : List (Str × V)} {f : Addr} {fd : FuncData} {ps : List Str}
abbrev KBl (K : PySem.W.Frag) (fd : FuncData) (ps : List Str) (n : Nat) (ks : List Str) (pm : List Pl) (ms : List V) : Prop := ∃ mv : List Value, KBn K fd ps n ks (fun us ws => pm.map (Pl.u us mv ws)) (fun vs zs => pm.map (Pl.v vs ms zs))
theorem kb_low (F : FunD K x qual params body scope [] kws f fd) {n : Nat} {ks : List Str} (ms : List (Str × V)) {pm : List Pl} (hk : kws ≠ []) (hms : ∀ q ∈ ms, q ∈ kws)
    (h : ∀ (D : Addr) (doc pm' : Value) (an : Option Addr) (cdv ct : Value) (us mv ws : List Value), us.length = n → mv.length = ms.length → ws.length = ks.length →
      KwChain D ((ms.map (·.1)).zip mv) (bindArgs (PySem.W.fnOf x qual params body scope .none (.ref D) doc pm' an cdv ct) ⟨us, ks.zip ws⟩) (ps.zip (pm.map (Pl.u us mv ws)))) : KBl K fd ps n ks pm (ms.map (·.2)) := by
  obtain ⟨oc, od, dV, kV, doc, pm', an, cdv, ct, osl, rfl, lk, hcd, hD, hK⟩ := F.ex
  rcases hD with ⟨_, rfl⟩ | ⟨e, _⟩
  · rcases hK with e | ⟨D, rfl, hq⟩
    · exact absurd e hk
    · obtain ⟨mv, l, rk, look⟩ := kwd_vals (ms := ms) fun q hm => hq q (hms q hm)
      exact ⟨mv, fun s us ws X l1 l2 => L2.BindsTo.of_looks fun M => (h D doc pm' an cdv ct us mv ws l1 l l2 |> KwChain.looks X look), fun r1 r2 => Pl.rel r1 rk r2 pm⟩
  · exact absurd rfl e
end
def tKl (sp : Sp) (pm : List Pl) (ms : List V) (n m : Nat) (t tk : TA) : TE := tCallN n m sp (fun vs zs => pm.map (Pl.v vs ms zs)) E0 t tk
theorem st_kl {σ : L2.St} {H : Hp} {Q : VK} {tr tk : TA} {sp : Sp} {pm : List Pl} {ms : List V} {n m : Nat} (h : tr σ H fun vs H1 => tk σ H1 fun zs H2 => vs.length = n ∧ zs.length = m ∧ sp (pm.map (Pl.v vs ms zs)) H2 Q E0) : tKl sp pm ms n m tr tk σ H Q := h
section
variable {X : Cx} {CX : CXT} {k n m : Nat} {f : Addr} {fd : FuncData} {ps ks : List Str} {sp : Sp} {x : Str} {p pos : Pos} {e : Expr} {es : List Expr} {kws : List Keyword} {t tk : TA} {pm : List Pl} {ms : List V}
/-- f(k = v, ..), some keyword-only ones lack -/
theorem pe_kl0 (F : FnOk X.prog X.w X.K X.mg X.base CX k f fd ps sp) (hr : Room k X.A) (hg : Gl X x) (hm : X.mg x = some (.ref f)) (hk : PySem.W.keepIn X.K (.ref f) = true) (hb : KBl X.K fd ps 0 ks pm ms) (hx : Passes CX X E0)
    (hkw : PK X kws tk) (hl : ks.length = m) (hall : (backToKw pos (keywordEach kws X.env)).all (·.1.isSome) = true := by rfl) (hks : (backToKw pos (keywordEach kws X.env)).filterMap (·.1) = ks := by rfl)
    (hdb : (x == ("__debug__" : Str)) = false := by decide)
    (hpl : ((backTo pos (starEach [] X.env)).any (·.1) || (backToKw pos (keywordEach kws X.env)).any (·.1.isNone)) = false := by rfl) :
    PE X (.Call (.Name x p) [] kws pos) (tKl sp pm ms 0 m tNil tk) := by
  obtain ⟨mv, hb⟩ := hb
  subst hl
  constructor
  intro pins s σ H Q I h
  refine wpAny_Call_Name_kw (ld_glob I hg hm ?_ hdb)
  refine PySem.W.callWith_KW0 (h₀ := X.base) I.ok.mod.kin hk hall ?_ hpl
  have h : tk σ H fun zs H2 => ([] : List V).length = 0 ∧ zs.length = ks.length ∧ sp (pm.map (Pl.v [] ms zs)) H2 Q E0 := h
  refine thn (hkw.run pos pins s σ H _ I h) ?_
  rintro ws s2 ⟨zs, H2, I2, rz, l1, l2, q2⟩
  refine ⟨I2.kIn, ?_⟩
  rw [hks]
  exact run_fnN (us := []) (vs := []) F hr hb hx I2 .nil rz rfl l2 q2
theorem pe_kl1 (F : FnOk X.prog X.w X.K X.mg X.base CX k f fd ps sp) (hr : Room k X.A) (hg : Gl X x) (hm : X.mg x = some (.ref f)) (hk : PySem.W.keepIn X.K (.ref f) = true) (hb : KBl X.K fd ps n ks pm ms) (hx : Passes CX X E0)
    (ha : PA X (e :: es) t) (hkw : PK X kws tk) (hl : ks.length = m) (hall : (backToKw pos (keywordEach kws X.env)).all (·.1.isSome) = true := by rfl) (hks : (backToKw pos (keywordEach kws X.env)).filterMap (·.1) = ks := by rfl)
    (hdb : (x == ("__debug__" : Str)) = false := by decide) (he : starEach (e :: es) X.env = (false, eval e X.env) :: starEach es X.env := by rfl)
    (hpl : ((backTo pos (starEach (e :: es) X.env)).any (·.1) || (backToKw pos (keywordEach kws X.env)).any (·.1.isNone)) = false := by rfl) :
    PE X (.Call (.Name x p) (e :: es) kws pos) (tKl sp pm ms n m t tk) := by
  obtain ⟨mv, hb⟩ := hb
  subst hl
  exact pe_callN F hr hg hm hk hb hx ha hkw hall hks hdb he hpl
end
end SL

namespace SL
open PySem PySem.Spec PyProof.Rows L2
/-! ### repr of whole numbers, None and lists of data -/
theorem shown_len {i : Int} {k : Nat} (hk : 0 < k) (h : i.natAbs < 10 ^ k) : (PyData.int i).shown.length ≤ k + 1 := by
  rw [PyData.shown_int]
  show (Str.ofString (toString i)).length ≤ k + 1
  rw [PySem.ofString_length]
  exact int_text_length_le10 hk h
theorem log_10 {i : Int} (h : i.natAbs < 10 ^ 50) : i.natAbs.log2 < 1920 := Nat.lt_trans (PySem.Flt.log2_lt_of (k := 180) (by decide) (Nat.lt_of_lt_of_le h (by decide))) (by decide)
theorem short_int {i : Int} (h : i.natAbs < 10 ^ 50) : Short 60 (.int i) := ⟨by
  simp only [PyData.showable]
  exact decide_eq_true (log_10 h), by
  simp only [PyData.leavesShort]
  exact decide_eq_true (Nat.le_trans (shown_len (by decide) h) (by decide)), by simp [PyData.depth]⟩
theorem Short.shows {d : PyData} (h : Short 60 d) (hb : d.bulk ≤ 200000) : Shows d := ⟨h.sh, ⟨60, by decide, h.lf, by omega⟩, by
  have := h.dp
  omega⟩
section
variable {K : PySem.W.Frag} {H : Hp} {Q : VK} {M : List Addr}
theorem u_repr_l {a : Addr} {xs : List V} {ds : List PyData} (h : SqL K H a xs) (r : RpA [] K H xs ds) (s : ∀ d ∈ ds, Short 60 d) (hN : PyData.bulkAll ds ≤ 200000) (q : Q (.str (PyData.list ds).shown) H) : uRepr K [.ref a] H Q :=
  u_repr (d := .list ds) (Rp.lst (M := []) ⟨h, List.not_mem_nil⟩ r).dp (shows_list (B := 60) (N := 200000) (by decide) s hN (by decide)) q
/-- a number or None -/
def vO : Option Int → V
  | none => .non
  | some n => .int n
def dO : Option Int → PyData
  | none => .none
  | some n => .int n
theorem rp_o : ∀ o : Option Int, Rp M K H (vO o) (dO o)
  | none => .non
  | some n => .int n
theorem RpA.opts : ∀ os : List (Option Int), RpA M K H (os.map vO) (os.map dO)
  | [] => .nil
  | o :: os => .cons (rp_o o) (RpA.opts os)
def OkO (o : Option Int) : Prop := ∀ n, o = some n → n.natAbs < 10 ^ 50
theorem short_o : ∀ {o : Option Int}, OkO o → Short 60 (dO o)
  | none, _ => short_none 60
  | some n, h => short_int (h n rfl)
theorem bulk_o : ∀ o : Option Int, (dO o).bulk = 0
  | none => by simp [dO, PyData.bulk]
  | some n => by simp [dO, PyData.bulk]
theorem bulk_os : ∀ os : List (Option Int), PyData.bulkAll (os.map dO) = os.length
  | [] => by simp [PyData.bulkAll]
  | o :: os => by
    rw [List.map_cons, PyData.bulkAll, bulk_os os, bulk_o]
    simp
    omega
theorem u_repr_o {o : Option Int} (h : OkO o) (q : Q (.str (dO o).shown) H) : uRepr K [vO o] H Q := u_repr (rp_o (M := []) o).dp ((short_o h).shows (by rw [bulk_o]; decide)) q
theorem u_repr_os {a : Addr} {os : List (Option Int)} (h : H a = some (.lst (os.map vO))) (s : ∀ o ∈ os, OkO o) (hl : os.length ≤ 100000) (q : Q (.str (PyData.list (os.map dO)).shown) H) : uRepr K [.ref a] H Q :=
  u_repr_l (sqL h) (RpA.opts os) (fun d hd => by
    obtain ⟨o, ho, rfl⟩ := List.mem_map.mp hd
    exact short_o (s o ho)) (by rw [bulk_os]; omega) q
end
/-! ### small texts -/
theorem asc_of {z : Str} (h : (z.cps.toList.all fun c => decide (c < 128)) = true) : Asc z := fun c hc => of_decide_eq_true (List.all_eq_true.mp h c hc)
theorem digit_text {r : Int} (h0 : 0 ≤ r) (h1 : r < 10) : (Str.ofString (toString r)).length = 1 ∧ Asc (Str.ofString (toString r)) := by
  obtain ⟨n, rfl⟩ := Int.eq_ofNat_of_zero_le h0
  have hn : n < 10 := by omega
  have e := TL.tl_num n
  rw [TL.numL_lt hn] at e
  have e2 : (Str.ofString (toString ((n : Nat) : Int))).cps.toList = [48 + n] := e
  refine ⟨by rw [SL.len_str, e2]; rfl, fun c hc => ?_⟩
  rw [e2] at hc
  have := List.mem_singleton.mp hc
  omega
theorem asc_join {ys : List Str} (h : ∀ z ∈ ys, Asc z) : Asc (Txt.join "" ys) := by
  intro c hc
  rw [TL.join_eq] at hc
  have e : (Str.join "" ys).cps.toList = (ys.map TL.tl).flatten := by
    have e := TL.tl_join "" ys
    have e2 : TL.tl ("" : Str) = [] := by decide +kernel
    rw [e2, joinL_nil] at e
    exact e
  rw [e] at hc
  obtain ⟨l, hl, hcl⟩ := List.mem_flatten.mp hc
  obtain ⟨z, hz, rfl⟩ := List.mem_map.mp hl
  exact h z hz c hcl
theorem asc_rep {z : Str} {n : Nat} (h : Asc z) : Asc (repS z n) := fun c hc => by
  rw [repS_cps] at hc
  obtain ⟨l, hl, hcl⟩ := List.mem_flatten.mp hc
  rw [List.eq_of_mem_replicate hl] at hcl
  exact h c hcl
end SL

/-! SL9: own instances: len, repr, str by the class's own defs. -/
namespace SL
open PySem PySem.Spec PyProof.Rows L2
section
variable {prog : Program} {w : World} {A : Around} {E : Value → Shared → Prop} {s : Shared}
/-- two values compared where neither's class stands ahead of the other's: the left one is asked, and the right one where the left one declines -/
theorem asked_left {op : CmpOp} {a b ta tb : Value} {Q : Value → Shared → Prop} (room : A.units < cLine) (two : oneThing? op a b = none) (la : PySem.W.Looks (model prog w) s.heap (typeOf a) ta) (lb : PySem.W.Looks (model prog w) s.heap (typeOf b) tb)
    (keep : (ta != tb) = true → PySem.W.Looks (model prog w) s.heap (isSubtype tb ta) false)
    (h : wpAny (model prog w) A (tryCompare a (cmpInfo op).2.1 b) (fun r s1 => match r with | some v => Q v s1 | none => wpAny (model prog w) A (tryCompare b (cmpInfo op).2.2 a) (fun r2 s2 => ∃ v, r2 = some v ∧ Q v s2) E s1) E s) :
    wpAny (model prog w) A (richCompare op a b) Q E s := by
  have go : ∀ {k : Bool → Sem Value}, wpAny (model prog w) A (k false) Q E s → wpAny (model prog w) A (if (ta != tb) = true then isSubtype tb ta >>= k else pure false >>= k) Q E s := by
    intro k q
    by_cases e : (ta != tb) = true
    · rw [if_pos e]; exact wpAny_bind ((keep e).here q)
    · rw [if_neg e]; exact wpAny_bind (wpAny_pure q)
  unfold richCompare
  rw [two]
  refine wpAny_holding (wpAny_bind (wpAny_cRoomFor room (wpAny_bind (la.here (wpAny_bind (lb.here (go ?_)))))))
  refine wpAny_bind (wpAny_mono h ?_ fun _ _ e => e)
  rintro (_ | v) s1 q
  · refine wpAny_bind (wpAny_mono q ?_ fun _ _ e => e)
    rintro _ s2 ⟨v, rfl, q2⟩
    exact wpAny_pure q2
  · exact wpAny_pure q
end
section
variable {X : Cx} {CX : CXT} {C g : Addr} {n : Nat} {sp : Sp} {E : XK}
/-- an own instance stands -/
def Ins (H : Hp) (a C dx : Addr) (fs : List (Str × V)) : Prop := H a = some (.ins C dx fs)
section
variable {pins : List (Addr × Obj)} {s : Shared} {σ : L2.St} {H : Hp} {a dx : Addr} {fs : List (Str × V)}
/-- an own instance as the class's rules want it -/
theorem Ins.at_ (hi : Ins H a C dx fs) (I : Inv X pins σ H s) : ∃ ox od, PySem.W.InstAt s.heap a ox C od :=
  let ⟨_, J, _⟩ := ins_get I.hok hi
  let ⟨od, J', _⟩ := J.look
  ⟨_, od, J'⟩
/-- the own def, run anywhere below, answers as it promises -/
theorem own_says {A : Around} {us : List Value} {xs : List V} {P : VK} {Q : Value → Shared → Prop} (F : FnR X.prog X.w X.K X.mg X.base CX n g sp) (room : Room n A) (e0 : Env0 X.prog X.w X.K X.mg X.base A X.stack s H) (hx : Passes CX X E) (I : Inv X pins σ H s) (rs : Vals xs us) (q : sp xs H P E)
    (to : ∀ z H' u s', Inv X pins σ H' s' → RelV z u → P z H' → Q u s') : wpAny (model X.prog X.w) A (call (.ref g) us) Q X.xe s :=
  wpAny_mono (wpAny_call (SlX.run_at F room e0 hx I rs q)) (fun u s' ⟨z, H', J, rz, p⟩ => to z H' u s' J rz p) fun _ _ e => e
/-- the only argument is the instance -/
theorem only_ref {us : List Value} (r : Vals [V.ref a] us) : us = [.ref a] := Vals.ref1 r
end
def rLenO (C : Addr) (sp : Sp) (E : XK) : List V → Hp → VK → Prop := fun xs H Q => ∃ (a dx : Addr) (fs : List (Str × V)), xs = [V.ref a] ∧ Ins H a C dx fs ∧ sp [.ref a] H (fun z H' => ∃ i : Int, z = .int i ∧ 0 ≤ i ∧ i < 2 ^ 63 ∧ Q z H') E
theorem call_lenO (hs : PySem.W.findIn X.K (.ref C) "__len__" = some (some (.ref g))) (hf : PySem.W.isFn X.K (.ref g) = true) (F : FnR X.prog X.w X.K X.mg X.base CX n g sp) (hr : Room (n + 1) X.A) (hx : Passes CX X E) : CallR X (.builtin "len") (rLenO C sp E) := by
  rintro pins s σ H _ us Q I r ⟨a, dx, fs, rfl, hi, q⟩
  obtain rfl := only_ref r
  obtain ⟨ox, od, J⟩ := hi.at_ I
  refine PySem.W.len_K I.fr.choose_spec I.ok.mod.kin J hs hf (own_says (xs := [.ref a]) F (Room.in1 hr) I.env0.in1 hx I (.cons rfl .nil) q ?_)
  rintro _ H' u s' J' rz ⟨i, rfl, lo, hi, q'⟩
  obtain ⟨t, rfl⟩ := rz
  exact ⟨⟨lo, hi⟩, .int i, H', J'.tok _, ⟨_, rfl⟩, q'⟩
def rReprO (C : Addr) (sp : Sp) (E : XK) : List V → Hp → VK → Prop := fun xs H Q => ∃ (a dx : Addr) (fs : List (Str × V)), xs = [V.ref a] ∧ Ins H a C dx fs ∧ sp [.ref a] H (fun z H' => ∃ y : Str, z = .str y ∧ Q z H') E
theorem call_reprO (hs : PySem.W.findIn X.K (.ref C) "__repr__" = some (some (.ref g))) (hf : PySem.W.isFn X.K (.ref g) = true) (F : FnR X.prog X.w X.K X.mg X.base CX n g sp) (hr : Room (n + 1) X.A) (hx : Passes CX X E) : CallR X (.builtin "repr") (rReprO C sp E) := by
  rintro pins s σ H _ us Q I r ⟨a, dx, fs, rfl, hi, q⟩
  obtain rfl := only_ref r
  obtain ⟨ox, od, J⟩ := hi.at_ I
  refine PySem.W.repr_K (Room.in1 hr).units0 I.fr.choose_spec I.ok.mod.kin J hs hf (own_says (xs := [.ref a]) F (Room.in1 hr) I.env0.in1 hx I (.cons rfl .nil) q ?_)
  rintro _ H' u s' J' rz ⟨y, rfl, q'⟩
  obtain ⟨t, rfl⟩ := rz
  exact ⟨.str y, H', J', ⟨_, rfl⟩, q'⟩
def rStrO (C : Addr) (sp : Sp) (E : XK) : List V → Hp → VK → Prop := fun xs H Q => ∃ (a dx : Addr) (fs : List (Str × V)), xs = [V.ref a] ∧ Ins H a C dx fs ∧ sp [.ref a] H (fun z H' => ∃ y : Str, z = .str y ∧ Q z H') E
theorem call_strO (hs : PySem.W.findIn X.K (.ref C) "__str__" = some (some (.ref g))) (hf : PySem.W.isFn X.K (.ref g) = true) (F : FnR X.prog X.w X.K X.mg X.base CX n g sp) (hr : Room (n + 2) X.A) (hx : Passes CX X E) : CallR X (.type "str") (rStrO C sp E) := by
  rintro pins s σ H _ us Q I r ⟨a, dx, fs, rfl, hi, q⟩
  obtain rfl := only_ref r
  obtain ⟨ox, od, J⟩ := hi.at_ I
  have room : Room n X.A.in1.in1 := (Room.in1 (k := n + 1) hr).in1
  refine PySem.W.kso_call room.units0 I.kIn J hs hf (own_says (xs := [.ref a]) F room I.env0.in1.in1 hx I (.cons rfl .nil) q ?_)
  rintro _ H' u s' J' rz ⟨y, rfl, q'⟩
  obtain ⟨t, rfl⟩ := rz
  exact ⟨.str y, H', J', ⟨_, rfl⟩, q'⟩
/-- own == anything (a value of the type t, which is not below C) -/
def rEqO (K : PySem.W.Frag) (C : Addr) (sp : Sp) (E : XK) : R2 := fun x y H Q => ∃ (a dx : Addr) (fs : List (Str × V)) (t : Value), x = .ref a ∧ Ins H a C dx fs ∧ TyY K H y t ∧ PySem.W.notFirst K C t = true ∧ sp [x, y] H (fun z H' => ∃ b, z = .bl b ∧ Q z H') E
theorem op_eqO (hs : PySem.W.findIn X.K (.ref C) "__eq__" = some (some (.ref g))) (hf : PySem.W.isFn X.K (.ref g) = true) (F : FnR X.prog X.w X.K X.mg X.base CX n g sp) (hr : Room n X.A) (hx : Passes CX X E) : OpR X (compareOp .Eq) (rEqO X.K C sp E) := by
  rintro pins s σ H _ y v u Q I rx ry ⟨a, dx, fs, t, rfl, hi, ty, below, q⟩
  obtain rfl : v = .ref a := rx
  obtain ⟨ox, od, J⟩ := hi.at_ I
  obtain ⟨P, Z, p, _⟩ := kit_y I ry ty
  refine PySem.W.cmp_K (op := .Eq) (tb := t) hr.units0 I.fr.choose_spec I.ok.mod.kin J (Z.ty _ _ I.kIn p) below hs hf (own_says (xs := [.ref a, y]) F hr I.env0 hx I (.cons rfl (.cons ry .nil)) q ?_)
  rintro _ H' v s' J' rz ⟨b, rfl, q'⟩
  obtain rfl : v = .bool b := rz
  exact ⟨.bl b, H', J', rfl, q'⟩
end
section
variable {prog : Program} {w : World} {A : Around} {E : Value → Shared → Prop} {s : Shared} {K : PySem.W.Frag} {x C f : Addr} {ox : Obj} {od : Option Obj} {b : Value}
/-- what stands in the class under a name, bound to the instance -/
theorem bound_as {M : Model} {name : Str} {v : Value} {as : Value × List Value} {Q : Option (Value × List Value) → Shared → Prop} (X : K.In s.heap) (I : PySem.W.InstAt s.heap x ox C od) (hs : PySem.W.findIn K (.ref C) name = some (some v)) (bd : PySem.W.Looks M s.heap (bindSpecial v (.ref x)) as) (q : Q (some as) s) :
    wpAny M A (bindSpecialIfBound? (.ref x) name) Q E s := by
  have fin : ∀ E, wpAny M A (do return some (← bindSpecial v (.ref x))) Q E s := fun _ => wpAny_bind (bd.here (wpAny_pure q))
  refine wpAny_bind (wpAny_bind (I.type.here ((PySem.W.looks_findIn X hs).here ?_)))
  refine wpAny_bind (wpAny_askSetting (wpAny_ite ?_))
  split
  · exact fin E
  · exact wpAny_tryCatch (fin _)
/-- object's `__ne__` turns the own == round -/
theorem object_ne {Q : Value → Shared → Prop} (hu : A.in1.units < cLine) (X : K.In s.heap) (I : PySem.W.InstAt s.heap x ox C od) (hm : PySem.W.mroIn K C (.type "object") = some true) (hs : PySem.W.findIn K (.ref C) "__eq__" = some (some (.ref f))) (hf : PySem.W.isFn K (.ref f) = true)
    (h : wpAny (model prog w) A.in1 (call (.ref f) [.ref x, b]) (fun v s' => ∃ k, v = .bool k ∧ Q (.bool (!k)) s') E s) : wpAny (model prog w) A (call (.builtin "object.__ne__") [.ref x, b]) Q E s := by
  refine wpAny_call (codeAny_call_builtin F.cmp_object.ne.plain F.cmpEntry_ne (PySem.W.check_slot F.cmpKind_ne F.cmpSplit_ne (I.type.andThen (PySem.W.looks_mroIn X hm)) (F.cmpArgs_ne _ _) ?_))
  refine wpAny_bind (m := slotArgs "__ne__" 1 _) (wpAny_pure (wpAny_bind (wpAny_cRoomFor hu (wpAny_bind (PySem.W.ifBound_K X I hs hf (wpAny_mono h ?_ fun _ _ e => e))))))
  rintro _ s' ⟨k, rfl, q⟩
  exact wpAny_bind (wpAny_truthy_bool (wpAny_pure q))
theorem cmp_ne {tb : Value} {Q : Value → Shared → Prop} (hu : A.units < cLine) (hu1 : A.in1.units < cLine) (X : K.In s.heap) (I : PySem.W.InstAt s.heap x ox C od) (hm : PySem.W.mroIn K C (.type "object") = some true) (hb : PySem.W.Looks (model prog w) s.heap (typeOf b) tb) (hn : PySem.W.notFirst K C tb = true)
    (hne : PySem.W.findIn K (.ref C) "__ne__" = some (some (.builtin "object.__ne__"))) (hs : PySem.W.findIn K (.ref C) "__eq__" = some (some (.ref f))) (hf : PySem.W.isFn K (.ref f) = true)
    (h : wpAny (model prog w) A.in1 (call (.ref f) [.ref x, b]) (fun v s' => ∃ k, v = .bool k ∧ Q (.bool (!k)) s') E s) : wpAny (model prog w) A (richCompare .NotEq (.ref x) b) Q E s := by
  refine asked_left hu (oneThing_ref ..) I.type hb (fun d => ?_) ?_
  · refine PySem.W.looks_subIn X ((Bool.or_eq_true_iff.1 hn).elim (fun e => ?_) beq_iff_eq.1)
    rw [beq_iff_eq.1 e] at d
    simp at d
  · refine wpAny_bind (wpAny_holding (wpAny_bind (bound_as X I hne (.of_pure (F.cmp_object.ne.bind _)) (wpAny_bind (object_ne hu1 X I hm hs hf (wpAny_mono h ?_ fun _ _ e => e))))))
    rintro _ s' ⟨k, rfl, q⟩
    exact ⟨k, rfl, wpAny_pure (wpAny_pure q)⟩
end
section
variable {X : Cx} {CX : CXT} {C g : Addr} {n : Nat} {sp : Sp} {E : XK}
/-- own != anything, by the own == -/
def rNeO (K : PySem.W.Frag) (C : Addr) (sp : Sp) (E : XK) : R2 := fun x y H Q => ∃ (a dx : Addr) (fs : List (Str × V)) (t : Value), x = .ref a ∧ Ins H a C dx fs ∧ TyY K H y t ∧ PySem.W.notFirst K C t = true ∧ sp [x, y] H (fun z H' => ∃ b, z = .bl b ∧ Q (.bl (!b)) H') E
theorem op_neO (hm : PySem.W.mroIn X.K C (.type "object") = some true) (hne : PySem.W.findIn X.K (.ref C) "__ne__" = some (some (.builtin "object.__ne__"))) (hs : PySem.W.findIn X.K (.ref C) "__eq__" = some (some (.ref g))) (hf : PySem.W.isFn X.K (.ref g) = true) (F : FnR X.prog X.w X.K X.mg X.base CX n g sp) (hr : Room (n + 1) X.A) (hx : Passes CX X E) : OpR X (compareOp .NotEq) (rNeO X.K C sp E) := by
  rintro pins s σ H _ y v u Q I rx ry ⟨a, dx, fs, t, rfl, hi, ty, below, q⟩
  obtain rfl : v = .ref a := rx
  obtain ⟨ox, od, J⟩ := hi.at_ I
  obtain ⟨P, Z, p, _⟩ := kit_y I ry ty
  have room : Room n X.A.in1 := Room.in1 hr
  refine cmp_ne hr.units0 room.units0 I.kIn J hm (Z.ty _ _ I.kIn p) below hne hs hf (own_says (xs := [.ref a, y]) F room I.env0.in1 hx I (.cons rfl (.cons ry .nil)) q ?_)
  rintro _ H' v s' J' rz ⟨b, rfl, q'⟩
  obtain rfl : v = .bool b := rz
  exact ⟨b, rfl, .bl (!b), H', J', rfl, q'⟩
end
end SL

/-! ### a built-in value's == declines an own instance -/
namespace SL
open PySem PySem.Spec PyProof.Rows L2
open AutoSeq1 (wpAny_loadPart')
open MeetsSeq MeetsSeq2 MeetsSeq3 SeqRoads2
theorem int_declines {K : PySem.W.Frag} (b : Int) (u : Tok) (l C dx : Addr) (e : PySem.W.subIn K (.ref C) (.type "int") = some false) :
    Meets (Builtin.«int.__eq__» ⟨[.int b u, .ref l], []⟩) (fun _ R s => K.In s.heap ∧ s.heap.get? l = some (PySem.W.instObj C dx) ∧ R (.ok (.ret .notImplemented)) s) :=
  .of_wp fun prog w A R s h => by
    obtain ⟨hp, g, d, tk, os⟩ := s
    obtain ⟨X, hl, h⟩ := h
    wp_walk using wpAny_loadPart' hl, wpAny_load hl
    first
      | exact ⟨_, rfl, h⟩
      | (refine (PySem.W.looks_subIn X e).here ?_
         first
           | exact ⟨_, rfl, h⟩
           | (wp_walk using wpAny_loadPart' hl, wpAny_load hl
              exact ⟨_, rfl, h⟩))
theorem bool_declines {K : PySem.W.Frag} (b : Bool) (l C dx : Addr) (e : PySem.W.subIn K (.ref C) (.type "int") = some false) :
    Meets (Builtin.«int.__eq__» ⟨[.bool b, .ref l], []⟩) (fun _ R s => K.In s.heap ∧ s.heap.get? l = some (PySem.W.instObj C dx) ∧ R (.ok (.ret .notImplemented)) s) :=
  .of_wp fun prog w A R s h => by
    obtain ⟨hp, g, d, tk, os⟩ := s
    obtain ⟨X, hl, h⟩ := h
    wp_walk using wpAny_loadPart' hl, wpAny_load hl
    first
      | exact ⟨_, rfl, h⟩
      | (refine (PySem.W.looks_subIn X e).here ?_
         first
           | exact ⟨_, rfl, h⟩
           | (wp_walk using wpAny_loadPart' hl, wpAny_load hl
              exact ⟨_, rfl, h⟩))
theorem str_declines {K : PySem.W.Frag} (b : Str) (u : Tok) (l C dx : Addr) (e : PySem.W.subIn K (.ref C) (.type "str") = some false) :
    Meets (Builtin.«str.__eq__» ⟨[.str b u, .ref l], []⟩) (fun _ R s => K.In s.heap ∧ s.heap.get? l = some (PySem.W.instObj C dx) ∧ R (.ok (.ret .notImplemented)) s) :=
  .of_wp fun prog w A R s h => by
    obtain ⟨hp, g, d, tk, os⟩ := s
    obtain ⟨X, hl, h⟩ := h
    wp_walk using wpAny_loadPart' hl, wpAny_load hl
    first
      | exact ⟨_, rfl, h⟩
      | (refine (PySem.W.looks_subIn X e).here ?_
         first
           | exact ⟨_, rfl, h⟩
           | (wp_walk using wpAny_loadPart' hl, wpAny_load hl
              exact ⟨_, rfl, h⟩))
theorem list_declines {K : PySem.W.Frag} (a : Addr) (items : Array Value) (n : Nat) (dd : Option Addr) (sl : Array (Option Value)) (l C dx : Addr) (e : PySem.W.subIn K (.ref C) (.type "list") = some false) :
    Meets (Builtin.«list.__eq__» ⟨[.ref a, .ref l], []⟩) (fun _ R s => s.heap.get? a = some { cls := .type "list", dict := dd, data := .seq items n, slots := sl } ∧ K.In s.heap ∧ s.heap.get? l = some (PySem.W.instObj C dx) ∧ R (.ok (.ret .notImplemented)) s) :=
  .of_wp fun prog w A R s h => by
    obtain ⟨hp, g, d, tk, os⟩ := s
    obtain ⟨ha, X, hl, h⟩ := h
    wp_walk using wpAny_loadPart' ha, wpAny_load ha, wpAny_loadPart' hl, wpAny_load hl
    first
      | exact ⟨_, rfl, h⟩
      | (refine (PySem.W.looks_subIn X e).here ?_
         first
           | exact ⟨_, rfl, h⟩
           | (wp_walk using wpAny_loadPart' ha, wpAny_load ha, wpAny_loadPart' hl, wpAny_load hl
              exact ⟨_, rfl, h⟩))
theorem tuple_declines {K : PySem.W.Frag} (a : Addr) (items : Array Value) (n : Nat) (dd : Option Addr) (sl : Array (Option Value)) (l C dx : Addr) (e : PySem.W.subIn K (.ref C) (.type "tuple") = some false) :
    Meets (Builtin.«tuple.__eq__» ⟨[.ref a, .ref l], []⟩) (fun _ R s => s.heap.get? a = some { cls := .type "tuple", dict := dd, data := .seq items n, slots := sl } ∧ K.In s.heap ∧ s.heap.get? l = some (PySem.W.instObj C dx) ∧ R (.ok (.ret .notImplemented)) s) :=
  .of_wp fun prog w A R s h => by
    obtain ⟨hp, g, d, tk, os⟩ := s
    obtain ⟨ha, X, hl, h⟩ := h
    wp_walk using wpAny_loadPart' ha, wpAny_load ha, wpAny_loadPart' hl, wpAny_load hl
    first
      | exact ⟨_, rfl, h⟩
      | (refine (PySem.W.looks_subIn X e).here ?_
         first
           | exact ⟨_, rfl, h⟩
           | (wp_walk using wpAny_loadPart' ha, wpAny_load ha, wpAny_loadPart' hl, wpAny_load hl
              exact ⟨_, rfl, h⟩))
end SL

namespace SL
open PySem PySem.Spec PyProof.Rows L2
section
variable {prog : Program} {w : World} {A : Around} {E : Value → Shared → Prop} {s : Shared} {K : PySem.W.Frag} {x C f : Addr} {ox : Obj} {od : Option Obj} {b : Value}
/-- a built-in value == an own instance: the built-in one declines, the own one answers -/
theorem cmp_rev {ta : Value} {Q : Value → Shared → Prop} (hu : A.units < cLine) (X : K.In s.heap) (I : PySem.W.InstAt s.heap x ox C od) (ho : oneThing? .Eq b (.ref x) = none) (hb : PySem.W.Looks (model prog w) s.heap (typeOf b) ta) (hne : (ta == .ref C) = false) (hn : PySem.W.subIn K (.ref C) ta = some false)
    (hs : PySem.W.findIn K (.ref C) "__eq__" = some (some (.ref f))) (hf : PySem.W.isFn K (.ref f) = true)
    (dec : ∀ Q' : Option Value → Shared → Prop, Q' none s → wpAny (model prog w) A (tryCompare b "__eq__" (.ref x)) Q' E s)
    (h : wpAny (model prog w) A (call (.ref f) [.ref x, b]) (PySem.W.CmpBack Q) E s) : wpAny (model prog w) A (richCompare .Eq b (.ref x)) Q E s := by
  refine asked_left hu ho hb I.type (fun _ => PySem.W.looks_subIn X hn) (dec _ (wpAny_bind (PySem.W.ifBound_K X I hs hf (wpAny_mono h (fun v s' told => ?_) fun _ _ e => e))))
  cases v
  case notImplemented => exact told.elim
  all_goals exact wpAny_pure ⟨_, rfl, told⟩
end
end SL

namespace SL
open PySem PySem.Spec PyProof.Rows L2
section
variable {prog : Program} {w : World} {A : Around} {E : Value → Shared → Prop} {s : Shared} {K : PySem.W.Frag} {x C dx : Addr} {Q' : Option Value → Shared → Prop}
theorem dec_int {b : Int} {u : Tok} (X : K.In s.heap) (hl : s.heap.get? x = some (PySem.W.instObj C dx)) (e : PySem.W.subIn K (.ref C) (.type "int") = some false) (q : Q' none s) : wpAny (model prog w) A (tryCompare (.int b u) "__eq__" (.ref x)) Q' E s :=
  wpAny_tryCompare_declines (T := "int") (typeIs_int s b u) F.slot_int_eq (call_meets F.slot_int_eq (typeIs_int s b u) F.entry_int_eq (F.args_int_eq_2 _ _) (int_declines b u x C dx e) ⟨X, hl, rfl, q⟩)
theorem dec_str {b : Str} {u : Tok} (X : K.In s.heap) (hl : s.heap.get? x = some (PySem.W.instObj C dx)) (e : PySem.W.subIn K (.ref C) (.type "str") = some false) (q : Q' none s) : wpAny (model prog w) A (tryCompare (.str b u) "__eq__" (.ref x)) Q' E s :=
  wpAny_tryCompare_declines (T := "str") (typeIs_str s b u) F.slot_str_eq (call_meets F.slot_str_eq (typeIs_str s b u) F.entry_str_eq (F.args_str_eq_2 _ _) (str_declines b u x C dx e) ⟨X, hl, rfl, q⟩)
theorem dec_none (q : Q' none s) : wpAny (model prog w) A (tryCompare .none "__eq__" (.ref x)) Q' E s :=
  wpAny_tryCompare_declines (show s.TypeIs .none "NoneType" from rfl) F.slot_NoneType_eq (call_gives F.slot_NoneType_eq rfl F.entry_NoneType_eq (F.args_NoneType_eq_2 _ _) (SeqAt.NoneType___eq___none_ref_0 x) ⟨rfl, q⟩)
theorem dec_list {a : Addr} {items : Array Value} {n : Nat} {dd : Option Addr} {sl : Array (Option Value)} (ha : s.heap.get? a = some { cls := .type "list", dict := dd, data := .seq items n, slots := sl }) (X : K.In s.heap) (hl : s.heap.get? x = some (PySem.W.instObj C dx)) (e : PySem.W.subIn K (.ref C) (.type "list") = some false) (q : Q' none s) : wpAny (model prog w) A (tryCompare (.ref a) "__eq__" (.ref x)) Q' E s :=
  wpAny_tryCompare_declines (T := "list") ⟨_, ha, rfl⟩ F.slot_list_eq (call_meets F.slot_list_eq ⟨_, ha, rfl⟩ F.entry_list_eq (F.args_list_eq_2 _ _) (list_declines a items n dd sl x C dx e) ⟨ha, X, hl, rfl, q⟩)
theorem dec_tuple {a : Addr} {items : Array Value} {n : Nat} {dd : Option Addr} {sl : Array (Option Value)} (ha : s.heap.get? a = some { cls := .type "tuple", dict := dd, data := .seq items n, slots := sl }) (X : K.In s.heap) (hl : s.heap.get? x = some (PySem.W.instObj C dx)) (e : PySem.W.subIn K (.ref C) (.type "tuple") = some false) (q : Q' none s) : wpAny (model prog w) A (tryCompare (.ref a) "__eq__" (.ref x)) Q' E s :=
  wpAny_tryCompare_declines (T := "tuple") ⟨_, ha, rfl⟩ F.slot_tuple_eq (call_meets F.slot_tuple_eq ⟨_, ha, rfl⟩ F.entry_tuple_eq (F.args_tuple_eq_2 _ _) (tuple_declines a items n dd sl x C dx e) ⟨ha, X, hl, rfl, q⟩)
end
end SL

/-! ### l != b where the items at each place are equal -/
namespace SL
open PySem PySem.SeqAt GQ AutoSeq1 MeetsSeq MeetsSeq2 MeetsSeq3 SeqRoads2
section
variable {M : Model} {prog : Program} {w : World} {A : Around} {R : Result → Shared → Prop} {E : Value → Shared → Prop}
/-- a builtin hands on to a plain builtin -/
theorem hand_on {s : Shared} {id : String} {B : Builtin} {args : Args} (p : plainId id = true) (e : entryFor table id = some B) (h : wpAny (model prog w) A.in1 (B args) (FinOf prog w A R) (fun x s' => R (.error x) s') s) : (Code.builtin id args).quiet = true ∧ codeAny (model prog w) A (.builtin id args) R s := by
  refine ⟨plainId_quiet p args, codeAny_builtin e ?_⟩
  rw [Around.under_plainId p args]
  exact h
/-- a truth is asked, and both answers go on -/
theorem ask_on {α : Type} {t : Sem Bool} {k : Bool → Sem α} {Y N : Shared → Prop} {Q : α → Shared → Prop} {s : Shared} (ht : wpAny M A t (fun r s' => (r = true → Y s') ∧ (r = false → N s')) E s)
    (hy : ∀ s', Y s' → wpAny M A (k true) Q E s') (hn : ∀ s', N s' → wpAny M A (k false) Q E s') : wpAny M A (t >>= k) Q E s := by
  refine wpAny_bind (wpAny_mono ht (fun r s' q => ?_) fun _ _ z => z)
  cases r with
  | true => exact hy s' (q.1 rfl)
  | false => exact hn s' (q.2 rfl)
theorem past_end {xs : Array Value} {i : Nat} (h : xs.size = i) : xs[((i : Nat) : Int).toNat]? = none := by simp [h]
theorem at_place {xs : Array Value} {i : Nat} (h : i < xs.size) : xs[((i : Nat) : Int).toNat]? = some xs[i] := by simp [h]
/-- the items still to be compared, counted down -/
theorem ne_rest {l b : Addr} {N : Nat} {I : Nat → Shared → Prop} (each : ListI prog w A (fun e s' => R (.error e) s') l b N I) (fin : ∀ s, I N s → R (.ok (.ret (.bool false))) s) :
    ∀ (rest i : Nat), i + rest = N → ∀ s, I i s → wpAny (model prog w) A.in1 (Builtin.«list.__eq__.loop» ⟨[.ref l, .ref b, rawInt i, rawInt 3], []⟩) (FinOf prog w A R) (fun e s' => R (.error e) s') s
  | 0, i, here, s, st => by
    obtain ⟨xs, ys, _, _, g1, g2, z1, z2, _⟩ := each i s st
    obtain rfl : i = N := here
    have done := fin s st
    rcases s with ⟨o1, o2, o3, o4, o5⟩
    wp_walk using wpAny_loadPart' g1, wpAny_loadPart' g2
    rw [past_end z1, past_end z2]
    wp_walk using wpAny_loadPart' g1, wpAny_loadPart' g2
    show R (.ok (.ret (.bool (xs.size != ys.size)))) _
    rw [z1, z2, bne_self_eq_false]
    exact done
  | rest + 1, i, here, s, st => by
    obtain ⟨xs, ys, _, _, g1, g2, z1, z2, turn⟩ := each i s st
    have in1 : i < xs.size := by omega
    have in2 : i < ys.size := by omega
    have asked := turn in1 in2
    rcases s with ⟨o1, o2, o3, o4, o5⟩
    wp_walk using wpAny_loadPart' g1, wpAny_loadPart' g2
    rw [at_place in1, at_place in2]
    refine ask_on (Y := I (i + 1)) (N := fun _ => False) (wpAny_mono asked (fun r s2 q => ⟨fun _ => q.2, fun z => ?_⟩) fun _ _ e => e) (fun s2 st2 => ?_) fun _ no => no.elim
    · cases q.1.symm.trans z
    · have go := ne_rest each fin rest (i + 1) (by omega) s2 st2
      rcases s2 with ⟨o1, o2, o3, o4, o5⟩
      wp_walk
      rw [show (i : Int) + 1 = ((i + 1 : Nat) : Int) from rfl]
      exact hand_on plain_eq_loop entry_eq_loop go
theorem rc_listN {s : Shared} {l b : Addr} {N : Nat} {Q : Value → Shared → Prop} (hu : A.units < cLine) (I : Nat → Shared → Prop) (each : ListI prog w A E l b N I)
    (fin : ∀ s, I N s → Q (.bool false) s) (h : I 0 s) : wpAny (model prog w) A (richCompare .NotEq (.ref l) (.ref b)) Q E s := by
  obtain ⟨xs, ys, _, _, g1, g2, z1, z2, _⟩ := each 0 s h
  refine wpAny_richCompare_same_room (op := .NotEq) ⟨_, g1, rfl⟩ ⟨_, g2, rfl⟩ F.slot_list_ne (call_here F.slot_list_ne ⟨_, g1, rfl⟩ F.entry_list_ne (F.args_list_ne_2 _ _) ?_) hu
  have go := ne_rest (R := wants (fun v s' => v ≠ .notImplemented ∧ Q v s') E) each (fun s' q => ⟨nofun, fin s' q⟩) N 0 (Nat.zero_add N) s h
  have same : ¬ (xs.size != ys.size) = true := by rw [z1, z2, bne_self_eq_false]; decide
  have sub := sub_list_list
  rcases s with ⟨o1, o2, o3, o4, o5⟩
  wp_walk using wpAny_loadPart' g1, wpAny_loadPart' g2
  exact hand_on plain_eq_loop entry_eq_loop go
end
end SL

/-! PM0: values as trees; what stands for a tree in the heap; a frame's slots and held values. -/
namespace PM
open PySem PySem.Spec PyProof.Rows L2 SL

inductive D where
  | non | bl (b : Bool) | int (i : Int) | str (z : Str) | ty (n : String) | glo (x : Str)
  | lst (xs : List D) | scr (ns : List Int) | tup (xs : List D) | dK (kvs : List (L2.Key × D)) | rng (lo hi : Int)
  | ins (C : Str) (fs : List (Str × D)) | exc (C : Str) (fs : List (Str × D)) | tg (v : V) (d : D) | bo (v : V) (d e : D)
def D.u : D → D
  | .tg _ d => d.u
  | d => d

/-- a list, a tuple to be read, off M -/
def LtR (M : List Addr) (K : PySem.W.Frag) (H : Hp) (a : Addr) (xs : List V) : Prop := (Rd H a (.lst xs) ∧ a ∉ M) ∨
  ∃ (o : Obj) (its : Array Value) (n : Nat), K.lookup a = some o ∧ o.cls = .type "list" ∧ o.dict = none ∧ o.data = .seq its n ∧ its.size ≤ sizeLine ∧ Vals xs its.toList
def TpR (M : List Addr) (H : Hp) (a : Addr) (xs : List V) : Prop := H a = some (.tup xs) ∧ a ∉ M
section
variable {M M' : List Addr} {K : PySem.W.Frag} {H H' : Hp} {a p : Addr} {xs : List V} {o : HO}
theorem LtR.sq (h : LtR M K H a xs) : SqL K H a xs := h.imp (·.1) id
theorem TpR.sq (h : TpR M H a xs) : SqT K H a xs := .inl (.inl h.1)
theorem LtR.ex (h : LtR M K H a xs) (e : Ex M H H') : LtR M K H' a xs := h.imp (fun z => ⟨rd_ex e z.2 z.1, z.2⟩) id
theorem TpR.ex (h : TpR M H a xs) (e : Ex M H H') : TpR M H' a xs := ⟨e _ _ h.2 h.1, h.2⟩
theorem LtR.mono (hm : ∀ x ∈ M', x ∈ M) (h : LtR M K H a xs) : LtR M' K H a xs := h.imp (fun z => ⟨z.1, fun q => z.2 (hm _ q)⟩) id
theorem TpR.mono (hm : ∀ x ∈ M', x ∈ M) (h : TpR M H a xs) : TpR M' H a xs := ⟨h.1, fun q => h.2 (hm _ q)⟩
theorem rd_ne {u : HO} (h : Rd H a u) (hp : H p = none) : a ≠ p := by
  intro e
  subst e
  rcases h with h | ⟨o, h⟩ <;> (rw [hp] at h; cases h)
theorem LtR.fresh (hp : H p = none) (hm : ∀ x ∈ M', x ∈ M ∨ x = p) (h : LtR M K H a xs) : LtR M' K H a xs := h.imp (fun z => ⟨z.1, fun q => (hm _ q).elim z.2 (rd_ne z.1 hp)⟩) id
theorem TpR.fresh (hp : H p = none) (hm : ∀ x ∈ M', x ∈ M ∨ x = p) (h : TpR M H a xs) : TpR M' H a xs := ⟨h.1, fun q => (hm _ q).elim h.2 (ne_of_none h.1 hp)⟩
theorem At.fresh (hp : H p = none) (hm : ∀ x ∈ M', x ∈ M ∨ x = p) (h : At M H a o) : At M' H a o := ⟨h.at_, fun q => (hm _ q).elim h.off (ne_of_none h.at_ hp)⟩
end
mutual
inductive Rep (M : List Addr) (K : PySem.W.Frag) (H : Hp) : V → D → Prop
  | non : Rep M K H .non .non
  | bl (b : Bool) : Rep M K H (.bl b) (.bl b)
  | int (i : Int) : Rep M K H (.int i) (.int i)
  | str (z : Str) : Rep M K H (.str z) (.str z)
  | ty (n : String) : Rep M K H (.ty n) (.ty n)
  | glo (x : Str) : Rep M K H (.ref (He.ga K x)) (.glo x)
  | lst {a : Addr} {xs : List V} {ds : List D} : At M H a (.lst xs) → RepA M K H xs ds → Rep M K H (.ref a) (.lst ds)
  | scr {a : Addr} {ns : List Int} : LtR M K H a (ns.map V.int) → Rep M K H (.ref a) (.scr ns)
  | tup {a : Addr} {xs : List V} {ds : List D} : TpR M H a xs → RepA M K H xs ds → Rep M K H (.ref a) (.tup ds)
  | dK {a : Addr} {kvs : List (L2.Key × V)} {ds : List (L2.Key × D)} : At M H a (.dK kvs) → kvs.map (·.1) = ds.map (·.1) → RepA M K H (kvs.map (·.2)) (ds.map (·.2)) → Rep M K H (.ref a) (.dK ds)
  | rng {a : Addr} {lo hi : Int} : At M H a (.rng lo hi) → Rep M K H (.ref a) (.rng lo hi)
  | ins {a dx : Addr} {C : Str} {vs : List (Str × V)} {ds : List (Str × D)} : At M H a (.ins (He.ga K C) dx vs) → vs.map (·.1) = ds.map (·.1) → RepA M K H (vs.map (·.2)) (ds.map (·.2)) → Rep M K H (.ref a) (.ins C ds)
  | exc {a dx : Addr} {C : Str} {vs : List (Str × V)} {ds : List (Str × D)} : At M H a (exo a (He.ga K C) (some dx)) → At M H dx (exd dx vs) → vs.map (·.1) = ds.map (·.1) → RepA M K H (vs.map (·.2)) (ds.map (·.2)) → Rep M K H (.ref a) (.exc C ds)
  | tg {v : V} {d : D} : Rep M K H v d → Rep M K H v (.tg v d)
  | bo {a : Addr} {w : V} {d e : D} : Rep M K H (.ref a) d → Rep M K H w e → Rep M K H (.ref a) (.bo w d e)
inductive RepA (M : List Addr) (K : PySem.W.Frag) (H : Hp) : List V → List D → Prop
  | nil : RepA M K H [] []
  | cons {v : V} {vs : List V} {d : D} {ds : List D} : Rep M K H v d → RepA M K H vs ds → RepA M K H (v :: vs) (d :: ds)
end
section
variable {M M' : List Addr} {K : PySem.W.Frag} {H H' : Hp} {p : Addr} {o : HO}
mutual
theorem Rep.ex (e : Ex M H H') : ∀ {v : V} {d : D}, Rep M K H v d → Rep M K H' v d
  | _, _, .non => .non
  | _, _, .bl b => .bl b
  | _, _, .int i => .int i
  | _, _, .str x => .str x
  | _, _, .ty n => .ty n
  | _, _, .glo x => .glo x
  | _, _, .lst h a => .lst (h.ex e) (RepA.ex e a)
  | _, _, .scr h => .scr (h.ex e)
  | _, _, .tup h a => .tup (h.ex e) (RepA.ex e a)
  | _, _, .dK h n a => .dK (h.ex e) n (RepA.ex e a)
  | _, _, .rng h => .rng (h.ex e)
  | _, _, .ins h n a => .ins (h.ex e) n (RepA.ex e a)
  | _, _, .exc h h2 n a => .exc (h.ex e) (h2.ex e) n (RepA.ex e a)
  | _, _, .tg h => .tg (Rep.ex e h)
  | _, _, .bo h h2 => .bo (Rep.ex e h) (Rep.ex e h2)
theorem RepA.ex (e : Ex M H H') : ∀ {vs : List V} {ds : List D}, RepA M K H vs ds → RepA M K H' vs ds
  | _, _, .nil => .nil
  | _, _, .cons h a => .cons (Rep.ex e h) (RepA.ex e a)
end
mutual
theorem Rep.mono (hm : ∀ x ∈ M', x ∈ M) : ∀ {v : V} {d : D}, Rep M K H v d → Rep M' K H v d
  | _, _, .non => .non
  | _, _, .bl b => .bl b
  | _, _, .int i => .int i
  | _, _, .str x => .str x
  | _, _, .ty n => .ty n
  | _, _, .glo x => .glo x
  | _, _, .lst h a => .lst (h.mono hm) (RepA.mono hm a)
  | _, _, .scr h => .scr (h.mono hm)
  | _, _, .tup h a => .tup (h.mono hm) (RepA.mono hm a)
  | _, _, .dK h n a => .dK (h.mono hm) n (RepA.mono hm a)
  | _, _, .rng h => .rng (h.mono hm)
  | _, _, .ins h n a => .ins (h.mono hm) n (RepA.mono hm a)
  | _, _, .exc h h2 n a => .exc (h.mono hm) (h2.mono hm) n (RepA.mono hm a)
  | _, _, .tg h => .tg (Rep.mono hm h)
  | _, _, .bo h h2 => .bo (Rep.mono hm h) (Rep.mono hm h2)
theorem RepA.mono (hm : ∀ x ∈ M', x ∈ M) : ∀ {vs : List V} {ds : List D}, RepA M K H vs ds → RepA M' K H vs ds
  | _, _, .nil => .nil
  | _, _, .cons h a => .cons (Rep.mono hm h) (RepA.mono hm a)
end
mutual
theorem Rep.fresh (hp : H p = none) (hm : ∀ x ∈ M', x ∈ M ∨ x = p) : ∀ {v : V} {d : D}, Rep M K H v d → Rep M' K H v d
  | _, _, .non => .non
  | _, _, .bl b => .bl b
  | _, _, .int i => .int i
  | _, _, .str x => .str x
  | _, _, .ty n => .ty n
  | _, _, .glo x => .glo x
  | _, _, .lst h a => .lst (At.fresh hp hm h) (RepA.fresh hp hm a)
  | _, _, .scr h => .scr (h.fresh hp hm)
  | _, _, .tup h a => .tup (h.fresh hp hm) (RepA.fresh hp hm a)
  | _, _, .dK h n a => .dK (At.fresh hp hm h) n (RepA.fresh hp hm a)
  | _, _, .rng h => .rng (At.fresh hp hm h)
  | _, _, .ins h n a => .ins (At.fresh hp hm h) n (RepA.fresh hp hm a)
  | _, _, .exc h h2 n a => .exc (At.fresh hp hm h) (At.fresh hp hm h2) n (RepA.fresh hp hm a)
  | _, _, .tg h => .tg (Rep.fresh hp hm h)
  | _, _, .bo h h2 => .bo (Rep.fresh hp hm h) (Rep.fresh hp hm h2)
theorem RepA.fresh (hp : H p = none) (hm : ∀ x ∈ M', x ∈ M ∨ x = p) : ∀ {vs : List V} {ds : List D}, RepA M K H vs ds → RepA M' K H vs ds
  | _, _, .nil => .nil
  | _, _, .cons h a => .cons (Rep.fresh hp hm h) (RepA.fresh hp hm a)
end
theorem Rep.u : ∀ {v : V} {d : D}, Rep M K H v d → Rep M K H v d.u
  | _, _, .non => .non
  | _, _, .bl b => .bl b
  | _, _, .int i => .int i
  | _, _, .str x => .str x
  | _, _, .ty n => .ty n
  | _, _, .glo x => .glo x
  | _, _, .lst h a => .lst h a
  | _, _, .scr h => .scr h
  | _, _, .tup h a => .tup h a
  | _, _, .dK h n a => .dK h n a
  | _, _, .rng h => .rng h
  | _, _, .ins h n a => .ins h n a
  | _, _, .exc h h2 n a => .exc h h2 n a
  | _, _, .bo h h2 => .bo h h2
  | _, _, .tg (d := d) h => (Rep.u (d := d) h : Rep M K H _ d.u)
theorem RepA.append : ∀ {vs ws : List V} {ds es : List D}, RepA M K H vs ds → RepA M K H ws es → RepA M K H (vs ++ ws) (ds ++ es)
  | _, _, _, _, .nil, b => b
  | _, _, _, _, .cons h a, b => .cons h (RepA.append a b)
theorem RepA.len : ∀ {vs : List V} {ds : List D}, RepA M K H vs ds → vs.length = ds.length
  | _, _, .nil => rfl
  | _, _, .cons _ a => congrArg (· + 1) (RepA.len a)
theorem RepA.get : ∀ {vs : List V} {ds : List D} {i : Nat} {d : D}, RepA M K H vs ds → ds[i]? = some d → ∃ v, vs[i]? = some v ∧ Rep M K H v d
  | _, _, i, d, .nil, e => by simp at e
  | _, _, 0, d, .cons h _, e => by simp at e; subst e; exact ⟨_, rfl, h⟩
  | _, _, i + 1, d, .cons _ a, e => by
    obtain ⟨v, h1, h2⟩ := RepA.get (i := i) a (by simpa using e)
    exact ⟨v, by simpa using h1, h2⟩
theorem RepA.getV {vs : List V} {ds : List D} {i : Nat} {v : V} (h : RepA M K H vs ds) (e : vs[i]? = some v) : ∃ d, ds[i]? = some d ∧ Rep M K H v d := by
  have hi : i < ds.length := by
    rw [← h.len]
    exact (List.getElem?_eq_some_iff.mp e).1
  obtain ⟨v', h1, h2⟩ := h.get (List.getElem?_eq_getElem hi)
  rw [e] at h1
  cases h1
  exact ⟨_, List.getElem?_eq_getElem hi, h2⟩
theorem RepA.take : ∀ {vs : List V} {ds : List D} (n : Nat), RepA M K H vs ds → RepA M K H (vs.take n) (ds.take n)
  | _, _, 0, _ => .nil
  | _, _, _ + 1, .nil => .nil
  | _, _, n + 1, .cons h a => .cons h (RepA.take n a)
theorem RepA.drop : ∀ {vs : List V} {ds : List D} (n : Nat), RepA M K H vs ds → RepA M K H (vs.drop n) (ds.drop n)
  | _, _, 0, h => h
  | _, _, _ + 1, .nil => .nil
  | _, _, n + 1, .cons _ a => RepA.drop n a
theorem RepA.set : ∀ {vs : List V} {ds : List D} {v : V} {d : D} (n : Nat), RepA M K H vs ds → Rep M K H v d → RepA M K H (vs.set n v) (ds.set n d)
  | _, _, _, _, _, .nil, _ => .nil
  | _, _, _, _, 0, .cons _ a, r => .cons r a
  | _, _, _, _, n + 1, .cons h a, r => .cons h (RepA.set n a r)
theorem RepA.ints : ∀ ns : List Int, RepA M K H (ns.map V.int) (ns.map D.int)
  | [] => .nil
  | n :: r => .cons (.int n) (RepA.ints r)
theorem RepA.strs : ∀ ns : List Str, RepA M K H (ns.map V.str) (ns.map D.str)
  | [] => .nil
  | n :: r => .cons (.str n) (RepA.strs r)
theorem RepA.bls : ∀ ns : List Bool, RepA M K H (ns.map V.bl) (ns.map D.bl)
  | [] => .nil
  | n :: r => .cons (.bl n) (RepA.bls r)
end

/-! ### a frame -/
/-- what a slot holds: nothing that is known; a value that stays; an own list; an own list that is walked; a thing handed in to be changed; one handed in to be read -/
inductive Sl where
  | un | cl (d : D) | ow (ds : List D) | lk (ds : List D) | io (d : D) | dt (d : D)
/-- a held value: one that stays; a new list; what slot i holds; what slot i holds, walked; what was handed in to be changed in slot i -/
inductive W where
  | cl (d : D) | fr (ds : List D) | al (i : Nat) | hl (i : Nat) (ds : List D) | hp (i : Nat)
def free : Sl → Bool
  | .un => true
  | .cl _ => true
  | .ow _ => true
  | _ => false
structure Fm where
  A : List Addr
  Io : List Addr
  H0 : Hp
structure Fm.Ok (F : Fm) : Prop where
  tr : ∀ a ∈ F.A, F.H0 a ≠ none
  io : ∀ a ∈ F.Io, a ∈ F.A
def rootS : Option V × Sl → Option Addr
  | (some (.ref p), .ow _) => some p
  | (some (.ref p), .lk _) => some p
  | (some (.ref p), .io _) => some p
  | _ => none
def rootW : V × W → Option Addr
  | (.ref p, .fr _) => some p
  | _ => none
def roots (σ : L2.St) (ρ : List Sl) (st : List (V × W)) : List Addr := (σ.zip ρ).filterMap rootS ++ st.filterMap rootW
/-- a list or an instance that may change: its items stay -/
inductive Own (M : List Addr) (K : PySem.W.Frag) (H : Hp) (p : Addr) : D → Prop
  | lst {xs : List V} {ds : List D} : H p = some (.lst xs) → RepA M K H xs ds → Own M K H p (.lst ds)
  | ins {C : Str} {dx : Addr} {vs : List (Str × V)} {ds : List (Str × D)} : H p = some (.ins (He.ga K C) dx vs) → vs.map (·.1) = ds.map (·.1) → RepA M K H (vs.map (·.2)) (ds.map (·.2)) → Own M K H p (.ins C ds)
inductive SlR (F : Fm) (M : List Addr) (K : PySem.W.Frag) (H : Hp) : Option V → Sl → Prop
  | un {o : Option V} : SlR F M K H o .un
  | cl {v : V} {d : D} : Rep M K H v d → SlR F M K H (some v) (.cl d)
  | ow {p : Addr} {xs : List V} {ds : List D} : F.H0 p = none → H p = some (.lst xs) → RepA M K H xs ds → SlR F M K H (some (.ref p)) (.ow ds)
  | lk {p : Addr} {xs : List V} {ds : List D} : F.H0 p = none → H p = some (.lst xs) → RepA M K H xs ds → SlR F M K H (some (.ref p)) (.lk ds)
  | io {p : Addr} {d : D} : p ∈ F.Io → Own M K H p d → SlR F M K H (some (.ref p)) (.io d)
  | dt {p : Addr} {d : D} : p ∈ F.A → p ∉ F.Io → Own M K H p d → SlR F M K H (some (.ref p)) (.dt d)
inductive WR (F : Fm) (M : List Addr) (K : PySem.W.Frag) (H : Hp) (σ : L2.St) (ρ : List Sl) : V → W → Prop
  | cl {v : V} {d : D} : Rep M K H v d → WR F M K H σ ρ v (.cl d)
  | fr {p : Addr} {xs : List V} {ds : List D} : F.H0 p = none → H p = some (.lst xs) → RepA M K H xs ds → WR F M K H σ ρ (.ref p) (.fr ds)
  | al {v : V} {i : Nat} {s : Sl} : σ[i]? = some (some v) → ρ[i]? = some s → s ≠ .un → WR F M K H σ ρ v (.al i)
  | hl {v : V} {i : Nat} {ds : List D} : σ[i]? = some (some v) → (ρ[i]? = some (.lk ds) ∨ ρ[i]? = some (.dt (.lst ds))) → WR F M K H σ ρ v (.hl i ds)
  | hp {v : V} {i : Nat} {d : D} : σ[i]? = some (some v) → ρ[i]? = some (.io d) → WR F M K H σ ρ v (.hp i)
structure EnvR (K : PySem.W.Frag) (F : Fm) (σ : L2.St) (H : Hp) (ρ : List Sl) (st : List (V × W)) : Prop where
  ok : F.Ok
  len : σ.length = ρ.length
  ex : Ex F.Io F.H0 H
  tr : ∀ a, F.H0 a ≠ none → H a ≠ none
  nd : (roots σ ρ st).Nodup
  sl : ∀ (i : Nat) (o : Option V) (s : Sl), σ[i]? = some o → ρ[i]? = some s → SlR F (F.A ++ roots σ ρ st) K H o s
  wv : ∀ x ∈ st, WR F (F.A ++ roots σ ρ st) K H σ ρ x.1 x.2
/-- what must be kept off by what stays -/
def av (F : Fm) (σ : L2.St) (ρ : List Sl) (st : List (V × W)) : List Addr := F.A ++ roots σ ρ st
section
variable {F : Fm} {M M' : List Addr} {K : PySem.W.Frag} {H H' : Hp} {p : Addr} {o : Option V} {s : Sl} {σ : L2.St} {ρ : List Sl} {v : V} {w : W}
theorem Own.mono (hm : ∀ x ∈ M', x ∈ M) {d : D} (h : Own M K H p d) : Own M' K H p d := by
  cases h with
  | lst a b => exact .lst a (b.mono hm)
  | ins a n b => exact .ins a n (b.mono hm)
theorem SlR.mono (hm : ∀ x ∈ M', x ∈ M) (h : SlR F M K H o s) : SlR F M' K H o s := by
  cases h with
  | un => exact .un
  | cl r => exact .cl (r.mono hm)
  | ow n e r => exact .ow n e (r.mono hm)
  | lk n e r => exact .lk n e (r.mono hm)
  | io m r => exact .io m (r.mono hm)
  | dt m n r => exact .dt m n (r.mono hm)
theorem WR.mono (hm : ∀ x ∈ M', x ∈ M) (h : WR F M K H σ ρ v w) : WR F M' K H σ ρ v w := by
  cases h with
  | cl r => exact .cl (r.mono hm)
  | fr n e r => exact .fr n e (r.mono hm)
  | al e a b => exact .al e a b
  | hl e e2 => exact .hl e e2
  | hp e e2 => exact .hp e e2
theorem Own.fresh (hp : H p = none) (hm : ∀ x ∈ M', x ∈ M ∨ x = p) {q : Addr} {d : D} (h : Own M K H q d) : Own M' K H q d := by
  cases h with
  | lst a b => exact .lst a (b.fresh hp hm)
  | ins a n b => exact .ins a n (b.fresh hp hm)
theorem SlR.fresh (hp : H p = none) (hm : ∀ x ∈ M', x ∈ M ∨ x = p) (h : SlR F M K H o s) : SlR F M' K H o s := by
  cases h with
  | un => exact .un
  | cl r => exact .cl (r.fresh hp hm)
  | ow n e r => exact .ow n e (r.fresh hp hm)
  | lk n e r => exact .lk n e (r.fresh hp hm)
  | io m r => exact .io m (r.fresh hp hm)
  | dt m n r => exact .dt m n (r.fresh hp hm)
theorem WR.fresh (hp : H p = none) (hm : ∀ x ∈ M', x ∈ M ∨ x = p) (h : WR F M K H σ ρ v w) : WR F M' K H σ ρ v w := by
  cases h with
  | cl r => exact .cl (r.fresh hp hm)
  | fr n e r => exact .fr n e (r.fresh hp hm)
  | al e a b => exact .al e a b
  | hl e e2 => exact .hl e e2
  | hp e e2 => exact .hp e e2
/-- the items of what may change, over a change off them -/
theorem Own.ex (e : Ex M H H') (hq : H' p = H p) {d : D} (h : Own M K H p d) : Own M K H' p d := by
  cases h with
  | lst a b => exact .lst (hq.trans a) (b.ex e)
  | ins a n b => exact .ins (hq.trans a) n (b.ex e)
theorem SlR.ex (e : Ex M H H') (hq : ∀ p, o = some (.ref p) → (∀ d, s ≠ .cl d) → H p ≠ none → H' p = H p) (h : SlR F M K H o s) : SlR F M K H' o s := by
  cases h with
  | un => exact .un
  | cl r => exact .cl (r.ex e)
  | ow n q r => exact .ow n ((hq _ rfl (fun _ z => by cases z) (by rw [q]; exact fun z => by cases z)).trans q) (r.ex e)
  | lk n q r => exact .lk n ((hq _ rfl (fun _ z => by cases z) (by rw [q]; exact fun z => by cases z)).trans q) (r.ex e)
  | io m r =>
    refine .io m (r.ex e (hq _ rfl (fun _ z => by cases z) ?_))
    cases r with
    | lst a _ => rw [a]; exact fun z => by cases z
    | ins a _ _ => rw [a]; exact fun z => by cases z
  | dt m n r =>
    refine .dt m n (r.ex e (hq _ rfl (fun _ z => by cases z) ?_))
    cases r with
    | lst a _ => rw [a]; exact fun z => by cases z
    | ins a _ _ => rw [a]; exact fun z => by cases z
theorem WR.ex (e : Ex M H H') (hq : ∀ p, v = .ref p → (∀ d, w ≠ .cl d) → H p ≠ none → H' p = H p) (h : WR F M K H σ ρ v w) : WR F M K H' σ ρ v w := by
  cases h with
  | cl r => exact .cl (r.ex e)
  | fr n q r => exact .fr n ((hq _ rfl (fun _ z => by cases z) (by rw [q]; exact fun z => by cases z)).trans q) (r.ex e)
  | al e a b => exact .al e a b
  | hl e e2 => exact .hl e e2
  | hp e e2 => exact .hp e e2
theorem ex_same (e : Ex [] H H') (h : H p ≠ none) : H' p = H p := by
  cases q : H p with
  | none => exact absurd q h
  | some u => exact e p u (List.not_mem_nil) q
end
end PM

/-! PM1: how a frame's slots and held values change. -/
namespace PM
open PySem PySem.Spec PyProof.Rows L2 SL

/-! ### lists -/
section
variable {α β γ : Type}
theorem fm_set (f : α → Option β) {l : List α} {i : Nat} {a : α} (h : l[i]? = some a) : ∃ l1 l2, l.filterMap f = l1 ++ ((f a).toList ++ l2) ∧ ∀ b, (l.set i b).filterMap f = l1 ++ ((f b).toList ++ l2) := by
  induction l generalizing i with
  | nil => simp at h
  | cons x r ih =>
    cases i with
    | zero =>
      simp at h
      subst h
      refine ⟨[], r.filterMap f, ?_, fun b => ?_⟩
      · cases e : f x <;> simp [List.filterMap_cons, e]
      · cases e : f b <;> simp [List.filterMap_cons, e]
    | succ i =>
      obtain ⟨l1, l2, h1, h2⟩ := ih (i := i) (by simpa using h)
      refine ⟨(f x).toList ++ l1, l2, ?_, fun b => ?_⟩
      · cases e : f x <;> simp [List.filterMap_cons, e, h1]
      · cases e : f x <;> simp [List.filterMap_cons, e, h2 b]
theorem zip_set {l : List α} {m : List β} {i : Nat} {a : α} {b : β} : (l.set i a).zip (m.set i b) = (l.zip m).set i (a, b) := by
  induction l generalizing m i with
  | nil => simp
  | cons x r ih =>
    cases m with
    | nil => simp
    | cons y q =>
      cases i with
      | zero => simp
      | succ i => simp [ih]
theorem zip_get {l : List α} {m : List β} {i : Nat} {a : α} {b : β} (h1 : l[i]? = some a) (h2 : m[i]? = some b) : (l.zip m)[i]? = some (a, b) := by
  simp [List.getElem?_zip_eq_some, h1, h2]
theorem nd_of {l m x : List α} (h : l.Nodup) (s : List.Sublist x l) (p : m.Perm x) : m.Nodup := (p.nodup_iff).mpr (h.sublist s)
end
section
variable {K : PySem.W.Frag} {F : Fm} {M : List Addr} {H H' : Hp} {p r : Addr} {σ : L2.St} {ρ : List Sl} {st st' : List (V × W)} {v : V} {w : W} {i : Nat} {o : Option V} {s s' : Sl} {d : D} {ds es : List D} {xs ys : List V}
theorem mem_roots : r ∈ roots σ ρ st ↔ (∃ (i : Nat) (o : Option V) (s : Sl), σ[i]? = some o ∧ ρ[i]? = some s ∧ rootS (o, s) = some r) ∨ ∃ x ∈ st, rootW x = some r := by
  unfold roots
  rw [List.mem_append, List.mem_filterMap, List.mem_filterMap]
  refine or_congr ⟨?_, ?_⟩ Iff.rfl
  · rintro ⟨⟨o, s⟩, h, e⟩
    obtain ⟨i, hi⟩ := List.mem_iff_getElem?.mp h
    rw [List.getElem?_zip_eq_some] at hi
    exact ⟨i, o, s, hi.1, hi.2, e⟩
  · rintro ⟨i, o, s, h1, h2, e⟩
    exact ⟨(o, s), List.mem_of_getElem? (zip_get h1 h2), e⟩
theorem roots_slot (h1 : σ[i]? = some o) (h2 : ρ[i]? = some s) (e : rootS (o, s) = some r) : r ∈ roots σ ρ st := mem_roots.mpr (.inl ⟨i, o, s, h1, h2, e⟩)
theorem roots_st {x : V × W} (h : x ∈ st) (e : rootW x = some r) : r ∈ roots σ ρ st := mem_roots.mpr (.inr ⟨x, h, e⟩)
theorem mem_av (h : r ∈ roots σ ρ st) : r ∈ F.A ++ roots σ ρ st := List.mem_append.mpr (.inr h)
theorem slot_at (E : EnvR K F σ H ρ st) (h2 : ρ[i]? = some s) : ∃ o, σ[i]? = some o ∧ SlR F (F.A ++ roots σ ρ st) K H o s := by
  have hi : i < σ.length := by
    rw [E.len]
    exact (List.getElem?_eq_some_iff.mp h2).1
  exact ⟨_, List.getElem?_eq_getElem hi, E.sl i _ s (List.getElem?_eq_getElem hi) h2⟩
/-- new things alone -/
theorem EnvR.grow (E : EnvR K F σ H ρ st) (e : Ex [] H H') : EnvR K F σ H' ρ st where
  ok := E.ok
  len := E.len
  ex := E.ex.trans e.nil
  tr := fun a h => by
    have q := E.tr a h
    rw [ex_same e q]
    exact q
  nd := E.nd
  sl := fun i o s h1 h2 => (E.sl i o s h1 h2).ex e.nil fun p _ _ h => ex_same e h
  wv := fun x hx => (E.wv x hx).ex e.nil fun p _ _ h => ex_same e h
/-- other held values, fewer or in another sequence -/
theorem EnvR.st_sub (E : EnvR K F σ H ρ st) (hm : ∀ x ∈ st', x ∈ st) (hn : (roots σ ρ st').Nodup) : EnvR K F σ H ρ st' := by
  have hr : ∀ r ∈ roots σ ρ st', r ∈ roots σ ρ st := fun r h => by
    rcases mem_roots.mp h with h | ⟨x, hx, e⟩
    · exact mem_roots.mpr (.inl h)
    · exact roots_st (hm x hx) e
  have ha : ∀ r ∈ F.A ++ roots σ ρ st', r ∈ F.A ++ roots σ ρ st := fun r h => by
    rcases List.mem_append.mp h with h | h
    · exact List.mem_append.mpr (.inl h)
    · exact List.mem_append.mpr (.inr (hr r h))
  exact ⟨E.ok, E.len, E.ex, E.tr, hn, fun i o s h1 h2 => (E.sl i o s h1 h2).mono ha, fun x hx => (E.wv x (hm x hx)).mono ha⟩
theorem EnvR.perm (E : EnvR K F σ H ρ st) (h : st.Perm st') : EnvR K F σ H ρ st' :=
  E.st_sub (fun x hx => h.mem_iff.mpr hx) (by
    refine nd_of E.nd (List.Sublist.refl _) ?_
    exact List.Perm.append_left _ (h.filterMap _).symm)
theorem EnvR.sub (E : EnvR K F σ H ρ st) (h : List.Sublist st' st) : EnvR K F σ H ρ st' :=
  E.st_sub (fun x hx => h.subset hx) (E.nd.sublist (List.Sublist.append_left (h.filterMap _) _))
theorem EnvR.pop {x : V × W} (E : EnvR K F σ H ρ (x :: st)) : EnvR K F σ H ρ st := E.sub (List.sublist_cons_self x st)
theorem EnvR.popL {l : List (V × W)} (E : EnvR K F σ H ρ (l ++ st)) : EnvR K F σ H ρ st := E.sub (List.sublist_append_right l st)
/-- a value that has no root is held -/
theorem EnvR.push (E : EnvR K F σ H ρ st) (hw : rootW (v, w) = none) (r : WR F (F.A ++ roots σ ρ st) K H σ ρ v w) : EnvR K F σ H ρ ((v, w) :: st) := by
  have er : roots σ ρ ((v, w) :: st) = roots σ ρ st := by
    unfold roots
    rw [List.filterMap_cons, hw]
  refine ⟨E.ok, E.len, E.ex, E.tr, by rw [er]; exact E.nd, by rw [er]; exact E.sl, fun x hx => ?_⟩
  rw [er]
  rcases List.mem_cons.mp hx with rfl | hx
  · exact r
  · exact E.wv x hx
theorem EnvR.pushC (E : EnvR K F σ H ρ st) (r : Rep (F.A ++ roots σ ρ st) K H v d) : EnvR K F σ H ρ ((v, .cl d) :: st) := E.push (by
  cases v <;> rfl) (.cl r)
theorem EnvR.pushAl (E : EnvR K F σ H ρ st) (r : σ[i]? = some (some v)) (h2 : ρ[i]? = some s) (hs : s ≠ .un) : EnvR K F σ H ρ ((v, .al i) :: st) := E.push (by
  cases v <;> rfl) (.al r h2 hs)
theorem roots_fr : (roots σ ρ ((.ref p, .fr ds) :: st)).Perm (p :: roots σ ρ st) := by
  unfold roots
  rw [List.filterMap_cons]
  exact List.perm_middle
/-- what is tracked is not new -/
theorem root_tr (E : EnvR K F σ H ρ st) (h : r ∈ roots σ ρ st) : H r ≠ none := by
  rcases mem_roots.mp h with ⟨i, o, s, h1, h2, e⟩ | ⟨⟨v, w⟩, hx, e⟩
  · have q := E.sl i o s h1 h2
    cases q with
    | un => cases o with
      | none => cases e
      | some v => cases v <;> cases e
    | @cl v d r => cases v <;> cases e
    | ow _ q _ => cases e; rw [q]; exact fun z => by cases z
    | lk _ q _ => cases e; rw [q]; exact fun z => by cases z
    | io _ q =>
      cases e
      cases q with
      | lst a _ => rw [a]; exact fun z => by cases z
      | ins a _ _ => rw [a]; exact fun z => by cases z
    | dt _ _ _ => cases e
  · have q := E.wv _ hx
    cases w with
    | cl d => cases v <;> cases e
    | fr ds =>
      cases q with
      | fr _ q _ => cases e; rw [q]; exact fun z => by cases z
    | al i => cases v <;> cases e
    | hl i ds => cases v <;> cases e
    | hp i => cases v <;> cases e
/-- a new list is held -/
theorem EnvR.pushN (E : EnvR K F σ H ρ st) (hp : H p = none) (e : Ex [] H H') (hl : H' p = some (.lst xs)) (r : RepA (p :: (F.A ++ roots σ ρ st)) K H' xs ds) : EnvR K F σ H' ρ ((.ref p, .fr ds) :: st) := by
  have hm : ∀ r, r ∈ roots σ ρ ((V.ref p, W.fr ds) :: st) ↔ r = p ∨ r ∈ roots σ ρ st := fun r => by
    rw [roots_fr.mem_iff, List.mem_cons]
  have hf : ∀ x ∈ F.A ++ roots σ ρ ((V.ref p, W.fr ds) :: st), x ∈ F.A ++ roots σ ρ st ∨ x = p := fun x hx => by
    rcases List.mem_append.mp hx with h | h
    · exact .inl (List.mem_append.mpr (.inl h))
    · rcases (hm x).mp h with h | h
      · exact .inr h
      · exact .inl (mem_av h)
  have h0 : F.H0 p = none := by
    cases q : F.H0 p with
    | none => rfl
    | some u => exact absurd hp (E.tr p (by rw [q]; exact fun z => by cases z))
  have hpr : p ∉ roots σ ρ st := fun h => root_tr E h hp
  refine ⟨E.ok, E.len, E.ex.trans e.nil, fun a h => ?_, ?_, fun i o s h1 h2 => ?_, fun x hx => ?_⟩
  · have q := E.tr a h
    rw [ex_same e q]
    exact q
  · rw [roots_fr.nodup_iff]
    exact List.nodup_cons.mpr ⟨hpr, E.nd⟩
  · exact ((E.sl i o s h1 h2).fresh hp hf).ex e.nil fun p _ _ h => ex_same e h
  · rcases List.mem_cons.mp hx with rfl | hx
    · refine .fr h0 hl (r.mono fun x hx => ?_)
      rcases hf x hx with h | h
      · exact List.mem_cons_of_mem _ h
      · rw [h]
        exact List.mem_cons_self ..
    · exact ((E.wv x hx).fresh hp hf).ex e.nil fun p _ _ h => ex_same e h
/-- the same, its items being what stood before -/
theorem EnvR.pushL (E : EnvR K F σ H ρ st) (hp : H p = none) (r : RepA (F.A ++ roots σ ρ st) K H xs ds) : EnvR K F σ (upd H p (.lst xs)) ρ ((.ref p, .fr ds) :: st) :=
  E.pushN hp (Ex.new hp) upd_same ((r.fresh (M' := p :: (F.A ++ roots σ ρ st)) hp fun x hx => by
    rcases List.mem_cons.mp hx with h | h
    · exact .inr h
    · exact .inl h).ex (Ex.nil (Ex.new hp)))
/-- a held new list is held as a value that stays -/
theorem EnvR.freeze (E : EnvR K F σ H ρ ((v, .fr ds) :: st)) : EnvR K F σ H ρ ((v, .cl (.lst ds)) :: st) := by
  obtain ⟨p, xs, rfl, h0, hl, r⟩ : ∃ p xs, v = .ref p ∧ F.H0 p = none ∧ H p = some (.lst xs) ∧ RepA (F.A ++ roots σ ρ ((v, .fr ds) :: st)) K H xs ds := by
    have q := E.wv _ (List.mem_cons_self ..)
    dsimp only at q
    generalize hM : F.A ++ roots σ ρ ((v, W.fr ds) :: st) = M at q
    cases q with
    | fr n a b => exact ⟨_, _, rfl, n, a, b⟩
  have nd := E.nd
  rw [roots_fr.nodup_iff] at nd
  obtain ⟨hn, _⟩ := List.nodup_cons.mp nd
  have hA : p ∉ F.A := fun h => E.ok.tr p h h0
  refine E.pop.pushC (.lst ⟨hl, ?_⟩ (r.mono ?_))
  · intro h
    rcases List.mem_append.mp h with h | h
    · exact hA h
    · exact hn h
  · intro x hx
    rcases List.mem_append.mp hx with h | h
    · exact List.mem_append.mpr (.inl h)
    · exact mem_av (roots_fr.mem_iff.mpr (List.mem_cons_of_mem _ h))
end
end PM

/-! PM2: slots are set, lists are changed; what is read. -/
namespace PM
open PySem PySem.Spec PyProof.Rows L2 SL
section
variable {K : PySem.W.Frag} {F : Fm} {M : List Addr} {H H' : Hp} {p r : Addr} {σ : L2.St} {ρ : List Sl} {st st' l : List (V × W)} {v : V} {w : W} {i j : Nat} {o o' : Option V} {s s' : Sl} {d : D} {ds es : List D} {xs ys : List V}
def noAl (st : List (V × W)) : Prop := ∀ v j, (v, W.al j) ∉ st
theorem EnvR.slot (E : EnvR K F σ H ρ st) (h1 : σ[i]? = some o) (h2 : ρ[i]? = some s) (hs : free s = true) (hm : ∀ x ∈ st', x ∈ st) (ha : (o' = o ∧ s' ≠ .un) ∨ ∀ v, (v, W.al i) ∉ st')
    (hx : ∃ x, List.Sublist x ((rootS (o, s)).toList ++ st.filterMap rootW) ∧ ((rootS (o', s')).toList ++ st'.filterMap rootW).Perm x)
    (r : (∀ r ∈ F.A ++ roots (σ.set i o') (ρ.set i s') st', r ∈ F.A ++ roots σ ρ st) → SlR F (F.A ++ roots (σ.set i o') (ρ.set i s') st') K H o' s') : EnvR K F (σ.set i o') H (ρ.set i s') st' := by
  obtain ⟨x, x1, x2⟩ := hx
  obtain ⟨l1, l2, e1, e2⟩ := fm_set rootS (zip_get h1 h2)
  have er : roots σ ρ st = l1 ++ ((rootS (o, s)).toList ++ l2) ++ st.filterMap rootW := by
    unfold roots
    rw [e1]
  have er' : roots (σ.set i o') (ρ.set i s') st' = l1 ++ ((rootS (o', s')).toList ++ l2) ++ st'.filterMap rootW := by
    unfold roots
    rw [zip_set, e2]
  have sh : ∀ (a b c d : List Addr), (a ++ (b ++ c) ++ d).Perm (a ++ c ++ (b ++ d)) := fun a b c d => by
    simp only [List.append_assoc]
    refine List.Perm.append_left a ?_
    rw [← List.append_assoc, ← List.append_assoc]
    exact List.Perm.append_right d List.perm_append_comm
  have p1 : (roots σ ρ st).Perm (l1 ++ l2 ++ ((rootS (o, s)).toList ++ st.filterMap rootW)) := by
    rw [er]
    exact sh _ _ _ _
  have p2 : (roots (σ.set i o') (ρ.set i s') st').Perm (l1 ++ l2 ++ x) := by
    rw [er']
    exact (sh _ _ _ _).trans (List.Perm.append_left _ x2)
  have sb : List.Sublist (l1 ++ l2 ++ x) (l1 ++ l2 ++ ((rootS (o, s)).toList ++ st.filterMap rootW)) := List.Sublist.append_left x1 _
  have hr : ∀ r ∈ roots (σ.set i o') (ρ.set i s') st', r ∈ roots σ ρ st := fun r h => p1.mem_iff.mpr (sb.subset (p2.mem_iff.mp h))
  have hav : ∀ r ∈ F.A ++ roots (σ.set i o') (ρ.set i s') st', r ∈ F.A ++ roots σ ρ st := fun r h => by
    rcases List.mem_append.mp h with h | h
    · exact List.mem_append.mpr (.inl h)
    · exact List.mem_append.mpr (.inr (hr r h))
  refine ⟨E.ok, by rw [List.length_set, List.length_set]; exact E.len, E.ex, E.tr, ?_, fun j oj sj g1 g2 => ?_, fun y hy => ?_⟩
  · exact nd_of (p1.nodup_iff.mp E.nd) sb p2
  · by_cases hj : i = j
    · subst hj
      rw [List.getElem?_set_self (List.getElem?_eq_some_iff.mp h1).1] at g1
      rw [List.getElem?_set_self (List.getElem?_eq_some_iff.mp h2).1] at g2
      cases g1
      cases g2
      exact r hav
    · rw [List.getElem?_set_ne hj] at g1 g2
      exact (E.sl j oj sj g1 g2).mono hav
  · have q := (E.wv y (hm y hy)).mono hav
    obtain ⟨v, w⟩ := y
    dsimp only at q ⊢
    cases w with
    | cl d => cases q with | cl r => exact .cl r
    | fr d => cases q with | fr n a b => exact .fr n a b
    | al j =>
      cases q with
      | al e e2 e3 =>
        by_cases hj : i = j
        · subst hj
          rcases ha with ⟨rfl, hu⟩ | ha
          · refine .al ?_ (List.getElem?_set_self (List.getElem?_eq_some_iff.mp h2).1) hu
            rw [List.getElem?_set_self (List.getElem?_eq_some_iff.mp h1).1, ← h1]
            exact e
          · exact absurd hy (ha _)
        · refine .al ?_ (by rw [List.getElem?_set_ne hj]; exact e2) e3
          rw [List.getElem?_set_ne hj]
          exact e
    | hl j d =>
      cases q with
      | hl e e2 =>
        have hj : i ≠ j := by
          intro z
          subst z
          rw [h2] at e2
          rcases e2 with e2 | e2 <;> (cases e2; cases hs)
        refine .hl ?_ ?_
        · rw [List.getElem?_set_ne hj]
          exact e
        · rw [List.getElem?_set_ne hj]
          exact e2
    | hp j =>
      cases q with
      | @hp _ _ d e e2 =>
        have hj : i ≠ j := by
          intro z
          subst z
          rw [h2] at e2
          cases e2
          cases hs
        refine .hp (d := d) ?_ ?_
        · rw [List.getElem?_set_ne hj]
          exact e
        · rw [List.getElem?_set_ne hj]
          exact e2
theorem rootS_cl {v : V} : rootS (some v, .cl d) = none := by cases v <;> rfl
theorem rootW_cl {v : V} : rootW (v, .cl d) = none := by cases v <;> rfl
theorem rootW_al {v : V} : rootW (v, .al i) = none := by cases v <;> rfl
theorem rootW_hp {v : V} : rootW (v, .hp i) = none := by cases v <;> rfl
theorem rootW_hl {v : V} : rootW (v, .hl i ds) = none := by cases v <;> rfl
theorem rootS_un : rootS (o, .un) = none := by
  cases o with
  | none => rfl
  | some v => cases v <;> rfl
/-- x = a value that stays -/
theorem EnvR.setC (E : EnvR K F σ H ρ ((v, .cl d) :: st)) (h2 : ρ[i]? = some s) (hs : free s = true) (ha : ∀ v, (v, W.al i) ∉ st) : EnvR K F (σ.set i (some v)) H (ρ.set i (.cl d)) st := by
  obtain ⟨o, h1, _⟩ := slot_at E h2
  refine E.slot h1 h2 hs (fun x hx => List.mem_cons_of_mem _ hx) (.inr ha) ⟨st.filterMap rootW, ?_, ?_⟩ fun hav => ?_
  · rw [List.filterMap_cons, rootW_cl]
    exact List.sublist_append_right _ _
  · rw [rootS_cl]
    exact List.Perm.refl _
  · have q := E.wv _ (List.mem_cons_self ..)
    dsimp only at q
    cases q with
    | cl r => exact .cl (r.mono hav)
/-- x = a new list -/
theorem EnvR.setN (E : EnvR K F σ H ρ ((v, .fr ds) :: st)) (h2 : ρ[i]? = some s) (hs : free s = true) (ha : ∀ v, (v, W.al i) ∉ st) : EnvR K F (σ.set i (some v)) H (ρ.set i (.ow ds)) st := by
  obtain ⟨o, h1, _⟩ := slot_at E h2
  have q := E.wv _ (List.mem_cons_self ..)
  dsimp only at q
  generalize hM : F.A ++ roots σ ρ ((v, W.fr ds) :: st) = M at q
  cases q with
  | @fr p xs _ n a b =>
    subst hM
    refine E.slot h1 h2 hs (fun x hx => List.mem_cons_of_mem _ hx) (.inr ha) ⟨p :: st.filterMap rootW, ?_, ?_⟩ fun hav => .ow n a (b.mono hav)
    · exact List.sublist_append_right _ _
    · exact List.Perm.refl _
/-- what slot i holds is not known any more -/
theorem EnvR.forget (E : EnvR K F σ H ρ st) (h2 : ρ[i]? = some s) (hs : free s = true) (ha : ∀ v, (v, W.al i) ∉ st) (o' : Option V) : EnvR K F (σ.set i o') H (ρ.set i .un) st := by
  obtain ⟨o, h1, _⟩ := slot_at E h2
  refine E.slot h1 h2 hs (fun _ z => z) (.inr ha) ⟨st.filterMap rootW, List.sublist_append_right _ _, ?_⟩ fun _ => .un
  rw [rootS_un]
  exact List.Perm.refl _
theorem set_self {α : Type} {l : List α} {i : Nat} {a : α} (h : l[i]? = some a) : l.set i a = l := by
  apply List.ext_getElem?
  intro k
  by_cases hk : i = k
  · subst hk
    rw [List.getElem?_set_self (List.getElem?_eq_some_iff.mp h).1, h]
  · rw [List.getElem?_set_ne hk]
/-- a slot whose list stays from now on -/
theorem EnvR.fzSlot (E : EnvR K F σ H ρ st) (h2 : ρ[i]? = some (.ow ds)) : EnvR K F σ H (ρ.set i (.cl (.lst ds))) st := by
  obtain ⟨o, h1, q⟩ := slot_at E h2
  generalize hM : F.A ++ roots σ ρ st = M at q
  cases q with
  | @ow p xs _ n a b =>
    subst hM
    have es : σ.set i (some (.ref p)) = σ := set_self h1
    obtain ⟨l1, l2, e1, e2⟩ := fm_set rootS (zip_get h1 h2)
    have e0 : (rootS (some (V.ref p), Sl.cl (.lst ds))).toList = [] := by rw [rootS_cl]; rfl
    have hz : σ.zip (ρ.set i (.cl (.lst ds))) = (σ.zip ρ).set i (some (.ref p), .cl (.lst ds)) := by
      rw [← es, zip_set, es]
    have hp : p ∉ roots σ (ρ.set i (.cl (.lst ds))) st := by
      have nd := E.nd
      unfold roots at nd ⊢
      rw [e1] at nd
      rw [hz, e2, e0]
      have nd2 : (p :: (l1 ++ ([] ++ l2) ++ st.filterMap rootW)).Nodup := nd_of nd (List.Sublist.refl _) (by
        show (p :: _).Perm (l1 ++ ([p] ++ l2) ++ _)
        rw [List.nil_append, List.singleton_append, List.append_assoc, List.append_assoc]
        exact (List.perm_middle).symm)
      exact (List.nodup_cons.mp nd2).1
    have E1 := E.slot (o' := some (.ref p)) (s' := .cl (.lst ds)) (st' := st) h1 h2 rfl (fun _ z => z) (.inl ⟨rfl, fun z => by cases z⟩) ⟨st.filterMap rootW, List.sublist_append_right _ _, by
      rw [rootS_cl]
      exact List.Perm.refl _⟩ (fun hav => .cl (.lst ⟨a, fun z => by
        rw [es] at z
        exact (List.mem_append.mp z).elim (fun z => E.ok.tr p z n) hp⟩ (b.mono hav)))
    rw [es] at E1
    exact E1
/-- what can be read of a held value now -/
inductive Nr (M : List Addr) (K : PySem.W.Frag) (H : Hp) : V → D → Prop
  | cl {v : V} {d : D} : Rep M K H v d → Nr M K H v d
  | own {p : Addr} {d : D} : Own M K H p d → Nr M K H (.ref p) d
def slD : Sl → Option D
  | .cl d => some d
  | .ow ds => some (.lst ds)
  | .lk ds => some (.lst ds)
  | .io d => some d
  | .dt d => some d
  | .un => none
def deref (ρ : List Sl) : W → Option D
  | .cl d => some d
  | .fr ds => some (.lst ds)
  | .al i => ρ[i]?.bind slD
  | .hl i _ => ρ[i]?.bind slD
  | .hp i => ρ[i]?.bind slD
theorem sl_near (h : SlR F M K H (some v) s) (e : slD s = some d) : Nr M K H v d := by
  cases h with
  | un => cases e
  | cl r => cases e; exact .cl r
  | ow n a b => cases e; exact .own (.lst a b)
  | lk n a b => cases e; exact .own (.lst a b)
  | io m a => cases e; exact .own a
  | dt m n a => cases e; exact .own a
theorem EnvR.near (E : EnvR K F σ H ρ st) (hx : (v, w) ∈ st) (e : deref ρ w = some d) : Nr (F.A ++ roots σ ρ st) K H v d := by
  have q := E.wv _ hx
  dsimp only at q
  have al : ∀ i : Nat, σ[i]? = some (some v) → ρ[i]?.bind slD = some d → Nr (F.A ++ roots σ ρ st) K H v d := fun i a e => by
    cases h : ρ[i]? with
    | none => rw [h] at e; cases e
    | some s =>
      rw [h] at e
      exact sl_near (E.sl i _ s a h) e
  cases w with
  | cl d =>
    cases e
    cases q with | cl r => exact .cl r
  | fr d =>
    cases e
    cases q with | fr n a b => exact .own (.lst a b)
  | al i => cases q with | al a _ _ => exact al i a e
  | hl i ds => cases q with | hl a _ => exact al i a e
  | hp i => cases q with | hp a _ => exact al i a e
theorem Nr.mono {M' : List Addr} (hm : ∀ x ∈ M', x ∈ M) (h : Nr M K H v d) : Nr M' K H v d := by
  cases h with
  | cl r => exact .cl (r.mono hm)
  | own r => exact .own (r.mono hm)
theorem Own.rep0 (h : Own M K H p d) : Rep [] K H (.ref p) d := by
  cases h with
  | lst a b => exact .lst ⟨a, List.not_mem_nil⟩ (b.mono fun _ z => absurd z (List.not_mem_nil))
  | ins a n b => exact .ins ⟨a, List.not_mem_nil⟩ n (b.mono fun _ z => absurd z (List.not_mem_nil))
theorem Nr.rep0 (h : Nr M K H v d) : Rep [] K H v d := by
  cases h with
  | cl r => exact r.mono fun _ z => absurd z (List.not_mem_nil)
  | own r => exact r.rep0
theorem Own.u (h : Own M K H p d) : d.u = d := by cases h <;> rfl
theorem Nr.u (h : Nr M K H v d) : Nr M K H v d.u := by
  cases h with
  | cl r => exact .cl r.u
  | own r =>
    rw [r.u]
    exact .own r
/-- what an operation hands back -/
inductive Nw (M : List Addr) (K : PySem.W.Frag) (H H' : Hp) : V → W → Prop
  | cl {v : V} {d : D} : Rep M K H' v d → Nw M K H H' v (.cl d)
  | fr {p : Addr} {xs : List V} {ds : List D} : H p = none → H' p = some (.lst xs) → RepA (p :: M) K H' xs ds → Nw M K H H' (.ref p) (.fr ds)
theorem Nw.new (hp : H p = none) (r : RepA M K H xs ds) : Nw M K H (upd H p (.lst xs)) (.ref p) (.fr ds) :=
  .fr hp upd_same ((r.fresh hp fun x hx => (List.mem_cons.mp hx).symm).ex (Ex.nil (Ex.new hp)))
theorem Nw.tup (hp : H p = none) (hM : p ∉ M) (r : RepA M K H xs ds) : Nw M K H (upd H p (.tup xs)) (.ref p) (.cl (.tup ds)) :=
  .cl (.tup ⟨upd_same, hM⟩ (r.ex (Ex.nil (Ex.new hp))))
theorem EnvR.land (E : EnvR K F σ H ρ (l ++ st)) (e : Ex [] H H') (n : Nw (F.A ++ roots σ ρ (l ++ st)) K H H' v w) : EnvR K F σ H' ρ ((v, w) :: st) := by
  have hs : ∀ x ∈ F.A ++ roots σ ρ st, x ∈ F.A ++ roots σ ρ (l ++ st) := fun x hx => by
    rcases List.mem_append.mp hx with h | h
    · exact List.mem_append.mpr (.inl h)
    · refine mem_av ?_
      rcases mem_roots.mp h with h | ⟨y, hy, e⟩
      · exact mem_roots.mpr (.inl h)
      · exact roots_st (List.mem_append.mpr (.inr hy)) e
  cases n with
  | cl r => exact (E.popL.grow e).pushC (r.mono hs)
  | fr hp a b =>
    refine E.popL.pushN hp e a (b.mono fun x hx => ?_)
    rcases List.mem_cons.mp hx with h | h
    · rw [h]
      exact List.mem_cons_self ..
    · exact List.mem_cons_of_mem _ (hs x h)
/-- the thing of slot i is changed -/
theorem EnvR.mut {u : HO} (E : EnvR K F σ H ρ st) (h1 : σ[i]? = some (some (.ref p))) (h2 : ρ[i]? = some s) (hr : rootS (some (.ref p), s) = some p) (hs : ∀ ds, s ≠ .lk ds) (hr' : rootS (some (.ref p), s') = some p) (hio : ∀ d, s = .io d → ∃ d', s' = .io d')
    (r : SlR F (F.A ++ roots σ ρ st) K (upd H p u) (some (.ref p)) s') : EnvR K F σ (upd H p u) (ρ.set i s') st := by
  have es : σ.set i (some (.ref p)) = σ := set_self h1
  obtain ⟨l1, l2, e1, e2⟩ := fm_set rootS (zip_get h1 h2)
  have hz : σ.zip (ρ.set i s') = (σ.zip ρ).set i (some (.ref p), s') := by
    rw [← es, zip_set, es]
  have er : roots σ (ρ.set i s') st = roots σ ρ st := by
    unfold roots
    rw [hz, e1, e2, hr, hr']
  have hpr : p ∈ roots σ ρ st := roots_slot h1 h2 hr
  have hpM := mem_av (F := F) hpr
  have eM : Ex (F.A ++ roots σ ρ st) H (upd H p u) := Ex.mut hpM
  have h0 : F.H0 p = none ∨ p ∈ F.Io := by
    have q := E.sl i _ s h1 h2
    generalize F.A ++ roots σ ρ st = M at q
    cases s with
    | un => cases hr
    | cl d => cases hr
    | dt d => cases hr
    | ow d => cases q with | ow n _ _ => exact .inl n
    | lk d => cases q with | lk n _ _ => exact .inl n
    | io d => cases q with | io n _ => exact .inr n
  have nd := E.nd
  unfold roots at nd
  rw [e1, hr] at nd
  have nd2 : (p :: (l1 ++ l2 ++ st.filterMap rootW)).Nodup := nd_of nd (List.Sublist.refl _) (by
    show (p :: _).Perm (l1 ++ ([p] ++ l2) ++ _)
    simp only [List.append_assoc, List.singleton_append]
    exact List.perm_middle.symm)
  have hp2 := (List.nodup_cons.mp nd2).1
  have hother : ∀ (j : Nat) (oj : Option V) (sj : Sl), i ≠ j → σ[j]? = some oj → ρ[j]? = some sj → rootS (oj, sj) ≠ some p := fun j oj sj hj g1 g2 z => by
    have hzj : ((σ.zip ρ).set i (none, .un))[j]? = some (oj, sj) := by
      rw [List.getElem?_set_ne hj]
      exact zip_get g1 g2
    have hm : p ∈ ((σ.zip ρ).set i (none, .un)).filterMap rootS := List.mem_filterMap.mpr ⟨_, List.mem_of_getElem? hzj, z⟩
    rw [e2] at hm
    have e4 : (rootS ((none : Option V), Sl.un)).toList = [] := rfl
    rw [e4] at hm
    refine hp2 ?_
    simp only [List.mem_append] at hm ⊢
    rcases hm with h | h | h
    · exact .inl (.inl h)
    · cases h
    · exact .inl (.inr h)
  refine ⟨E.ok, by rw [List.length_set]; exact E.len, fun a o hn z => ?_, fun a z => ?_, by rw [er]; exact E.nd, fun j oj sj g1 g2 => ?_, fun x hx => ?_⟩
  · have hne : a ≠ p := by
      rintro rfl
      rcases h0 with h | h
      · rw [h] at z
        cases z
      · exact hn h
    rw [upd_ne hne]
    exact E.ex a o hn z
  · by_cases hne : a = p
    · rw [hne, upd_same]
      exact fun z => by cases z
    · rw [upd_ne hne]
      exact E.tr a z
  · rw [er]
    by_cases hj : i = j
    · subst hj
      rw [h1] at g1
      rw [List.getElem?_set_self (List.getElem?_eq_some_iff.mp h2).1] at g2
      cases g1
      cases g2
      exact r
    · rw [List.getElem?_set_ne hj] at g2
      have q := E.sl j oj sj g1 g2
      have ho := hother j oj sj hj g1 g2
      generalize F.A ++ roots σ ρ st = M at q eM hpM
      cases q with
      | un => exact .un
      | cl r => exact .cl (r.ex eM)
      | ow n a b => exact .ow n ((upd_ne (fun z => ho (by rw [z]; rfl))).trans a) (b.ex eM)
      | lk n a b => exact .lk n ((upd_ne (fun z => ho (by rw [z]; rfl))).trans a) (b.ex eM)
      | io n a => exact .io n (a.ex eM (upd_ne (fun z => ho (by rw [z]; rfl))))
      | dt m n a => exact .dt m n (a.ex eM (upd_ne (fun z => by
          subst z
          rcases h0 with h | h
          · exact E.ok.tr _ m h
          · exact n h)))
  · rw [er]
    have q := E.wv x hx
    obtain ⟨v, w⟩ := x
    dsimp only at q ⊢
    cases w with
    | cl d => cases q with | cl r => exact .cl (r.ex eM)
    | fr d =>
      have hv : ∀ q, v = .ref q → q ≠ p := fun q e z => by
        subst e z
        refine hp2 (List.mem_append.mpr (.inr (List.mem_filterMap.mpr ⟨_, hx, rfl⟩)))
      generalize F.A ++ roots σ ρ st = M at q eM hpM
      cases q with
      | fr n a b => exact .fr n ((upd_ne (hv _ rfl)).trans a) (b.ex eM)
    | al j =>
      cases q with
      | al e e2 e3 =>
        by_cases hj : i = j
        · subst hj
          exact .al e (List.getElem?_set_self (List.getElem?_eq_some_iff.mp h2).1) (fun z => by rw [z] at hr'; cases hr')
        · exact .al e (by rw [List.getElem?_set_ne hj]; exact e2) e3
    | hl j d =>
      cases q with
      | hl e e2 =>
        have hj : i ≠ j := by
          intro z
          subst z
          rw [h2] at e2
          rcases e2 with e2 | e2
          · exact hs _ (Option.some.inj e2)
          · cases e2
            cases hr
        exact .hl e (by rw [List.getElem?_set_ne hj]; exact e2)
    | hp j =>
      cases q with
      | hp e e2 =>
        by_cases hj : i = j
        · subst hj
          rw [h2] at e2
          obtain ⟨d', hd⟩ := hio _ (Option.some.inj e2)
          exact .hp e (by rw [List.getElem?_set_self (List.getElem?_eq_some_iff.mp h2).1, hd])
        · exact .hp e (by rw [List.getElem?_set_ne hj]; exact e2)
theorem av_new (E : EnvR K F σ H ρ st) (hp : H p = none) : p ∉ F.A ++ roots σ ρ st := fun h => by
  rcases List.mem_append.mp h with h | h
  · exact E.tr p (E.ok.tr p h) hp
  · exact root_tr E h hp
end
end PM

/-! PM3: the plain reading of expressions, and that it is what the layer's reading asks. -/
namespace PM
open PySem PySem.Spec PyProof.Rows L2 SL

/-! ### plain runs -/
inductive R (α : Type) where
  | ok (a : α) (ρ : List Sl)
  | ex (C : Str) (fs : List (Str × D)) (ρ : List Sl)
abbrev Mo (α : Type) := List Sl → Option (R α)
def bindR {α β : Type} (x : Option (R α)) (f : α → List Sl → Option (R β)) : Option (R β) := match x with
  | some (.ok a ρ) => f a ρ
  | some (.ex C fs ρ) => some (.ex C fs ρ)
  | none => none
theorem bindR_some {α β : Type} {x : Option (R α)} {f : α → List Sl → Option (R β)} {r : R β} (h : bindR x f = some r) : (∃ a ρ, x = some (.ok a ρ) ∧ f a ρ = some r) ∨ ∃ C fs ρ, x = some (.ex C fs ρ) ∧ r = .ex C fs ρ := by
  match x, h with
  | some (.ok a ρ), h => exact .inl ⟨a, ρ, rfl, h⟩
  | some (.ex C fs ρ), h => exact .inr ⟨C, fs, ρ, rfl, (Option.some.inj h).symm⟩
/-- a value that may be kept -/
def fzAl (i : Nat) (ρ : List Sl) : Option (D × List Sl) := match ρ[i]? with
  | some (.cl d) => some (d, ρ)
  | some (.ow ds) => some (.lst ds, ρ.set i (.cl (.lst ds)))
  | _ => none
def fz : W → List Sl → Option (D × List Sl)
  | .cl d, ρ => some (d, ρ)
  | .fr ds, ρ => some (.lst ds, ρ)
  | .al i, ρ => fzAl i ρ
  | .hl _ _, _ => none
  | .hp _, _ => none
def fzs : List W → List Sl → Option (List D × List Sl)
  | [], ρ => some ([], ρ)
  | w :: ws, ρ => (fz w ρ).bind fun x => (fzs ws x.2).bind fun y => some (x.1 :: y.1, y.2)
def derefs (ρ : List Sl) : List W → Option (List D)
  | [] => some []
  | w :: ws => (deref ρ w).bind fun d => (derefs ρ ws).bind fun ds => some (d :: ds)
section
variable {K : PySem.W.Frag} {F : Fm} {M : List Addr} {H H' : Hp} {σ : L2.St} {ρ ρ' : List Sl} {st l : List (V × W)} {v : V} {w : W} {d : D} {ds : List D} {vs : List V} {ws : List W}
theorem EnvR.fz (E : EnvR K F σ H ρ ((v, w) :: st)) (h : fz w ρ = some (d, ρ')) : EnvR K F σ H ρ' ((v, .cl d) :: st) := by
  cases w with
  | cl d' => cases h; exact E
  | fr ds => cases h; exact E.freeze
  | hl i ds => cases h
  | hp i => cases h
  | al i =>
    have q := E.wv _ (List.mem_cons_self ..)
    dsimp only at q
    cases q with
    | al e _ _ =>
      have h : fzAl i ρ = some (d, ρ') := h
      unfold fzAl at h
      split at h
      · rename_i d' hd
        obtain ⟨rfl, rfl⟩ : d' = d ∧ ρ = ρ' := by
          injection h with h
          injection h with h1 h2
          exact ⟨h1, h2⟩
        have r := E.sl i _ _ e hd
        generalize hM : F.A ++ roots σ ρ ((v, W.al i) :: st) = M at r
        cases r with
        | cl r =>
          subst hM
          refine E.pop.pushC (r.mono fun x hx => ?_)
          rcases List.mem_append.mp hx with h | h
          · exact List.mem_append.mpr (.inl h)
          · refine mem_av ?_
            rcases mem_roots.mp h with h | ⟨y, hy, e⟩
            · exact mem_roots.mpr (.inl h)
            · exact roots_st (List.mem_cons_of_mem _ hy) e
      · rename_i ds hd
        cases h
        have E2 := E.pop.fzSlot hd
        have r := E2.sl i _ _ e (List.getElem?_set_self (List.getElem?_eq_some_iff.mp hd).1)
        generalize hM : F.A ++ roots σ (ρ.set i (.cl (.lst ds))) st = M at r
        cases r with
        | cl r =>
          subst hM
          exact E2.pushC r
      · cases h
theorem EnvR.fzs : ∀ {ws : List W} {vs : List V} {ds : List D} {ρ ρ' : List Sl} {st : List (V × W)}, vs.length = ws.length → EnvR K F σ H ρ (vs.zip ws ++ st) → PM.fzs ws ρ = some (ds, ρ') → ds.length = ws.length ∧ EnvR K F σ H ρ' (vs.zip (ds.map W.cl) ++ st)
  | [], vs, ds, ρ, ρ', st, hl, E, h => by
    cases h
    cases vs with
    | nil => exact ⟨rfl, E⟩
    | cons a b => cases hl
  | w :: ws, [], ds, ρ, ρ', st, hl, E, h => by cases hl
  | w :: ws, v :: vs, ds, ρ, ρ', st, hl, E, h => by
    unfold PM.fzs at h
    cases h1 : PM.fz w ρ with
    | none => rw [h1] at h; cases h
    | some x =>
      rw [h1] at h
      obtain ⟨d, ρ1⟩ := x
      dsimp only [Option.bind_some] at h
      cases h2 : PM.fzs ws ρ1 with
      | none => rw [h2] at h; cases h
      | some y =>
        rw [h2] at h
        obtain ⟨ds', ρ2⟩ := y
        cases h
        have E1 : EnvR K F σ H ρ1 ((v, .cl d) :: (vs.zip ws ++ st)) := EnvR.fz E h1
        have E2 : EnvR K F σ H ρ1 (vs.zip ws ++ ((v, .cl d) :: st)) := E1.perm List.perm_middle.symm
        obtain ⟨l, E3⟩ := EnvR.fzs (by simpa using hl) E2 h2
        refine ⟨by simpa using l, ?_⟩
        exact E3.perm List.perm_middle
theorem EnvR.rep (E : EnvR K F σ H ρ st) (h : (v, W.cl d) ∈ st) : Rep (F.A ++ roots σ ρ st) K H v d := by
  have q := E.wv _ h
  dsimp only at q
  cases q with | cl r => exact r
theorem EnvR.repA : ∀ {vs : List V} {ds : List D}, EnvR K F σ H ρ st → vs.length = ds.length → (∀ x ∈ vs.zip (ds.map W.cl), x ∈ st) → RepA (F.A ++ roots σ ρ st) K H vs ds
  | [], [], _, _, _ => .nil
  | [], _ :: _, _, h, _ => by cases h
  | _ :: _, [], _, h, _ => by cases h
  | v :: vs, d :: ds, E, hl, hm => .cons (E.rep (hm _ (List.mem_cons_self ..))) (EnvR.repA E (by simpa using hl) fun x hx => hm x (List.mem_cons_of_mem _ hx))
/-- values that can be read now -/
inductive NrA (M : List Addr) (K : PySem.W.Frag) (H : Hp) : List V → List D → Prop
  | nil : NrA M K H [] []
  | cons {v : V} {vs : List V} {d : D} {ds : List D} : Nr M K H v d → NrA M K H vs ds → NrA M K H (v :: vs) (d :: ds)
theorem EnvR.nears : ∀ {ws : List W} {vs : List V} {ds : List D}, EnvR K F σ H ρ st → vs.length = ws.length → (∀ x ∈ vs.zip ws, x ∈ st) → derefs ρ ws = some ds → NrA (F.A ++ roots σ ρ st) K H vs ds
  | [], [], ds, E, _, _, h => by cases h; exact .nil
  | [], _ :: _, _, _, h, _, _ => by cases h
  | _ :: _, [], _, _, h, _, _ => by cases h
  | w :: ws, v :: vs, ds, E, hl, hm, h => by
    unfold derefs at h
    cases h1 : deref ρ w with
    | none => rw [h1] at h; cases h
    | some d =>
      rw [h1] at h
      dsimp only [Option.bind_some] at h
      cases h2 : derefs ρ ws with
      | none => rw [h2] at h; cases h
      | some ds' =>
        rw [h2] at h
        cases h
        exact .cons (E.near (hm _ (List.mem_cons_self ..)) h1) (EnvR.nears E (by simpa using hl) (fun x hx => hm x (List.mem_cons_of_mem _ hx)) h2)
theorem av_st {st' : List (V × W)} (hm : ∀ x ∈ st', x ∈ st) : ∀ x ∈ F.A ++ roots σ ρ st', x ∈ F.A ++ roots σ ρ st := fun x hx => by
  rcases List.mem_append.mp hx with h | h
  · exact List.mem_append.mpr (.inl h)
  · refine mem_av ?_
    rcases mem_roots.mp h with h | ⟨y, hy, e⟩
    · exact mem_roots.mpr (.inl h)
    · exact roots_st (hm y hy) e
end
/-- an own exception's dict -/
inductive XdR (M : List Addr) (K : PySem.W.Frag) (H : Hp) (dx : Addr) (fs : List (Str × D)) : Prop
  | mk {vs : List (Str × V)} : (H dx = some (.xd vs) ∨ H dx = some (exd dx vs)) → vs.map (·.1) = fs.map (·.1) → RepA M K H (vs.map (·.2)) (fs.map (·.2)) → XdR M K H dx fs
def ExR (K : PySem.W.Frag) (F : Fm) (WW : WX) (st : List (V × W)) (C : Str) (fs : List (Str × D)) (ρ : List Sl) : Prop :=
  ∀ σ H dx, EnvR K F σ H ρ st → XdR (F.A ++ roots σ ρ st) K H dx fs → WW (.ref (He.ga K C)) (some dx) σ H
def PostE (K : PySem.W.Frag) (F : Fm) (WW : WX) (σ : L2.St) (st : List (V × W)) (Q : VK) : R W → Prop
  | .ok w ρ => ∀ v H, EnvR K F σ H ρ ((v, w) :: st) → Q v H
  | .ex C fs ρ => ExR K F WW st C fs ρ
def PostA (K : PySem.W.Frag) (F : Fm) (WW : WX) (σ : L2.St) (st : List (V × W)) (Q : List V → Hp → Prop) : R (List W) → Prop
  | .ok ws ρ => ∀ vs H, vs.length = ws.length → EnvR K F σ H ρ (vs.zip ws ++ st) → Q vs H
  | .ex C fs ρ => ExR K F WW st C fs ρ
def PostT (K : PySem.W.Frag) (F : Fm) (WW : WX) (σ : L2.St) (st : List (V × W)) (Q : Bool → Hp → Prop) : R Bool → Prop
  | .ok b ρ => ∀ H, EnvR K F σ H ρ st → Q b H
  | .ex C fs ρ => ExR K F WW st C fs ρ
def SimE (K : PySem.W.Frag) (WW : WX) (t : TE) (m : Mo W) : Prop := ∀ (F : Fm) (σ : L2.St) (H : Hp) (ρ : List Sl) (st : List (V × W)) (r : R W) (Q : VK), EnvR K F σ H ρ st → m ρ = some r → PostE K F WW σ st Q r → t σ H Q
def SimA (K : PySem.W.Frag) (WW : WX) (t : TA) (m : Mo (List W)) : Prop := ∀ (F : Fm) (σ : L2.St) (H : Hp) (ρ : List Sl) (st : List (V × W)) (r : R (List W)) (Q : List V → Hp → Prop), EnvR K F σ H ρ st → m ρ = some r → PostA K F WW σ st Q r → t σ H Q
def SimT (K : PySem.W.Frag) (WW : WX) (t : TT) (m : Mo Bool) : Prop := ∀ (F : Fm) (σ : L2.St) (H : Hp) (ρ : List Sl) (st : List (V × W)) (r : R Bool) (Q : Bool → Hp → Prop), EnvR K F σ H ρ st → m ρ = some r → PostT K F WW σ st Q r → t σ H Q
theorem ExR.up {K : PySem.W.Frag} {F : Fm} {WW : WX} {st : List (V × W)} {x : V × W} {C : Str} {fs : List (Str × D)} {ρ : List Sl} (h : ExR K F WW st C fs ρ) : ExR K F WW (x :: st) C fs ρ := fun σ H dx E q => h σ H dx E.pop (by
  obtain ⟨a, b, c⟩ := q
  exact .mk a b (c.mono (av_st fun x hx => List.mem_cons_of_mem _ hx)))

/-! ### expressions -/
def mC (d : D) : Mo W := fun ρ => some (.ok (.cl d) ρ)
def mVar (i : Nat) : Mo W := fun ρ => match ρ[i]? with
  | some (.cl d) => some (.ok (.cl d) ρ)
  | some .un => none
  | some _ => some (.ok (.al i) ρ)
  | none => none
def mOp (f : D → D → Option W) (a b : Mo W) : Mo W := fun ρ => bindR (a ρ) fun x ρ => bindR (b ρ) fun y ρ => (deref ρ x).bind fun dx => (deref ρ y).bind fun dy => (f dx dy).map fun w => .ok w ρ
def mUn (f : D → Option W) (a : Mo W) : Mo W := fun ρ => bindR (a ρ) fun x ρ => (deref ρ x).bind fun dx => (f dx).map fun w => .ok w ρ
def mNil : Mo (List W) := fun ρ => some (.ok [] ρ)
def mCons (a : Mo W) (b : Mo (List W)) : Mo (List W) := fun ρ => bindR (a ρ) fun x ρ => bindR (b ρ) fun xs ρ => some (.ok (x :: xs) ρ)
def mCB (f : List D → Option W) (a : Mo (List W)) : Mo W := fun ρ => bindR (a ρ) fun xs ρ => (derefs ρ xs).bind fun ds => (f ds).map fun w => .ok w ρ
def mLst (a : Mo (List W)) : Mo W := fun ρ => bindR (a ρ) fun xs ρ => (fzs xs ρ).bind fun x => if x.1.length ≤ 100000 then some (.ok (.fr x.1) x.2) else none
def mTup (a : Mo (List W)) : Mo W := fun ρ => bindR (a ρ) fun xs ρ => (fzs xs ρ).bind fun x => if x.1.length ≤ 100000 then some (.ok (.cl (.tup x.1)) x.2) else none
def mTest (a : Mo W) : Mo Bool := fun ρ => bindR (a ρ) fun x ρ => match (deref ρ x).map D.u with
  | some (.bl b) => some (.ok b ρ)
  | _ => none
def mNotV (a : Mo W) : Mo W := fun ρ => bindR (mTest a ρ) fun b ρ => some (.ok (.cl (.bl (!b))) ρ)
def mAndV (a b : Mo W) : Mo W := fun ρ => bindR (mTest a ρ) fun c ρ => if c = true then b ρ else some (.ok (.cl (.bl false)) ρ)
def mOrV (a b : Mo W) : Mo W := fun ρ => bindR (mTest a ρ) fun c ρ => if c = true then some (.ok (.cl (.bl true)) ρ) else b ρ
def mIf (c : Mo Bool) (a b : Mo W) : Mo W := fun ρ => bindR (c ρ) fun k ρ => if k = true then a ρ else b ρ
def mAnd (a b : Mo Bool) : Mo Bool := fun ρ => bindR (a ρ) fun c ρ => if c = true then b ρ else some (.ok false ρ)
def mOr (a b : Mo Bool) : Mo Bool := fun ρ => bindR (a ρ) fun c ρ => if c = true then some (.ok true ρ) else b ρ
def mNot (a : Mo Bool) : Mo Bool := fun ρ => bindR (a ρ) fun c ρ => some (.ok (!c) ρ)
def mYes : Mo Bool := fun ρ => some (.ok true ρ)
/-- a value's truth -/
def dTru : D → Option Bool
  | .non => some false
  | .bl b => some b
  | .int i => some (i != 0)
  | .str z => if z.length ≤ 100000 then some ((z.length : Int) != 0) else none
  | .lst ds => some (!ds.isEmpty)
  | .tup ds => some (!ds.isEmpty)
  | .dK ds => some (!ds.isEmpty)
  | _ => none
def mTru (a : Mo W) : Mo Bool := fun ρ => bindR (a ρ) fun x ρ => ((deref ρ x).bind fun d => dTru d.u).map fun b => .ok b ρ

/-- an operator by values -/
def Op2 (K : PySem.W.Frag) (r : R2) (f : D → D → Option W) : Prop := ∀ (M : List Addr) (H : Hp) (x y : V) (dx dy : D) (w : W) (Q : VK), (∀ p, H p = none → p ∉ M) → Nr M K H x dx → Nr M K H y dy → f dx dy = some w →
  (∀ v H', Ex [] H H' → Nw M K H H' v w → Q v H') → r x y H Q
def Op1 (K : PySem.W.Frag) (r : V → Hp → VK → Prop) (f : D → Option W) : Prop := ∀ (M : List Addr) (H : Hp) (x : V) (dx : D) (w : W) (Q : VK), (∀ p, H p = none → p ∉ M) → Nr M K H x dx → f dx = some w →
  (∀ v H', Ex [] H H' → Nw M K H H' v w → Q v H') → r x H Q
def OpN (K : PySem.W.Frag) (r : List V → Hp → VK → Prop) (f : List D → Option W) : Prop := ∀ (M : List Addr) (H : Hp) (xs : List V) (ds : List D) (w : W) (Q : VK), (∀ p, H p = none → p ∉ M) → NrA M K H xs ds → f ds = some w →
  (∀ v H', Ex [] H H' → Nw M K H H' v w → Q v H') → r xs H Q

section
variable {K : PySem.W.Frag} {WW : WX} {ta tb tc te : TE} {ma mb mc me : Mo W} {tr tk : TA} {mr mk : Mo (List W)} {tt tu : TT} {mt mu : Mo Bool} {d : D} {i : Nat}
theorem sim_c {v : V} (h : ∀ M H, Rep M K H v d) : SimE K WW (tC v) (mC d) := fun F σ H ρ st r Q E e p => by
  cases e
  exact p v H (E.pushC (h _ _))
theorem sim_var : SimE K WW (tVar i) (mVar i) := fun F σ H ρ st r Q E e p => by
  unfold mVar at e
  cases h : ρ[i]? with
  | none => rw [h] at e; cases e
  | some s =>
    rw [h] at e
    obtain ⟨o, ho, q⟩ := slot_at E h
    have al : ∀ {v : V}, o = some v → r = .ok (.al i) ρ → s ≠ .un → tVar i σ H Q := fun {v} h1 h2 h3 => by
      subst h1 h2
      exact ⟨v, ho, p v H (E.pushAl ho h h3)⟩
    generalize hM : F.A ++ roots σ ρ st = M at q
    cases q with
    | un => cases e
    | cl a =>
      subst hM
      cases e
      exact ⟨_, ho, p _ H (E.pushC a)⟩
    | ow n a b => exact al rfl (Option.some.inj e).symm (fun z => by cases z)
    | lk n a b => exact al rfl (Option.some.inj e).symm (fun z => by cases z)
    | io n a => exact al rfl (Option.some.inj e).symm (fun z => by cases z)
    | dt n m a => exact al rfl (Option.some.inj e).symm (fun z => by cases z)
theorem sim_op {r : R2} {f : D → D → Option W} (o : Op2 K r f) (ha : SimE K WW ta ma) (hb : SimE K WW tb mb) : SimE K WW (tOp r ta tb) (mOp f ma mb) := fun F σ H ρ st x Q E e p => by
  rcases bindR_some e with ⟨w1, ρ1, e1, e⟩ | ⟨C, fs, ρ1, e1, rfl⟩
  · refine ha F σ H ρ st _ _ E e1 fun v1 H1 E1 => ?_
    rcases bindR_some e with ⟨w2, ρ2, e2, e⟩ | ⟨C, fs, ρ2, e2, rfl⟩
    · refine hb F σ H1 ρ1 _ _ _ E1 e2 fun v2 H2 E2 => ?_
      cases h1 : deref ρ2 w1 with
      | none => rw [h1] at e; cases e
      | some d1 =>
        rw [h1] at e
        dsimp only [Option.bind_some] at e
        cases h2 : deref ρ2 w2 with
        | none => rw [h2] at e; cases e
        | some d2 =>
          rw [h2] at e
          dsimp only [Option.bind_some] at e
          cases h3 : f d1 d2 with
          | none => rw [h3] at e; cases e
          | some w =>
            rw [h3] at e
            cases e
            exact o _ H2 v1 v2 d1 d2 w Q (fun q hq => av_new E2 hq) (E2.near (List.mem_cons_of_mem _ (List.mem_cons_self ..)) h1) (E2.near (List.mem_cons_self ..) h2) h3
              fun v H' ex nw => p v H' (EnvR.land (l := [(v2, w2), (v1, w1)]) E2 ex nw)
    · exact hb F σ H1 ρ1 _ _ _ E1 e2 (ExR.up p)
  · exact ha F σ H ρ st _ _ E e1 p
theorem sim_un {r : V → Hp → VK → Prop} {f : D → Option W} (o : Op1 K r f) (ha : SimE K WW ta ma) : SimE K WW (tUn r ta) (mUn f ma) := fun F σ H ρ st x Q E e p => by
  rcases bindR_some e with ⟨w1, ρ1, e1, e⟩ | ⟨C, fs, ρ1, e1, rfl⟩
  · refine ha F σ H ρ st _ _ E e1 fun v1 H1 E1 => ?_
    cases h1 : deref ρ1 w1 with
    | none => rw [h1] at e; cases e
    | some d1 =>
      rw [h1] at e
      dsimp only [Option.bind_some] at e
      cases h3 : f d1 with
      | none => rw [h3] at e; cases e
      | some w =>
        rw [h3] at e
        cases e
        exact o _ H1 v1 d1 w Q (fun q hq => av_new E1 hq) (E1.near (List.mem_cons_self ..) h1) h3 fun v H' ex nw => p v H' (EnvR.land (l := [(v1, w1)]) E1 ex nw)
  · exact ha F σ H ρ st _ _ E e1 p
theorem sim_nil : SimA K WW tNil mNil := fun F σ H ρ st x Q E e p => by
  cases e
  exact p [] H rfl E
theorem sim_cons (ha : SimE K WW ta ma) (hb : SimA K WW tr mr) : SimA K WW (tCons ta tr) (mCons ma mr) := fun F σ H ρ st x Q E e p => by
  rcases bindR_some e with ⟨w1, ρ1, e1, e⟩ | ⟨C, fs, ρ1, e1, rfl⟩
  · refine ha F σ H ρ st _ _ E e1 fun v1 H1 E1 => ?_
    rcases bindR_some e with ⟨ws, ρ2, e2, e⟩ | ⟨C, fs, ρ2, e2, rfl⟩
    · refine hb F σ H1 ρ1 _ _ _ E1 e2 fun vs H2 hl E2 => ?_
      cases e
      exact p (v1 :: vs) H2 (by simp [hl]) (E2.perm List.perm_middle)
    · exact hb F σ H1 ρ1 _ _ _ E1 e2 (ExR.up p)
  · exact ha F σ H ρ st _ _ E e1 p
theorem sim_cb {r : List V → Hp → VK → Prop} {f : List D → Option W} (o : OpN K r f) (ha : SimA K WW tr mr) : SimE K WW (tCB r tr) (mCB f mr) := fun F σ H ρ st x Q E e p => by
  rcases bindR_some e with ⟨ws, ρ1, e1, e⟩ | ⟨C, fs, ρ1, e1, rfl⟩
  · refine ha F σ H ρ st _ _ E e1 fun vs H1 hl E1 => ?_
    cases h1 : derefs ρ1 ws with
    | none => rw [h1] at e; cases e
    | some ds =>
      rw [h1] at e
      dsimp only [Option.bind_some] at e
      cases h3 : f ds with
      | none => rw [h3] at e; cases e
      | some w =>
        rw [h3] at e
        cases e
        exact o _ H1 vs ds w Q (fun q hq => av_new E1 hq) (E1.nears hl (fun x hx => List.mem_append.mpr (.inl hx)) h1) h3 fun v H' ex nw => p v H' (EnvR.land (l := vs.zip ws) E1 ex nw)
  · exact ha F σ H ρ st _ _ E e1 p
theorem sim_lst (ha : SimA K WW tr mr) : SimE K WW (tLst tr) (mLst mr) := fun F σ H ρ st x Q E e p => by
  rcases bindR_some e with ⟨ws, ρ1, e1, e⟩ | ⟨C, fs, ρ1, e1, rfl⟩
  · refine ha F σ H ρ st _ _ E e1 fun vs H1 hl E1 => ?_
    cases h1 : fzs ws ρ1 with
    | none => rw [h1] at e; cases e
    | some x =>
      rw [h1] at e
      obtain ⟨ds, ρ2⟩ := x
      dsimp only [Option.bind_some] at e
      split at e
      · rename_i h3
        cases e
        obtain ⟨l2, E2⟩ := E1.fzs hl h1
        have l3 : vs.length = ds.length := by omega
        refine ⟨sz_le (by omega), fun q hq => p _ _ ?_⟩
        have ra := E2.repA l3 fun x hx => List.mem_append.mpr (.inl hx)
        exact EnvR.land (l := vs.zip (ds.map W.cl)) E2 (Ex.new hq) (Nw.new hq ra)
      · cases e
  · exact ha F σ H ρ st _ _ E e1 p
theorem sim_tup (ha : SimA K WW tr mr) : SimE K WW (tTup tr) (mTup mr) := fun F σ H ρ st x Q E e p => by
  rcases bindR_some e with ⟨ws, ρ1, e1, e⟩ | ⟨C, fs, ρ1, e1, rfl⟩
  · refine ha F σ H ρ st _ _ E e1 fun vs H1 hl E1 => ?_
    cases h1 : fzs ws ρ1 with
    | none => rw [h1] at e; cases e
    | some x =>
      rw [h1] at e
      obtain ⟨ds, ρ2⟩ := x
      dsimp only [Option.bind_some] at e
      split at e
      · rename_i h3
        cases e
        obtain ⟨l2, E2⟩ := E1.fzs hl h1
        have l3 : vs.length = ds.length := by omega
        refine ⟨sz_le (by omega), fun q hq => p _ _ ?_⟩
        have ra := E2.repA l3 fun x hx => List.mem_append.mpr (.inl hx)
        exact EnvR.land (l := vs.zip (ds.map W.cl)) E2 (Ex.new hq) (Nw.tup hq (av_new E2 hq) ra)
      · cases e
  · exact ha F σ H ρ st _ _ E e1 p
theorem rep_bl {M : List Addr} {H : Hp} {v : V} {b : Bool} (h : Rep M K H v (.bl b)) : v = .bl b := by cases h; rfl
theorem rep_int {M : List Addr} {H : Hp} {v : V} {b : Int} (h : Rep M K H v (.int b)) : v = .int b := by cases h; rfl
theorem rep_str {M : List Addr} {H : Hp} {v : V} {b : Str} (h : Rep M K H v (.str b)) : v = .str b := by cases h; rfl
theorem rep_non {M : List Addr} {H : Hp} {v : V} (h : Rep M K H v .non) : v = .non := by cases h; rfl
theorem sim_bB (ha : SimE K WW ta ma) : ∀ (F : Fm) (σ : L2.St) (H : Hp) (ρ : List Sl) (st : List (V × W)) (r : R Bool) (Q : VK), EnvR K F σ H ρ st → mTest ma ρ = some r → PostT K F WW σ st (fun b H => Q (.bl b) H) r → ta σ H Q := fun F σ H ρ st x Q E e p => by
  rcases bindR_some e with ⟨w1, ρ1, e1, e⟩ | ⟨C, fs, ρ1, e1, rfl⟩
  · refine ha F σ H ρ st _ _ E e1 fun v1 H1 E1 => ?_
    cases h1 : deref ρ1 w1 with
    | none => rw [h1] at e; cases e
    | some d1 =>
      rw [h1] at e
      dsimp only [Option.map_some] at e
      have nr := (E1.near (List.mem_cons_self ..) h1).u.rep0
      split at e
      · rename_i b hb
        rw [Option.some.inj hb] at nr
        cases rep_bl nr
        cases e
        exact p H1 E1.pop
      · cases e
  · exact ha F σ H ρ st _ _ E e1 p
theorem sim_test (ha : SimE K WW ta ma) : SimT K WW (tTest ta) (mTest ma) := fun F σ H ρ st x Q E e p =>
  sim_bB ha F σ H ρ st x (fun v H' => ∃ k, v = .bl k ∧ Q k H') E e (by
    cases x with
    | ok b ρ' => exact fun H E => ⟨b, rfl, p H E⟩
    | ex C fs ρ' => exact p)
theorem sim_notV (ha : SimE K WW ta ma) : SimE K WW (tNotV ta) (mNotV ma) := fun F σ H ρ st x Q E e p => by
  rcases bindR_some e with ⟨b, ρ1, e1, e⟩ | ⟨C, fs, ρ1, e1, rfl⟩
  · refine sim_bB ha F σ H ρ st _ (fun v H' => ∃ k, v = .bl k ∧ Q (.bl (!k)) H') E e1 fun H1 E1 => ?_
    cases e
    exact ⟨b, rfl, p _ _ (E1.pushC (.bl _))⟩
  · exact sim_bB ha F σ H ρ st _ _ E e1 p
theorem sim_andV (ha : SimE K WW ta ma) (hb : SimE K WW tb mb) : SimE K WW (tAndV ta tb) (mAndV ma mb) := fun F σ H ρ st x Q E e p => by
  rcases bindR_some e with ⟨b, ρ1, e1, e⟩ | ⟨C, fs, ρ1, e1, rfl⟩
  · refine sim_bB ha F σ H ρ st _ (fun v H' => ∃ k, v = .bl k ∧ if k = true then tb σ H' Q else Q (.bl false) H') E e1 fun H1 E1 => ⟨b, rfl, ?_⟩
    by_cases hk : b = true
    · rw [if_pos hk] at e ⊢
      exact hb F σ H1 ρ1 st x Q E1 e p
    · rw [if_neg hk] at e ⊢
      cases e
      exact p _ _ (E1.pushC (.bl _))
  · exact sim_bB ha F σ H ρ st _ _ E e1 p
theorem sim_orV (ha : SimE K WW ta ma) (hb : SimE K WW tb mb) : SimE K WW (tOrV ta tb) (mOrV ma mb) := fun F σ H ρ st x Q E e p => by
  rcases bindR_some e with ⟨b, ρ1, e1, e⟩ | ⟨C, fs, ρ1, e1, rfl⟩
  · refine sim_bB ha F σ H ρ st _ (fun v H' => ∃ k, v = .bl k ∧ if k = true then Q (.bl true) H' else tb σ H' Q) E e1 fun H1 E1 => ⟨b, rfl, ?_⟩
    by_cases hk : b = true
    · rw [if_pos hk] at e ⊢
      cases e
      exact p _ _ (E1.pushC (.bl _))
    · rw [if_neg hk] at e ⊢
      exact hb F σ H1 ρ1 st x Q E1 e p
  · exact sim_bB ha F σ H ρ st _ _ E e1 p
theorem sim_if (hc : SimT K WW tt mt) (ha : SimE K WW ta ma) (hb : SimE K WW tb mb) : SimE K WW (tIf tt ta tb) (mIf mt ma mb) := fun F σ H ρ st x Q E e p => by
  rcases bindR_some e with ⟨b, ρ1, e1, e⟩ | ⟨C, fs, ρ1, e1, rfl⟩
  · refine hc F σ H ρ st _ _ E e1 fun H1 E1 => ?_
    by_cases hk : b = true
    · rw [if_pos hk] at e ⊢
      exact ha F σ H1 ρ1 st x Q E1 e p
    · rw [if_neg hk] at e ⊢
      exact hb F σ H1 ρ1 st x Q E1 e p
  · exact hc F σ H ρ st _ _ E e1 p
theorem sim_and (hc : SimT K WW tt mt) (hd : SimT K WW tu mu) : SimT K WW (tAnd tt tu) (mAnd mt mu) := fun F σ H ρ st x Q E e p => by
  rcases bindR_some e with ⟨b, ρ1, e1, e⟩ | ⟨C, fs, ρ1, e1, rfl⟩
  · refine hc F σ H ρ st _ _ E e1 fun H1 E1 => ?_
    by_cases hk : b = true
    · rw [if_pos hk] at e ⊢
      exact hd F σ H1 ρ1 st x Q E1 e p
    · rw [if_neg hk] at e ⊢
      cases e
      exact p H1 E1
  · exact hc F σ H ρ st _ _ E e1 p
theorem sim_or (hc : SimT K WW tt mt) (hd : SimT K WW tu mu) : SimT K WW (tOr tt tu) (mOr mt mu) := fun F σ H ρ st x Q E e p => by
  rcases bindR_some e with ⟨b, ρ1, e1, e⟩ | ⟨C, fs, ρ1, e1, rfl⟩
  · refine hc F σ H ρ st _ _ E e1 fun H1 E1 => ?_
    by_cases hk : b = true
    · rw [if_pos hk] at e ⊢
      cases e
      exact p H1 E1
    · rw [if_neg hk] at e ⊢
      exact hd F σ H1 ρ1 st x Q E1 e p
  · exact hc F σ H ρ st _ _ E e1 p
theorem sim_not (hc : SimT K WW tt mt) : SimT K WW (tNot tt) (mNot mt) := fun F σ H ρ st x Q E e p => by
  rcases bindR_some e with ⟨b, ρ1, e1, e⟩ | ⟨C, fs, ρ1, e1, rfl⟩
  · refine hc F σ H ρ st _ _ E e1 fun H1 E1 => ?_
    cases e
    exact p H1 E1
  · exact hc F σ H ρ st _ _ E e1 p
theorem sim_yes : SimT K WW tYes mYes := fun F σ H ρ st x Q E e p => by
  cases e
  exact p H E
theorem tru_of {M : List Addr} {H : Hp} {v : V} {d : D} {b : Bool} (r : Rep M K H v d) (e : dTru d = some b) : TruV K v H b := by
  cases r with
  | non => cases e; rfl
  | bl c => cases e; rfl
  | int i => cases e; rfl
  | str z =>
    have e : (if z.length ≤ 100000 then some ((z.length : Int) != 0) else none) = some b := e
    by_cases hz : z.length ≤ 100000
    · rw [if_pos hz] at e
      cases e
      exact ⟨sz_le hz, rfl⟩
    · rw [if_neg hz] at e
      cases e
  | lst h a =>
    cases e
    refine .inl ⟨_, .inl (.inl h.at_), ?_⟩
    cases a <;> rfl
  | scr h => cases e
  | tup h a =>
    cases e
    refine .inr (.inl ⟨_, h.sq, ?_⟩)
    cases a <;> rfl
  | @dK a kvs ds h n _ =>
    cases e
    refine .inr (.inr ⟨_, h.at_, ?_⟩)
    cases kvs with
    | nil => cases ds with
      | nil => rfl
      | cons _ _ => cases n
    | cons _ _ => cases ds with
      | nil => cases n
      | cons _ _ => rfl
  | ty n => cases e
  | glo x => cases e
  | rng h => cases e
  | ins h n a => cases e
  | exc h h2 n a => cases e
  | tg h => cases e
  | bo h h2 => cases e
theorem sim_tru (ha : SimE K WW ta ma) : SimT K WW (tTruK K ta) (mTru ma) := fun F σ H ρ st x Q E e p => by
  rcases bindR_some e with ⟨w1, ρ1, e1, e⟩ | ⟨C, fs, ρ1, e1, rfl⟩
  · refine ha F σ H ρ st _ _ E e1 fun v1 H1 E1 => ?_
    cases h1 : deref ρ1 w1 with
    | none => rw [h1] at e; cases e
    | some d1 =>
      rw [h1] at e
      dsimp only [Option.bind_some] at e
      cases h2 : dTru d1.u with
      | none => rw [h2] at e; cases e
      | some b =>
        rw [h2] at e
        cases e
        exact ⟨b, tru_of (E1.near (List.mem_cons_self ..) h1).u.rep0 h2, p H1 E1.pop⟩
  · exact ha F σ H ρ st _ _ E e1 p
end
end PM

/-! PM4: the plain reading of statements. -/
namespace PM
open PySem PySem.Spec PyProof.Rows L2 SL

inductive Out where
  | nx (ρ : List Sl) | rt (w : W) (ρ : List Sl) | bk (ρ : List Sl) | ct (ρ : List Sl) | ex (C : Str) (fs : List (Str × D)) (ρ : List Sl)
abbrev MS := List Sl → Option Out
def PostS (K : PySem.W.Frag) (F : Fm) (WW : WX) (st : List (V × W)) (D : Ends) : Out → Prop
  | .nx ρ => ∀ σ H, EnvR K F σ H ρ st → D.nx σ H
  | .rt w ρ => ∀ σ v H, EnvR K F σ H ρ ((v, w) :: st) → D.rt v H
  | .bk ρ => ∀ σ H, EnvR K F σ H ρ st → D.bk σ H
  | .ct ρ => ∀ σ H, EnvR K F σ H ρ st → D.ct σ H
  | .ex C fs ρ => ExR K F WW st C fs ρ
def SimS (K : PySem.W.Frag) (WW : WX) (t : TS) (m : MS) : Prop := ∀ (F : Fm) (σ : L2.St) (H : Hp) (ρ : List Sl) (st : List (V × W)) (o : Out) (D : Ends), EnvR K F σ H ρ st → noAl st → m ρ = some o → PostS K F WW st D o → t D σ H
/-- an expression's run, then what follows; what it raises goes on -/
def bindS {α : Type} (x : Option (R α)) (f : α → List Sl → Option Out) : Option Out := match x with
  | some (.ok a ρ) => f a ρ
  | some (.ex C fs ρ) => some (.ex C fs ρ)
  | none => none
theorem bindS_some {α : Type} {x : Option (R α)} {f : α → List Sl → Option Out} {r : Out} (h : bindS x f = some r) : (∃ a ρ, x = some (.ok a ρ) ∧ f a ρ = some r) ∨ ∃ C fs ρ, x = some (.ex C fs ρ) ∧ r = .ex C fs ρ := by
  match x, h with
  | some (.ok a ρ), h => exact .inl ⟨a, ρ, rfl, h⟩
  | some (.ex C fs ρ), h => exact .inr ⟨C, fs, ρ, rfl, (Option.some.inj h).symm⟩
/-- a target -/
abbrev Tg := W → List Sl → Option (List Sl)
def noAlI (tg : List Nat) (st : List (V × W)) : Prop := ∀ i ∈ tg, ∀ v, (v, W.al i) ∉ st
def SimG (K : PySem.W.Frag) (tg : List Nat) (g : TG) (m : Tg) : Prop := ∀ (F : Fm) (σ : L2.St) (H : Hp) (ρ ρ' : List Sl) (st : List (V × W)) (v : V) (w : W) (Q : L2.St → Hp → Prop), EnvR K F σ H ρ ((v, w) :: st) → noAlI tg st → m w ρ = some ρ' →
  (∀ σ' H', EnvR K F σ' H' ρ' st → Q σ' H') → g v σ H Q
def setF (i : Nat) (s : Sl) (ρ : List Sl) : Option (List Sl) := match ρ[i]? with
  | some t => if free t = true then some (ρ.set i s) else none
  | none => none
def gSet (i : Nat) : Tg := fun w ρ => match w with
  | .fr ds => setF i (.ow ds) ρ
  | w => (fz w ρ).bind fun x => setF i (.cl x.1) x.2
section
variable {K : PySem.W.Frag} {F : Fm} {M : List Addr} {H H' : Hp} {σ : L2.St} {ρ ρ' : List Sl} {st l : List (V × W)} {v : V} {w : W} {d : D} {ds : List D} {vs : List V} {ws : List W} {i j : Nat} {s : Sl}
theorem setF_some (h : setF i s ρ = some ρ') : ∃ t, ρ[i]? = some t ∧ free t = true ∧ ρ' = ρ.set i s := by
  unfold setF at h
  split at h
  · rename_i t ht
    split at h
    · exact ⟨t, ht, ‹_›, (Option.some.inj h).symm⟩
    · cases h
  · cases h
theorem EnvR.setF_C (E : EnvR K F σ H ρ ((v, .cl d) :: st)) (h : setF i (.cl d) ρ = some ρ') (ha : ∀ v, (v, W.al i) ∉ st) : EnvR K F (σ.set i (some v)) H ρ' st := by
  obtain ⟨t, h1, h2, rfl⟩ := setF_some h
  exact E.setC h1 h2 ha
theorem EnvR.setF_N (E : EnvR K F σ H ρ ((v, .fr ds) :: st)) (h : setF i (.ow ds) ρ = some ρ') (ha : ∀ v, (v, W.al i) ∉ st) : EnvR K F (σ.set i (some v)) H ρ' st := by
  obtain ⟨t, h1, h2, rfl⟩ := setF_some h
  exact E.setN h1 h2 ha
theorem EnvR.gset (E : EnvR K F σ H ρ ((v, w) :: st)) (ha : ∀ v, (v, W.al i) ∉ st) (h : gSet i w ρ = some ρ') : EnvR K F (σ.set i (some v)) H ρ' st := by
  have other : ((PM.fz w ρ).bind fun x => setF i (.cl x.1) x.2) = some ρ' → EnvR K F (σ.set i (some v)) H ρ' st := fun h => by
    cases h1 : PM.fz w ρ with
    | none => rw [h1] at h; cases h
    | some x =>
      rw [h1] at h
      exact (EnvR.fz E h1).setF_C h ha
  cases w with
  | fr ds => exact E.setF_N h ha
  | cl d => exact other h
  | al i => exact other h
  | hl i d => exact other h
  | hp i => exact other h
theorem sim_gname : SimG K [i] (gName i) (gSet i) := fun F σ H ρ ρ' st v w Q E ha h q => q _ _ (E.gset (ha i (List.mem_singleton.mpr rfl)) h)
end
/-! ### targets in a tuple -/
def gsNil : List D → List Sl → Option (List Sl)
  | [], ρ => some ρ
  | _, _ => none
def gsCons (g : Tg) (gs : List D → List Sl → Option (List Sl)) : List D → List Sl → Option (List Sl)
  | d :: ds, ρ => (g (.cl d) ρ).bind fun ρ => gs ds ρ
  | [], _ => none
def gTupM (n : Nat) (gs : List D → List Sl → Option (List Sl)) : Tg := fun w ρ => match w with
  | .cl d => match d.u with
    | .tup ds => if ds.length = n then gs ds ρ else none
    | _ => none
  | _ => none
def SimGs (K : PySem.W.Frag) (tg : List Nat) (g : TGs) (m : List D → List Sl → Option (List Sl)) : Prop := ∀ (F : Fm) (σ : L2.St) (H : Hp) (ρ ρ' : List Sl) (st : List (V × W)) (vs : List V) (ds : List D) (Q : L2.St → Hp → Prop), vs.length = ds.length → EnvR K F σ H ρ (vs.zip (ds.map W.cl) ++ st) → noAlI tg st → m ds ρ = some ρ' →
  (∀ σ' H', EnvR K F σ' H' ρ' st → Q σ' H') → g vs σ H Q
theorem noAl_cl {tg : List Nat} {st : List (V × W)} {vs : List V} {ds : List D} (h : noAlI tg st) : noAlI tg (vs.zip (ds.map W.cl) ++ st) := fun j hj v z => by
  rcases List.mem_append.mp z with z | z
  · have := (List.of_mem_zip z).2
    obtain ⟨d, _, e⟩ := List.mem_map.mp this
    cases e
  · exact h j hj v z
section
variable {K : PySem.W.Frag} {F : Fm} {g : TG} {gs : TGs} {m : Tg} {ms : List D → List Sl → Option (List Sl)} {n : Nat} {H : Hp} {σ : L2.St} {ρ : List Sl} {st : List (V × W)}
theorem sim_gnil : SimGs K [] gNil gsNil := fun F σ H ρ ρ' st vs ds Q hl E ha h q => by
  cases ds with
  | nil =>
    cases vs with
    | nil => cases h; exact ⟨rfl, q _ _ E⟩
    | cons _ _ => cases hl
  | cons _ _ => cases h
theorem sim_gcons {tg1 tg2 : List Nat} (hg : SimG K tg1 g m) (hs : SimGs K tg2 gs ms) : SimGs K (tg1 ++ tg2) (gCons g gs) (gsCons m ms) := fun F σ H ρ ρ' st vs ds Q hl E ha h q => by
  cases ds with
  | nil => cases h
  | cons d ds =>
    cases vs with
    | nil => cases hl
    | cons v vs =>
      have h : ((m (.cl d) ρ).bind fun ρ => ms ds ρ) = some ρ' := h
      cases h1 : m (.cl d) ρ with
      | none => rw [h1] at h; cases h
      | some ρ1 =>
        rw [h1] at h
        exact ⟨v, vs, rfl, hg F σ H ρ ρ1 _ v (.cl d) _ E (noAl_cl fun i hi => ha i (List.mem_append.mpr (.inl hi))) h1 fun σ1 H1 E1 => hs F σ1 H1 ρ1 ρ' st vs ds Q (by simpa using hl) E1 (fun i hi => ha i (List.mem_append.mpr (.inr hi))) h q⟩
/-- the items of a tuple that stays are held -/
theorem EnvR.pushAll : ∀ {vs : List V} {ds : List D}, EnvR K F σ H ρ st → RepA (F.A ++ roots σ ρ st) K H vs ds → EnvR K F σ H ρ (vs.zip (ds.map W.cl) ++ st)
  | _, _, E, .nil => E
  | _, _, E, .cons (v := v) (vs := vs) (d := d) (ds := ds) r a => by
    have E1 := EnvR.pushAll E a
    have er : roots σ ρ (vs.zip (ds.map W.cl) ++ st) = roots σ ρ st := by
      unfold roots
      rw [List.filterMap_append]
      have e0 : (vs.zip (ds.map W.cl)).filterMap rootW = [] := by
        rw [List.filterMap_eq_nil_iff]
        rintro ⟨v, w⟩ h
        obtain ⟨d, _, e⟩ := List.mem_map.mp (List.of_mem_zip h).2
        subst e
        exact rootW_cl
      rw [e0]
      rfl
    exact E1.pushC (by rw [er]; exact r)
theorem sim_gtup {tg : List Nat} (hs : SimGs K tg gs ms) : SimG K tg (gTup K n gs) (gTupM n ms) := fun F σ H ρ ρ' st v w Q E ha h q => by
  cases w with
  | cl d =>
    have h : (match d.u with
      | .tup ds => if ds.length = n then ms ds ρ else none
      | _ => none) = some ρ' := h
    have r := (E.rep (List.mem_cons_self ..)).u
    split at h
    · rename_i ds hd
      rw [hd] at r
      split at h
      · rename_i hn
        cases r with
        | tup a b =>
          refine ⟨_, _, rfl, a.sq, b.len.trans hn, hs F σ H ρ ρ' st _ ds Q b.len ?_ ha h q⟩
          exact (E.pop).pushAll (b.mono (av_st fun x hx => List.mem_cons_of_mem _ hx))
      · cases h
    · cases h
  | fr d => cases h
  | al i => cases h
  | hl i d => cases h
  | hp i => cases h
end

/-! ### statements -/
def sSeq (a b : MS) : MS := fun ρ => match a ρ with
  | some (.nx ρ') => b ρ'
  | x => x
def sNext : MS := fun ρ => some (.nx ρ)
def sAsg (e : Mo W) (g : Tg) : MS := fun ρ => bindS (e ρ) fun w ρ => (g w ρ).map .nx
def sRet (e : Mo W) : MS := fun ρ => bindS (e ρ) fun w ρ => some (.rt w ρ)
def sRetN : MS := fun ρ => some (.rt (.cl .non) ρ)
def sIf (c : Mo Bool) (a b : MS) : MS := fun ρ => bindS (c ρ) fun k ρ => if k = true then a ρ else b ρ
def sDrop (e : Mo W) : MS := fun ρ => bindS (e ρ) fun _ ρ => some (.nx ρ)
def sBrk : MS := fun ρ => some (.bk ρ)
def sCnt : MS := fun ρ => some (.ct ρ)
def sAug (f : D → D → Option W) (i : Nat) (e : Mo W) : MS := fun ρ => bindS (mVar i ρ) fun x ρ => bindS (e ρ) fun y ρ => (deref ρ x).bind fun dx => (deref ρ y).bind fun dy => (f dx dy).bind fun w => (gSet i w ρ).map .nx
def sWhile (c : Mo Bool) (b : MS) : Nat → MS
  | 0, _ => none
  | n + 1, ρ => bindS (c ρ) fun k ρ => if k = true then (match b ρ with
    | some (.nx ρ') => sWhile c b n ρ'
    | some (.ct ρ') => sWhile c b n ρ'
    | some (.bk ρ') => some (.nx ρ')
    | x => x) else some (.nx ρ)
section
variable {K : PySem.W.Frag} {WW : WX} {te : TE} {me : Mo W} {t u : TS} {m m' : MS} {g : TG} {mg : Tg} {tt : TT} {mt : Mo Bool} {tr : TA} {mr : Mo (List W)} {i j : Nat}
theorem sim_seq (ha : SimS K WW t m) (hb : SimS K WW u m') : SimS K WW (tSeq t u) (sSeq m m') := fun F σ H ρ st o D E na e p => by
  unfold sSeq at e
  split at e
  · rename_i ρ1 h1
    exact ha F σ H ρ st _ _ E na h1 fun σ1 H1 E1 => hb F σ1 H1 ρ1 st o D E1 na e p
  · rename_i x hx
    refine ha F σ H ρ st o _ E na e ?_
    cases o with
    | nx ρ1 => exact absurd e (fun z => hx ρ1 z)
    | rt w ρ1 => exact p
    | bk ρ1 => exact p
    | ct ρ1 => exact p
    | ex C fs ρ1 => exact p
theorem sim_next : SimS K WW tNext sNext := fun F σ H ρ st o D E na e p => by
  cases e
  exact p _ _ E
theorem sim_asg {tg : List Nat} (he : SimE K WW te me) (hg : SimG K tg g mg) : SimS K WW (tAsg te g) (sAsg me mg) := fun F σ H ρ st o D E na e p => by
  rcases bindS_some e with ⟨w1, ρ1, e1, e⟩ | ⟨C, fs, ρ1, e1, rfl⟩
  · refine he F σ H ρ st _ _ E e1 fun v1 H1 E1 => ?_
    cases h : mg w1 ρ1 with
    | none => rw [h] at e; cases e
    | some ρ2 =>
      rw [h] at e
      cases e
      exact hg F σ H1 ρ1 ρ2 st v1 w1 _ E1 (fun i _ v => na v i) h p
  · exact he F σ H ρ st _ _ E e1 p
theorem sim_ret (he : SimE K WW te me) : SimS K WW (tRet te) (sRet me) := fun F σ H ρ st o D E na e p => by
  rcases bindS_some e with ⟨w1, ρ1, e1, e⟩ | ⟨C, fs, ρ1, e1, rfl⟩
  · refine he F σ H ρ st _ _ E e1 fun v1 H1 E1 => ?_
    cases e
    exact p _ _ _ E1
  · exact he F σ H ρ st _ _ E e1 p
theorem sim_retN : SimS K WW tRetN sRetN := fun F σ H ρ st o D E na e p => by
  cases e
  exact p σ _ _ (E.pushC .non)
theorem sim_ifs (hc : SimT K WW tt mt) (ha : SimS K WW t m) (hb : SimS K WW u m') : SimS K WW (tIfS tt t u) (sIf mt m m') := fun F σ H ρ st o D E na e p => by
  rcases bindS_some e with ⟨b, ρ1, e1, e⟩ | ⟨C, fs, ρ1, e1, rfl⟩
  · refine hc F σ H ρ st _ _ E e1 fun H1 E1 => ?_
    by_cases hk : b = true
    · rw [if_pos hk] at e ⊢
      exact ha F σ H1 ρ1 st o D E1 na e p
    · rw [if_neg hk] at e ⊢
      exact hb F σ H1 ρ1 st o D E1 na e p
  · exact hc F σ H ρ st _ _ E e1 p
theorem sim_drop (he : SimE K WW te me) : SimS K WW (tDrop te) (sDrop me) := fun F σ H ρ st o D E na e p => by
  rcases bindS_some e with ⟨w1, ρ1, e1, e⟩ | ⟨C, fs, ρ1, e1, rfl⟩
  · refine he F σ H ρ st _ _ E e1 fun v1 H1 E1 => ?_
    cases e
    exact p _ _ E1.pop
  · exact he F σ H ρ st _ _ E e1 p
theorem EnvR.noAl_of {F : Fm} {σ : L2.St} {H : Hp} {ρ : List Sl} {v : V} {w : W} {st : List (V × W)} (h : noAl st) (hw : ∀ i, w ≠ .al i) : noAl ((v, w) :: st) := fun v' j z => by
  rcases List.mem_cons.mp z with z | z
  · cases z
    exact hw _ rfl
  · exact h _ _ z
theorem sim_aug {ti : TIp} {f : D → D → Option W} (o : Op2 K ti f) (he : SimE K WW te me) : SimS K WW (tAug i te ti) (sAug f i me) := fun F σ H ρ st x D E na e p => by
  rcases bindS_some e with ⟨w1, ρ1, e1, e3⟩ | ⟨C, fs, ρ1, e1, rfl⟩
  · obtain ⟨v1, hv, E1, rfl⟩ : ∃ v1, σ[i]? = some (some v1) ∧ EnvR K F σ H ρ1 ((v1, w1) :: st) ∧ ρ1 = ρ := by
      have q := sim_var (K := K) (WW := WW) (i := i) F σ H ρ st _ (fun v H' => H' = H → ∃ v1, σ[i]? = some (some v1) ∧ EnvR K F σ H ρ1 ((v1, w1) :: st) ∧ ρ1 = ρ) E e1
      have hr : ρ1 = ρ := by
        unfold mVar at e1
        split at e1
        all_goals first
          | (cases e1; rfl)
          | cases e1
      have q2 := sim_var (K := K) (WW := WW) (i := i) F σ H ρ st _ (fun v H' => EnvR K F σ H' ρ1 ((v, w1) :: st)) E e1 (fun v H' E' => E')
      obtain ⟨v, hv, q3⟩ := q2
      exact ⟨v, hv, q3, hr⟩
    refine ⟨v1, hv, ?_⟩
    clear e
    have e := e3
    clear e3
    rcases bindS_some e with ⟨w2, ρ2, e2, e⟩ | ⟨C, fs, ρ2, e2, rfl⟩
    · refine he F σ H ρ1 _ _ _ E1 e2 fun v2 H2 E2 => ?_
      cases h1 : deref ρ2 w1 with
      | none => rw [h1] at e; cases e
      | some d1 =>
        rw [h1] at e
        dsimp only [Option.bind_some] at e
        cases h2 : deref ρ2 w2 with
        | none => rw [h2] at e; cases e
        | some d2 =>
          rw [h2] at e
          dsimp only [Option.bind_some] at e
          cases h3 : f d1 d2 with
          | none => rw [h3] at e; cases e
          | some w =>
            rw [h3] at e
            dsimp only [Option.bind_some] at e
            cases h4 : gSet i w ρ2 with
            | none => rw [h4] at e; cases e
            | some ρ3 =>
              rw [h4] at e
              cases e
              exact o _ H2 v1 v2 d1 d2 w _ (fun q hq => av_new E2 hq) (E2.near (List.mem_cons_of_mem _ (List.mem_cons_self ..)) h1) (E2.near (List.mem_cons_self ..) h2) h3
                fun v H' ex nw => p _ _ ((EnvR.land (l := [(v2, w2), (v1, w1)]) E2 ex nw).gset (fun v => na v i) h4)
    · exact he F σ H ρ1 _ _ _ E1 e2 (ExR.up p)
  · unfold mVar at e1
    split at e1 <;> cases e1
theorem sim_while (hc : SimT K WW tt mt) (hb : SimS K WW t m) (n : Nat) : SimS K WW (tWhile tt t) (sWhile mt m n) := fun F σ H ρ st o D E na e p => by
  refine ⟨fun k σ H => ∃ ρ, EnvR K F σ H ρ st ∧ sWhile mt m k ρ = some o, ⟨n, ρ, E, e⟩, ?_⟩
  rintro k σ H ⟨ρ, E, e⟩
  cases k with
  | zero => cases e
  | succ k =>
    rcases bindS_some e with ⟨b, ρ1, e1, e⟩ | ⟨C, fs, ρ1, e1, rfl⟩
    · refine hc F σ H ρ st _ _ E e1 fun H1 E1 => ?_
      by_cases hk : b = true
      · rw [if_pos hk] at e ⊢
        refine ⟨fun σ' H' => ∃ ρ, EnvR K F σ' H' ρ st ∧ sWhile mt m k ρ = some o, fun σ' H' q => ⟨k, Nat.lt_succ_self _, q⟩, ?_⟩
        split at e
        · rename_i ρ2 h2
          exact hb F σ H1 ρ1 st _ _ E1 na h2 fun σ' H' E' => ⟨ρ2, E', e⟩
        · rename_i ρ2 h2
          exact hb F σ H1 ρ1 st _ _ E1 na h2 fun σ' H' E' => ⟨ρ2, E', e⟩
        · rename_i ρ2 h2
          cases e
          exact hb F σ H1 ρ1 st _ _ E1 na h2 fun σ' H' E' => p _ _ E'
        · rename_i x y1 y2 y3
          refine hb F σ H1 ρ1 st o _ E1 na e ?_
          cases o with
          | nx ρ2 => exact absurd e (y1 ρ2)
          | bk ρ2 => exact absurd e (y3 ρ2)
          | ct ρ2 => exact absurd e (y2 ρ2)
          | rt w ρ2 => exact p
          | ex C fs ρ2 => exact p
      · rw [if_neg hk] at e ⊢
        cases e
        exact p _ _ E1
    · exact hc F σ H ρ st _ _ E e1 p
end
end PM

/-! PM5: loops, comprehensions, lists that change. -/
namespace PM
open PySem PySem.Spec PyProof.Rows L2 SL

section
variable {K : PySem.W.Frag} {F : Fm} {M : List Addr} {H H' : Hp} {p : Addr} {σ : L2.St} {ρ ρ' : List Sl} {st l : List (V × W)} {v : V} {w w' : W} {d : D} {ds es : List D} {vs : List V} {ws : List W} {i j : Nat} {s s' : Sl}
theorem EnvR.rekind (E : EnvR K F σ H ρ st) (h2 : ρ[i]? = some s) (hr : ∀ o, rootS (o, s') = rootS (o, s)) (hl : ∀ M o, SlR F M K H o s → SlR F M K H o s') (hu : s' ≠ .un) (n1 : ∀ v ds, (v, W.hl i ds) ∉ st) (n2 : ∀ v, (v, W.hp i) ∉ st) : EnvR K F σ H (ρ.set i s') st := by
  obtain ⟨o, h1, q⟩ := slot_at E h2
  obtain ⟨l1, l2, e1, e2⟩ := fm_set rootS (zip_get h1 h2)
  have hz : σ.zip (ρ.set i s') = (σ.zip ρ).set i (o, s') := by
    have : σ = σ.set i o := (set_self h1).symm
    rw [this, zip_set, ← this]
  have er : roots σ (ρ.set i s') st = roots σ ρ st := by
    unfold roots
    rw [hz, e1, e2, hr]
  refine ⟨E.ok, by rw [List.length_set]; exact E.len, E.ex, E.tr, by rw [er]; exact E.nd, fun j oj sj g1 g2 => ?_, fun x hx => ?_⟩
  · rw [er]
    by_cases hj : i = j
    · subst hj
      rw [List.getElem?_set_self (List.getElem?_eq_some_iff.mp h2).1] at g2
      cases g2
      rw [h1] at g1
      cases g1
      exact hl _ _ q
    · rw [List.getElem?_set_ne hj] at g2
      exact E.sl j oj sj g1 g2
  · rw [er]
    have q := E.wv x hx
    obtain ⟨v, w⟩ := x
    dsimp only at q ⊢
    cases w with
    | cl d => cases q with | cl r => exact .cl r
    | fr d =>
      generalize F.A ++ roots σ ρ st = M at q
      cases q with | fr n a b => exact .fr n a b
    | al j =>
      cases q with
      | al e e2 e3 =>
        by_cases hj : i = j
        · subst hj
          exact .al e (List.getElem?_set_self (List.getElem?_eq_some_iff.mp h2).1) hu
        · exact .al e (by rw [List.getElem?_set_ne hj]; exact e2) e3
    | hl j d =>
      have hj : i ≠ j := fun z => by
        subst z
        exact n1 _ _ hx
      cases q with | hl e e2 => exact .hl e (by rw [List.getElem?_set_ne hj]; exact e2)
    | hp j =>
      have hj : i ≠ j := fun z => by
        subst z
        exact n2 _ hx
      cases q with | hp e e2 => exact .hp e (by rw [List.getElem?_set_ne hj]; exact e2)
theorem EnvR.no_hl (E : EnvR K F σ H ρ st) (h2 : ρ[i]? = some s) (h : (∀ ds, s ≠ .lk ds) ∧ ∀ d, s ≠ .dt d) : ∀ v ds, (v, W.hl i ds) ∉ st := fun v ds z => by
  have q := E.wv _ z
  dsimp only at q
  cases q with
  | hl _ e =>
    rw [h2] at e
    rcases e with e | e
    · exact h.1 _ (Option.some.inj e)
    · exact h.2 _ (Option.some.inj e)
theorem EnvR.no_hp (E : EnvR K F σ H ρ st) (h2 : ρ[i]? = some s) (h : ∀ d, s ≠ .io d) : ∀ v, (v, W.hp i) ∉ st := fun v z => by
  have q := E.wv _ z
  dsimp only at q
  cases q with
  | hp _ e =>
    rw [h2] at e
    exact h _ (Option.some.inj e)

/-! ### what is walked is held, its slot locked -/
def lockAl (i : Nat) (ρ : List Sl) : Option (W × Option Nat × List Sl) := match ρ[i]? with
  | some (.cl d) => some (.cl d, none, ρ)
  | some (.ow ds) => some (.hl i ds, some i, ρ.set i (.lk ds))
  | some (.lk ds) => some (.hl i ds, none, ρ)
  | some (.dt (.lst ds)) => some (.hl i ds, none, ρ)
  | _ => none
def lockW : W → List Sl → Option (W × Option Nat × List Sl)
  | .cl d, ρ => some (.cl d, none, ρ)
  | .fr ds, ρ => some (.fr ds, none, ρ)
  | .al i, ρ => lockAl i ρ
  | _, _ => none
def unl : Option Nat → List Sl → Option (List Sl)
  | none, ρ => some ρ
  | some i, ρ => match ρ[i]? with
    | some (.lk ds) => some (ρ.set i (.ow ds))
    | _ => none
def wD : W → Option D
  | .cl d => some d
  | .fr ds => some (.lst ds)
  | .hl _ ds => some (.lst ds)
  | _ => none
theorem av_eq (h : st.filterMap rootW = l.filterMap rootW) : roots σ ρ st = roots σ ρ l := by
  unfold roots
  rw [h]
theorem EnvR.lock {un : Option Nat} (E : EnvR K F σ H ρ ((v, w) :: st)) (h : lockW w ρ = some (w', un, ρ')) : EnvR K F σ H ρ' ((v, w') :: st) ∧ (∀ i, un = some i → ∀ v ds, (v, W.hl i ds) ∉ st) ∧ (∃ d, wD w' = some d) := by
  cases w with
  | cl d => cases h; exact ⟨E, (fun _ z => by cases z), _, rfl⟩
  | fr ds => cases h; exact ⟨E, (fun _ z => by cases z), _, rfl⟩
  | hl i d => cases h
  | hp i => cases h
  | al i =>
    have h : lockAl i ρ = some (w', un, ρ') := h
    have q := E.wv _ (List.mem_cons_self ..)
    dsimp only at q
    cases q with
    | al e _ _ =>
      unfold lockAl at h
      split at h
      · rename_i d hd
        obtain ⟨rfl, rfl, rfl⟩ : W.cl d = w' ∧ none = un ∧ ρ = ρ' := by
          injection h with h
          injection h with h1 h2
          injection h2 with h2 h3
          exact ⟨h1, h2, h3⟩
        exact ⟨EnvR.fz (w := .al i) E (by show fzAl i ρ = _; unfold fzAl; rw [hd]), (fun _ z => by cases z), _, rfl⟩
      · rename_i ds hd
        obtain ⟨rfl, rfl, rfl⟩ : W.hl i ds = w' ∧ some i = un ∧ ρ.set i (.lk ds) = ρ' := by
          injection h with h
          injection h with h1 h2
          injection h2 with h2 h3
          exact ⟨h1, h2, h3⟩
        have n1 := E.no_hl hd ⟨(fun _ z => by cases z), (fun _ z => by cases z)⟩
        have E1 : EnvR K F σ H (ρ.set i (.lk ds)) st := (E.pop).rekind hd (fun o => by cases o with
          | none => rfl
          | some v => cases v <;> rfl) (fun M o q => by
            cases q with
            | ow n a b => exact .lk n a b) (fun z => by cases z) (fun v ds z => n1 v ds (List.mem_cons_of_mem _ z)) (fun v z => E.no_hp hd (fun _ z => by cases z) v (List.mem_cons_of_mem _ z))
        refine ⟨E1.push rootW_hl (.hl e (.inl (List.getElem?_set_self (List.getElem?_eq_some_iff.mp hd).1))), fun j hj v ds z => ?_, _, rfl⟩
        cases hj
        exact n1 v ds (List.mem_cons_of_mem _ z)
      · rename_i ds hd
        obtain ⟨rfl, rfl, rfl⟩ : W.hl i ds = w' ∧ none = un ∧ ρ = ρ' := by
          injection h with h
          injection h with h1 h2
          injection h2 with h2 h3
          exact ⟨h1, h2, h3⟩
        exact ⟨E.pop.push rootW_hl (.hl e (.inl hd)), (fun _ z => by cases z), _, rfl⟩
      · rename_i ds hd
        obtain ⟨rfl, rfl, rfl⟩ : W.hl i ds = w' ∧ none = un ∧ ρ = ρ' := by
          injection h with h
          injection h with h1 h2
          injection h2 with h2 h3
          exact ⟨h1, h2, h3⟩
        exact ⟨E.pop.push rootW_hl (.hl e (.inr hd)), (fun _ z => by cases z), _, rfl⟩
      · cases h
theorem EnvR.unlock {un : Option Nat} (E : EnvR K F σ H ρ st) (n : ∀ i, un = some i → ∀ v ds, (v, W.hl i ds) ∉ st) (h : unl un ρ = some ρ') : EnvR K F σ H ρ' st := by
  cases un with
  | none => cases h; exact E
  | some i =>
    unfold unl at h
    dsimp only at h
    split at h
    · rename_i ds hd
      obtain rfl := Option.some.inj h
      exact E.rekind hd (fun o => by cases o with
          | none => rfl
          | some v => cases v <;> rfl) (fun M o q => by
            cases q with
            | lk n a b => exact .ow n a b) (fun z => by cases z) (n i rfl) (E.no_hp hd (fun _ z => by cases z))
    · cases h
theorem EnvR.nearW (E : EnvR K F σ H ρ ((v, w) :: st)) (h : wD w = some d) : Nr (F.A ++ roots σ ρ ((v, w) :: st)) K H v d := by
  have q := E.wv _ (List.mem_cons_self ..)
  dsimp only at q
  cases w with
  | cl d => cases h; cases q with | cl r => exact .cl r
  | fr ds =>
    cases h
    generalize F.A ++ roots σ ρ ((v, W.fr ds) :: st) = M at q
    cases q with | fr n a b => exact .own (.lst a b)
  | al i => cases h
  | hp i => cases h
  | hl i ds =>
    cases h
    cases q with
    | hl a b =>
      rcases b with b | b
      · exact sl_near (E.sl i _ _ a b) rfl
      · exact sl_near (E.sl i _ _ a b) rfl

/-! ### what is walked -/
structure ItM where
  ds : List D
  un : Option Nat
def IterOk (K : PySem.W.Frag) (F : Fm) (J : It) (ds : List D) (v : V) (w : W) : Prop := ∀ (σ : L2.St) (H : Hp) (ρ : List Sl) (st : List (V × W)), EnvR K F σ H ρ ((v, w) :: st) →
  (∀ i, i < ds.length → J.go i H) ∧ J.stop ds.length H ∧ ∀ i x H', i < ds.length → J.yld i H x H' → ∃ d, ds[i]? = some d ∧ EnvR K F σ H' ρ ((x, .cl d) :: (v, w) :: st)
def PostI (K : PySem.W.Frag) (F : Fm) (WW : WX) (σ : L2.St) (st : List (V × W)) (R' : It → Hp → Prop) : R ItM → Prop
  | .ok it ρ => it.ds.length ≤ 90000 → ∀ v w H J, EnvR K F σ H ρ ((v, w) :: st) → IterOk K F J it.ds v w → (∀ i, it.un = some i → ∀ v ds, (v, W.hl i ds) ∉ st) → (∀ i, w ≠ .al i) → R' J H
  | .ex C fs ρ => ExR K F WW st C fs ρ
def SimI (K : PySem.W.Frag) (WW : WX) (t : TI) (m : Mo ItM) : Prop := ∀ (F : Fm) (σ : L2.St) (H : Hp) (ρ : List Sl) (st : List (V × W)) (r : R ItM) (Q : It → Hp → Prop), EnvR K F σ H ρ st → m ρ = some r → PostI K F WW σ st Q r → t σ H Q
def itemsD : D → Option (List D)
  | .lst ds => some ds
  | .tup ds => some ds
  | .str z => some (z.cps.toList.map fun c => .str ⟨#[c]⟩)
  | _ => none
def mIU (e : Mo W) : Mo ItM := fun ρ => bindR (e ρ) fun w ρ => (lockW w ρ).bind fun x => (wD x.1).bind fun d => (itemsD d.u).bind fun ds => if ds.length ≤ 90000 then some (.ok ⟨ds, x.2.1⟩ x.2.2) else none
theorem nr_lst (h : Nr M K H v d) (e : d.u = .lst ds) : ∃ a xs, v = .ref a ∧ H a = some (.lst xs) ∧ RepA M K H xs ds := by
  have h := h.u
  rw [e] at h
  cases h with
  | cl r => cases r with | lst a b => exact ⟨_, _, rfl, a.at_, b⟩
  | own r => cases r with | lst a b => exact ⟨_, _, rfl, a, b⟩
theorem nr_tup (h : Nr M K H v d) (e : d.u = .tup ds) : ∃ a xs, v = .ref a ∧ SqT K H a xs ∧ RepA M K H xs ds := by
  have h := h.u
  rw [e] at h
  cases h with
  | cl r => cases r with | tup a b => exact ⟨_, _, rfl, a.sq, b⟩
  | own r => cases r
theorem nr_str {z : Str} (h : Nr M K H v d) (e : d.u = .str z) : v = .str z := by
  have h := h.u
  rw [e] at h
  exact rep_str h.rep0
theorem nr_int {z : Int} (h : Nr M K H v d) (e : d.u = .int z) : v = .int z := by
  have h := h.u
  rw [e] at h
  exact rep_int h.rep0
theorem nr_bl {z : Bool} (h : Nr M K H v d) (e : d.u = .bl z) : v = .bl z := by
  have h := h.u
  rw [e] at h
  exact rep_bl h.rep0
theorem nr_non (h : Nr M K H v d) (e : d.u = .non) : v = .non := by
  have h := h.u
  rw [e] at h
  exact rep_non h.rep0
theorem no_al {i : Nat} (hw : wD w = some d) : w ≠ .al i := fun z => by
  rw [z] at hw
  cases hw
theorem iter_list {a : Addr} (hw : wD w = some d) (e : d.u = .lst ds) : IterOk K F (Itl K a) ds (.ref a) w := fun σ H ρ st E => by
  obtain ⟨a', xs, ha, hsq, r⟩ := nr_lst (E.nearW hw) e
  cases ha
  have sq : SqL K H a xs := .inl (.inl hsq)
  refine ⟨fun i hi => ?_, ⟨xs, sq, by rw [r.len]; exact Nat.le_refl _⟩, fun i x H' hi y => ?_⟩
  · have hx : i < xs.length := by rw [r.len]; exact hi
    exact ⟨xs, xs[i], sq, List.getElem?_eq_getElem hx⟩
  · obtain ⟨rfl, y⟩ := y
    obtain ⟨d, h1, h2⟩ := r.getV (y xs sq)
    exact ⟨d, h1, E.pushC h2⟩
theorem iter_tup {a : Addr} (hw : wD w = some d) (e : d.u = .tup ds) : IterOk K F (Itt K a) ds (.ref a) w := fun σ H ρ st E => by
  obtain ⟨a', xs, ha, sq, r⟩ := nr_tup (E.nearW hw) e
  cases ha
  refine ⟨fun i hi => ?_, ⟨xs, sq, by rw [r.len]; exact Nat.le_refl _⟩, fun i x H' hi y => ?_⟩
  · have hx : i < xs.length := by rw [r.len]; exact hi
    exact ⟨xs, xs[i], sq, List.getElem?_eq_getElem hx⟩
  · obtain ⟨rfl, y⟩ := y
    obtain ⟨d, h1, h2⟩ := r.getV (y xs sq)
    exact ⟨d, h1, E.pushC h2⟩
theorem iter_str {z : Str} {v : V} : IterOk K F (Its z) (z.cps.toList.map fun c => D.str ⟨#[c]⟩) v w := fun σ H ρ st E => by
  have hl : (z.cps.toList.map fun c => D.str ⟨#[c]⟩).length = z.cps.size := by simp
  rw [hl]
  refine ⟨fun i hi => hi, Nat.le_refl _, fun i x H' hi y => ?_⟩
  obtain ⟨rfl, c, hc, rfl⟩ := y
  refine ⟨.str ⟨#[c]⟩, ?_, E.pushC (.str _)⟩
  rw [List.getElem?_map, Array.getElem?_toList, hc]
  rfl
theorem sim_iU {WW : WX} {te : TE} {me : Mo W} (he : SimE K WW te me) : SimI K WW (iU K te) (mIU me) := fun F σ H ρ st x Q E e p => by
  rcases bindR_some e with ⟨w1, ρ1, e1, e⟩ | ⟨C, fs, ρ1, e1, rfl⟩
  · cases h1 : lockW w1 ρ1 with
    | none => rw [h1] at e; cases e
    | some y =>
      obtain ⟨w', un, ρ2⟩ := y
      rw [h1] at e
      dsimp only [Option.bind_some] at e
      cases h2 : wD w' with
      | none => rw [h2] at e; cases e
      | some d =>
        rw [h2] at e
        dsimp only [Option.bind_some] at e
        cases h3 : itemsD d.u with
        | none => rw [h3] at e; cases e
        | some ds =>
          rw [h3] at e
          dsimp only [Option.bind_some] at e
          split at e
          · rename_i hl
            cases e
            cases hd : d.u with
            | lst es =>
              rw [hd] at h3
              cases h3
              refine .inl (he F σ H ρ st _ _ E e1 fun v1 H1 E1 => ?_)
              obtain ⟨E2, nh, _⟩ := E1.lock h1
              obtain ⟨a, xs, rfl, sq, r⟩ := nr_lst (E2.nearW h2) hd
              exact ⟨a, rfl, ⟨xs, .inl (.inl sq)⟩, p hl _ _ _ _ E2 (iter_list h2 hd) nh (fun i => no_al h2)⟩
            | tup es =>
              rw [hd] at h3
              cases h3
              refine .inr (.inl (he F σ H ρ st _ _ E e1 fun v1 H1 E1 => ?_))
              obtain ⟨E2, nh, _⟩ := E1.lock h1
              obtain ⟨a, xs, rfl, sq, r⟩ := nr_tup (E2.nearW h2) hd
              exact ⟨a, rfl, ⟨xs, sq⟩, p hl _ _ _ _ E2 (iter_tup h2 hd) nh (fun i => no_al h2)⟩
            | str z =>
              rw [hd] at h3
              cases h3
              refine .inr (.inr (he F σ H ρ st _ _ E e1 fun v1 H1 E1 => ?_))
              obtain ⟨E2, nh, _⟩ := E1.lock h1
              exact ⟨z, nr_str (E2.nearW h2) hd, p hl _ _ _ _ E2 iter_str nh (fun i => no_al h2)⟩
            | non => rw [hd] at h3; cases h3
            | bl b => rw [hd] at h3; cases h3
            | int b => rw [hd] at h3; cases h3
            | ty b => rw [hd] at h3; cases h3
            | bo b c d => rw [hd] at h3; cases h3
            | scr b => rw [hd] at h3; cases h3
            | glo b => rw [hd] at h3; cases h3
            | dK b => rw [hd] at h3; cases h3
            | rng b c => rw [hd] at h3; cases h3
            | ins b c => rw [hd] at h3; cases h3
            | exc b c => rw [hd] at h3; cases h3
            | tg b c => rw [hd] at h3; cases h3
          · cases e
  · exact .inl (he F σ H ρ st _ _ E e1 p)
def mRng1 (a : Mo (List W)) : Mo ItM := fun ρ => bindR (a ρ) fun ws ρ => (derefs ρ ws).bind fun ds => match ds.map D.u with
  | [.int n] => if n ≤ 90000 ∧ -1000000 ≤ n then some (.ok ⟨(List.range n.toNat).map fun i => .int (i : Nat), none⟩ ρ) else none
  | _ => none
def mRng2 (a : Mo (List W)) : Mo ItM := fun ρ => bindR (a ρ) fun ws ρ => (derefs ρ ws).bind fun ds => match ds.map D.u with
  | [.int m, .int n] => if n - m ≤ 90000 ∧ -1000000 ≤ n ∧ n ≤ 1000000 ∧ -1000000 ≤ m ∧ m ≤ 1000000 then some (.ok ⟨(List.range (n - m).toNat).map fun i => .int (m + (i : Nat)), none⟩ ρ) else none
  | _ => none
theorem iter_rng {lo : Int} {n : Nat} {f : Nat → D} (hf : ∀ i, f i = .int (lo + (i : Nat))) : IterOk K F (Itr lo n) ((List.range n).map f) .non (.cl .non) := fun σ H ρ st E => by
  have hl : ((List.range n).map f).length = n := by simp
  rw [hl]
  refine ⟨fun i hi => hi, Nat.le_refl _, fun i x H' hi y => ?_⟩
  obtain ⟨rfl, rfl⟩ := y
  exact ⟨.int (lo + (i : Nat)), by rw [List.getElem?_map, List.getElem?_range hi]; exact congrArg some (hf i), E.pushC (.int _)⟩
theorem nra_u : ∀ {vs : List V} {ds : List D}, NrA M K H vs ds → NrA M K H vs (ds.map D.u)
  | _, _, .nil => .nil
  | _, _, .cons h a => .cons h.u (nra_u a)
theorem nra1 {vs : List V} {d : D} (h : NrA M K H vs [d]) : ∃ v, vs = [v] ∧ Nr M K H v d := by
  cases h with | cons h a => cases a; exact ⟨_, rfl, h⟩
theorem nra2 {vs : List V} {d e : D} (h : NrA M K H vs [d, e]) : ∃ v w, vs = [v, w] ∧ Nr M K H v d ∧ Nr M K H w e := by
  cases h with
  | cons h a =>
    obtain ⟨w, rfl, b⟩ := nra1 a
    exact ⟨_, _, rfl, h, b⟩
theorem nra3 {vs : List V} {d e f : D} (h : NrA M K H vs [d, e, f]) : ∃ v w u, vs = [v, w, u] ∧ Nr M K H v d ∧ Nr M K H w e ∧ Nr M K H u f := by
  cases h with
  | cons h a =>
    obtain ⟨w, u, rfl, b, c⟩ := nra2 a
    exact ⟨_, _, _, rfl, h, b, c⟩
theorem sim_rng1 {WW : WX} {ta : TA} {ma : Mo (List W)} (ha : SimA K WW ta ma) : SimI K WW (iRng1 ta) (mRng1 ma) := fun F σ H ρ st x Q E e p => by
  rcases bindR_some e with ⟨ws, ρ1, e1, e⟩ | ⟨C, fs, ρ1, e1, rfl⟩
  · refine ha F σ H ρ st _ _ E e1 fun vs H1 hl E1 => ?_
    cases h1 : derefs ρ1 ws with
    | none => rw [h1] at e; cases e
    | some ds =>
      rw [h1] at e
      dsimp only [Option.bind_some] at e
      have nr := nra_u (E1.nears hl (fun x hx => List.mem_append.mpr (.inl hx)) h1)
      split at e
      · rename_i n hn
        rw [hn] at nr
        obtain ⟨v, rfl, r⟩ := nra1 nr
        cases nr_int r rfl
        split at e
        · rename_i hb
          cases e
          refine ⟨n, rfl, by omega, by omega, p ?_ .non (.cl .non) H1 _ (E1.popL.pushC .non) (iter_rng fun i => by simp) (fun _ z => by cases z) (fun _ z => by cases z)⟩
          show ((List.range n.toNat).map _).length ≤ 90000
          simp
          omega
        · cases e
      · cases e
  · exact ha F σ H ρ st _ _ E e1 p
theorem sim_rng2 {WW : WX} {ta : TA} {ma : Mo (List W)} (ha : SimA K WW ta ma) : SimI K WW (iRng2 ta) (mRng2 ma) := fun F σ H ρ st x Q E e p => by
  rcases bindR_some e with ⟨ws, ρ1, e1, e⟩ | ⟨C, fs, ρ1, e1, rfl⟩
  · refine ha F σ H ρ st _ _ E e1 fun vs H1 hl E1 => ?_
    cases h1 : derefs ρ1 ws with
    | none => rw [h1] at e; cases e
    | some ds =>
      rw [h1] at e
      dsimp only [Option.bind_some] at e
      have nr := nra_u (E1.nears hl (fun x hx => List.mem_append.mpr (.inl hx)) h1)
      split at e
      · rename_i m n hn
        rw [hn] at nr
        obtain ⟨v, v2, rfl, r, r2⟩ := nra2 nr
        cases nr_int r rfl
        cases nr_int r2 rfl
        split at e
        · rename_i hb
          cases e
          refine ⟨m, n, rfl, ⟨by omega, by omega, by omega, by omega⟩, p ?_ .non (.cl .non) H1 _ (E1.popL.pushC .non) (iter_rng fun i => rfl) (fun _ z => by cases z) (fun _ z => by cases z)⟩
          show ((List.range (n - m).toNat).map _).length ≤ 90000
          simp
          omega
        · cases e
      · cases e
  · exact ha F σ H ρ st _ _ E e1 p

/-! ### for -/
def loopS (g : Tg) (b : MS) : List D → List Sl → Option Out
  | [], ρ => some (.nx ρ)
  | d :: ds, ρ => (g (.cl d) ρ).bind fun ρ1 => match b ρ1 with
    | some (.nx ρ2) => loopS g b ds ρ2
    | some (.ct ρ2) => loopS g b ds ρ2
    | some (.bk ρ2) => some (.nx ρ2)
    | x => x
def sFor (it : Mo ItM) (g : Tg) (b : MS) : MS := fun ρ => bindS (it ρ) fun i ρ => match loopS g b i.ds ρ with
  | some (.nx ρ2) => (unl i.un ρ2).map .nx
  | x => x
theorem sim_for {WW : WX} {wi : TI} {mi : Mo ItM} {g : TG} {mg : Tg} {tb : TS} {mb : MS} (hi : SimI K WW wi mi) {tg : List Nat} (hg : SimG K tg g mg) (hb : SimS K WW tb mb) : SimS K WW (tFor wi g tb) (sFor mi mg mb) := fun F σ H ρ st o D E na e p => by
  rcases bindS_some e with ⟨it, ρ1, e1, e⟩ | ⟨C, fs, ρ1, e1, rfl⟩
  ·
    refine hi F σ H ρ st _ _ E e1 fun _ v iw H1 J E1 ok nh nal => ?_
    have na1 : noAl ((v, iw) :: st) := EnvR.noAl_of (F := F) (σ := σ) (H := H) (ρ := ρ) na nal
    obtain ⟨o', ho', hpost⟩ : ∃ o', loopS mg mb it.ds ρ1 = some o' ∧ PostS K F WW ((v, iw) :: st) D o' := by
      cases h : loopS mg mb it.ds ρ1 with
      | none => rw [h] at e; cases e
      | some o' =>
        refine ⟨o', rfl, ?_⟩
        rw [h] at e
        cases o' with
        | nx ρ2 =>
          dsimp only at e
          cases h2 : unl it.un ρ2 with
          | none => rw [h2] at e; cases e
          | some ρ3 =>
            rw [h2] at e
            cases e
            exact fun σ H E => p σ H (E.pop.unlock nh h2)
        | rt w ρ2 =>
          cases e
          exact fun σ v' H E => p σ v' H (E.sub (List.Sublist.cons₂ _ (List.sublist_cons_self _ _)))
        | bk ρ2 => cases e; exact fun σ H E => p σ H E.pop
        | ct ρ2 => cases e; exact fun σ H E => p σ H E.pop
        | ex C fs ρ2 => cases e; exact ExR.up p
    refine ⟨fun i m σ H => m = it.ds.length - i ∧ i ≤ it.ds.length ∧ ∃ ρ, EnvR K F σ H ρ ((v, iw) :: st) ∧ loopS mg mb (it.ds.drop i) ρ = some o', ⟨_, rfl, Nat.zero_le _, ρ1, E1, by rw [List.drop_zero]; exact ho'⟩, ?_⟩
    rintro i m σ H ⟨rfl, hi, ρ, E, e⟩
    obtain ⟨k1, k2, k3⟩ := ok σ H ρ st E
    by_cases hlt : i < it.ds.length
    · refine .inr ⟨k1 i hlt, fun σ H => ∃ ρ, EnvR K F σ H ρ ((v, iw) :: st) ∧ loopS mg mb (it.ds.drop (i + 1)) ρ = some o', fun σ' H' q => ⟨it.ds.length - (i + 1), by omega, rfl, hlt, q⟩, fun x H' y => ?_⟩
      obtain ⟨d, hd, E2⟩ := k3 i x H' hlt y
      have ed : it.ds.drop i = d :: it.ds.drop (i + 1) := by
        rw [List.drop_eq_getElem_cons hlt]
        rw [List.getElem?_eq_getElem hlt] at hd
        rw [Option.some.inj hd]
      rw [ed] at e
      unfold loopS at e
      cases h : mg (.cl d) ρ with
      | none => rw [h] at e; cases e
      | some ρ2 =>
        rw [h] at e
        dsimp only [Option.bind_some] at e
        refine hg F σ H' ρ ρ2 _ x (.cl d) _ E2 (fun i _ v => na1 v i) h fun σ2 H2 E3 => ?_
        split at e
        · rename_i ρ3 h3
          exact hb F σ2 H2 ρ2 _ _ _ E3 na1 h3 fun σ' H' E' => ⟨ρ3, E', e⟩
        · rename_i ρ3 h3
          exact hb F σ2 H2 ρ2 _ _ _ E3 na1 h3 fun σ' H' E' => ⟨ρ3, E', e⟩
        · rename_i ρ3 h3
          cases e
          exact hb F σ2 H2 ρ2 _ _ _ E3 na1 h3 hpost
        · rename_i x y1 y2 y3
          refine hb F σ2 H2 ρ2 _ o' _ E3 na1 e ?_
          cases o' with
          | nx ρ4 => exact absurd e (y1 ρ4)
          | bk ρ4 => exact absurd e (y3 ρ4)
          | ct ρ4 => exact absurd e (y2 ρ4)
          | rt w ρ4 => exact hpost
          | ex C fs ρ4 => exact hpost
    · have e0 : i = it.ds.length := by omega
      subst e0
      rw [List.drop_length] at e
      cases e
      exact .inl ⟨k2, hpost σ H E⟩
  · exact hi F σ H ρ st _ _ E e1 p

/-! ### comprehensions -/
def wipeS (vs : List Nat) (ρ : List Sl) : Option (List Sl) := match vs with
  | [] => some ρ
  | i :: vs => (wipeS vs ρ).bind fun ρ => setF i .un ρ
/-- the own slots are not in use -/
def idle (vs : List Nat) (ρ : List Sl) : Bool := vs.all fun i => match ρ[i]? with
  | some .un => true
  | _ => false
def loopC (g : Tg) (t : Mo Bool) (e : Mo W) (vs : List Nat) : List D → List Sl → List D → Option (R (List D))
  | [], ρ, acc => some (.ok acc ρ)
  | d :: ds, ρ, acc => (g (.cl d) ρ).bind fun ρ1 => bindR (t ρ1) fun b ρ2 => if b = true then bindR (e ρ2) fun w ρ3 => (fz w ρ3).bind fun x => (wipeS vs x.2).bind fun ρ4 => loopC g t e vs ds ρ4 (acc ++ [x.1])
      else (wipeS vs ρ2).bind fun ρ4 => loopC g t e vs ds ρ4 acc
def mLc (it : Mo ItM) (g : Tg) (t : Mo Bool) (e : Mo W) (vs : List Nat) : Mo W := fun ρ => bindR (it ρ) fun i ρ => if idle vs ρ = true then bindR (loopC g t e vs i.ds ρ []) fun acc ρ2 => (unl i.un ρ2).map fun ρ3 => .ok (.fr acc) ρ3 else none
theorem EnvR.wiped {us : List Nat} (ha : noAlI us st) : ∀ {vs : List Nat} {σ : L2.St} {ρ ρ' : List Sl}, (∀ i ∈ vs, i ∈ us) → EnvR K F σ H ρ st → wipeS vs ρ = some ρ' → EnvR K F (wipe σ vs) H ρ' st
  | [], _, _, _, _, E, h => by cases h; exact E
  | i :: vs, σ, ρ, ρ', hm, E, h => by
    have h : ((wipeS vs ρ).bind fun ρ => setF i .un ρ) = some ρ' := h
    cases h1 : wipeS vs ρ with
    | none => rw [h1] at h; cases h
    | some ρ1 =>
      rw [h1] at h
      have E1 := EnvR.wiped ha (fun i hi => hm i (List.mem_cons_of_mem _ hi)) E h1
      obtain ⟨t, h2, h3, rfl⟩ := setF_some h
      exact E1.forget h2 h3 (fun v => ha i (hm i (List.mem_cons_self ..)) v) none
theorem idle_at {vs : List Nat} (h : idle vs ρ = true) (hi : i ∈ vs) : ρ[i]? = some .un := by
  have q := List.all_eq_true.mp h i hi
  split at q
  · assumption
  · cases q
theorem idle_of {vs : List Nat} (h : ∀ i ∈ vs, ρ[i]? = some .un) : idle vs ρ = true := List.all_eq_true.mpr fun i hi => by
  rw [h i hi]
theorem wipeS_at : ∀ {vs : List Nat} {ρ ρ' : List Sl}, wipeS vs ρ = some ρ' → (∀ i ∈ vs, ρ'[i]? = some .un) ∧ ∀ i : Nat, ρ[i]? = some .un → ρ'[i]? = some .un
  | [], _, _, h => by cases h; exact ⟨fun i z => absurd z List.not_mem_nil, fun _ z => z⟩
  | i :: vs, ρ, ρ', h => by
    have h : ((wipeS vs ρ).bind fun ρ => setF i .un ρ) = some ρ' := h
    cases h1 : wipeS vs ρ with
    | none => rw [h1] at h; cases h
    | some ρ1 =>
      rw [h1] at h
      obtain ⟨t, h2, h3, rfl⟩ := setF_some h
      obtain ⟨a, b⟩ := wipeS_at h1
      have key : ∀ j : Nat, (j = i ∨ ρ1[j]? = some .un) → (ρ1.set i .un)[j]? = some .un := fun j hj => by
        by_cases q : i = j
        · subst q
          exact List.getElem?_set_self (List.getElem?_eq_some_iff.mp h2).1
        · rw [List.getElem?_set_ne q]
          rcases hj with hj | hj
          · exact absurd hj.symm q
          · exact hj
      exact ⟨fun j hj => by
        rcases List.mem_cons.mp hj with rfl | hj
        · exact key _ (.inl rfl)
        · exact key _ (.inr (a j hj)), fun j hj => key j (.inr (b j hj))⟩
theorem EnvR.no_al (E : EnvR K F σ H ρ st) (h : ρ[i]? = some .un) : ∀ v, (v, W.al i) ∉ st := fun v z => by
  have q := E.wv _ z
  dsimp only at q
  cases q with
  | al _ e e2 =>
    rw [h] at e
    exact e2 (Option.some.inj e).symm
theorem EnvR.idleWipe : ∀ {vs : List Nat} {σ : L2.St}, idle vs ρ = true → EnvR K F σ H ρ st → EnvR K F (wipe σ vs) H ρ st
  | [], _, _, E => E
  | i :: vs, σ, h, E => by
    have E1 := EnvR.idleWipe (vs := vs) (idle_of fun j hj => idle_at h (List.mem_cons_of_mem _ hj)) E
    have hi := idle_at h (List.mem_cons_self ..)
    have E2 := E1.forget hi rfl (E1.no_al hi) none
    rw [set_self hi] at E2
    exact E2
theorem EnvR.unwipe : ∀ {vs : List Nat} {σ : L2.St}, idle vs ρ = true → EnvR K F (wipe σ vs) H ρ st → EnvR K F σ H ρ st
  | [], _, _, E => E
  | i :: vs, σ, h, E => by
    have E : EnvR K F ((wipe σ vs).set i none) H ρ st := E
    have hi := idle_at h (List.mem_cons_self ..)
    obtain ⟨o, ho, _⟩ := slot_at E hi
    have hlt : i < (wipe σ vs).length := by
      have := (List.getElem?_eq_some_iff.mp ho).1
      rwa [List.length_set] at this
    have E2 := E.forget hi rfl (E.no_al hi) (wipe σ vs)[i]
    rw [set_self hi, List.set_set, set_self (List.getElem?_eq_getElem hlt)] at E2
    exact EnvR.unwipe (vs := vs) (idle_of fun j hj => idle_at h (List.mem_cons_of_mem _ hj)) E2
/-- a held new list grows -/
theorem EnvR.app {xs : List V} {y : V} (E : EnvR K F σ H ρ ((.ref p, .fr ds) :: st)) (hp : H p = some (.lst xs)) (r : RepA (F.A ++ roots σ ρ ((.ref p, .fr ds) :: st)) K H vs es) : EnvR K F σ (upd H p (.lst vs)) ρ ((.ref p, .fr es) :: st) := by
  have hpr : p ∈ roots σ ρ ((V.ref p, W.fr ds) :: st) := roots_st (List.mem_cons_self ..) rfl
  have hpM := mem_av (F := F) hpr
  have eM : Ex (F.A ++ roots σ ρ ((V.ref p, W.fr ds) :: st)) H (upd H p (.lst vs)) := Ex.mut hpM
  have er : roots σ ρ ((V.ref p, W.fr es) :: st) = roots σ ρ ((V.ref p, W.fr ds) :: st) := rfl
  have h0 : F.H0 p = none := by
    have q := E.wv _ (List.mem_cons_self ..)
    dsimp only at q
    generalize F.A ++ roots σ ρ ((V.ref p, W.fr ds) :: st) = M at q
    cases q with | fr n _ _ => exact n
  have nd := E.nd
  rw [roots_fr.nodup_iff] at nd
  have hp2 := (List.nodup_cons.mp nd).1
  refine ⟨E.ok, E.len, fun a o hn z => ?_, fun a z => ?_, by rw [er]; exact E.nd, fun j oj sj g1 g2 => ?_, fun x hx => ?_⟩
  · have hne : a ≠ p := by
      rintro rfl
      rw [h0] at z
      cases z
    rw [upd_ne hne]
    exact E.ex a o hn z
  · by_cases hne : a = p
    · rw [hne, upd_same]
      exact fun z => by cases z
    · rw [upd_ne hne]
      exact E.tr a z
  · rw [er]
    have q := E.sl j oj sj g1 g2
    have ho : rootS (oj, sj) ≠ some p := fun z => hp2 (roots_slot g1 g2 z)
    generalize F.A ++ roots σ ρ ((V.ref p, W.fr ds) :: st) = M at q eM hpM
    cases q with
    | un => exact .un
    | cl r => exact .cl (r.ex eM)
    | ow n a b => exact .ow n ((upd_ne (fun z => ho (by rw [z]; rfl))).trans a) (b.ex eM)
    | lk n a b => exact .lk n ((upd_ne (fun z => ho (by rw [z]; rfl))).trans a) (b.ex eM)
    | io n a => exact .io n (a.ex eM (upd_ne (fun z => ho (by rw [z]; rfl))))
    | dt m n a => exact .dt m n (a.ex eM (upd_ne (fun z => by
        subst z
        exact E.ok.tr _ m h0)))
  · rw [er]
    rcases List.mem_cons.mp hx with rfl | hx
    · exact .fr h0 upd_same (r.ex eM)
    · have q := E.wv x (List.mem_cons_of_mem _ hx)
      obtain ⟨v, w⟩ := x
      dsimp only at q ⊢
      cases w with
      | cl d => cases q with | cl r => exact .cl (r.ex eM)
      | fr d =>
        have hv : ∀ q, v = .ref q → q ≠ p := fun q e z => by
          rw [z] at e
          rw [e] at hx
          exact hp2 (roots_st hx rfl)
        generalize F.A ++ roots σ ρ ((V.ref p, W.fr ds) :: st) = M at q eM hpM
        cases q with
        | fr n a b => exact .fr n ((upd_ne (hv _ rfl)).trans a) (b.ex eM)
      | al j => cases q with | al e e2 e3 => exact .al e e2 e3
      | hl j d => cases q with | hl e e2 => exact .hl e e2
      | hp j => cases q with | hp e e2 => exact .hp e e2
/-- a target stores own slots alone -/
def GOwn (g : TG) (vs : List Nat) : Prop := ∀ v σ H (Q : L2.St → Hp → Prop), g v σ H Q → g v σ H fun σ' H' => wipe σ' vs = wipe σ vs ∧ Q σ' H'
def GsOwn (g : TGs) (vs : List Nat) : Prop := ∀ xs σ H (Q : L2.St → Hp → Prop), g xs σ H Q → g xs σ H fun σ' H' => wipe σ' vs = wipe σ vs ∧ Q σ' H'
theorem gs_nil {vs : List Nat} : GsOwn gNil vs := fun xs σ H Q ⟨h, q⟩ => ⟨h, rfl, q⟩
theorem wipe_setP {o : Option V} : ∀ {vs : List Nat} {σ : L2.St}, (i ∈ vs → wipe (σ.set i o) vs = wipe σ vs) ∧ (i ∉ vs → wipe (σ.set i o) vs = (wipe σ vs).set i o)
  | [], σ => ⟨fun z => absurd z List.not_mem_nil, fun _ => rfl⟩
  | v :: vs, σ => by
    obtain ⟨a, b⟩ := wipe_setP (o := o) (vs := vs) (σ := σ)
    constructor
    · intro h
      show (wipe (σ.set i o) vs).set v none = (wipe σ vs).set v none
      by_cases q : i ∈ vs
      · rw [a q]
      · rw [b q]
        rcases List.mem_cons.mp h with rfl | h
        · rw [List.set_set]
        · exact absurd h q
    · intro h
      show (wipe (σ.set i o) vs).set v none = ((wipe σ vs).set v none).set i o
      rw [b (fun q => h (List.mem_cons_of_mem _ q))]
      exact List.set_comm _ _ (fun z => h (by rw [z]; exact List.mem_cons_self ..))
theorem g_name {vs : List Nat} (h : i ∈ vs) : GOwn (gName i) vs := fun v σ H Q q => ⟨wipe_setP.1 h, q⟩
theorem gs_cons {g : TG} {gs : TGs} {vs : List Nat} (mono : ∀ xs σ H (Q Q' : L2.St → Hp → Prop), (∀ σ H, Q σ H → Q' σ H) → gs xs σ H Q → gs xs σ H Q') (h : GOwn g vs) (hs : GsOwn gs vs) (mg : ∀ v σ H (Q Q' : L2.St → Hp → Prop), (∀ σ H, Q σ H → Q' σ H) → g v σ H Q → g v σ H Q') : GsOwn (gCons g gs) vs := fun xs σ H Q ⟨v, r, e, q⟩ =>
  ⟨v, r, e, mg _ _ _ _ _ (fun σ1 H1 ⟨e1, q1⟩ => mono _ _ _ _ _ (fun σ2 H2 ⟨e2, q2⟩ => ⟨e2.trans e1, q2⟩) (hs _ _ _ _ q1)) (h v σ H _ q)⟩
def GMono (g : TG) : Prop := ∀ v σ H (Q Q' : L2.St → Hp → Prop), (∀ σ H, Q σ H → Q' σ H) → g v σ H Q → g v σ H Q'
def GsMono (g : TGs) : Prop := ∀ v σ H (Q Q' : L2.St → Hp → Prop), (∀ σ H, Q σ H → Q' σ H) → g v σ H Q → g v σ H Q'
theorem gm_name : GMono (gName i) := fun _ _ _ _ _ h q => h _ _ q
theorem gm_nil : GsMono gNil := fun _ _ _ _ _ h ⟨a, q⟩ => ⟨a, h _ _ q⟩
theorem gm_cons {g : TG} {gs : TGs} (a : GMono g) (b : GsMono gs) : GsMono (gCons g gs) := fun _ _ _ _ _ h ⟨v, r, e, q⟩ => ⟨v, r, e, a _ _ _ _ _ (fun _ _ q => b _ _ _ _ _ h q) q⟩
theorem gm_tup {gs : TGs} {n : Nat} (b : GsMono gs) : GMono (gTup K n gs) := fun _ _ _ _ _ h ⟨a, xs, e, q, l, t⟩ => ⟨a, xs, e, q, l, b _ _ _ _ _ h t⟩
theorem g_tup {gs : TGs} {n : Nat} {vs : List Nat} (h : GsOwn gs vs) : GOwn (gTup K n gs) vs := fun v σ H Q ⟨a, xs, e, q, l, t⟩ => ⟨a, xs, e, q, l, h _ _ _ _ t⟩
/-- both facts of a target -/
structure GOk (g : TG) (vs : List Nat) : Prop where
  own : GOwn g vs
  mono : GMono g
structure GsOk (g : TGs) (vs : List Nat) : Prop where
  own : GsOwn g vs
  mono : GsMono g
theorem ok_name {vs : List Nat} (h : i ∈ vs) : GOk (gName i) vs := ⟨g_name h, gm_name⟩
theorem ok_nil {vs : List Nat} : GsOk gNil vs := ⟨gs_nil, gm_nil⟩
theorem ok_cons {g : TG} {gs : TGs} {vs : List Nat} (a : GOk g vs) (b : GsOk gs vs) : GsOk (gCons g gs) vs := ⟨gs_cons b.mono a.own b.own a.mono, gm_cons a.mono b.mono⟩
theorem ok_tup {gs : TGs} {n : Nat} {vs : List Nat} (b : GsOk gs vs) : GOk (gTup K n gs) vs := ⟨g_tup b.own, gm_tup b.mono⟩
theorem wipe_idem {vs : List Nat} : wipe (wipe σ vs) vs = wipe σ vs := by
  have gen : ∀ (us : List Nat) (σ : L2.St), (∀ i ∈ us, i ∈ vs) → wipe (wipe σ us) vs = wipe σ vs := by
    intro us
    induction us with
    | nil => intro σ _; rfl
    | cons i us ih =>
      intro σ h
      show wipe ((wipe σ us).set i none) vs = wipe σ vs
      rw [wipe_setP.1 (h i (List.mem_cons_self ..))]
      exact ih σ fun j hj => h j (List.mem_cons_of_mem _ hj)
  exact gen vs σ fun _ h => h
theorem sim_lc {WW : WX} {wi : TI} {mi : Mo ItM} {g : TG} {mg : Tg} {tt : TT} {mt : Mo Bool} {te : TE} {me : Mo W} {us : List Nat} {tg : List Nat} (hi : SimI K WW wi mi) (hg : SimG K tg g mg) (htg : ∀ i ∈ tg, i ∈ us) (go : GOk g us) (ht : SimT K WW tt mt) (he : SimE K WW te me) :
    SimE K WW (tLc wi g tt te us) (mLc mi mg mt me us) := fun F σ H ρ st r Q E e p => by
  rcases bindR_some e with ⟨it, ρ1, e1, e⟩ | ⟨C, fs, ρ1, e1, rfl⟩
  · refine hi F σ H ρ st _ _ E e1 fun hlen v iw H1 J E1 ok nh nal => fun Da hD => ?_
    split at e
    · rename_i hid
      obtain ⟨r', hr', hpost⟩ : ∃ r', loopC mg mt me us it.ds ρ1 [] = some r' ∧ (match r' with
          | .ok acc ρ2 => ∀ H, EnvR K F σ H ρ2 ((v, iw) :: (.ref Da, .fr acc) :: st) → Q (.ref Da) H
          | .ex C fs ρ2 => ExR K F WW st C fs ρ2) := by
        rcases bindR_some e with ⟨acc, ρ2, e2, e⟩ | ⟨C, fs, ρ2, e2, rfl⟩
        · refine ⟨_, e2, fun H E => ?_⟩
          cases h2 : unl it.un ρ2 with
          | none => rw [h2] at e; cases e
          | some ρ3 =>
            rw [h2] at e
            cases e
            exact p _ _ (E.pop.unlock (fun i hi v ds z => by
              rcases List.mem_cons.mp z with z | z
              · cases z
              · exact nh i hi v ds z) h2)
        · exact ⟨_, e2, p⟩
      have nst : noAlI us ((v, iw) :: (V.ref Da, W.fr []) :: st) := fun i hi v' z => by
        rcases List.mem_cons.mp z with z | z
        · exact nal i (congrArg Prod.snd z).symm
        · rcases List.mem_cons.mp z with z | z
          · cases z
          · exact E1.no_al (idle_at hid hi) v' (List.mem_cons_of_mem _ z)
      have nst2 : ∀ acc, noAlI us ((v, iw) :: (V.ref Da, W.fr acc) :: st) := fun acc i hi v' z => by
        rcases List.mem_cons.mp z with z | z
        · exact nal i (congrArg Prod.snd z).symm
        · rcases List.mem_cons.mp z with z | z
          · cases z
          · exact nst i hi v' (List.mem_cons_of_mem _ (List.mem_cons_of_mem _ z))
      have E2 : EnvR K F (wipe σ us) (upd H1 Da (.lst [])) ρ1 ((v, iw) :: (.ref Da, .fr []) :: st) := EnvR.idleWipe hid ((E1.pushL hD .nil).perm (List.Perm.swap _ _ _))
      refine ⟨fun i m H => m = it.ds.length - i ∧ i ≤ it.ds.length ∧ ∃ ρ acc, EnvR K F (wipe σ us) H ρ ((v, iw) :: (.ref Da, .fr acc) :: st) ∧ loopC mg mt me us (it.ds.drop i) ρ acc = some r' ∧ idle us ρ = true ∧ acc.length ≤ i, ⟨_, rfl, Nat.zero_le _, ρ1, [], E2, by rw [List.drop_zero]; exact hr', hid, Nat.zero_le _⟩, ?_⟩
      rintro i m H ⟨rfl, hi, ρ, acc, E, e, hid2, hacc⟩
      obtain ⟨k1, k2, k3⟩ := ok _ H ρ _ E
      by_cases hlt : i < it.ds.length
      · refine .inr ⟨k1 i hlt, fun H => ∃ ρ acc, EnvR K F (wipe σ us) H ρ ((v, iw) :: (.ref Da, .fr acc) :: st) ∧ loopC mg mt me us (it.ds.drop (i + 1)) ρ acc = some r' ∧ idle us ρ = true ∧ acc.length ≤ i + 1, fun H' q => ⟨it.ds.length - (i + 1), by omega, rfl, hlt, q⟩, fun x H' y => ?_⟩
        obtain ⟨d, hd, E3⟩ := k3 i x H' hlt y
        have ed : it.ds.drop i = d :: it.ds.drop (i + 1) := by
          rw [List.drop_eq_getElem_cons hlt]
          rw [List.getElem?_eq_getElem hlt] at hd
          rw [Option.some.inj hd]
        rw [ed] at e
        unfold loopC at e
        cases h : mg (.cl d) ρ with
        | none => rw [h] at e; cases e
        | some ρ2 =>
          rw [h] at e
          dsimp only [Option.bind_some] at e
          refine go.mono _ _ _ (fun σ2 H2 => wipe σ2 us = wipe (wipe σ us) us ∧ EnvR K F σ2 H2 ρ2 ((v, iw) :: (.ref Da, .fr acc) :: st)) _ ?_ (go.own _ _ _ _ (hg F _ H' ρ ρ2 _ x (.cl d) _ E3 (fun i hi => nst2 acc i (htg i hi)) h fun σ2 H2 E4 => E4))
          rintro σ2 H2 ⟨ew, E4⟩
          rw [wipe_idem] at ew
          refine ⟨ew, ?_⟩
          rcases bindR_some e with ⟨b, ρ3, e3, e⟩ | ⟨C, fs, ρ3, e3, rfl⟩
          · refine ht F σ2 H2 ρ2 _ _ _ E4 e3 fun H3 E5 => ?_
            by_cases hb : b = true
            · rw [if_pos hb] at e ⊢
              rcases bindR_some e with ⟨w, ρ4, e4, e⟩ | ⟨C, fs, ρ4, e4, rfl⟩
              · refine he F σ2 H3 ρ3 _ _ _ E5 e4 fun y4 H4 E6 => ?_
                cases h5 : PM.fz w ρ4 with
                | none => rw [h5] at e; cases e
                | some q =>
                  obtain ⟨dy, ρ5⟩ := q
                  rw [h5] at e
                  dsimp only [Option.bind_some] at e
                  cases h6 : wipeS us ρ5 with
                  | none => rw [h6] at e; cases e
                  | some ρ6 =>
                    rw [h6] at e
                    dsimp only [Option.bind_some] at e
                    have E7 := EnvR.fz E6 h5
                    have hin := E7.wv _ (List.mem_cons_of_mem _ (List.mem_cons_of_mem _ (List.mem_cons_self ..)))
                    have hrep := E7.rep (List.mem_cons_self ..)
                    have hM := av_st (F := F) (σ := σ2) (ρ := ρ5) (st := (y4, W.cl dy) :: (v, iw) :: (V.ref Da, W.fr acc) :: st) (st' := (V.ref Da, W.fr acc) :: (v, iw) :: st) (fun x hx => by
                      simp only [List.mem_cons] at hx ⊢
                      rcases hx with h | h | h
                      · exact .inr (.inr (.inl h))
                      · exact .inr (.inl h)
                      · exact .inr (.inr (.inr h)))
                    have E8 : EnvR K F σ2 H4 ρ5 ((.ref Da, .fr acc) :: (v, iw) :: st) := E7.pop.perm (List.Perm.swap _ _ _)
                    dsimp only at hin
                    generalize hG : F.A ++ roots σ2 ρ5 ((y4, W.cl dy) :: (v, iw) :: (V.ref Da, W.fr acc) :: st) = MM at hin hrep hM
                    cases hin with
                    | @fr _ xs _ n1 n2 n3 =>
                      have hlx : xs.length = acc.length := n3.len
                      refine ⟨xs, n2, sz_lt (by omega), ρ6, acc ++ [dy], ?_, e, idle_of (wipeS_at h6).1, by simp; omega⟩
                      have E9 := E8.app (y := y4) n2 ((n3.append (.cons hrep .nil)).mono hM)
                      have E10 := E9.perm (List.Perm.swap _ _ _)
                      have E11 := EnvR.wiped (us := us) (nst2 _) (fun _ h => h) E10 h6
                      rw [ew] at E11
                      exact E11
              · exact he F σ2 H3 ρ3 _ _ _ E5 e4 (ExR.up (ExR.up hpost))
            · rw [if_neg hb] at e ⊢
              cases h6 : wipeS us ρ3 with
              | none => rw [h6] at e; cases e
              | some ρ6 =>
                rw [h6] at e
                dsimp only [Option.bind_some] at e
                have E11 := EnvR.wiped (us := us) (nst2 _) (fun _ h => h) E5 h6
                rw [ew] at E11
                exact ⟨ρ6, acc, E11, e, idle_of (wipeS_at h6).1, by omega⟩
          · exact ht F σ2 H2 ρ2 _ _ _ E4 e3 (ExR.up (ExR.up hpost))
      · have e0 : i = it.ds.length := by omega
        subst e0
        rw [List.drop_length] at e
        cases e
        exact .inl ⟨k2, hpost H (EnvR.unwipe hid2 E)⟩
    · cases e
  · exact hi F σ H ρ st _ _ E e1 p
end
end PM

/-! PM6: lists that change by their methods, slices, chains, calls of defs. -/
namespace PM
open PySem PySem.Spec PyProof.Rows L2 SL
section
variable {K : PySem.W.Frag} {F : Fm} {M : List Addr} {H H' : Hp} {p q : Addr} {σ : L2.St} {ρ ρ' : List Sl} {st l : List (V × W)} {v : V} {w w' : W} {d : D} {ds es : List D} {vs : List V} {ws : List W} {i j : Nat} {s s' : Sl} {o o' : Option V}
theorem slot_ne (E : EnvR K F σ H ρ st) (h : i ≠ j) (a1 : σ[i]? = some o) (a2 : ρ[i]? = some s) (b1 : σ[j]? = some o') (b2 : ρ[j]? = some s') (ra : rootS (o, s) = some p) (rb : rootS (o', s') = some q) : p ≠ q := by
  intro e
  subst e
  have nd := E.nd
  obtain ⟨l1, l2, e1, e2⟩ := fm_set rootS (zip_get a1 a2)
  unfold roots at nd
  rw [e1, ra] at nd
  have nd2 : (p :: (l1 ++ l2 ++ st.filterMap rootW)).Nodup := nd_of nd (List.Sublist.refl _) (by
    show (p :: _).Perm (l1 ++ ([p] ++ l2) ++ _)
    simp only [List.append_assoc, List.singleton_append]
    exact List.perm_middle.symm)
  have hp2 := (List.nodup_cons.mp nd2).1
  have hzj : ((σ.zip ρ).set i (none, .un))[j]? = some (o', s') := by
    rw [List.getElem?_set_ne h]
    exact zip_get b1 b2
  have hm : p ∈ ((σ.zip ρ).set i (none, .un)).filterMap rootS := List.mem_filterMap.mpr ⟨_, List.mem_of_getElem? hzj, rb⟩
  rw [e2] at hm
  have e4 : (rootS ((none : Option V), Sl.un)).toList = [] := rfl
  rw [e4] at hm
  refine hp2 ?_
  simp only [List.mem_append] at hm ⊢
  rcases hm with h | h | h
  · exact .inl (.inl h)
  · cases h
  · exact .inl (.inr h)
theorem slot_st_ne {x : V × W} (E : EnvR K F σ H ρ st) (a1 : σ[i]? = some o) (a2 : ρ[i]? = some s) (ra : rootS (o, s) = some p) (hx : x ∈ st) (rb : rootW x = some q) : p ≠ q := by
  intro e
  subst e
  have nd := E.nd
  unfold roots at nd
  rw [List.nodup_append] at nd
  exact nd.2.2 p (List.mem_filterMap.mpr ⟨_, List.mem_of_getElem? (zip_get a1 a2), ra⟩) p (List.mem_filterMap.mpr ⟨_, hx, rb⟩) rfl

/-! ### a list of a slot is changed -/
/-- f: the list, the arguments; what is handed back, the new list -/
def MutR (K : PySem.W.Frag) (rm : V → List V → Hp → VK → Prop) (f : List D → List D → Option (D × List D)) : Prop := ∀ (M : List Addr) (H : Hp) (p : Addr) (xs as : List V) (cs ds cs' : List D) (r : D) (Q : VK),
  H p = some (.lst xs) → RepA M K H xs cs → RepA M K H as ds → f cs ds = some (r, cs') → (∀ v ys, RepA M K H ys cs' → Rep M K H v r → Q v (upd H p (.lst ys))) → rm (.ref p) as H Q
def isL : Sl → Bool
  | .ow _ => true
  | .io (.lst _) => true
  | _ => false
def slL : Sl → Option (List D)
  | .ow cs => some cs
  | .io (.lst cs) => some cs
  | _ => none
def slPut : Sl → List D → Sl
  | .ow _, cs => .ow cs
  | .io _, cs => .io (.lst cs)
  | s, _ => s
def mutAt (f : List D → List D → Option (D × List D)) (i : Nat) (ds : List D) (ρ : List Sl) : Option (R W) := ρ[i]?.bind fun s => (slL s).bind fun cs => (f cs ds).map fun x => .ok (.cl x.1) (ρ.set i (slPut s x.2))
def mMut (f : List D → List D → Option (D × List D)) (i : Nat) (a : Mo (List W)) : Mo W := fun ρ => match (ρ[i]?.bind slL) with
  | none => none
  | some _ => bindR (a ρ) fun ws ρ => (fzs ws ρ).bind fun x => mutAt f i x.1 x.2
def mMut0 (f : List D → List D → Option (D × List D)) (i : Nat) : Mo W := fun ρ => mutAt f i [] ρ
theorem slL_root (E : EnvR K F σ H ρ st) (h : ρ[i]? = some s) (hs : slL s = some ds) : ∃ p xs, σ[i]? = some (some (.ref p)) ∧ H p = some (.lst xs) ∧ RepA (F.A ++ roots σ ρ st) K H xs ds ∧ rootS (some (.ref p), s) = some p ∧ (∀ es, rootS (some (.ref p), slPut s es) = some p) ∧ (∀ ds, s ≠ .lk ds) ∧ (∀ d, s = .io d → ∀ es, ∃ d', slPut s es = .io d') ∧
    ∀ (M : List Addr) (H' : Hp) (ys : List V) (es : List D), H' p = some (.lst ys) → RepA M K H' ys es → SlR F M K H' (some (.ref p)) (slPut s es) := by
  obtain ⟨o, h1, q⟩ := slot_at E h
  generalize hM : F.A ++ roots σ ρ st = M at q
  cases s with
  | un => cases hs
  | cl d => cases hs
  | lk d => cases hs
  | dt d => cases hs
  | ow cs =>
    cases hs
    cases q with
    | @ow p xs _ n a b => exact ⟨p, xs, h1, a, b, rfl, fun _ => rfl, (fun _ z => by cases z), (fun _ z => by cases z), fun M H' ys es a' b' => .ow n a' b'⟩
  | io d =>
    cases d with
    | lst cs =>
      cases hs
      cases q with
      | @io p _ m a =>
        cases a with
        | @lst xs _ a b => exact ⟨p, xs, h1, a, b, rfl, fun _ => rfl, (fun _ z => by cases z), (fun d z es => ⟨_, rfl⟩), fun M H' ys es a' b' => .io m (.lst a' b')⟩
    | _ => cases hs
theorem EnvR.mutAt {rm : V → List V → Hp → VK → Prop} {f : List D → List D → Option (D × List D)} (mr : MutR K rm f) {r : R W} {Q : VK} (E : EnvR K F σ H ρ (vs.zip (ds.map W.cl) ++ st)) (hl : vs.length = ds.length) (h : PM.mutAt f i ds ρ = some r) (hp : σ[i]? = some (some (.ref p)))
    (post : ∀ w ρ', r = .ok w ρ' → ∀ v H, EnvR K F σ H ρ' ((v, w) :: st) → Q v H) : rm (.ref p) vs H Q := by
  unfold PM.mutAt at h
  cases h1 : ρ[i]? with
  | none => rw [h1] at h; cases h
  | some s =>
    rw [h1] at h
    dsimp only [Option.bind_some] at h
    cases h2 : slL s with
    | none => rw [h2] at h; cases h
    | some cs =>
      rw [h2] at h
      dsimp only [Option.bind_some] at h
      cases h3 : f cs ds with
      | none => rw [h3] at h; cases h
      | some x =>
        obtain ⟨x, cs'⟩ := x
        rw [h3] at h
        cases h
        obtain ⟨p', xs, g1, g2, g3, g4, g5, g6, g7, g8⟩ := slL_root E h1 h2
        rw [hp] at g1
        cases g1
        have ra := E.repA hl fun x hx => List.mem_append.mpr (.inl hx)
        refine mr _ H p xs vs cs ds cs' x Q g2 g3 ra h3 fun v ys ry rv => ?_
        refine post _ _ rfl v _ ?_
        have E1 := E.pushC rv
        have er : roots σ ρ ((v, .cl x) :: (vs.zip (ds.map W.cl) ++ st)) = roots σ ρ (vs.zip (ds.map W.cl) ++ st) := av_eq (by rw [List.filterMap_cons, rootW_cl])
        have hM : p ∈ F.A ++ roots σ ρ (vs.zip (ds.map W.cl) ++ st) := mem_av (roots_slot hp h1 g4)
        have E2 := E1.mut (u := .lst ys) hp h1 g4 g6 (g5 cs') (fun d hd => g7 d hd cs') (g8 _ _ _ _ upd_same (by
          rw [er]
          exact ry.ex (Ex.mut hM)))
        exact E2.sub (List.Sublist.cons₂ _ (List.sublist_append_right _ _))
theorem sim_mut {WW : WX} {T : String} {rm : V → List V → Hp → VK → Prop} {f : List D → List D → Option (D × List D)} {tr : TA} {mr : Mo (List W)} (hT : T = "list") (o : MutR K rm f) (ha : SimA K WW tr mr) : SimE K WW (tBM K T rm (tVar i) tr) (mMut f i mr) := fun F σ H ρ st x Q E e p => by
  subst hT
  unfold mMut at e
  cases h0 : ρ[i]? with
  | none => rw [h0] at e; cases e
  | some s =>
    rw [h0] at e
    dsimp only [Option.bind_some] at e
    cases h1 : slL s with
    | none => rw [h1] at e; cases e
    | some cs =>
      rw [h1] at e
      dsimp only at e
      obtain ⟨p', xs, g1, g2, _⟩ := slL_root E h0 h1
      refine ⟨_, g1, .inl ⟨rfl, _, .inl (.inl g2)⟩, ?_⟩
      rcases bindR_some e with ⟨ws, ρ1, e1, e⟩ | ⟨C, fs, ρ1, e1, rfl⟩
      · refine ha F σ H ρ st _ _ E e1 fun vs H1 hl E1 => ?_
        cases h2 : fzs ws ρ1 with
        | none => rw [h2] at e; cases e
        | some y =>
          rw [h2] at e
          obtain ⟨ds, ρ2⟩ := y
          dsimp only [Option.bind_some] at e
          obtain ⟨l2, E2⟩ := E1.fzs hl h2
          exact EnvR.mutAt o E2 (by omega) e g1 fun w ρ' hr v H' E' => by
            subst hr
            exact p v H' E'
      · exact ha F σ H ρ st _ _ E e1 p
theorem sim_mut0 {WW : WX} {T : String} {rm : V → List V → Hp → VK → Prop} {f : List D → List D → Option (D × List D)} (hT : T = "list") (o : MutR K rm f) : SimE K WW (tBM0 K T rm (tVar i)) (mMut0 f i) := fun F σ H ρ st x Q E e p => by
  subst hT
  have e0 := e
  unfold mMut0 PM.mutAt at e
  cases h0 : ρ[i]? with
  | none => rw [h0] at e; cases e
  | some s =>
    rw [h0] at e
    dsimp only [Option.bind_some] at e
    cases h1 : slL s with
    | none => rw [h1] at e; cases e
    | some cs =>
      obtain ⟨p', xs, g1, g2, _⟩ := slL_root E h0 h1
      refine ⟨_, g1, .inl ⟨rfl, _, .inl (.inl g2)⟩, ?_⟩
      exact EnvR.mutAt (vs := []) (ds := []) o E rfl e0 g1 fun w ρ' hr v H' E' => by
        subst hr
        exact p v H' E'
/-! the methods -/
def fAppend : List D → List D → Option (D × List D)
  | cs, [d] => if cs.length < 100000 then some (.non, cs ++ [d]) else none
  | _, _ => none
def fPop : List D → List D → Option (D × List D)
  | cs, [] => (cs[cs.length - 1]?).map fun d => (d, cs.dropLast)
  | _, _ => none
def fPopAt : List D → List D → Option (D × List D)
  | cs, [d] => match d.u with
    | .int i => if cs.length ≤ 100000 then (ixN cs.length i).bind fun k => (cs[k]?).map fun d => (d, cs.eraseIdx k) else none
    | _ => none
  | _, _ => none
def fReverse : List D → List D → Option (D × List D)
  | cs, [] => some (.non, cs.reverse)
  | _, _ => none
def fClear : List D → List D → Option (D × List D)
  | _, [] => some (.non, [])
  | _, _ => none
theorem repA1 {d : D} (h : RepA M K H vs [d]) : ∃ v, vs = [v] ∧ Rep M K H v d := by
  cases h with | cons h a => cases a; exact ⟨_, rfl, h⟩
theorem repA0 (h : RepA M K H vs []) : vs = [] := by cases h; rfl
theorem mu_append : MutR K rAppend fAppend := fun M H p xs as cs ds cs' r Q h a b e q => by
  match ds, b, e with
  | [d], b, e =>
    obtain ⟨v, rfl, rv⟩ := repA1 b
    have e : (if cs.length < 100000 then some (D.non, cs ++ [d]) else none) = some (r, cs') := e
    split at e
    · cases e
      exact ⟨p, xs, v, rfl, rfl, h, sz_lt (by rw [a.len]; assumption), q _ _ (a.append (.cons rv .nil)) .non⟩
    · cases e
theorem RepA.dropLast : ∀ {vs : List V} {ds : List D}, RepA M K H vs ds → RepA M K H vs.dropLast ds.dropLast := fun {vs ds} h => by
  rw [List.dropLast_eq_take, List.dropLast_eq_take, h.len]
  exact h.take _
theorem RepA.erase : ∀ {vs : List V} {ds : List D} (n : Nat), RepA M K H vs ds → RepA M K H (vs.eraseIdx n) (ds.eraseIdx n)
  | _, _, _, .nil => .nil
  | _, _, 0, .cons _ a => a
  | _, _, n + 1, .cons h a => .cons h (RepA.erase n a)
theorem RepA.rev : ∀ {vs : List V} {ds : List D}, RepA M K H vs ds → RepA M K H vs.reverse ds.reverse
  | _, _, .nil => .nil
  | _, _, .cons h a => by
    rw [List.reverse_cons, List.reverse_cons]
    exact (RepA.rev a).append (.cons h .nil)
theorem mu_pop : MutR K rPop fPop := fun M H p xs as cs ds cs' r Q h a b e q => by
  match ds, b, e with
  | [], b, e =>
    cases repA0 b
    have e : ((cs[cs.length - 1]?).map fun d => (d, cs.dropLast)) = some (r, cs') := e
    cases h1 : cs[cs.length - 1]? with
    | none => rw [h1] at e; cases e
    | some d =>
      rw [h1] at e
      cases e
      obtain ⟨v, h2, h3⟩ := a.get h1
      exact ⟨p, xs, v, rfl, rfl, h, by rw [a.len]; exact h2, q _ _ a.dropLast h3⟩
theorem mu_popAt : MutR K rPopAt fPopAt := fun M H p xs as cs ds cs' r Q h a b e q => by
  match ds, b, e with
  | [d], b, e =>
    obtain ⟨v, rfl, rv⟩ := repA1 b
    have e : (match d.u with
      | .int i => if cs.length ≤ 100000 then (ixN cs.length i).bind fun k => (cs[k]?).map fun d => (d, cs.eraseIdx k) else none
      | _ => none) = some (r, cs') := e
    split at e
    · rename_i i hi
      have rv := rv.u
      rw [hi] at rv
      cases rep_int rv
      split at e
      · rename_i hlen
        cases h1 : ixN cs.length i with
        | none => rw [h1] at e; cases e
        | some k =>
          rw [h1] at e
          dsimp only [Option.bind_some] at e
          cases h2 : cs[k]? with
          | none => rw [h2] at e; cases e
          | some d2 =>
            rw [h2] at e
            cases e
            obtain ⟨v, h3, h4⟩ := a.get h2
            obtain ⟨g1, g2, g3, g4⟩ := ixN_seq h1
            exact ⟨p, xs, i, k, v, rfl, rfl, h, by omega, by omega, by rw [a.len]; exact g1, h3, q _ _ (a.erase k) h4⟩
      · cases e
    · cases e
theorem mu_reverse : MutR K rReverse fReverse := fun M H p xs as cs ds cs' r Q h a b e q => by
  match ds, b, e with
  | [], b, e =>
    cases repA0 b
    cases e
    exact ⟨p, xs, rfl, rfl, h, q _ _ a.rev .non⟩
theorem mu_clear : MutR K rClear fClear := fun M H p xs as cs ds cs' r Q h a b e q => by
  match ds, b, e with
  | [], b, e =>
    cases repA0 b
    cases e
    exact ⟨p, xs, rfl, rfl, h, q _ [] .nil .non⟩
end
end PM

/-! PM7: calls of defs. -/
namespace PM
open PySem PySem.Spec PyProof.Rows L2 SL

/-- how a def ends: what it hands back, what was handed in to be changed; or an exception -/
inductive FR where
  | rt (w : W) (outs : List Sl)
  | ex (C : Str) (fs : List (Str × D)) (outs : List Sl)
abbrev Fnm := List Sl → Option FR
def argOk : Sl → Bool
  | .cl _ => true
  | .io _ => true
  | .dt _ => true
  | _ => false
def Outs (M : List Addr) (K : PySem.W.Frag) (H : Hp) (vs : List V) (outs : List Sl) : Prop := ∀ (i : Nat) (p : Addr) (d : D), vs[i]? = some (.ref p) → outs[i]? = some (.io d) → Own M K H p d
def PostF (K : PySem.W.Frag) (A Io : List Addr) (H : Hp) (vs : List V) (Q : VK) (E : XK) : FR → Prop
  | .rt w outs => ∀ v H', Ex Io H H' → (∀ a, H a ≠ none → H' a ≠ none) → Nw A K H H' v w → Outs ((rootW (v, w)).toList ++ A) K H' vs outs → Q v H'
  | .ex C fs outs => ∀ dx H', Ex Io H H' → (∀ a, H a ≠ none → H' a ≠ none) → XdR A K H' dx fs → Outs A K H' vs outs → E (.ref (He.ga K C)) (some dx) H'
/-- a def keeps the plain run m -/
def spM (K : PySem.W.Frag) (m : Fnm) : Sp := fun vs H Q E => ∃ (A Io : List Addr) (as : List Sl) (r : FR), EnvR K ⟨A, Io, H⟩ (vs.map some) H as [] ∧ as.all argOk = true ∧ m as = some r ∧ PostF K A Io H vs Q E r
/-- what was handed in to be changed, at the end -/
def outsOf : List Sl → List Sl → Option (List Sl)
  | [], _ => some []
  | .io _ :: as, .io d :: ρ => (outsOf as ρ).map (.io d :: ·)
  | .io _ :: _, _ => none
  | a :: as, _ :: ρ => (outsOf as ρ).map (a :: ·)
  | _ :: _, [] => none
/-- what a return hands back -/
def retW (w : W) (ρ : List Sl) : Option W := match w with
  | .cl d => some (.cl d)
  | .fr ds => some (.fr ds)
  | .al i => match ρ[i]? with
    | some (.cl d) => some (.cl d)
    | some (.ow ds) => some (.fr ds)
    | _ => none
  | _ => none
def endF (as : List Sl) : Option Out → Option FR
  | some (.rt w ρ) => (retW w ρ).bind fun w => (outsOf as ρ).map fun o => .rt w o
  | some (.nx ρ) => (outsOf as ρ).map fun o => .rt (.cl .non) o
  | some (.ex C fs ρ) => (outsOf as ρ).map fun o => .ex C fs o
  | _ => none
/-- a def of n parameters and k further names -/
def fnM (n k : Nat) (body : MS) : Fnm := fun as => if as.length = n then endF as (body (as ++ List.replicate k .un)) else none
section
variable {K : PySem.W.Frag} {F : Fm} {M A Io : List Addr} {H H' H1 : Hp} {p q : Addr} {σ : L2.St} {ρ ρ' as : List Sl} {st l : List (V × W)} {v : V} {w w' : W} {d : D} {ds es : List D} {vs : List V} {ws : List W} {i j n k : Nat} {s s' : Sl} {o o' : Option V}
theorem len_spM {m : Fnm} {ps : List Str} (hm : ∀ as r, m as = some r → as.length = ps.length) {Q : VK} {E : XK} (h : spM K m vs H Q E) : vs.length = ps.length := by
  obtain ⟨A, Io, as, r, e, _, hr, _⟩ := h
  have := e.len
  rw [List.length_map] at this
  rw [this]
  exact hm as r hr
theorem len_fnM {body : MS} {r : FR} (h : fnM n k body as = some r) : as.length = n := by
  unfold fnM at h
  split at h
  · assumption
  · cases h
/-- what was handed in to be changed is held -/
def hps : Nat → List V → List Sl → List (V × W)
  | i, v :: vs, .io _ :: as => (v, .hp i) :: hps (i + 1) vs as
  | i, _ :: vs, _ :: as => hps (i + 1) vs as
  | _, _, _ => []
theorem hps_root : ∀ {vs : List V} {as : List Sl} {n : Nat}, (hps n vs as).filterMap rootW = []
  | [], _, _ => by unfold hps; rfl
  | v :: vs, [], _ => by unfold hps; rfl
  | v :: vs, s :: as, n => by
    have ih := hps_root (vs := vs) (as := as) (n := n + 1)
    cases s with
    | io d => 
      show List.filterMap rootW ((v, W.hp n) :: hps (n + 1) vs as) = []
      rw [List.filterMap_cons, rootW_hp]
      exact ih
    | un => exact ih
    | cl d => exact ih
    | ow d => exact ih
    | lk d => exact ih
    | dt d => exact ih
theorem hps_mem : ∀ {vs : List V} {as : List Sl} {n : Nat} {x : V × W}, x ∈ hps n vs as → ∃ (i : Nat) (v : V) (d : D), x = (v, .hp (n + i)) ∧ vs[i]? = some v ∧ as[i]? = some (.io d)
  | [], _, _, x, h => by unfold hps at h; cases h
  | v :: vs, [], _, x, h => by unfold hps at h; cases h
  | v :: vs, s :: as, n, x, h => by
    have up : x ∈ hps (n + 1) vs as → ∃ (i : Nat) (v' : V) (d : D), x = (v', .hp (n + i)) ∧ (v :: vs)[i]? = some v' ∧ (s :: as)[i]? = some (.io d) := fun h => by
      obtain ⟨i, v', d, e, a, b⟩ := hps_mem h
      refine ⟨i + 1, v', d, ?_, by simpa using a, by simpa using b⟩
      rw [e]
      congr 2
      omega
    cases s with
    | io d =>
      have h : x ∈ (v, W.hp n) :: hps (n + 1) vs as := h
      rcases List.mem_cons.mp h with rfl | h
      · exact ⟨0, v, d, rfl, rfl, rfl⟩
      · exact up h
    | un => exact up h
    | cl d => exact up h
    | ow d => exact up h
    | lk d => exact up h
    | dt d => exact up h
theorem mem_hps : ∀ {vs : List V} {as : List Sl} {n i : Nat} {v : V} {d : D}, vs[i]? = some v → as[i]? = some (.io d) → (v, W.hp (n + i)) ∈ hps n vs as
  | [], _, _, i, v, d, h, _ => by simp at h
  | v :: vs, [], _, i, v', d, _, h => by simp at h
  | v :: vs, s :: as, n, 0, v', d, h1, h2 => by
    simp at h1 h2
    subst h1 h2
    exact List.mem_cons_self ..
  | v :: vs, s :: as, n, i + 1, v', d, h1, h2 => by
    have ih := mem_hps (n := n + 1) (i := i) (vs := vs) (as := as) (v := v') (d := d) (by simpa using h1) (by simpa using h2)
    have e : n + 1 + i = n + (i + 1) := by omega
    rw [e] at ih
    cases s with
    | io d => exact List.mem_cons_of_mem _ ih
    | un => exact ih
    | cl d => exact ih
    | ow d => exact ih
    | lk d => exact ih
    | dt d => exact ih
theorem outs_at : ∀ {as ρ outs : List Sl} {i : Nat} {d : D}, outsOf as ρ = some outs → outs[i]? = some (.io d) → (∃ d0, as[i]? = some (.io d0)) ∧ ρ[i]? = some (.io d)
  | [], _, _, i, d, h, h2 => by cases h; simp at h2
  | a :: as, [], _, i, d, h, h2 => by cases a <;> cases h
  | a :: as, b :: ρ, outs, i, d, h, h2 => by
    have key : ∀ s, (outsOf as ρ).map (s :: ·) = some outs → ((∃ d, s = .io d) → s = b ∧ ∃ d, a = .io d) → (∃ d0, (a :: as)[i]? = some (.io d0)) ∧ (b :: ρ)[i]? = some (.io d) := fun s h hs => by
      cases h1 : outsOf as ρ with
      | none => rw [h1] at h; cases h
      | some o =>
        rw [h1] at h
        cases h
        cases i with
        | zero =>
          simp at h2
          obtain ⟨e1, d0, e2⟩ := hs ⟨d, h2⟩
          subst e1 e2
          exact ⟨⟨d0, rfl⟩, by simp [h2]⟩
        | succ i =>
          obtain ⟨⟨d0, g1⟩, g2⟩ := outs_at h1 (i := i) (d := d) (by simpa using h2)
          exact ⟨⟨d0, by simpa using g1⟩, by simpa using g2⟩
    cases a with
    | io d0 =>
      cases b with
      | io d1 => exact key (.io d1) h (fun _ => ⟨rfl, d0, rfl⟩)
      | un => cases h
      | cl _ => cases h
      | ow _ => cases h
      | lk _ => cases h
      | dt _ => cases h
    | un => exact key .un h (fun ⟨_, z⟩ => by cases z)
    | cl d0 => exact key (.cl d0) h (fun ⟨_, z⟩ => by cases z)
    | ow d0 => exact key (.ow d0) h (fun ⟨_, z⟩ => by cases z)
    | lk d0 => exact key (.lk d0) h (fun ⟨_, z⟩ => by cases z)
    | dt d0 => exact key (.dt d0) h (fun ⟨_, z⟩ => by cases z)
theorem argOk_root {s : Sl} (h : argOk s = true) (e : rootS (some (.ref p), s) = some q) : ∃ d, s = .io d ∧ q = p := by
  cases s with
  | un => cases h
  | cl d => cases e
  | ow d => cases h
  | lk d => cases h
  | dt d => cases e
  | io d => cases e; exact ⟨d, rfl, rfl⟩
theorem zip_rep : ∀ {vs : List (Option V)} {k m : Nat}, (vs ++ List.replicate k (none : Option V)).zip (as ++ List.replicate m Sl.un) = vs.zip as ++ (List.replicate k (none : Option V)).zip (List.replicate m Sl.un) ∨ vs.length ≠ as.length := fun {vs k m} => by
  by_cases h : vs.length = as.length
  · exact .inl (List.zip_append h)
  · exact .inr h
/-- the body's start -/
theorem EnvR.body (E : EnvR K F (vs.map some) H as []) (k m : Nat) (hk : k = m) : EnvR K F (vs.map some ++ List.replicate k none) H (as ++ List.replicate m .un) (hps 0 vs as) := by
  subst hk
  have hl := E.len
  have er : roots (vs.map some ++ List.replicate k none) (as ++ List.replicate k .un) (hps 0 vs as) = roots (vs.map some) as [] := by
    unfold roots
    rw [hps_root, List.zip_append hl, List.filterMap_append]
    have e0 : ((List.replicate k (none : Option V)).zip (List.replicate k Sl.un)).filterMap rootS = [] := by
      rw [List.filterMap_eq_nil_iff]
      rintro ⟨a, b⟩ h
      have h2 := (List.of_mem_zip h).2
      rw [List.eq_of_mem_replicate h2]
      exact rootS_un
    rw [e0, List.append_nil]
    rfl
  refine ⟨E.ok, by simp; simpa using hl, E.ex, E.tr, by rw [er]; exact E.nd, fun i o s h1 h2 => ?_, fun x hx => ?_⟩
  · rw [er]
    by_cases hi : i < as.length
    · rw [List.getElem?_append_left hi] at h2
      rw [List.getElem?_append_left (by rw [hl]; exact hi)] at h1
      exact E.sl i o s h1 h2
    · rw [List.getElem?_append_right (by omega)] at h2
      have := List.mem_of_getElem? h2
      rw [List.eq_of_mem_replicate this]
      exact .un
  · rw [er]
    obtain ⟨i, v, d, rfl, a, b⟩ := hps_mem hx
    rw [Nat.zero_add]
    have hi : i < as.length := (List.getElem?_eq_some_iff.mp b).1
    refine .hp (d := d) ?_ (by rw [List.getElem?_append_left hi]; exact b)
    rw [List.getElem?_append_left (by rw [hl]; exact hi), List.getElem?_map, a]
    rfl
theorem EnvR.outs {outs : List Sl} (E : EnvR K F σ H ρ (l ++ hps 0 vs as)) (h : outsOf as ρ = some outs) : Outs (F.A ++ roots σ ρ (l ++ hps 0 vs as)) K H vs outs := fun i p d h1 h2 => by
  obtain ⟨⟨d0, g1⟩, g2⟩ := outs_at h h2
  have hm := mem_hps (n := 0) h1 g1
  rw [Nat.zero_add] at hm
  have q := E.wv _ (List.mem_append.mpr (.inr hm))
  dsimp only at q
  cases q with
  | hp a b =>
    have r := E.sl i _ _ a g2
    generalize F.A ++ roots σ ρ (l ++ hps 0 vs as) = MM at r
    cases r with | io _ r => exact r
theorem Outs.mono {M' : List Addr} {outs : List Sl} (hm : ∀ x ∈ M', x ∈ M) (h : Outs M K H vs outs) : Outs M' K H vs outs := fun i p d a b => (h i p d a b).mono hm
theorem noAl_hps : noAl (hps n vs as) := fun v j h => by
  obtain ⟨i, v', d, e, _⟩ := hps_mem h
  cases e
/-- a def's body keeps the def's promise -/
theorem pure_fnM {t : TS} {body : MS} {N : List Str} {Q : VK} {E : XK} (hN : N.length = n + k) (hb : SimS K (fun cls d _ H => E cls d H) t body) (h : spM K (fnM n k body) vs H Q E) : t { nx := fun _ H' => Q .non H', rt := Q } (L2.start N vs) H := by
  obtain ⟨A, Io, as, r, e, hok, hr, p⟩ := h
  have hlen := len_fnM hr
  have hl : vs.length = n := by
    have := e.len
    rw [List.length_map] at this
    omega
  have es : L2.start N vs = vs.map some ++ List.replicate k none := by
    unfold L2.start
    rw [hN, hl, Nat.add_sub_cancel_left]
  unfold fnM at hr
  rw [if_pos hlen] at hr
  cases h1 : body (as ++ List.replicate k .un) with
  | none => rw [h1] at hr; cases hr
  | some o =>
    rw [h1] at hr
    rw [es]
    refine hb ⟨A, Io, H⟩ _ H _ (hps 0 vs as) o _ (e.body k k rfl) noAl_hps h1 ?_
    cases o with
    | nx ρ =>
      have hr : (outsOf as ρ).map (fun o => FR.rt (.cl .non) o) = some r := hr
      cases h2 : outsOf as ρ with
      | none => rw [h2] at hr; cases hr
      | some outs =>
        rw [h2] at hr
        cases hr
        intro σ H' E'
        refine p .non H' E'.ex E'.tr (.cl .non) ?_
        exact (EnvR.outs (l := []) E' h2).mono fun x hx => List.mem_append.mpr (.inl hx)
    | rt w ρ =>
      have hr : ((retW w ρ).bind fun w => (outsOf as ρ).map fun o => FR.rt w o) = some r := hr
      cases h3 : retW w ρ with
      | none => rw [h3] at hr; cases hr
      | some w' =>
        rw [h3] at hr
        dsimp only [Option.bind_some] at hr
        cases h2 : outsOf as ρ with
        | none => rw [h2] at hr; cases hr
        | some outs =>
          rw [h2] at hr
          cases hr
          intro σ v H' E'
          have O := EnvR.outs (l := [(v, w)]) E' h2
          have clc : ∀ d, w = .cl d → w' = .cl d → Q v H' := fun d e1 e2 => by
            subst e1 e2
            refine p v H' E'.ex E'.tr (.cl ((E'.rep (List.mem_cons_self ..)).mono fun x hx => List.mem_append.mpr (.inl hx))) (O.mono fun x hx => ?_)
            rw [rootW_cl] at hx
            exact List.mem_append.mpr (.inl hx)
          have frc : ∀ (q : Addr) xs ds, v = .ref q → w' = .fr ds → H q = none → H' q = some (.lst xs) → q ∈ roots σ ρ ((v, w) :: hps 0 vs as) → RepA (A ++ roots σ ρ ((v, w) :: hps 0 vs as)) K H' xs ds → Q v H' := fun q xs ds e1 e2 hq hq2 hroot ra => by
            subst e1 e2
            have sub : ∀ x ∈ q :: A, x ∈ A ++ roots σ ρ ((V.ref q, w) :: hps 0 vs as) := fun x hx => by
              rcases List.mem_cons.mp hx with h | h
              · rw [h]
                exact List.mem_append.mpr (.inr hroot)
              · exact List.mem_append.mpr (.inl h)
            exact p _ H' E'.ex E'.tr (.fr hq hq2 (ra.mono sub)) (O.mono sub)
          cases w with
          | cl d =>
            cases h3
            exact clc d rfl rfl
          | fr ds =>
            cases h3
            have q := E'.wv _ (List.mem_cons_self ..)
            have nr : ∀ q, v = .ref q → q ∈ roots σ ρ ((v, W.fr ds) :: hps 0 vs as) := fun q e => roots_st (List.mem_cons_self ..) (by rw [e]; rfl)
            dsimp only at q
            generalize hM : A ++ roots σ ρ ((v, W.fr ds) :: hps 0 vs as) = MM at q
            cases q with
            | fr n a b =>
              subst hM
              exact frc _ _ ds rfl rfl n a (nr _ rfl) b
          | al i =>
            have q := E'.wv _ (List.mem_cons_self ..)
            dsimp only at q
            have h3 : (match ρ[i]? with
              | some (.cl d) => some (W.cl d)
              | some (.ow ds) => some (.fr ds)
              | _ => none) = some w' := h3
            cases q with
            | al a _ _ =>
              split at h3
              · rename_i d hd
                cases h3
                have r := E'.sl i _ _ a hd
                generalize hM : A ++ roots σ ρ ((v, W.al i) :: hps 0 vs as) = MM at r
                cases r with
                | cl r =>
                  subst hM
                  refine p v H' E'.ex E'.tr (.cl (r.mono fun x hx => List.mem_append.mpr (.inl hx))) (O.mono fun x hx => ?_)
                  rw [rootW_cl] at hx
                  exact List.mem_append.mpr (.inl hx)
              · rename_i ds hd
                cases h3
                have r := E'.sl i _ _ a hd
                have nr : ∀ q, v = .ref q → q ∈ roots σ ρ ((v, W.al i) :: hps 0 vs as) := fun q e => roots_slot (i := i) (o := some v) (s := .ow ds) a hd (by rw [e]; rfl)
                generalize hM : A ++ roots σ ρ ((v, W.al i) :: hps 0 vs as) = MM at r
                cases r with
                | ow n b c =>
                  subst hM
                  exact frc _ _ ds rfl rfl n b (nr _ rfl) c
              · cases h3
          | hl i ds => cases h3
          | hp i => cases h3
    | bk ρ => cases hr
    | ct ρ => cases hr
    | ex C fs ρ =>
      have hr : (outsOf as ρ).map (fun o => FR.ex C fs o) = some r := hr
      cases h2 : outsOf as ρ with
      | none => rw [h2] at hr; cases hr
      | some outs =>
        rw [h2] at hr
        cases hr
        intro σ H' dx E' xd
        refine p dx H' E'.ex E'.tr ?_ ((EnvR.outs (l := []) E' h2).mono fun x hx => List.mem_append.mpr (.inl hx))
        obtain ⟨a, b, c⟩ := xd
        exact .mk a b (c.mono fun x hx => List.mem_append.mpr (.inl hx))
end
end PM

/-! PM8: a def is called. -/
namespace PM
open PySem PySem.Spec PyProof.Rows L2 SL
def argAl (io : Bool) (i : Nat) (ρ : List Sl) : Option Sl := match io, ρ[i]? with
  | false, some (.cl d) => some (.cl d)
  | false, some (.ow ds) => some (.dt (.lst ds))
  | false, some (.lk ds) => some (.dt (.lst ds))
  | false, some (.io d) => some (.dt d)
  | false, some (.dt d) => some (.dt d)
  | true, some (.ow ds) => some (.io (.lst ds))
  | true, some (.io d) => some (.io d)
  | _, _ => none
def argOf (io : Bool) (w : W) (ρ : List Sl) : Option Sl := match w with
  | .cl d => if io = true then none else some (.cl d)
  | .al i => argAl io i ρ
  | _ => none
def argsOf (ρ : List Sl) : List Bool → List W → Option (List Sl)
  | [], [] => some []
  | m :: ms, w :: ws => (argOf m w ρ).bind fun s => (argsOf ρ ms ws).map (s :: ·)
  | _, _ => none
def alIx (ws : List W) : List Nat := ws.filterMap fun w => match w with
  | .al i => some i
  | _ => none
def okAl (ms : List Bool) (ws : List W) : Bool := !ms.any id || decide (alIx ws).Nodup
def putS : Sl → D → Option Sl
  | .ow _, .lst ds => some (.ow ds)
  | .io _, d => some (.io d)
  | _, _ => none
def putO : List Bool → List W → List Sl → List Sl → Option (List Sl)
  | [], [], _, ρ => some ρ
  | true :: ms, .al i :: ws, .io d :: os, ρ => (ρ[i]?.bind fun s => putS s d).bind fun s => putO ms ws os (ρ.set i s)
  | false :: ms, _ :: ws, _ :: os, ρ => putO ms ws os ρ
  | _, _, _, _ => none
section
variable {K : PySem.W.Frag} {F : Fm} {M A Io : List Addr} {H H' H1 : Hp} {p q : Addr} {σ : L2.St} {ρ ρ' as outs : List Sl} {st l : List (V × W)} {v : V} {w w' : W} {d : D} {ds es : List D} {vs : List V} {ws : List W} {ms : List Bool} {i j n k : Nat} {s s' : Sl} {o o' : Option V}
theorem args_at : ∀ {ms : List Bool} {ws : List W} {as : List Sl}, argsOf ρ ms ws = some as → as.length = ws.length ∧ ∀ (k : Nat) (s : Sl), as[k]? = some s → ∃ m w, ms[k]? = some m ∧ ws[k]? = some w ∧ argOf m w ρ = some s
  | [], [], as, h => by cases h; exact ⟨rfl, fun k s z => by simp at z⟩
  | [], _ :: _, as, h => by cases h
  | _ :: _, [], as, h => by cases h
  | m :: ms, w :: ws, as, h => by
    have h : ((argOf m w ρ).bind fun s => (argsOf ρ ms ws).map (s :: ·)) = some as := h
    cases h1 : argOf m w ρ with
    | none => rw [h1] at h; cases h
    | some s =>
      rw [h1] at h
      dsimp only [Option.bind_some] at h
      cases h2 : argsOf ρ ms ws with
      | none => rw [h2] at h; cases h
      | some r =>
        rw [h2] at h
        cases h
        obtain ⟨a, b⟩ := args_at h2
        refine ⟨by simp [a], fun k s' z => ?_⟩
        cases k with
        | zero =>
          simp at z
          subst z
          exact ⟨m, w, rfl, rfl, h1⟩
        | succ k =>
          obtain ⟨m', w', c1, c2, c3⟩ := b k s' (by simpa using z)
          exact ⟨m', w', by simpa using c1, by simpa using c2, c3⟩
theorem al_ix (hn : (alIx ws).Nodup) (h1 : ws[i]? = some (.al n)) (h2 : ws[j]? = some (.al n)) : i = j := by
  unfold alIx at hn
  unfold List.Nodup at hn
  rw [List.pairwise_filterMap, List.pairwise_iff_getElem] at hn
  have i1 := (List.getElem?_eq_some_iff.mp h1)
  have i2 := (List.getElem?_eq_some_iff.mp h2)
  obtain ⟨a1, b1⟩ := i1
  obtain ⟨a2, b2⟩ := i2
  rcases Nat.lt_trichotomy i j with h | h | h
  · exact absurd rfl (hn i j a1 a2 h n (by rw [b1]) n (by rw [b2]))
  · exact h
  · exact absurd rfl (hn j i a2 a1 h n (by rw [b2]) n (by rw [b1]))
theorem okAl_ix (hn : okAl ms ws = true) (hm : ms[k]? = some true) (h1 : ws[i]? = some (.al n)) (h2 : ws[j]? = some (.al n)) : i = j := by
  unfold okAl at hn
  rw [Bool.or_eq_true] at hn
  rcases hn with hn | hn
  · have : ms.any id = true := List.any_eq_true.mpr ⟨true, List.mem_of_getElem? hm, rfl⟩
    rw [this] at hn
    cases hn
  · exact al_ix (of_decide_eq_true hn) h1 h2
/-- what stands behind an argument that may be changed -/
theorem io_arg (E : EnvR K F σ H ρ st) (hv : (v, w) ∈ st) (h : argOf true w ρ = some s) : ∃ i p d s0, w = .al i ∧ v = .ref p ∧ s = .io d ∧ σ[i]? = some (some (.ref p)) ∧ ρ[i]? = some s0 ∧ rootS (some (.ref p), s0) = some p ∧ Own (F.A ++ roots σ ρ st) K H p d ∧ (F.H0 p = none ∨ p ∈ F.Io) := by
  cases w with
  | cl d => cases h
  | fr d => cases h
  | hl i d => cases h
  | hp i => cases h
  | al i =>
    have q := E.wv _ hv
    dsimp only at q
    have h : argAl true i ρ = some s := h
    cases q with
    | al a _ _ =>
      unfold argAl at h
      cases hi : ρ[i]? with
      | none => rw [hi] at h; cases h
      | some s0 =>
        rw [hi] at h
        have r := E.sl i _ _ a hi
        generalize F.A ++ roots σ ρ st = MM at r
        cases r with
        | un => cases h
        | cl r => cases h
        | @ow p xs ds n b c => cases h; exact ⟨i, p, _, _, rfl, rfl, rfl, a, hi, rfl, .lst b c, .inl n⟩
        | lk n b c => cases h
        | @io p d m r => cases h; exact ⟨i, p, _, _, rfl, rfl, rfl, a, hi, rfl, r, .inr m⟩
        | dt m n r => cases h
theorem EnvR.call_start (E : EnvR K F σ H ρ (vs.zip ws ++ st)) (hl : vs.length = ws.length) (ha : argsOf ρ ms ws = some as) (hn : okAl ms ws = true) :
    EnvR K ⟨F.A ++ roots σ ρ (vs.zip ws ++ st), roots (vs.map some) as [], H⟩ (vs.map some) H as [] ∧ as.all argOk = true ∧ (∀ q, q ∈ roots (vs.map some) as [] → ∃ (k i : Nat) (s0 : Sl), ms[k]? = some true ∧ ws[k]? = some (.al i) ∧ vs[k]? = some (.ref q) ∧ σ[i]? = some (some (.ref q)) ∧ ρ[i]? = some s0 ∧ rootS (some (.ref q), s0) = some q ∧ (F.H0 q = none ∨ q ∈ F.Io)) := by
  obtain ⟨la, at_⟩ := args_at ha
  have hst : ∀ {k : Nat} {v : V} {w : W}, vs[k]? = some v → ws[k]? = some w → (v, w) ∈ vs.zip ws ++ st := fun a b => List.mem_append.mpr (.inl (List.mem_of_getElem? (zip_get a b)))
  have vget : ∀ {k : Nat} {s : Sl}, as[k]? = some s → ∃ v, vs[k]? = some v := fun {k s} h => by
    have hk : k < vs.length := by
      have := (List.getElem?_eq_some_iff.mp h).1
      omega
    exact ⟨_, List.getElem?_eq_getElem hk⟩
  have ok1 : ∀ {k : Nat} {s : Sl}, as[k]? = some s → argOk s = true := fun {k s} h => by
    obtain ⟨m, w, _, _, e⟩ := at_ k s h
    cases w with
    | cl d =>
      unfold argOf at e
      dsimp only at e
      split at e <;> cases e
      rfl
    | fr d => cases e
    | hl i d => cases e
    | hp i => cases e
    | al i =>
      have e : argAl m i ρ = some s := e
      unfold argAl at e
      split at e <;> first | (cases e; rfl) | cases e
  -- what an io argument is
  have ioR : ∀ {k : Nat} {s : Sl} {v : V} {q : Addr}, as[k]? = some s → vs[k]? = some v → rootS (some v, s) = some q → ∃ (i : Nat) (d : D) (s0 : Sl), v = .ref q ∧ s = .io d ∧ ms[k]? = some true ∧ ws[k]? = some (.al i) ∧ σ[i]? = some (some (.ref q)) ∧ ρ[i]? = some s0 ∧ rootS (some (.ref q), s0) = some q ∧ Own (F.A ++ roots σ ρ (vs.zip ws ++ st)) K H q d ∧ (F.H0 q = none ∨ q ∈ F.Io) := fun {k s v q} h hv hr => by
    obtain ⟨m, w, hm, hw, e⟩ := at_ k s h
    have hio : ∃ d, s = .io d := by
      cases v with
      | ref p' => exact (argOk_root (ok1 h) hr).imp fun d z => z.1
      | _ => cases s <;> cases hr
    obtain ⟨d0, rfl⟩ := hio
    have hmt : m = true := by
      cases m with
      | true => rfl
      | false =>
        cases w with
        | cl d => cases e
        | fr d => cases e
        | hl i d => cases e
        | hp i => cases e
        | al i =>
          have e : argAl false i ρ = some (.io d0) := e
          unfold argAl at e
          split at e <;> first
            | (exfalso; rename_i z1 z2; exact Bool.noConfusion z1)
            | cases e
    subst hmt
    obtain ⟨i, p', d, s0, rfl, rfl, e2, a1, a2, a3, a4, a5⟩ := io_arg E (hst hv hw) e
    cases hr
    exact ⟨i, d, s0, rfl, e2, hm, hw, a1, a2, a3, a4, a5⟩
  have roots_in : ∀ q, q ∈ roots (vs.map some) as [] → ∃ (k : Nat) (s : Sl) (v : V), as[k]? = some s ∧ vs[k]? = some v ∧ rootS (some v, s) = some q := fun q hq => by
    rcases mem_roots.mp hq with ⟨k, o, s, h1, h2, h3⟩ | ⟨x, hx, _⟩
    · rw [List.getElem?_map] at h1
      cases hv : vs[k]? with
      | none => rw [hv] at h1; cases h1
      | some v =>
        rw [hv] at h1
        cases h1
        exact ⟨k, s, v, h2, hv, h3⟩
    · cases hx
  have rin : ∀ q, q ∈ roots (vs.map some) as [] → q ∈ F.A ++ roots σ ρ (vs.zip ws ++ st) := fun q hq => by
    obtain ⟨k, s, v, h1, h2, h3⟩ := roots_in q hq
    obtain ⟨i, d, s0, _, _, _, _, a1, a2, a3, _⟩ := ioR h1 h2 h3
    exact mem_av (roots_slot a1 a2 a3)
  refine ⟨⟨⟨fun a h => ?_, fun a h => rin a h⟩, by rw [List.length_map]; omega, Ex.refl, fun _ z => z, ?_, fun k o s h1 h2 => ?_, fun x hx => by cases hx⟩, ?_, fun q hq => ?_⟩
  · rcases List.mem_append.mp h with h | h
    · exact E.tr a (E.ok.tr a h)
    · exact root_tr E h
  · unfold roots
    rw [List.filterMap_nil, List.append_nil]
    unfold List.Nodup
    rw [List.pairwise_filterMap, List.pairwise_iff_getElem]
    intro i j hi hj hij q hq q' hq' e
    have g1 : ((vs.map some).zip as)[i]? = some ((vs.map some).zip as)[i] := List.getElem?_eq_getElem hi
    have g2 : ((vs.map some).zip as)[j]? = some ((vs.map some).zip as)[j] := List.getElem?_eq_getElem hj
    generalize ((vs.map some).zip as)[i] = x at g1 hq
    generalize ((vs.map some).zip as)[j] = y at g2 hq'
    obtain ⟨ox, sx⟩ := x
    obtain ⟨oy, sy⟩ := y
    rw [List.getElem?_zip_eq_some, List.getElem?_map] at g1 g2
    obtain ⟨g1, g3⟩ := g1
    obtain ⟨g2, g4⟩ := g2
    dsimp only at g1 g2 g3 g4
    obtain ⟨v1, hv1⟩ := vget g3
    obtain ⟨v2, hv2⟩ := vget g4
    rw [hv1] at g1
    rw [hv2] at g2
    cases g1
    cases g2
    obtain ⟨i1, d1, s1, _, _, m1, w1, a1, a2, a3, _⟩ := ioR g3 hv1 hq
    obtain ⟨i2, d2, s2, _, _, m2, w2, b1, b2, b3, _⟩ := ioR g4 hv2 hq'
    have hne : i1 ≠ i2 := fun z => by
      subst z
      have := okAl_ix hn m1 w1 w2
      omega
    exact slot_ne E hne a1 a2 b1 b2 a3 b3 e
  · rw [List.getElem?_map] at h1
    obtain ⟨v, hv⟩ := vget h2
    rw [hv] at h1
    cases h1
    obtain ⟨m, w, hm, hw, e⟩ := at_ k s h2
    have hsub : ∀ x ∈ (F.A ++ roots σ ρ (vs.zip ws ++ st)) ++ roots (vs.map some) as [], x ∈ F.A ++ roots σ ρ (vs.zip ws ++ st) := fun x hx => by
      rcases List.mem_append.mp hx with h | h
      · exact h
      · exact rin x h
    have notIo : ∀ {i : Nat} {p : Addr} {o : Option V} {s0 : Sl}, ms[k]? = some false → ws[k]? = some (.al i) → σ[i]? = some o → ρ[i]? = some s0 → (rootS (o, s0) = some p ∨ (p ∈ F.A ∧ p ∉ F.Io)) → p ∉ roots (vs.map some) as [] := fun {i p o s0} hm0 hw0 b1 b2 hp hin => by
      obtain ⟨k2, s2, v2, g1, g2, g3⟩ := roots_in p hin
      obtain ⟨i2, d2, s3, _, _, m2, w2, a1, a2, a3, _, a5⟩ := ioR g1 g2 g3
      rcases hp with hp | ⟨hp1, hp2⟩
      · have hne : i ≠ i2 := fun z => by
          subst z
          have := okAl_ix hn m2 hw0 w2
          subst this
          rw [hm0] at m2
          cases m2
        exact slot_ne E hne b1 b2 a1 a2 hp a3 rfl
      · rcases a5 with a5 | a5
        · exact E.ok.tr p hp1 a5
        · exact hp2 a5
    cases m with
    | true =>
      obtain ⟨i, p', d, s0, rfl, rfl, rfl, a1, a2, a3, a4, a5⟩ := io_arg E (hst hv hw) e
      refine .io (roots_slot (i := k) (o := some (.ref p')) (s := .io d) (by rw [List.getElem?_map, hv]; rfl) h2 rfl) (a4.mono hsub)
    | false =>
      have q := E.wv _ (hst hv hw)
      dsimp only at q
      cases w with
      | cl d =>
        cases e
        cases q with | cl r => exact .cl (r.mono hsub)
      | fr d => cases e
      | hl i d => cases e
      | hp i => cases e
      | al i =>
        have e : argAl false i ρ = some s := e
        cases q with
        | al a _ _ =>
          unfold argAl at e
          cases hi : ρ[i]? with
          | none => rw [hi] at e; cases e
          | some s0 =>
            rw [hi] at e
            have r := E.sl i _ _ a hi
            have rt : ∀ {p : Addr}, rootS (some v, s0) = some p → p ∈ F.A ++ roots σ ρ (vs.zip ws ++ st) := fun hr => mem_av (roots_slot a hi hr)
            have ni : ∀ {p : Addr}, (rootS (some v, s0) = some p ∨ (p ∈ F.A ∧ p ∉ F.Io)) → p ∉ roots (vs.map some) as [] := notIo hm hw a hi
            generalize hG : F.A ++ roots σ ρ (vs.zip ws ++ st) = MM at r rt hsub
            cases r with
            | un => cases e
            | cl r => cases e; exact .cl (r.mono hsub)
            | @ow p xs ds n b c => cases e; exact .dt (rt rfl) (ni (.inl rfl)) (.lst b (c.mono hsub))
            | @lk p xs ds n b c => cases e; exact .dt (rt rfl) (ni (.inl rfl)) (.lst b (c.mono hsub))
            | @io p d m r => cases e; exact .dt (rt rfl) (ni (.inl rfl)) (r.mono hsub)
            | @dt p d m n r => cases e; exact .dt (by show p ∈ MM; rw [← hG]; exact List.mem_append.mpr (.inl m)) (ni (.inr ⟨m, n⟩)) (r.mono hsub)
  · exact List.all_eq_true.mpr fun s hs => by
      obtain ⟨k, hk⟩ := List.mem_iff_getElem?.mp hs
      exact ok1 hk
  · obtain ⟨k, s, v, h1, h2, h3⟩ := roots_in q hq
    obtain ⟨i, d, s0, rfl, _, m1, w1, a1, a2, a3, _, a5⟩ := ioR h1 h2 h3
    exact ⟨k, i, s0, m1, w1, h2, a1, a2, a3, a5⟩
/-- what a call leaves in the slots -/
theorem putO_at : ∀ {ms : List Bool} {ws : List W} {os ρ ρ' : List Sl}, putO ms ws os ρ = some ρ' → okAl ms ws = true → ρ'.length = ρ.length ∧ ∀ j : Nat,
    (∃ (k : Nat) (d : D) (s s' : Sl), ms[k]? = some true ∧ ws[k]? = some (.al j) ∧ os[k]? = some (.io d) ∧ ρ[j]? = some s ∧ putS s d = some s' ∧ ρ'[j]? = some s') ∨ ((∀ k : Nat, ms[k]? = some true → ws[k]? ≠ some (.al j)) ∧ ρ'[j]? = ρ[j]?)
  | [], [], os, ρ, ρ', h, _ => by
    cases h
    exact ⟨rfl, fun j => .inr ⟨fun k z => by simp at z, rfl⟩⟩
  | [], _ :: _, os, ρ, ρ', h, _ => by cases h
  | true :: ms, [], os, ρ, ρ', h, _ => by cases h
  | false :: ms, [], os, ρ, ρ', h, _ => by cases h
  | false :: ms, w :: ws, [], ρ, ρ', h, _ => by cases h
  | false :: ms, w :: ws, o :: os, ρ, ρ', h, hn => by
    have h : putO ms ws os ρ = some ρ' := h
    have hn2 : okAl ms ws = true := by
      unfold okAl at hn ⊢
      rw [Bool.or_eq_true] at hn ⊢
      refine hn.imp id fun z => decide_eq_true ?_
      have z := of_decide_eq_true z
      have sb : List.Sublist (alIx ws) (alIx (w :: ws)) := (List.sublist_cons_self w ws).filterMap _
      exact z.sublist sb
    obtain ⟨a, b⟩ := putO_at h hn2
    refine ⟨a, fun j => ?_⟩
    rcases b j with ⟨k, d, s, s', c1, c2, c3, c4⟩ | ⟨c1, c2⟩
    · exact .inl ⟨k + 1, d, s, s', by simpa using c1, by simpa using c2, by simpa using c3, c4⟩
    · refine .inr ⟨fun k hk => ?_, c2⟩
      cases k with
      | zero => simp at hk
      | succ k => simpa using c1 k (by simpa using hk)
  | true :: ms, w :: ws, os, ρ, ρ', h, hn => by
    cases w with
    | cl d => cases os with
      | nil => cases h
      | cons o os => cases o <;> cases h
    | fr d => cases os with
      | nil => cases h
      | cons o os => cases o <;> cases h
    | hl i d => cases os with
      | nil => cases h
      | cons o os => cases o <;> cases h
    | hp i => cases os with
      | nil => cases h
      | cons o os => cases o <;> cases h
    | al i =>
      cases os with
      | nil => cases h
      | cons o os =>
        cases o with
        | io d =>
          have h : ((ρ[i]?.bind fun s => putS s d).bind fun s => putO ms ws os (ρ.set i s)) = some ρ' := h
          cases h1 : ρ[i]? with
          | none => rw [h1] at h; cases h
          | some s0 =>
            rw [h1] at h
            dsimp only [Option.bind_some] at h
            cases h2 : putS s0 d with
            | none => rw [h2] at h; cases h
            | some s1 =>
              rw [h2] at h
              dsimp only [Option.bind_some] at h
              have hnd : (alIx (W.al i :: ws)).Nodup := by
                unfold okAl at hn
                rw [Bool.or_eq_true] at hn
                rcases hn with hn | hn
                · cases hn
                · exact of_decide_eq_true hn
              have hn2 : okAl ms ws = true := by
                unfold okAl
                rw [Bool.or_eq_true]
                exact .inr (decide_eq_true (hnd.sublist ((List.sublist_cons_self (W.al i) ws).filterMap _)))
              obtain ⟨a, b⟩ := putO_at h hn2
              refine ⟨by rw [a, List.length_set], fun j => ?_⟩
              by_cases hj : i = j
              · subst hj
                have hw : ∀ k : Nat, ws[k]? ≠ some (.al i) := fun k z => by
                  have := al_ix (ws := W.al i :: ws) (i := 0) (j := k + 1) (n := i) hnd rfl (by simpa using z)
                  omega
                rcases b i with ⟨k, d2, s, s', c1, c2, _⟩ | ⟨c1, c2⟩
                · exact absurd c2 (hw k)
                · refine .inl ⟨0, d, s0, s1, rfl, rfl, rfl, h1, h2, ?_⟩
                  rw [c2, List.getElem?_set_self (List.getElem?_eq_some_iff.mp h1).1]
              · rcases b j with ⟨k, d2, s, s', c1, c2, c3, c4, c5⟩ | ⟨c1, c2⟩
                · refine .inl ⟨k + 1, d2, s, s', by simpa using c1, by simpa using c2, by simpa using c3, ?_, c5⟩
                  rw [List.getElem?_set_ne hj] at c4
                  exact c4
                · refine .inr ⟨fun k hk => ?_, by rw [c2, List.getElem?_set_ne hj]⟩
                  cases k with
                  | zero =>
                    intro z
                    simp at z
                    exact hj z
                  | succ k => simpa using c1 k (by simpa using hk)
        | un => cases h
        | cl d => cases h
        | ow d => cases h
        | lk d => cases h
        | dt d => cases h
theorem putS_root {p : Addr} {s s' : Sl} (h : putS s d = some s') : rootS (some (.ref p), s) = some p ∧ rootS (some (.ref p), s') = some p ∧ s ≠ .un ∧ s' ≠ .un ∧ (∀ ds, s ≠ .lk ds) ∧ (∀ d, s ≠ .dt d) ∧ (∀ d, s = .io d → ∃ d', s' = .io d') := by
  cases s with
  | un => cases h
  | cl d => cases h
  | lk d => cases h
  | dt d => cases h
  | ow ds =>
    cases d <;> cases h
    exact ⟨rfl, rfl, (fun z => by cases z), (fun z => by cases z), (fun _ z => by cases z), (fun _ z => by cases z), (fun _ z => by cases z)⟩
  | io d0 =>
    cases h
    exact ⟨rfl, rfl, (fun z => by cases z), (fun z => by cases z), (fun _ z => by cases z), (fun _ z => by cases z), (fun _ z => ⟨_, rfl⟩)⟩
theorem putO_zr {outs : List Sl} (E : EnvR K F σ H ρ (vs.zip ws ++ st)) (hl : vs.length = ws.length) (hn : okAl ms ws = true) (hput : putO ms ws outs ρ = some ρ') : (σ.zip ρ').filterMap rootS = (σ.zip ρ).filterMap rootS := by
  obtain ⟨len2, pa⟩ := putO_at hput hn
  have hst : ∀ {k : Nat} {v : V} {w : W}, vs[k]? = some v → ws[k]? = some w → (v, w) ∈ vs.zip ws ++ st := fun a b => List.mem_append.mpr (.inl (List.mem_of_getElem? (zip_get a b)))
  have e : (σ.zip ρ').map rootS = (σ.zip ρ).map rootS := by
    apply List.ext_getElem?
    intro j
    rw [List.getElem?_map, List.getElem?_map]
    rcases pa j with ⟨k, d, s, s', c1, c2, c3, c4, c5, c6⟩ | ⟨_, c2⟩
    · have hk : k < vs.length := by
        have := (List.getElem?_eq_some_iff.mp c2).1
        omega
      have hv : vs[k]? = some vs[k] := List.getElem?_eq_getElem hk
      generalize vs[k] = vk at hv
      have q := E.wv _ (hst hv c2)
      dsimp only at q
      cases q with
      | al a _ _ =>
        have r := E.sl j _ _ a c4
        rw [zip_get a c6, zip_get a c4]
        show some (rootS (_, s')) = some (rootS (_, s))
        generalize F.A ++ roots σ ρ (vs.zip ws ++ st) = MM at r
        cases s with
        | un => cases c5
        | cl d => cases c5
        | lk d => cases c5
        | dt d => cases c5
        | ow ds =>
          cases d <;> cases c5
          cases r
          rfl
        | io d0 =>
          cases c5
          cases r
          rfl
    · cases hs : σ[j]? with
      | none =>
        have e1 : (σ.zip ρ')[j]? = none := by
          rw [List.getElem?_eq_none_iff, List.length_zip]
          have := List.getElem?_eq_none_iff.mp hs
          omega
        have e2 : (σ.zip ρ)[j]? = none := by
          rw [List.getElem?_eq_none_iff, List.length_zip]
          have := List.getElem?_eq_none_iff.mp hs
          omega
        rw [e1, e2]
      | some o =>
        cases hr : ρ[j]? with
        | none =>
          have := List.getElem?_eq_none_iff.mp hr
          have := E.len
          have := (List.getElem?_eq_some_iff.mp hs).1
          omega
        | some s => rw [zip_get hs (c2.trans hr), zip_get hs hr]
  have e2 : ∀ l : List (Option V × Sl), l.filterMap rootS = (l.map rootS).filterMap id := fun l => by
    rw [List.filterMap_map]
    rfl
  rw [e2, e2, e]
theorem EnvR.call_end {outs : List Sl} (E : EnvR K F σ H ρ (vs.zip ws ++ st)) (hl : vs.length = ws.length) (hn : okAl ms ws = true)
    (hio : ∀ q, q ∈ Io → ∃ (k i : Nat) (s0 : Sl), ms[k]? = some true ∧ ws[k]? = some (.al i) ∧ vs[k]? = some (.ref q) ∧ σ[i]? = some (some (.ref q)) ∧ ρ[i]? = some s0 ∧ rootS (some (.ref q), s0) = some q ∧ (F.H0 q = none ∨ q ∈ F.Io))
    (hput : putO ms ws outs ρ = some ρ') (ex : Ex Io H H') (tr : ∀ a, H a ≠ none → H' a ≠ none) (nw : Nw (F.A ++ roots σ ρ (vs.zip ws ++ st)) K H H' v w) (ho : Outs ((rootW (v, w)).toList ++ (F.A ++ roots σ ρ (vs.zip ws ++ st))) K H' vs outs) : EnvR K F σ H' ρ' ((v, w) :: st) := by
  obtain ⟨len2, pa⟩ := putO_at hput hn
  have hst : ∀ {k : Nat} {v : V} {w : W}, vs[k]? = some v → ws[k]? = some w → (v, w) ∈ vs.zip ws ++ st := fun a b => List.mem_append.mpr (.inl (List.mem_of_getElem? (zip_get a b)))
  have zr := putO_zr E hl hn hput
  have hp : ∀ p, rootW (v, w) = some p → H p = none ∧ v = .ref p := fun p h => by
    cases nw with
    | cl r => rw [rootW_cl] at h; cases h
    | fr hp _ _ => cases h; exact ⟨hp, rfl⟩
  have er : (roots σ ρ' ((v, w) :: st)).Perm ((rootW (v, w)).toList ++ roots σ ρ st) := by
    unfold roots
    rw [zr]
    have e3 : ((v, w) :: st).filterMap rootW = (rootW (v, w)).toList ++ st.filterMap rootW := by
      rw [List.filterMap_cons]
      cases rootW (v, w) <;> rfl
    rw [e3, ← List.append_assoc, ← List.append_assoc]
    exact List.Perm.append_right _ List.perm_append_comm
  have E0 : EnvR K F σ H ρ st := E.popL
  have avs : ∀ x ∈ F.A ++ roots σ ρ' ((v, w) :: st), x ∈ (rootW (v, w)).toList ++ (F.A ++ roots σ ρ (vs.zip ws ++ st)) := fun x hx => by
    rcases List.mem_append.mp hx with h | h
    · exact List.mem_append.mpr (.inr (List.mem_append.mpr (.inl h)))
    · rcases List.mem_append.mp (er.mem_iff.mp h) with h | h
      · exact List.mem_append.mpr (.inl h)
      · exact List.mem_append.mpr (.inr (av_st (fun x hx => List.mem_append.mpr (.inr hx)) x (List.mem_append.mpr (.inr h))))
  -- how what stays goes over
  have ioIn : ∀ q ∈ Io, q ∈ F.A ++ roots σ ρ (vs.zip ws ++ st) := fun q hq => by
    obtain ⟨k, i, s0, _, _, _, a1, a2, a3, _⟩ := hio q hq
    exact mem_av (roots_slot a1 a2 a3)
  have exA : Ex ((rootW (v, w)).toList ++ (F.A ++ roots σ ρ (vs.zip ws ++ st))) H H' := Ex.mono (fun x hx => List.mem_append.mpr (.inr (ioIn x hx))) ex
  have step : ∀ {P : List Addr → Hp → Prop}, (∀ M M' p, H p = none → (∀ x ∈ M', x ∈ M ∨ x = p) → P M H → P M' H) → (∀ M M', (∀ x ∈ M', x ∈ M) → P M H → P M' H) → P (F.A ++ roots σ ρ (vs.zip ws ++ st)) H → P ((rootW (v, w)).toList ++ (F.A ++ roots σ ρ (vs.zip ws ++ st))) H := fun {P} fr mo h => by
    cases hr : rootW (v, w) with
    | none => exact h
    | some p =>
      refine fr _ _ p (hp p hr).1 (fun x hx => ?_) h
      rcases List.mem_cons.mp hx with h | h
      · exact .inr h
      · exact .inl h
  refine ⟨E.ok, by rw [len2]; exact E.len, fun a o hn z => ?_, fun a z => tr a (E.tr a z), ?_, fun j o s h1 h2 => ?_, fun x hx => ?_⟩
  · refine ex a o (fun hin => ?_) (E.ex a o hn z)
    obtain ⟨k, i, s0, _, _, _, _, _, _, h0⟩ := hio a hin
    rcases h0 with h0 | h0
    · rw [h0] at z
      cases z
    · exact hn h0
  · rw [er.nodup_iff]
    cases hr : rootW (v, w) with
    | none => exact E0.nd
    | some p => exact List.nodup_cons.mpr ⟨fun h => root_tr E0 h (hp p hr).1, E0.nd⟩
  · refine SlR.mono avs ?_
    rcases pa j with ⟨k, d, s0, s1, c1, c2, c3, c4, c5, c6⟩ | ⟨c1, c2⟩
    · rw [c6] at h2
      cases h2
      have hk : k < vs.length := by
        have := (List.getElem?_eq_some_iff.mp c2).1
        omega
      have hv : vs[k]? = some vs[k] := List.getElem?_eq_getElem hk
      generalize vs[k] = vk at hv
      have q := E.wv _ (hst hv c2)
      dsimp only at q
      cases q with
      | al a _ _ =>
        rw [h1] at a
        cases a
        have r := E.sl j _ _ h1 c4
        have own := fun p hp => ho k p d (hv.trans hp) c3
        generalize (rootW (v, w)).toList ++ (F.A ++ roots σ ρ (vs.zip ws ++ st)) = M2 at own
        generalize F.A ++ roots σ ρ (vs.zip ws ++ st) = MM at r
        cases s0 with
        | un => cases c5
        | cl d => cases c5
        | lk d => cases c5
        | dt d => cases c5
        | ow ds =>
          cases d <;> cases c5
          cases r with
          | @ow p _ _ n b c =>
            have o2 := own p rfl
            cases o2 with
            | lst a b => exact .ow n a b
        | io d0 =>
          cases c5
          cases r with
          | @io p _ m b => exact .io m (own p rfl)
    · rw [c2] at h2
      have q := E.sl j o s h1 h2
      have ne : ∀ p, rootS (o, s) = some p → p ∉ Io := fun p hr hin => by
        obtain ⟨k, i, s0, m1, w1, _, a1, a2, a3, _⟩ := hio p hin
        by_cases hij : i = j
        · subst hij
          exact c1 k m1 w1
        · exact slot_ne E hij a1 a2 h1 h2 a3 hr rfl
      have keep : ∀ p, p ∉ Io → H p ≠ none → H' p = H p := fun p hn hs => by
        cases z : H p with
        | none => exact absurd z hs
        | some u => exact ex p u hn z
      have q2 := step (P := fun M H => SlR F M K H o s) (fun M M' p hp hm h => h.fresh hp hm) (fun M M' hm h => h.mono hm) q
      by_cases hun : s = .un
      · rw [hun]
        exact .un
      refine q2.ex exA fun p e1 e2 e3 => ?_
      refine keep p ?_ e3
      subst e1
      cases q with
      | un => exact absurd rfl hun
      | cl r => exact absurd rfl (e2 _)
      | ow n b c => exact ne _ rfl
      | lk n b c => exact ne _ rfl
      | io n b => exact ne _ rfl
      | dt m n b =>
        intro hin
        obtain ⟨k, i, s0, m1, w1, _, a1, a2, a3, h0⟩ := hio p hin
        rcases h0 with h0 | h0
        · exact E.ok.tr p m h0
        · exact n h0
  · refine WR.mono avs ?_
    rcases List.mem_cons.mp hx with rfl | hx
    · cases nw with
      | cl r => exact .cl (r.mono fun x hx => by
          rw [rootW_cl] at hx
          exact hx)
      | @fr p xs ds h0 a b =>
        refine .fr ?_ a b
        cases z : F.H0 p with
        | none => rfl
        | some u => exact absurd h0 (E.tr p (by rw [z]; exact fun z => by cases z))
    · have hx2 : x ∈ vs.zip ws ++ st := List.mem_append.mpr (.inr hx)
      have q := E.wv x hx2
      obtain ⟨vx, wx⟩ := x
      dsimp only at q ⊢
      cases wx with
      | cl d =>
        cases q with
        | cl r => exact .cl ((step (P := fun M H => Rep M K H vx d) (fun M M' p hp hm h => h.fresh hp hm) (fun M M' hm h => h.mono hm) r).ex exA)
      | fr ds =>
        have q2 := step (P := fun M H => WR F M K H σ ρ vx (.fr ds)) (fun M M' p hp hm h => h.fresh hp hm) (fun M M' hm h => h.mono hm) q
        have ne : ∀ p, vx = .ref p → p ∉ Io := fun p e hin => by
          obtain ⟨k, i, s0, m1, w1, _, a1, a2, a3, _⟩ := hio p hin
          exact slot_st_ne E a1 a2 a3 hx2 (by rw [e]; rfl) rfl
        generalize hG : (rootW (v, w)).toList ++ (F.A ++ roots σ ρ (vs.zip ws ++ st)) = M2 at q2 exA
        cases q2 with
        | @fr p xs _ n a b => exact .fr n (ex p _ (ne p rfl) a) (b.ex exA)
      | al j =>
        cases q with
        | @al _ _ s a b c =>
          rcases pa j with ⟨k, d, s0, s1, c1, c2, c3, c4, c5, c6⟩ | ⟨c1, c2⟩
          · exact .al a c6 (putS_root (p := 0) c5).2.2.2.1
          · exact .al a (c2.trans b) c
      | hl j ds =>
        cases q with
        | hl a b =>
          rcases pa j with ⟨k, d, s0, s1, c1, c2, c3, c4, c5, c6⟩ | ⟨c1, c2⟩
          · obtain ⟨_, _, _, _, z1, z2, _⟩ := putS_root (p := 0) c5
            rw [c4] at b
            rcases b with b | b
            · exact absurd (Option.some.inj b) (z1 _)
            · exact absurd (Option.some.inj b) (z2 _)
          · rw [← c2] at b
            exact .hl a b
      | hp j =>
        cases q with
        | @hp _ _ d0 a b =>
          rcases pa j with ⟨k, d, s0, s1, c1, c2, c3, c4, c5, c6⟩ | ⟨c1, c2⟩
          · obtain ⟨_, _, _, _, _, _, z3⟩ := putS_root (p := 0) c5
            rw [c4] at b
            obtain ⟨d', hd⟩ := z3 _ (Option.some.inj b)
            exact .hp a (by rw [c6, hd])
          · exact .hp a (c2.trans b)
end
/-! ### calls -/
/-- a new list handed over stays -/
def mFr (a : Mo W) : Mo W := fun ρ => bindR (a ρ) fun w ρ => match w with
  | .fr ds => some (.ok (.cl (.lst ds)) ρ)
  | w => some (.ok w ρ)
def callM (ms : List Bool) (m : Fnm) (a : Mo (List W)) : Mo W := fun ρ => bindR (a ρ) fun ws ρ => if okAl ms ws = true then (argsOf ρ ms ws).bind fun as => match m as with
  | some (.rt w outs) => (putO ms ws outs ρ).map fun ρ => .ok w ρ
  | some (.ex C fs outs) => (putO ms ws outs ρ).map fun ρ => .ex C fs ρ
  | none => none else none
section
variable {K : PySem.W.Frag} {WW : WX} {te : TE} {me : Mo W} {tr : TA} {mr : Mo (List W)} {m : Fnm} {ms : List Bool}
theorem sim_fr (he : SimE K WW te me) : SimE K WW te (mFr me) := fun F σ H ρ st x Q E e p => by
  rcases bindR_some e with ⟨w, ρ1, e1, e⟩ | ⟨C, fs, ρ1, e1, rfl⟩
  · refine he F σ H ρ st _ _ E e1 fun v H1 E1 => ?_
    cases w with
    | fr ds => cases e; exact p v H1 E1.freeze
    | cl d => cases e; exact p v H1 E1
    | al i => cases e; exact p v H1 E1
    | hl i d => cases e; exact p v H1 E1
    | hp i => cases e; exact p v H1 E1
  · exact he F σ H ρ st _ _ E e1 p
/-- a call whose raising is taken by the wish -/
theorem sim_callS (ha : SimA K WW tr mr) : SimE K WW (tCallS (spM K m) (WE WW) tr) (callM ms m mr) := fun F σ H ρ st x Q E e p => by
  rcases bindR_some e with ⟨ws, ρ1, e1, e⟩ | ⟨C, fs, ρ1, e1, rfl⟩
  · refine ha F σ H ρ st _ _ E e1 fun vs H1 hl E1 => ?_
    split at e
    · rename_i hn
      cases h1 : argsOf ρ1 ms ws with
      | none => rw [h1] at e; cases e
      | some as =>
        rw [h1] at e
        dsimp only [Option.bind_some] at e
        obtain ⟨s1, s2, s3⟩ := E1.call_start hl h1 hn
        cases h2 : m as with
        | none => rw [h2] at e; cases e
        | some r =>
          rw [h2] at e
          refine ⟨_, _, as, r, s1, s2, h2, ?_⟩
          cases r with
          | rt w outs =>
            dsimp only at e
            cases h3 : putO ms ws outs ρ1 with
            | none => rw [h3] at e; cases e
            | some ρ2 =>
              rw [h3] at e
              cases e
              intro v H' ex tr nw ho
              exact p v H' (E1.call_end hl hn s3 h3 ex tr nw ho)
          | ex C fs outs =>
            dsimp only at e
            cases h3 : putO ms ws outs ρ1 with
            | none => rw [h3] at e; cases e
            | some ρ2 =>
              rw [h3] at e
              cases e
              intro dx H' ex tr xd ho
              have E2 : EnvR K F σ H' ρ2 ((.non, .cl .non) :: st) := E1.call_end hl hn s3 h3 ex tr (.cl .non) ho
              refine p σ H' dx E2.pop ?_
              obtain ⟨a, b, c⟩ := xd
              refine .mk a b (c.mono fun x hx => ?_)
              rcases List.mem_append.mp hx with h | h
              · exact List.mem_append.mpr (.inl h)
              · have zr := putO_zr E1 hl hn h3
                refine av_st (F := F) (σ := σ) (ρ := ρ1) (st := vs.zip ws ++ st) (st' := st) (fun x hx => List.mem_append.mpr (.inr hx)) x (mem_av ?_)
                unfold roots at h ⊢
                rw [zr] at h
                exact h
    · cases e
  · exact ha F σ H ρ st _ _ E e1 p
/-- a call that raises nothing -/
def callN (ms : List Bool) (m : Fnm) (a : Mo (List W)) : Mo W := fun ρ => bindR (a ρ) fun ws ρ => if okAl ms ws = true then (argsOf ρ ms ws).bind fun as => match m as with
  | some (.rt w outs) => (putO ms ws outs ρ).map fun ρ => .ok w ρ
  | _ => none else none
theorem sim_call (ha : SimA K WW tr mr) : SimE K WW (tCall (spM K m) [] E0 tr) (callN ms m mr) := fun F σ H ρ st x Q E e p => by
  rcases bindR_some e with ⟨ws, ρ1, e1, e⟩ | ⟨C, fs, ρ1, e1, rfl⟩
  · refine ha F σ H ρ st _ _ E e1 fun vs H1 hl E1 => ?_
    rw [List.append_nil]
    split at e
    · rename_i hn
      cases h1 : argsOf ρ1 ms ws with
      | none => rw [h1] at e; cases e
      | some as =>
        rw [h1] at e
        dsimp only [Option.bind_some] at e
        obtain ⟨s1, s2, s3⟩ := E1.call_start hl h1 hn
        cases h2 : m as with
        | none => rw [h2] at e; cases e
        | some r =>
          rw [h2] at e
          refine ⟨_, _, as, r, s1, s2, h2, ?_⟩
          cases r with
          | rt w outs =>
            dsimp only at e
            cases h3 : putO ms ws outs ρ1 with
            | none => rw [h3] at e; cases e
            | some ρ2 =>
              rw [h3] at e
              cases e
              intro v H' ex tr nw ho
              exact p v H' (E1.call_end hl hn s3 h3 ex tr nw ho)
          | ex C fs outs => cases e
    · cases e
  · exact ha F σ H ρ st _ _ E e1 p
end
end PM

/-! PM9: operations on trees. -/
namespace PM
open PySem PySem.Spec PyProof.Rows L2 SL

/-! ### data -/
mutual
def pd : D → Option PyData
  | .non => some .none
  | .bl b => some (.bool b)
  | .int i => some (.int i)
  | .str z => some (.str z)
  | .lst xs => (pds xs).map .list
  | .tup xs => (pds xs).map .tuple
  | .tg _ d => pd d
  | _ => none
def pds : List D → Option (List PyData)
  | [] => some []
  | d :: ds => (pd d).bind fun x => (pds ds).map (x :: ·)
end
section
variable {K : PySem.W.Frag} {M : List Addr} {H H' : Hp} {p : Addr}
theorem pd_lst {xs : List D} : pd (.lst xs) = (pds xs).map .list := by simp only [pd]
theorem pd_tup {xs : List D} : pd (.tup xs) = (pds xs).map .tuple := by simp only [pd]
mutual
theorem pd_dp : ∀ {v : V} {d : D} {x : PyData}, Rep M K H v d → pd d = some x → Dp K H v x
  | _, _, _, .non, e => by simp only [pd] at e; cases e; exact .non
  | _, _, _, .bl b, e => by simp only [pd] at e; cases e; exact .bl b
  | _, _, _, .int i, e => by simp only [pd] at e; cases e; exact .int i
  | _, _, _, .str z, e => by simp only [pd] at e; cases e; exact .str z
  | _, _, _, .ty n, e => by simp only [pd] at e; cases e
  | _, _, _, .glo n, e => by simp only [pd] at e; cases e
  | _, _, _, .scr n, e => by simp only [pd] at e; cases e
  | _, _, _, .dK h n a, e => by simp only [pd] at e; cases e
  | _, _, _, .rng h, e => by simp only [pd] at e; cases e
  | _, _, _, .bo h h2, e => by simp only [pd] at e; cases e
  | _, _, _, .ins h n a, e => by simp only [pd] at e; cases e
  | _, _, _, .exc h h2 n a, e => by simp only [pd] at e; cases e
  | _, _, _, .lst (ds := ds) h a, e => by
    rw [pd_lst] at e
    cases h1 : pds ds with
    | none => rw [h1] at e; cases e
    | some ys =>
      rw [h1] at e
      cases e
      exact .lst (.inl (.inl h.at_)) (pds_dp a h1)
  | _, _, _, .tup (ds := ds) h a, e => by
    rw [pd_tup] at e
    cases h1 : pds ds with
    | none => rw [h1] at e; cases e
    | some ys =>
      rw [h1] at e
      cases e
      exact .tup h.sq (pds_dp a h1)
  | _, _, _, .tg h, e => by simp only [pd] at e; exact pd_dp h e
theorem pds_dp : ∀ {vs : List V} {ds : List D} {xs : List PyData}, RepA M K H vs ds → pds ds = some xs → DpAll K H vs xs
  | _, _, _, .nil, e => by simp only [pds] at e; cases e; exact .nil
  | _, _, _, .cons (d := d) (ds := ds) h a, e => by
    simp only [pds] at e
    cases h1 : pd d with
    | none => rw [h1] at e; cases e
    | some x =>
      rw [h1] at e
      dsimp only [Option.bind_some] at e
      cases h2 : pds ds with
      | none => rw [h2] at e; cases e
      | some ys =>
        rw [h2] at e
        cases e
        exact .cons (pd_dp h h1) (pds_dp a h2)
end
theorem nr_dp {v : V} {d : D} {x : PyData} (h : Nr M K H v d) (e : pd d = some x) : Dp K H v x := pd_dp h.rep0 e
end

/-! ### the operations -/
def big : Int := 10000000000000000000000000000000000000000
def dAdd (a b : D) : Option W := match a.u, b.u with
  | .int i, .int j => some (.cl (.int (i + j)))
  | .str x, .str y => if x.length + y.length ≤ 100000 then some (.cl (.str (x ++ y))) else none
  | .lst xs, .lst ys => if xs.length + ys.length ≤ 100000 then some (.fr (xs ++ ys)) else none
  | .tup xs, .tup ys => if xs.length + ys.length ≤ 100000 then some (.cl (.tup (xs ++ ys))) else none
  | _, _ => none
def dSub (a b : D) : Option W := match a.u, b.u with
  | .int i, .int j => some (.cl (.int (i - j)))
  | _, _ => none
def dMul (a b : D) : Option W := match a.u, b.u with
  | .int i, .int j => if -big < i ∧ i < big ∧ -big < j ∧ j < big then some (.cl (.int (i * j))) else none
  | .lst xs, .int n => if 0 ≤ n ∧ n ≤ 100000 ∧ xs.length * n.toNat ≤ 100000 then some (.fr (List.replicate n.toNat xs).flatten) else none
  | .tup xs, .int n => if 2 ≤ n ∧ n ≤ 1000 ∧ xs.length ≤ 1000 ∧ xs.isEmpty = false then some (.cl (.tup (List.replicate n.toNat xs).flatten)) else none
  | _, _ => none
def dMod (a b : D) : Option W := match a.u, b.u with
  | .int i, .int j => if 0 < j then some (.cl (.int (i % j))) else none
  | _, _ => none
def dDiv (a b : D) : Option W := match a.u, b.u with
  | .int i, .int j => if 0 < j ∧ j < big then some (.cl (.int (i / j))) else none
  | _, _ => none
def dPow (a b : D) : Option W := match a.u, b.u with
  | .int i, .int j => if 0 ≤ j ∧ j ≤ 1000000 ∧ -18446744073709551616 < i ∧ i < 18446744073709551616 then some (.cl (.int (i ^ j.toNat))) else none
  | _, _ => none
def dNeg (a : D) : Option W := match a.u with
  | .int i => some (.cl (.int (-i)))
  | _ => none
def dEqB (a b : D) : Option Bool := (pd a).bind fun x => (pd b).bind fun y => if SeqAt.shaped x = true ∧ SeqAt.shaped y = true then some (PyData.eqv x y) else none
def dEq (a b : D) : Option W := (dEqB a b).map fun b => .cl (.bl b)
def dNe (a b : D) : Option W := (dEqB a b).map fun b => .cl (.bl (!b))
def intsOf : List D → Option (List Int)
  | [] => some []
  | d :: ds => match d.u with
    | .int i => (intsOf ds).map (i :: ·)
    | _ => none
def strsOf : List D → Option (List Str)
  | [] => some []
  | d :: ds => match d.u with
    | .str i => (strsOf ds).map (i :: ·)
    | _ => none
def blsOf : List D → Option (List Bool)
  | [] => some []
  | d :: ds => match d.u with
    | .bl i => (blsOf ds).map (i :: ·)
    | _ => none
def dLt (a b : D) : Option W := match a.u, b.u with
  | .int i, .int j => some (.cl (.bl (decide (i < j))))
  | .str x, .str y => some (.cl (.bl (decide (x.cps.toList < y.cps.toList))))
  | .tup xs, .tup ys => (intsOf xs).bind fun ns => (intsOf ys).map fun ms => .cl (.bl (HT.lexLt ns ms))
  | _, _ => none
def dLe (a b : D) : Option W := match a.u, b.u with
  | .int i, .int j => some (.cl (.bl (decide (i ≤ j))))
  | _, _ => none
def dGt (a b : D) : Option W := match a.u, b.u with
  | .int i, .int j => some (.cl (.bl (decide (j < i))))
  | _, _ => none
def dGe (a b : D) : Option W := match a.u, b.u with
  | .int i, .int j => some (.cl (.bl (decide (j ≤ i))))
  | _, _ => none
def dIs (a b : D) : Option W := match a.u, b.u with
  | .non, .non => some (.cl (.bl true))
  | _, .non => some (.cl (.bl false))
  | _, _ => none
def dIsnt (a b : D) : Option W := match a.u, b.u with
  | .non, .non => some (.cl (.bl false))
  | _, .non => some (.cl (.bl true))
  | _, _ => none
/-- a flat value -/
def flat : D → Option V
  | .non => some .non
  | .bl b => some (.bl b)
  | .int i => some (.int i)
  | .str z => some (.str z)
  | .tg _ d => flat d
  | _ => none
def flats : List D → Option (List V)
  | [] => some []
  | d :: ds => (flat d).bind fun v => (flats ds).map (v :: ·)
def dInB (a b : D) : Option Bool := match b.u with
  | .str z => match a.u with
    | .str x => match x.cps.toList with
      | [c] => some (decide (c ∈ z.cps.toList))
      | _ => none
    | _ => none
  | .lst ds => (flat a).bind fun v => (flats ds).map fun vs => inV v vs
  | .tup ds => (flat a).bind fun v => (flats ds).map fun vs => inV v vs
  | .rng lo hi => match a.u with
    | .int i => some (decide (lo ≤ i ∧ i < hi))
    | _ => none
  | _ => none
def dIn (a b : D) : Option W := (dInB a b).map fun b => .cl (.bl b)
def dNi (a b : D) : Option W := match b.u with
  | .rng _ _ => none
  | _ => (dInB a b).map fun b => .cl (.bl (!b))
def dIx (a b : D) : Option W := match a.u, b.u with
  | .lst ds, .int i => (atI ds i).map .cl
  | .tup ds, .int i => (atI ds i).map .cl
  | .scr ns, .int i => (atI ns i).map fun n => .cl (.int n)
  | .str z, .int i => if z.length ≤ 100000 then (atI z.cps.toList i).map fun c => .cl (.str ⟨#[c]⟩) else none
  | _, _ => none
def cutL {α : Type} (xs : List α) (lo hi : Option Int) : List α := (xs.drop (HT.sIx xs.length 0 lo)).take (HT.sIx xs.length xs.length hi - HT.sIx xs.length 0 lo)
def dSl (a : D) (lo hi : Option Int) : Option W := match a.u with
  | .str z => if z.length ≤ 100000 then some (.cl (.str (cutS z lo hi))) else none
  | .lst ds => some (.fr (cutL ds lo hi))
  | .tup ds => some (.cl (.tup (cutL ds lo hi)))
  | _ => none
def dLen : List D → Option W
  | [a] => match a.u with
    | .str z => if z.length ≤ 100000 then some (.cl (.int z.length)) else none
    | .lst ds => some (.cl (.int ds.length))
    | .tup ds => some (.cl (.int ds.length))
    | .scr ds => some (.cl (.int ds.length))
    | _ => none
  | _ => none
def dMax2 : List D → Option W
  | [a, b] => match a.u, b.u with
    | .int i, .int j => some (.cl (.int (if j > i then j else i)))
    | _, _ => none
  | _ => none
def dMin2 : List D → Option W
  | [a, b] => match a.u, b.u with
    | .int i, .int j => some (.cl (.int (if j < i then j else i)))
    | _, _ => none
  | _ => none
def dAll : List D → Option W
  | [a] => match a.u with
    | .lst ds => (blsOf ds).map fun bs => .cl (.bl (bs.all id))
    | _ => none
  | _ => none
def dAny : List D → Option W
  | [a] => match a.u with
    | .lst ds => (blsOf ds).map fun bs => .cl (.bl (bs.any id))
    | _ => none
  | _ => none
def dSum : List D → Option W
  | [a] => match a.u with
    | .lst ds => (intsOf ds).map fun bs => .cl (.int bs.sum)
    | _ => none
  | _ => none
def dStr : List D → Option W
  | [a] => match a.u with
    | .int i => if -100000000000000000000000000000000000000000000000000 < i ∧ i < 100000000000000000000000000000000000000000000000000 then some (.cl (.str (Str.ofString (toString i)))) else none
    | .str z => some (.cl (.str z))
    | _ => none
  | _ => none
def dInt : List D → Option W
  | [a] => match a.u with
    | .int i => some (.cl (.int i))
    | .bl b => some (.cl (.int (if b then 1 else 0)))
    | _ => none
  | _ => none
def dList : List D → Option W
  | [a] => match a.u with
    | .lst ds => some (.fr ds)
    | .tup ds => some (.fr ds)
    | _ => none
  | _ => none
def dTuple : List D → Option W
  | [a] => match a.u with
    | .lst ds => some (.cl (.tup ds))
    | .tup ds => some (.cl (.tup ds))
    | _ => none
  | _ => none
def dRng2 : List D → Option W
  | [a, b] => match a.u, b.u with
    | .int i, .int j => some (.cl (.rng i j))
    | _, _ => none
  | _ => none
/-- data whose repr is told -/
def showsB (x : PyData) : Bool := x.showable && (x.leavesShort 60 && (decide (x.bulk ≤ 200000) && decide (x.depth ≤ 60)))
def dRepr : List D → Option W
  | [a] => (pd a).bind fun x => if showsB x = true then some (.cl (.str x.shown)) else none
  | _ => none
def insS (z : Str) : List Str → List Str
  | [] => [z]
  | y :: ys => if z.cps.toList < y.cps.toList then z :: y :: ys else y :: insS z ys
def sortS : List Str → List Str
  | [] => []
  | z :: zs => insS z (sortS zs)
section
variable {K : PySem.W.Frag} {M : List Addr} {H H' : Hp} {p : Addr} {v : V} {d : D} {vs : List V} {ds : List D}
theorem ints_of : ∀ {vs : List V} {ds : List D} {ns : List Int}, RepA M K H vs ds → intsOf ds = some ns → vs = ns.map V.int
  | _, _, _, .nil, e => by cases e; rfl
  | _, _, ns, .cons (v := v) (vs := vs) (d := d) (ds := ds) h a, e => by
    have e : (match d.u with
      | .int i => (intsOf ds).map (i :: ·)
      | _ => none) = some ns := e
    have h := h.u
    split at e
    · rename_i i hi
      rw [hi] at h
      cases h1 : intsOf ds with
      | none => rw [h1] at e; cases e
      | some ms =>
        rw [h1] at e
        cases e
        rw [rep_int h, ints_of a h1]
        rfl
    · cases e
theorem strs_of : ∀ {vs : List V} {ds : List D} {ns : List Str}, RepA M K H vs ds → strsOf ds = some ns → vs = ns.map V.str
  | _, _, _, .nil, e => by cases e; rfl
  | _, _, ns, .cons (v := v) (vs := vs) (d := d) (ds := ds) h a, e => by
    have e : (match d.u with
      | .str i => (strsOf ds).map (i :: ·)
      | _ => none) = some ns := e
    have h := h.u
    split at e
    · rename_i i hi
      rw [hi] at h
      cases h1 : strsOf ds with
      | none => rw [h1] at e; cases e
      | some ms =>
        rw [h1] at e
        cases e
        rw [rep_str h, strs_of a h1]
        rfl
    · cases e
theorem bls_of : ∀ {vs : List V} {ds : List D} {ns : List Bool}, RepA M K H vs ds → blsOf ds = some ns → vs = ns.map V.bl
  | _, _, _, .nil, e => by cases e; rfl
  | _, _, ns, .cons (v := v) (vs := vs) (d := d) (ds := ds) h a, e => by
    have e : (match d.u with
      | .bl i => (blsOf ds).map (i :: ·)
      | _ => none) = some ns := e
    have h := h.u
    split at e
    · rename_i i hi
      rw [hi] at h
      cases h1 : blsOf ds with
      | none => rw [h1] at e; cases e
      | some ms =>
        rw [h1] at e
        cases e
        rw [rep_bl h, bls_of a h1]
        rfl
    · cases e
theorem flat_of : ∀ {v : V} {d : D} {x : V}, Rep M K H v d → flat d = some x → v = x ∧ flatV x = true
  | _, _, _, .non, e => by simp only [flat] at e; cases e; exact ⟨rfl, rfl⟩
  | _, _, _, .bl b, e => by simp only [flat] at e; cases e; exact ⟨rfl, rfl⟩
  | _, _, _, .int i, e => by simp only [flat] at e; cases e; exact ⟨rfl, rfl⟩
  | _, _, _, .str z, e => by simp only [flat] at e; cases e; exact ⟨rfl, rfl⟩
  | _, _, _, .tg h, e => by simp only [flat] at e; exact flat_of h e
  | _, _, _, .ty n, e => by simp only [flat] at e; cases e
  | _, _, _, .glo n, e => by simp only [flat] at e; cases e
  | _, _, _, .scr n, e => by simp only [flat] at e; cases e
  | _, _, _, .lst n a, e => by simp only [flat] at e; cases e
  | _, _, _, .tup n a, e => by simp only [flat] at e; cases e
  | _, _, _, .dK h n a, e => by simp only [flat] at e; cases e
  | _, _, _, .rng h, e => by simp only [flat] at e; cases e
  | _, _, _, .bo h h2, e => by simp only [flat] at e; cases e
  | _, _, _, .ins h n a, e => by simp only [flat] at e; cases e
  | _, _, _, .exc h h2 n a, e => by simp only [flat] at e; cases e
theorem flats_of : ∀ {vs : List V} {ds : List D} {xs : List V}, RepA M K H vs ds → flats ds = some xs → vs = xs ∧ xs.all flatV = true
  | _, _, _, .nil, e => by cases e; exact ⟨rfl, rfl⟩
  | _, _, xs, .cons (v := v) (vs := vs) (d := d) (ds := ds) h a, e => by
    have e : ((flat d).bind fun v => (flats ds).map (v :: ·)) = some xs := e
    cases h1 : flat d with
    | none => rw [h1] at e; cases e
    | some x =>
      rw [h1] at e
      dsimp only [Option.bind_some] at e
      cases h2 : flats ds with
      | none => rw [h2] at e; cases e
      | some ys =>
        rw [h2] at e
        cases e
        obtain ⟨a1, a2⟩ := flat_of h h1
        obtain ⟨b1, b2⟩ := flats_of a h2
        rw [a1, b1]
        exact ⟨rfl, by rw [List.all_cons, a2, b2]; rfl⟩
theorem RepA.cut {lo hi : Option Int} (h : RepA M K H vs ds) : RepA M K H (cutV vs lo hi) (cutL ds lo hi) := by
  unfold cutV cutL
  rw [h.len]
  exact (h.drop _).take _
theorem RepA.rep : ∀ (n : Nat), RepA M K H vs ds → RepA M K H (List.replicate n vs).flatten (List.replicate n ds).flatten
  | 0, _ => .nil
  | n + 1, h => by
    rw [List.replicate_succ, List.replicate_succ, List.flatten_cons, List.flatten_cons]
    exact h.append (RepA.rep n h)
theorem RepA.atI {i : Int} (h : RepA M K H vs ds) (e : atI ds i = some d) : ∃ v, L2.atI vs i = some v ∧ Rep M K H v d := by
  unfold L2.atI at e ⊢
  rw [h.len]
  cases h1 : ixN ds.length i with
  | none => rw [h1] at e; cases e
  | some k =>
    rw [h1] at e
    exact h.get e
theorem wmul {i j : Int} (h : -big < i ∧ i < big ∧ -big < j ∧ j < big) : CMulW i j := by
  unfold big at h
  refine wide_mul (a := 140) (b := 140) ?_ ?_ (by decide) (by decide) (by decide)
  · have : (2 : Nat) ^ 140 = 1393796574908163946345982392040522594123776 := by decide
    omega
  · have : (2 : Nat) ^ 140 = 1393796574908163946345982392040522594123776 := by decide
    omega
theorem wdiv {i j : Int} (h : 0 < j ∧ j < big) : CDivW i j := by
  unfold big at h
  refine wide_div (b := 140) h.1 ?_ (by decide) (by decide)
  have : (2 : Nat) ^ 140 = 1393796574908163946345982392040522594123776 := by decide
  omega
theorem o_add : Op2 K (uAdd K) dAdd := fun M H x y dx dy w Q hM nx ny e q => by
  unfold dAdd at e
  split at e
  · rename_i i j h1 h2
    cases e
    rw [nr_int nx h1, nr_int ny h2]
    exact u_add_i (q _ _ Ex.refl (.cl (.int _)))
  · rename_i i j h1 h2
    split at e
    · cases e
      rw [nr_str nx h1, nr_str ny h2]
      exact u_add_s (sz_le ‹_›) (q _ _ Ex.refl (.cl (.str _)))
    · cases e
  · rename_i i j h1 h2
    obtain ⟨a, xs, rfl, s1, r1⟩ := nr_lst nx h1
    obtain ⟨b, ys, rfl, s2, r2⟩ := nr_lst ny h2
    split at e
    · cases e
      exact u_add_l s1 s2 (sz_le (by rw [r1.len, r2.len]; assumption)) fun p hp => q _ _ (Ex.new hp) (Nw.new hp (r1.append r2))
    · cases e
  · rename_i i j h1 h2
    have ux := nx.u
    have uy := ny.u
    rw [h1] at ux
    rw [h2] at uy
    cases ux with
    | own r => cases r
    | cl rx =>
      cases uy with
      | own r => cases r
      | cl ry =>
        cases rx with
        | @tup a xs _ s1 r1 =>
          cases ry with
          | @tup b ys _ s2 r2 =>
            split at e
            · cases e
              refine u_add_t s1.sq s2.sq (sz_le (by rw [r1.len, r2.len]; assumption)) (fun h => ?_) (fun _ h => ?_) fun _ _ p hp => q _ _ (Ex.new hp) (Nw.tup hp (hM p hp) (r1.append r2))
              · subst h
                cases r1
                exact q _ _ Ex.refl (.cl (.tup s2 r2))
              · subst h
                cases r2
                rw [List.append_nil] at q
                exact q _ _ Ex.refl (.cl (.tup s1 r1))
            · cases e
  · cases e
theorem o_sub : Op2 K SL.rSub dSub := fun M H x y dx dy w Q hM nx ny e q => by
  unfold dSub at e
  split at e
  · rename_i i j h1 h2
    cases e
    rw [nr_int nx h1, nr_int ny h2]
    exact u_sub (q _ _ Ex.refl (.cl (.int _)))
  · cases e
theorem o_mul : Op2 K (uMul K) dMul := fun M H x y dx dy w Q hM nx ny e q => by
  unfold dMul at e
  split at e
  · rename_i i j h1 h2
    split at e
    · cases e
      rw [nr_int nx h1, nr_int ny h2]
      exact u_mul (wmul ‹_›) (q _ _ Ex.refl (.cl (.int _)))
    · cases e
  · rename_i xs n h1 h2
    obtain ⟨a, xs, rfl, s1, r1⟩ := nr_lst nx h1
    rw [nr_int ny h2]
    split at e
    · rename_i hb
      cases e
      exact u_mul_l s1 hb.1 (by omega) (sz_le (by rw [r1.len]; exact hb.2.2)) fun p hp => q _ _ (Ex.new hp) (Nw.new hp (r1.rep _))
    · cases e
  · rename_i xs n h1 h2
    obtain ⟨a, xs, rfl, s1, r1⟩ := nr_tup nx h1
    rw [nr_int ny h2]
    split at e
    · rename_i hb
      cases e
      refine .inr (.inr ⟨a, n, xs, rfl, rfl, s1, ?_, hb.1, hb.2.1, by rw [r1.len]; exact hb.2.2.1, fun p hp => q _ _ (Ex.new hp) (Nw.tup hp (hM p hp) (r1.rep _))⟩)
      intro z
      subst z
      cases r1
      exact absurd hb.2.2.2 (by simp)
    · cases e
  · cases e
theorem o_mod : Op2 K SL.rMod dMod := fun M H x y dx dy w Q hM nx ny e q => by
  unfold dMod at e
  split at e
  · rename_i i j h1 h2
    split at e
    · cases e
      rw [nr_int nx h1, nr_int ny h2]
      exact u_modp ‹_› (q _ _ Ex.refl (.cl (.int _)))
    · cases e
  · cases e
theorem o_div : Op2 K SL.rDiv dDiv := fun M H x y dx dy w Q hM nx ny e q => by
  unfold dDiv at e
  split at e
  · rename_i i j h1 h2
    split at e
    · cases e
      rw [nr_int nx h1, nr_int ny h2]
      exact u_div (wdiv ‹_›) (q _ _ Ex.refl (.cl (.int _)))
    · cases e
  · cases e
theorem o_pow : Op2 K SL.rPow dPow := fun M H x y dx dy w Q hM nx ny e q => by
  unfold dPow at e
  split at e
  · rename_i i j h1 h2
    split at e
    · rename_i hb
      cases e
      rw [nr_int nx h1, nr_int ny h2]
      exact u_pow ⟨hb.1, hb.2.1, by
        have : (2 : Nat) ^ 64 = 18446744073709551616 := by decide
        omega⟩ (q _ _ Ex.refl (.cl (.int _)))
    · cases e
  · cases e
theorem o_neg : Op1 K SL.rNeg dNeg := fun M H x dx w Q hM nx e q => by
  unfold dNeg at e
  split at e
  · rename_i i h1
    cases e
    rw [nr_int nx h1]
    exact u_neg (q _ _ Ex.refl (.cl (.int _)))
  · cases e
theorem eqB {M : List Addr} {H : Hp} {x y : V} {dx dy : D} {b : Bool} (nx : Nr M K H x dx) (ny : Nr M K H y dy) (e : dEqB dx dy = some b) : ∃ d e, Dp K H x d ∧ Dp K H y e ∧ SeqAt.shaped d = true ∧ SeqAt.shaped e = true ∧ PyData.eqv d e = b := by
  unfold dEqB at e
  cases h1 : pd dx with
  | none => rw [h1] at e; cases e
  | some d1 =>
    rw [h1] at e
    dsimp only [Option.bind_some] at e
    cases h2 : pd dy with
    | none => rw [h2] at e; cases e
    | some d2 =>
      rw [h2] at e
      dsimp only [Option.bind_some] at e
      split at e
      · rename_i hs
        cases e
        exact ⟨d1, d2, nr_dp nx h1, nr_dp ny h2, hs.1, hs.2, rfl⟩
      · cases e
theorem o_eq : Op2 K (uEq K) dEq := fun M H x y dx dy w Q hM nx ny e q => by
  unfold dEq at e
  cases h : dEqB dx dy with
  | none => rw [h] at e; cases e
  | some b =>
    rw [h] at e
    cases e
    obtain ⟨d1, d2, a1, a2, a3, a4, rfl⟩ := eqB nx ny h
    exact u_eq_d a1 a2 a3 a4 (q _ _ Ex.refl (.cl (.bl _)))
theorem o_ne : Op2 K (uNe K) dNe := fun M H x y dx dy w Q hM nx ny e q => by
  unfold dNe at e
  cases h : dEqB dx dy with
  | none => rw [h] at e; cases e
  | some b =>
    rw [h] at e
    cases e
    obtain ⟨d1, d2, a1, a2, a3, a4, rfl⟩ := eqB nx ny h
    exact u_ne_d a1 a2 a3 a4 (q _ _ Ex.refl (.cl (.bl _)))
theorem o_lt : Op2 K (uLt K) dLt := fun M H x y dx dy w Q hM nx ny e q => by
  unfold dLt at e
  split at e
  · rename_i i j h1 h2
    cases e
    rw [nr_int nx h1, nr_int ny h2]
    exact u_lt_i (q _ _ Ex.refl (.cl (.bl _)))
  · rename_i i j h1 h2
    cases e
    rw [nr_str nx h1, nr_str ny h2]
    exact u_lt_s (q _ _ Ex.refl (.cl (.bl _)))
  · rename_i i j h1 h2
    obtain ⟨a, xs, rfl, s1, r1⟩ := nr_tup nx h1
    obtain ⟨b, ys, rfl, s2, r2⟩ := nr_tup ny h2
    cases h3 : intsOf i with
    | none => rw [h3] at e; cases e
    | some ns =>
      rw [h3] at e
      dsimp only [Option.bind_some] at e
      cases h4 : intsOf j with
      | none => rw [h4] at e; cases e
      | some ms =>
        rw [h4] at e
        cases e
        rw [ints_of r1 h3] at s1
        rw [ints_of r2 h4] at s2
        exact .inr (.inr ⟨a, b, ns, ms, rfl, rfl, s1, s2, q _ _ Ex.refl (.cl (.bl _))⟩)
  · cases e
theorem o_le : Op2 K uLe dLe := fun M H x y dx dy w Q hM nx ny e q => by
  unfold dLe at e
  split at e
  · rename_i i j h1 h2
    cases e
    rw [nr_int nx h1, nr_int ny h2]
    exact u_le_i (q _ _ Ex.refl (.cl (.bl _)))
  · cases e
theorem o_gt : Op2 K SL.rGt dGt := fun M H x y dx dy w Q hM nx ny e q => by
  unfold dGt at e
  split at e
  · rename_i i j h1 h2
    cases e
    rw [nr_int nx h1, nr_int ny h2]
    exact u_gt_i (q _ _ Ex.refl (.cl (.bl _)))
  · cases e
theorem o_ge : Op2 K SL.rGe dGe := fun M H x y dx dy w Q hM nx ny e q => by
  unfold dGe at e
  split at e
  · rename_i i j h1 h2
    cases e
    rw [nr_int nx h1, nr_int ny h2]
    exact u_ge_i (q _ _ Ex.refl (.cl (.bl _)))
  · cases e
theorem rep_vnon : ∀ (d : D), Rep M K H .non d → d.u = .non
  | .tg v d, h => by
    cases h with
    | tg h => exact rep_vnon d h
  | .non, _ => rfl
  | .bl _, h => by cases h
  | .int _, h => by cases h
  | .str _, h => by cases h
  | .ty _, h => by cases h
  | .glo _, h => by cases h
  | .lst _, h => by cases h
  | .scr _, h => by cases h
  | .tup _, h => by cases h
  | .dK _, h => by cases h
  | .rng _ _, h => by cases h
  | .bo w d e, h => by cases h
  | .ins _ _, h => by cases h
  | .exc _ _, h => by cases h
theorem rep_ne_non {x : V} (h : Rep M K H x d) (hd : d.u = .non → False) : x ≠ .non := fun z => hd (rep_vnon d (by rw [← z]; exact h))
theorem o_is : Op2 K uIs dIs := fun M H x y dx dy w Q hM nx ny e q => by
  unfold dIs at e
  split at e
  · rename_i h1 h2
    cases e
    rw [nr_non nx h1, nr_non ny h2]
    exact ⟨rfl, q _ _ Ex.refl (.cl (.bl _))⟩
  · rename_i h2 h0
    cases e
    rw [nr_non ny h2]
    refine ⟨rfl, ?_⟩
    rw [decide_eq_false (rep_ne_non nx.rep0 h0)]
    exact q _ _ Ex.refl (.cl (.bl _))
  · cases e
theorem o_isnt : Op2 K uIsnt dIsnt := fun M H x y dx dy w Q hM nx ny e q => by
  unfold dIsnt at e
  split at e
  · rename_i h1 h2
    cases e
    rw [nr_non nx h1, nr_non ny h2]
    exact ⟨rfl, q _ _ Ex.refl (.cl (.bl _))⟩
  · rename_i h2 h0
    cases e
    rw [nr_non ny h2]
    refine ⟨rfl, ?_⟩
    rw [decide_eq_false (rep_ne_non nx.rep0 h0)]
    exact q _ _ Ex.refl (.cl (.bl _))
  · cases e
theorem nr_rng {M : List Addr} {v : V} {d : D} {lo hi : Int} (h : Nr M K H v d) (e : d.u = .rng lo hi) : ∃ a, v = .ref a ∧ H a = some (.rng lo hi) := by
  have h := h.u
  rw [e] at h
  cases h with
  | cl r => cases r with | rng a => exact ⟨_, rfl, a.at_⟩
  | own r => cases r
theorem nr_scr {M : List Addr} {v : V} {d : D} {ns : List Int} (h : Nr M K H v d) (e : d.u = .scr ns) : ∃ a, v = .ref a ∧ SqL K H a (ns.map V.int) := by
  have h := h.u
  rw [e] at h
  cases h with
  | cl r => cases r with | scr a => exact ⟨_, rfl, a.sq⟩
  | own r => cases r
theorem nr_flat {M : List Addr} {v x : V} {d : D} (h : Nr M K H v d) (e : flat d = some x) : v = x ∧ flatV x = true := flat_of h.rep0 e
theorem str1 {x : Str} {c : Nat} (h : x.cps.toList = [c]) : x = ⟨#[c]⟩ := str_ext h
theorem inB {neg : Bool} {M : List Addr} {x y : V} {dx dy : D} {b : Bool} (nx : Nr M K H x dx) (ny : Nr M K H y dy) (e : dInB dx dy = some b) :
    (∃ (c : Nat) (z : Str), x = .str ⟨#[c]⟩ ∧ y = .str z ∧ b = decide (c ∈ z.cps.toList)) ∨ (∃ p xs, y = .ref p ∧ (SqL K H p xs ∨ SqT K H p xs) ∧ flatV x = true ∧ xs.all flatV = true ∧ b = inV x xs) ∨ (∃ i a lo hi, x = V.int i ∧ y = V.ref a ∧ H a = some (.rng lo hi) ∧ b = decide (lo ≤ i ∧ i < hi) ∧ dy.u = .rng lo hi) := by
  unfold dInB at e
  split at e
  · rename_i z h2
    split at e
    · rename_i x' h1
      split at e
      · rename_i c hc
        cases e
        exact .inl ⟨c, z, by rw [nr_str nx h1, str1 hc], nr_str ny h2, rfl⟩
      · cases e
    · cases e
  · rename_i ds h2
    obtain ⟨a, xs, rfl, s1, r1⟩ := nr_lst ny h2
    cases h3 : flat dx with
    | none => rw [h3] at e; cases e
    | some v =>
      rw [h3] at e
      dsimp only [Option.bind_some] at e
      cases h4 : flats ds with
      | none => rw [h4] at e; cases e
      | some vs =>
        rw [h4] at e
        cases e
        obtain ⟨a1, a2⟩ := nr_flat nx h3
        obtain ⟨b1, b2⟩ := flats_of r1 h4
        subst a1 b1
        exact .inr (.inl ⟨a, xs, rfl, .inl (.inl (.inl s1)), a2, b2, rfl⟩)
  · rename_i ds h2
    obtain ⟨a, xs, rfl, s1, r1⟩ := nr_tup ny h2
    cases h3 : flat dx with
    | none => rw [h3] at e; cases e
    | some v =>
      rw [h3] at e
      dsimp only [Option.bind_some] at e
      cases h4 : flats ds with
      | none => rw [h4] at e; cases e
      | some vs =>
        rw [h4] at e
        cases e
        obtain ⟨a1, a2⟩ := nr_flat nx h3
        obtain ⟨b1, b2⟩ := flats_of r1 h4
        subst a1 b1
        exact .inr (.inl ⟨a, xs, rfl, .inr s1, a2, b2, rfl⟩)
  · rename_i lo hi h2
    obtain ⟨a, rfl, s1⟩ := nr_rng ny h2
    split at e
    · rename_i i h1
      cases e
      exact .inr (.inr ⟨i, a, lo, hi, nr_int nx h1, rfl, s1, rfl, h2⟩)
    · cases e
  · cases e
theorem o_in : Op2 K (uIn K) dIn := fun M H x y dx dy w Q hM nx ny e q => by
  unfold dIn at e
  cases h : dInB dx dy with
  | none => rw [h] at e; cases e
  | some b =>
    rw [h] at e
    cases e
    rcases inB (neg := false) nx ny h with ⟨c, z, rfl, rfl, rfl⟩ | ⟨p, xs, rfl, s, f1, f2, rfl⟩ | ⟨i, a, lo, hi, rfl, rfl, s, rfl, _⟩
    · exact u_in_s (q _ _ Ex.refl (.cl (.bl _)))
    · exact u_in_l s f1 f2 (q _ _ Ex.refl (.cl (.bl _)))
    · exact u_in_r s (q _ _ Ex.refl (.cl (.bl _)))
theorem o_ni : Op2 K (uNi K) dNi := fun M H x y dx dy w Q hM nx ny e q => by
  unfold dNi at e
  split at e
  · cases e
  · rename_i hr
    cases h : dInB dx dy with
    | none => rw [h] at e; cases e
    | some b =>
      rw [h] at e
      cases e
      rcases inB (neg := true) nx ny h with ⟨c, z, rfl, rfl, rfl⟩ | ⟨p, xs, rfl, s, f1, f2, rfl⟩ | ⟨i, a, lo, hi, rfl, rfl, s, rfl, h2⟩
      · exact u_ni_s (q _ _ Ex.refl (.cl (.bl _)))
      · exact u_ni_l s f1 f2 (q _ _ Ex.refl (.cl (.bl _)))
      · exact absurd h2 (fun z => hr _ _ z)
theorem o_ix : Op2 K (uIx K) dIx := fun M H x y dx dy w Q hM nx ny e q => by
  unfold dIx at e
  split at e
  · rename_i ds i h1 h2
    obtain ⟨a, xs, rfl, s1, r1⟩ := nr_lst nx h1
    rw [nr_int ny h2]
    cases h3 : L2.atI ds i with
    | none => rw [h3] at e; cases e
    | some d =>
      rw [h3] at e
      cases e
      obtain ⟨v, h4, h5⟩ := r1.atI h3
      exact u_ix_l (.inl (.inl s1)) h4 (q _ _ Ex.refl (.cl h5))
  · rename_i ds i h1 h2
    obtain ⟨a, xs, rfl, s1, r1⟩ := nr_tup nx h1
    rw [nr_int ny h2]
    cases h3 : L2.atI ds i with
    | none => rw [h3] at e; cases e
    | some d =>
      rw [h3] at e
      cases e
      obtain ⟨v, h4, h5⟩ := r1.atI h3
      exact u_ix_t s1 h4 (q _ _ Ex.refl (.cl h5))
  · rename_i ns i h1 h2
    obtain ⟨a, rfl, s1⟩ := nr_scr nx h1
    rw [nr_int ny h2]
    cases h3 : L2.atI ns i with
    | none => rw [h3] at e; cases e
    | some n =>
      rw [h3] at e
      cases e
      refine u_ix_l s1 (v := .int n) ?_ (q _ _ Ex.refl (.cl (.int _)))
      unfold L2.atI at h3 ⊢
      rw [List.length_map]
      cases h4 : ixN ns.length i with
      | none => rw [h4] at h3; cases h3
      | some k =>
        rw [h4] at h3
        have h3 : ns[k]? = some n := h3
        show (ns.map V.int)[k]? = some (V.int n)
        rw [List.getElem?_map, h3]
        rfl
  · rename_i z i h1 h2
    rw [nr_str nx h1, nr_int ny h2]
    split at e
    · rename_i hl
      cases h3 : L2.atI z.cps.toList i with
      | none => rw [h3] at e; cases e
      | some c =>
        rw [h3] at e
        cases e
        exact u_ix_s (sz_le hl) h3 (q _ _ Ex.refl (.cl (.str _)))
    · cases e
  · cases e
theorem o_len : OpN K (uLen K) dLen := fun M H xs ds w Q hM nr e q => by
  unfold dLen at e
  split at e
  · rename_i a
    obtain ⟨v, rfl, n⟩ := nra1 nr
    split at e
    · rename_i z h
      rw [nr_str n h]
      split at e
      · cases e
        exact u_len_s (sz_le ‹_›) (q _ _ Ex.refl (.cl (.int _)))
      · cases e
    · rename_i ds h
      obtain ⟨a, xs, rfl, s1, r1⟩ := nr_lst n h
      cases e
      refine u_len_q (.inl (.inl (.inl s1))) ?_
      rw [r1.len]
      exact q _ _ Ex.refl (.cl (.int _))
    · rename_i ds h
      obtain ⟨a, xs, rfl, s1, r1⟩ := nr_tup n h
      cases e
      refine u_len_q (.inr s1) ?_
      rw [r1.len]
      exact q _ _ Ex.refl (.cl (.int _))
    · rename_i ds h
      obtain ⟨a, rfl, s1⟩ := nr_scr n h
      cases e
      refine u_len_q (.inl s1) ?_
      rw [List.length_map]
      exact q _ _ Ex.refl (.cl (.int _))
    · cases e
  · cases e
theorem o_max2 : OpN K SL.rMax2 dMax2 := fun M H xs ds w Q hM nr e q => by
  unfold dMax2 at e
  split at e
  · obtain ⟨v, u, rfl, n, m⟩ := nra2 nr
    split at e
    · rename_i i j h1 h2
      cases e
      rw [nr_int n h1, nr_int m h2]
      exact u_max2 (q _ _ Ex.refl (.cl (.int _)))
    · cases e
  · cases e
theorem o_min2 : OpN K SL.rMin2 dMin2 := fun M H xs ds w Q hM nr e q => by
  unfold dMin2 at e
  split at e
  · obtain ⟨v, u, rfl, n, m⟩ := nra2 nr
    split at e
    · rename_i i j h1 h2
      cases e
      rw [nr_int n h1, nr_int m h2]
      exact u_min2 (q _ _ Ex.refl (.cl (.int _)))
    · cases e
  · cases e
theorem o_all : OpN K (SL.rAllL K) dAll := fun M H xs ds w Q hM nr e q => by
  unfold dAll at e
  split at e
  · obtain ⟨v, rfl, n⟩ := nra1 nr
    split at e
    · rename_i ds h1
      obtain ⟨a, xs, rfl, s1, r1⟩ := nr_lst n h1
      cases h2 : blsOf ds with
      | none => rw [h2] at e; cases e
      | some bs =>
        rw [h2] at e
        cases e
        rw [bls_of r1 h2] at s1
        exact u_all (.inl (.inl s1)) (q _ _ Ex.refl (.cl (.bl _)))
    · cases e
  · cases e
theorem o_any : OpN K (SL.rAnyL K) dAny := fun M H xs ds w Q hM nr e q => by
  unfold dAny at e
  split at e
  · obtain ⟨v, rfl, n⟩ := nra1 nr
    split at e
    · rename_i ds h1
      obtain ⟨a, xs, rfl, s1, r1⟩ := nr_lst n h1
      cases h2 : blsOf ds with
      | none => rw [h2] at e; cases e
      | some bs =>
        rw [h2] at e
        cases e
        rw [bls_of r1 h2] at s1
        exact u_any (.inl (.inl s1)) (q _ _ Ex.refl (.cl (.bl _)))
    · cases e
  · cases e
theorem o_sum : OpN K (SL.rSumL K) dSum := fun M H xs ds w Q hM nr e q => by
  unfold dSum at e
  split at e
  · obtain ⟨v, rfl, n⟩ := nra1 nr
    split at e
    · rename_i ds h1
      obtain ⟨a, xs, rfl, s1, r1⟩ := nr_lst n h1
      cases h2 : intsOf ds with
      | none => rw [h2] at e; cases e
      | some bs =>
        rw [h2] at e
        cases e
        rw [ints_of r1 h2] at s1
        exact ⟨a, bs, rfl, .inl (.inl s1), q _ _ Ex.refl (.cl (.int _))⟩
    · cases e
  · cases e
theorem o_str : OpN K (SL.uStr K) dStr := fun M H xs ds w Q hM nr e q => by
  unfold dStr at e
  split at e
  · obtain ⟨v, rfl, n⟩ := nra1 nr
    split at e
    · rename_i i h1
      rw [nr_int n h1]
      split at e
      · rename_i hb
        cases e
        exact u_str_i (log_10 (by omega)) (q _ _ Ex.refl (.cl (.str _)))
      · cases e
    · rename_i z h1
      rw [nr_str n h1]
      cases e
      exact u_str_s (q _ _ Ex.refl (.cl (.str _)))
    · cases e
  · cases e
theorem o_int : OpN K SL.uInt dInt := fun M H xs ds w Q hM nr e q => by
  unfold dInt at e
  split at e
  · obtain ⟨v, rfl, n⟩ := nra1 nr
    split at e
    · rename_i i h1
      rw [nr_int n h1]
      cases e
      exact .inl ⟨i, rfl, q _ _ Ex.refl (.cl (.int _))⟩
    · rename_i z h1
      rw [nr_bl n h1]
      cases e
      exact .inr ⟨z, rfl, q _ _ Ex.refl (.cl (.int _))⟩
    · cases e
  · cases e
theorem o_list : OpN K (SL.uList K) dList := fun M H xs ds w Q hM nr e q => by
  unfold dList at e
  split at e
  · obtain ⟨v, rfl, n⟩ := nra1 nr
    split at e
    · rename_i ds h1
      obtain ⟨a, xs, rfl, s1, r1⟩ := nr_lst n h1
      cases e
      exact u_list (.inl (.inl (.inl s1))) fun p hp => q _ _ (Ex.new hp) (Nw.new hp r1)
    · rename_i ds h1
      obtain ⟨a, xs, rfl, s1, r1⟩ := nr_tup n h1
      cases e
      exact u_list (.inr s1) fun p hp => q _ _ (Ex.new hp) (Nw.new hp r1)
    · cases e
  · cases e
theorem o_tuple : OpN K (SL.uTuple K) dTuple := fun M H xs ds w Q hM nr e q => by
  unfold dTuple at e
  split at e
  · obtain ⟨v, rfl, n⟩ := nra1 nr
    split at e
    · rename_i ds h1
      obtain ⟨a, xs, rfl, s1, r1⟩ := nr_lst n h1
      cases e
      exact ⟨a, xs, rfl, .inl ⟨.inl (.inl s1), fun p hp => q _ _ (Ex.new hp) (Nw.tup hp (hM p hp) r1)⟩⟩
    · rename_i ds h1
      cases e
      have n := n.u
      rw [h1] at n
      cases n with
      | own r => cases r
      | cl r =>
        cases r with
        | @tup a xs _ s1 r1 => exact ⟨a, xs, rfl, .inr ⟨s1.sq, q _ _ Ex.refl (.cl (.tup s1 r1))⟩⟩
    · cases e
  · cases e
theorem o_rng2 : OpN K SL.rRangeV2 dRng2 := fun M H xs ds w Q hM nr e q => by
  unfold dRng2 at e
  split at e
  · obtain ⟨v, u, rfl, n, m⟩ := nra2 nr
    split at e
    · rename_i i j h1 h2
      cases e
      rw [nr_int n h1, nr_int m h2]
      exact u_rng fun p hp => q _ _ (Ex.new hp) (.cl (.rng ⟨upd_same, hM p hp⟩))
    · cases e
  · cases e
theorem o_repr : OpN K (SL.uRepr K) dRepr := fun M H xs ds w Q hM nr e q => by
  unfold dRepr at e
  split at e
  · obtain ⟨v, rfl, n⟩ := nra1 nr
    rename_i a
    cases h1 : pd a with
    | none => rw [h1] at e; cases e
    | some x =>
      rw [h1] at e
      dsimp only [Option.bind_some] at e
      split at e
      · rename_i hs
        cases e
        unfold showsB at hs
        simp only [Bool.and_eq_true, decide_eq_true_eq] at hs
        obtain ⟨s1, s2, s3, s4⟩ := hs
        exact u_repr (nr_dp n h1) ⟨s1, ⟨60, by decide, s2, by omega⟩, s4⟩ (q _ _ Ex.refl (.cl (.str _)))
      · cases e
  · cases e
end
/-! slices -/
abbrev MO := Mo (Option Int)
def mNoPart : MO := fun ρ => some (.ok none ρ)
def mPart (a : Mo W) : MO := fun ρ => bindR (a ρ) fun w ρ => match (deref ρ w).map D.u with
  | some (.int i) => some (.ok (some i) ρ)
  | _ => none
def mSl (a : Mo W) (lo hi : MO) : Mo W := fun ρ => bindR (a ρ) fun w ρ => bindR (lo ρ) fun l ρ => bindR (hi ρ) fun h ρ => (deref ρ w).bind fun d => (dSl d l h).map fun w => .ok w ρ
def SimO (K : PySem.W.Frag) (WW : WX) (t : TO) (m : MO) : Prop := ∀ (F : Fm) (σ : L2.St) (H : Hp) (ρ : List Sl) (st : List (V × W)) (r : R (Option Int)) (Q : Option Int → Hp → Prop), EnvR K F σ H ρ st → m ρ = some r → (match r with
  | .ok b ρ => ∀ H, EnvR K F σ H ρ st → Q b H
  | .ex C fs ρ => ExR K F WW st C fs ρ) → t σ H Q
section
variable {K : PySem.W.Frag} {WW : WX} {te : TE} {me : Mo W} {tl th : TO} {ml mh : MO}
theorem sim_nopart : SimO K WW tNoPart mNoPart := fun F σ H ρ st x Q E e p => by
  cases e
  exact p H E
theorem sim_part (he : SimE K WW te me) : SimO K WW (tPart te) (mPart me) := fun F σ H ρ st x Q E e p => by
  rcases bindR_some e with ⟨w1, ρ1, e1, e⟩ | ⟨C, fs, ρ1, e1, rfl⟩
  · refine he F σ H ρ st _ _ E e1 fun v1 H1 E1 => ?_
    cases h1 : deref ρ1 w1 with
    | none => rw [h1] at e; cases e
    | some d1 =>
      rw [h1] at e
      dsimp only [Option.map_some] at e
      have nr := E1.near (List.mem_cons_self ..) h1
      split at e
      · rename_i b hb
        cases e
        exact ⟨b, nr_int nr (Option.some.inj hb), p H1 E1.pop⟩
      · cases e
  · exact he F σ H ρ st _ _ E e1 p
theorem sim_sl (he : SimE K WW te me) (hl : SimO K WW tl ml) (hh : SimO K WW th mh) : SimE K WW (tSl (uSl K) te tl th) (mSl me ml mh) := fun F σ H ρ st x Q E e p => by
  rcases bindR_some e with ⟨w1, ρ1, e1, e⟩ | ⟨C, fs, ρ1, e1, rfl⟩
  · refine he F σ H ρ st _ _ E e1 fun v1 H1 E1 => ?_
    rcases bindR_some e with ⟨l, ρ2, e2, e⟩ | ⟨C, fs, ρ2, e2, rfl⟩
    · refine hl F σ H1 ρ1 _ _ _ E1 e2 fun H2 E2 => ?_
      rcases bindR_some e with ⟨u, ρ3, e3, e⟩ | ⟨C, fs, ρ3, e3, rfl⟩
      · refine hh F σ H2 ρ2 _ _ _ E2 e3 fun H3 E3 => ?_
        cases h1 : deref ρ3 w1 with
        | none => rw [h1] at e; cases e
        | some d1 =>
          rw [h1] at e
          dsimp only [Option.bind_some] at e
          cases h2 : dSl d1 l u with
          | none => rw [h2] at e; cases e
          | some w =>
            rw [h2] at e
            cases e
            have nr := E3.near (List.mem_cons_self ..) h1
            have hM := fun q hq => av_new E3 (p := q) hq
            have land : ∀ v H', Ex [] H3 H' → Nw (F.A ++ roots σ ρ3 ((v1, w1) :: st)) K H3 H' v w → Q v H' := fun v H' ex nw => p v H' (EnvR.land (l := [(v1, w1)]) E3 ex nw)
            unfold dSl at h2
            split at h2
            · rename_i z hz
              rw [nr_str nr hz]
              split at h2
              · cases h2
                exact u_sl_s (sz_le ‹_›) (land _ _ Ex.refl (.cl (.str _)))
              · cases h2
            · rename_i ds hz
              obtain ⟨a, xs, rfl, s1, r1⟩ := nr_lst nr hz
              cases h2
              exact u_sl_l (.inl (.inl s1)) fun q hq => land _ _ (Ex.new hq) (Nw.new hq r1.cut)
            · rename_i ds hz
              cases h2
              have nr := nr.u
              rw [hz] at nr
              cases nr with
              | own r => cases r
              | cl r =>
                cases r with
                | @tup a xs _ s1 r1 =>
                  refine .inr (.inr ⟨a, xs, rfl, s1.sq, fun hw => ?_, fun _ q hq => land _ _ (Ex.new hq) (Nw.tup hq (hM q hq) r1.cut)⟩)
                  have ec : cutL ds l u = ds := by
                    unfold cutL
                    rw [← r1.len, hw.1, hw.2, List.drop_zero, Nat.sub_zero, r1.len]
                    exact List.take_length
                  rw [ec] at land
                  exact land _ _ Ex.refl (.cl (.tup s1 r1))
            · cases h2
      · exact hh F σ H2 ρ2 _ _ _ E2 e3 (ExR.up p)
    · exact hl F σ H1 ρ1 _ _ _ E1 e2 (ExR.up p)
  · exact he F σ H ρ st _ _ E e1 p
end
end PM
namespace PM
open PySem PySem.Spec PyProof.Rows L2 SL
/-! ### further pieces that the printer uses -/
def gSetC (i : Nat) : Tg := fun w ρ => (fz w ρ).bind fun x => setF i (.cl x.1) x.2
/-- slots that are forgotten ahead of a statement -/
def sFg (is : List Nat) (m : MS) : MS := fun ρ => (wipeS is ρ).bind m
def mChain (f g : D → D → Option W) (a b c : Mo W) : Mo W := fun ρ => bindR (a ρ) fun x ρ => bindR (b ρ) fun y ρ => (deref ρ x).bind fun dx => (deref ρ y).bind fun dy => match f dx dy with
  | some (.cl (.bl true)) => bindR (c ρ) fun z ρ => (deref ρ y).bind fun dy => (deref ρ z).bind fun dz => (g dy dz).map fun w => .ok w ρ
  | some (.cl (.bl false)) => some (.ok (.cl (.bl false)) ρ)
  | _ => none
/-- xs[i] = e -/
def gSubL (i : Nat) (e : Mo W) : Tg := fun w ρ => (fz w ρ).bind fun x => (x.2[i]?.bind slL).bind fun _ => match e x.2 with
  | some (.ok k ρ) => match (deref ρ k).map D.u with
    | some (.int n) => ρ[i]?.bind fun s => (slL s).bind fun cs => (ixN cs.length n).map fun j => ρ.set i (slPut s (cs.set j x.1))
    | _ => none
  | _ => none
def mBM (f : D → List D → Option W) (a : Mo W) (b : Mo (List W)) : Mo W := fun ρ => bindR (a ρ) fun x ρ => bindR (b ρ) fun ws ρ => (deref ρ x).bind fun dx => (derefs ρ ws).bind fun ds => (f dx ds).map fun w => .ok w ρ
section
variable {K : PySem.W.Frag} {WW : WX} {ta tb tc te : TE} {ma mb mc me : Mo W} {t : TS} {m : MS} {i : Nat} {tr : TA} {mr : Mo (List W)}
theorem sim_gnameC : SimG K [i] (gName i) (gSetC i) := fun F σ H ρ ρ' st v w Q E ha h q => by
  unfold gSetC at h
  cases h1 : PM.fz w ρ with
  | none => rw [h1] at h; cases h
  | some x =>
    rw [h1] at h
    exact q _ _ ((EnvR.fz E h1).setF_C h (ha i (List.mem_singleton.mpr rfl)))
theorem EnvR.fg {F : Fm} {H : Hp} {σ : L2.St} {st : List (V × W)} (na : noAl st) : ∀ {is : List Nat} {ρ ρ' : List Sl}, EnvR K F σ H ρ st → wipeS is ρ = some ρ' → EnvR K F σ H ρ' st
  | [], _, _, E, h => by cases h; exact E
  | i :: vs, ρ, ρ', E, h => by
    have h : ((wipeS vs ρ).bind fun ρ => setF i .un ρ) = some ρ' := h
    cases h1 : wipeS vs ρ with
    | none => rw [h1] at h; cases h
    | some ρ1 =>
      rw [h1] at h
      have E1 := EnvR.fg na E h1
      obtain ⟨t, h2, h3, rfl⟩ := setF_some h
      obtain ⟨o, ho, _⟩ := slot_at E1 h2
      have E2 := E1.forget h2 h3 (fun v => na v i) o
      rw [set_self ho] at E2
      exact E2
theorem sim_fg {is : List Nat} (h : SimS K WW t m) : SimS K WW t (sFg is m) := fun F σ H ρ st o D E na e p => by
  unfold sFg at e
  cases h1 : wipeS is ρ with
  | none => rw [h1] at e; cases e
  | some ρ1 =>
    rw [h1] at e
    exact h F σ H ρ1 st o D (E.fg na h1) na e p
theorem sim_chain {r r' : R2} {f g : D → D → Option W} (o : Op2 K r f) (o' : Op2 K r' g) (ha : SimE K WW ta ma) (hb : SimE K WW tb mb) (hc : SimE K WW tc mc) : SimE K WW (tChain r r' ta tb tc) (mChain f g ma mb mc) := fun F σ H ρ st x Q E e p => by
  rcases bindR_some e with ⟨w1, ρ1, e1, e⟩ | ⟨C, fs, ρ1, e1, rfl⟩
  · refine ha F σ H ρ st _ _ E e1 fun v1 H1 E1 => ?_
    rcases bindR_some e with ⟨w2, ρ2, e2, e⟩ | ⟨C, fs, ρ2, e2, rfl⟩
    · refine hb F σ H1 ρ1 _ _ _ E1 e2 fun v2 H2 E2 => ?_
      cases h1 : deref ρ2 w1 with
      | none => rw [h1] at e; cases e
      | some d1 =>
        rw [h1] at e
        dsimp only [Option.bind_some] at e
        cases h2 : deref ρ2 w2 with
        | none => rw [h2] at e; cases e
        | some d2 =>
          rw [h2] at e
          dsimp only [Option.bind_some] at e
          have n1 := E2.near (List.mem_cons_of_mem _ (List.mem_cons_self ..)) h1
          have n2 := E2.near (List.mem_cons_self ..) h2
          have hM := fun q hq => av_new E2 (p := q) hq
          split at e
          · rename_i h3
            refine o _ H2 v1 v2 d1 d2 _ _ hM n1 n2 h3 fun v H' ex nw => ?_
            cases nw with
            | cl r =>
              cases rep_bl r
              refine ⟨true, rfl, ?_⟩
              rw [if_pos rfl]
              have E3 := E2.grow ex
              rcases bindR_some e with ⟨w3, ρ3, e3, e⟩ | ⟨C, fs, ρ3, e3, rfl⟩
              · refine hc F σ H' ρ2 _ _ _ E3 e3 fun v3 H3 E4 => ?_
                cases h4 : deref ρ3 w2 with
                | none => rw [h4] at e; cases e
                | some d4 =>
                  rw [h4] at e
                  dsimp only [Option.bind_some] at e
                  cases h5 : deref ρ3 w3 with
                  | none => rw [h5] at e; cases e
                  | some d5 =>
                    rw [h5] at e
                    dsimp only [Option.bind_some] at e
                    cases h6 : g d4 d5 with
                    | none => rw [h6] at e; cases e
                    | some w =>
                      rw [h6] at e
                      cases e
                      exact o' _ H3 v2 v3 d4 d5 w Q (fun q hq => av_new E4 hq) (E4.near (List.mem_cons_of_mem _ (List.mem_cons_self ..)) h4) (E4.near (List.mem_cons_self ..) h5) h6
                        fun v H' ex nw => p v H' (EnvR.land (l := [(v3, w3), (v2, w2), (v1, w1)]) E4 ex nw)
              · exact hc F σ H' ρ2 _ _ _ E3 e3 (ExR.up (ExR.up p))
          · rename_i h3
            refine o _ H2 v1 v2 d1 d2 _ _ hM n1 n2 h3 fun v H' ex nw => ?_
            cases nw with
            | cl r =>
              cases rep_bl r
              refine ⟨false, rfl, ?_⟩
              rw [if_neg Bool.false_ne_true]
              cases e
              exact p _ _ ((E2.grow ex).pop.pop.pushC (.bl _))
          · cases e
    · exact hb F σ H1 ρ1 _ _ _ E1 e2 (ExR.up p)
  · exact ha F σ H ρ st _ _ E e1 p
theorem sim_gsub (he : SimE K (fun _ _ _ _ => False) te me) : SimG K [] (gSub (tVar i) te rSetL) (gSubL i me) := fun F σ H ρ ρ' st v w Q E ha h q => by
  unfold gSubL at h
  cases h1 : PM.fz w ρ with
  | none => rw [h1] at h; cases h
  | some x =>
    rw [h1] at h
    obtain ⟨d, ρ1⟩ := x
    dsimp only [Option.bind_some] at h
    have E1 := EnvR.fz E h1
    cases g0 : (ρ1[i]?.bind slL) with
    | none => rw [g0] at h; cases h
    | some cs0 =>
    rw [g0] at h
    dsimp only [Option.bind_some] at h
    obtain ⟨v0, hv0⟩ : ∃ v0, σ[i]? = some (some v0) := by
      cases g1 : ρ1[i]? with
      | none => rw [g1] at g0; cases g0
      | some s0 =>
        rw [g1] at g0
        obtain ⟨p, xs, q1, _⟩ := slL_root E1 g1 g0
        exact ⟨_, q1⟩
    split at h
    · rename_i k ρ2 h2
      split at h
      · rename_i n hn
        cases h3 : ρ2[i]? with
        | none => rw [h3] at h; cases h
        | some s =>
          rw [h3] at h
          dsimp only [Option.bind_some] at h
          cases h4 : slL s with
          | none => rw [h4] at h; cases h
          | some cs =>
            rw [h4] at h
            dsimp only [Option.bind_some] at h
            cases h5 : ixN cs.length n with
            | none => rw [h5] at h; cases h
            | some j =>
              rw [h5] at h
              cases h
              refine ⟨_, hv0, ?_⟩
              refine he F σ H ρ1 _ _ _ E1 h2 fun vk Hk Ek => ?_
              obtain ⟨p, xs, g1, g2, g3, g4, g5, g6, g7, g8⟩ := slL_root Ek h3 h4
              rw [hv0] at g1
              cases g1
              cases hd : deref ρ2 k with
              | none => rw [hd] at hn; cases hn
              | some dk =>
                rw [hd] at hn
                have nr := Ek.near (List.mem_cons_self ..) hd
                cases nr_int nr (Option.some.inj hn)
                refine ⟨p, xs, n, j, rfl, rfl, g2, by rw [g3.len]; exact h5, ?_⟩
                have rv := Ek.rep (List.mem_cons_of_mem _ (List.mem_cons_self ..))
                have hM : p ∈ F.A ++ roots σ ρ2 ((V.int n, k) :: (v, W.cl d) :: st) := mem_av (roots_slot hv0 h3 g4)
                have E3 := Ek.mut (u := .lst (xs.set j v)) hv0 h3 g4 g6 (g5 (cs.set j d)) (fun d' hd' => g7 d' hd' _) (g8 _ _ _ _ upd_same ((g3.set j rv).ex (Ex.mut hM)))
                exact q _ _ E3.pop.pop
      · cases h
    · cases h
/-- a method of a text -/
def mBS (f : Str → List D → Option W) (a : Mo W) (b : Mo (List W)) : Mo W := fun ρ => bindR (a ρ) fun x ρ => match (deref ρ x).map D.u with
  | some (.str z) => bindR (b ρ) fun ws ρ => (derefs ρ ws).bind fun ds => (f z ds).map fun w => .ok w ρ
  | _ => none
def mBS0 (f : Str → List D → Option W) (a : Mo W) : Mo W := fun ρ => bindR (a ρ) fun x ρ => match (deref ρ x).map D.u with
  | some (.str z) => (f z []).map fun w => .ok w ρ
  | _ => none
def OpS (K : PySem.W.Frag) (rm : V → List V → Hp → VK → Prop) (f : Str → List D → Option W) : Prop := ∀ (M : List Addr) (H : Hp) (z : Str) (xs : List V) (ds : List D) (w : W) (Q : VK), (∀ p, H p = none → p ∉ M) → NrA M K H xs ds → f z ds = some w →
  (∀ v H', Ex [] H H' → Nw M K H H' v w → Q v H') → rm (.str z) xs H Q
theorem sim_bs {T : String} {rm : V → List V → Hp → VK → Prop} {f : Str → List D → Option W} (hT : T = "str") (o : OpS K rm f) (ha : SimE K WW te me) (hb : SimA K WW tr mr) : SimE K WW (tBM K T rm te tr) (mBS f me mr) := fun F σ H ρ st x Q E e p => by
  subst hT
  rcases bindR_some e with ⟨w1, ρ1, e1, e⟩ | ⟨C, fs, ρ1, e1, rfl⟩
  · refine ha F σ H ρ st _ _ E e1 fun v1 H1 E1 => ?_
    cases h1 : deref ρ1 w1 with
    | none => rw [h1] at e; cases e
    | some d1 =>
      rw [h1] at e
      dsimp only [Option.map_some] at e
      have nr := E1.near (List.mem_cons_self ..) h1
      split at e
      · rename_i z hz
        cases nr_str nr (Option.some.inj hz)
        refine ⟨rfl, ?_⟩
        rcases bindR_some e with ⟨ws, ρ2, e2, e⟩ | ⟨C, fs, ρ2, e2, rfl⟩
        · refine hb F σ H1 ρ1 _ _ _ E1 e2 fun vs H2 hl E2 => ?_
          cases h2 : derefs ρ2 ws with
          | none => rw [h2] at e; cases e
          | some ds =>
            rw [h2] at e
            dsimp only [Option.bind_some] at e
            cases h3 : f z ds with
            | none => rw [h3] at e; cases e
            | some w =>
              rw [h3] at e
              cases e
              exact o _ H2 z vs ds w Q (fun q hq => av_new E2 hq) (E2.nears hl (fun x hx => List.mem_append.mpr (.inl hx)) h2) h3 fun v H' ex nw => p v H' (by
                have E3 : EnvR K F σ H2 ρ2 ((vs.zip ws ++ [(V.str z, w1)]) ++ st) := by
                  rw [List.append_assoc]
                  exact E2
                refine EnvR.land (l := vs.zip ws ++ [(V.str z, w1)]) E3 ex ?_
                rw [List.append_assoc]
                exact nw)
        · exact hb F σ H1 ρ1 _ _ _ E1 e2 (ExR.up p)
      · cases e
  · exact ha F σ H ρ st _ _ E e1 p
theorem sim_bs0 {T : String} {rm : V → List V → Hp → VK → Prop} {f : Str → List D → Option W} (hT : T = "str") (o : OpS K rm f) (ha : SimE K WW te me) : SimE K WW (tBM0 K T rm te) (mBS0 f me) := fun F σ H ρ st x Q E e p => by
  subst hT
  rcases bindR_some e with ⟨w1, ρ1, e1, e⟩ | ⟨C, fs, ρ1, e1, rfl⟩
  · refine ha F σ H ρ st _ _ E e1 fun v1 H1 E1 => ?_
    cases h1 : deref ρ1 w1 with
    | none => rw [h1] at e; cases e
    | some d1 =>
      rw [h1] at e
      dsimp only [Option.map_some] at e
      have nr := E1.near (List.mem_cons_self ..) h1
      split at e
      · rename_i z hz
        cases nr_str nr (Option.some.inj hz)
        refine ⟨rfl, ?_⟩
        cases h3 : f z [] with
        | none => rw [h3] at e; cases e
        | some w =>
          rw [h3] at e
          cases e
          exact o _ H1 z [] [] w Q (fun q hq => av_new E1 hq) .nil h3 fun v H' ex nw => p v H' (EnvR.land (l := [(V.str z, w1)]) E1 ex nw)
      · cases e
  · exact ha F σ H ρ st _ _ E e1 p
def fJoin (s : Str) : List D → Option W
  | [b] => match b.u with
    | .lst ds => (strsOf ds).bind fun zs => if (zs.map (·.length)).sum + zs.length * s.length ≤ 16777216 then some (.cl (.str (Txt.join s zs))) else none
    | .tup ds => (strsOf ds).bind fun zs => if (zs.map (·.length)).sum + zs.length * s.length ≤ 16777216 then some (.cl (.str (Txt.join s zs))) else none
    | _ => none
  | _ => none
theorem o_join : OpS K (SL.rJoin K) fJoin := fun M H z xs ds w Q hM nr e q => by
  unfold fJoin at e
  split at e
  · obtain ⟨v, rfl, n⟩ := nra1 nr
    split at e
    · rename_i ds h1
      obtain ⟨a, xs, rfl, s1, r1⟩ := nr_lst n h1
      cases h2 : strsOf ds with
      | none => rw [h2] at e; cases e
      | some zs =>
        rw [h2] at e
        dsimp only [Option.bind_some] at e
        split at e
        · cases e
          rw [strs_of r1 h2] at s1
          exact ⟨z, a, zs, rfl, rfl, .inl (.inl (.inl s1)), by assumption, q _ _ Ex.refl (.cl (.str _))⟩
        · cases e
    · rename_i ds h1
      obtain ⟨a, xs, rfl, s1, r1⟩ := nr_tup n h1
      cases h2 : strsOf ds with
      | none => rw [h2] at e; cases e
      | some zs =>
        rw [h2] at e
        dsimp only [Option.bind_some] at e
        split at e
        · cases e
          rw [strs_of r1 h2] at s1
          exact ⟨z, a, zs, rfl, rfl, .inr s1, by assumption, q _ _ Ex.refl (.cl (.str _))⟩
        · cases e
    · cases e
  · cases e
end
end PM

/-! PM10: enumerate, zip, pairs of names, isinstance, sorted. -/
namespace PM
open PySem PySem.Spec PyProof.Rows L2 SL
def nrm (w : W) (ρ : List Sl) : Option (W × List Sl) := match w with
  | .fr ds => some (.fr ds, ρ)
  | w => (fz w ρ).map fun x => (.cl x.1, x.2)
def gPut (own : Bool) (i : Nat) (w : W) (ρ : List Sl) : Option (List Sl) := if own = true then gSet i w ρ else gSetC i w ρ
def sPar (o1 o2 : Bool) (i j : Nat) (a : Mo (List W)) : MS := fun ρ => bindS (a ρ) fun ws ρ => match ws with
  | [v, w] => (nrm w ρ).bind fun y => (gPut o1 i v y.2).bind fun ρ => (gPut o2 j y.1 ρ).map .nx
  | _ => none
def sNever : MS := fun _ => none
section
variable {K : PySem.W.Frag} {WW : WX} {F : Fm} {M : List Addr} {H H' : Hp} {σ : L2.St} {ρ ρ' : List Sl} {st : List (V × W)} {v : V} {w w' : W} {i j : Nat} {tr : TA} {mr : Mo (List W)} {te : TE} {me : Mo W}
theorem EnvR.nrm (E : EnvR K F σ H ρ ((v, w) :: st)) (h : PM.nrm w ρ = some (w', ρ')) : EnvR K F σ H ρ' ((v, w') :: st) ∧ ∀ i, w' ≠ .al i := by
  have other : (PM.fz w ρ).map (fun x => (W.cl x.1, x.2)) = some (w', ρ') → EnvR K F σ H ρ' ((v, w') :: st) ∧ ∀ i, w' ≠ .al i := fun h => by
    cases h1 : PM.fz w ρ with
    | none => rw [h1] at h; cases h
    | some x =>
      rw [h1] at h
      cases h
      exact ⟨EnvR.fz E h1, fun _ z => by cases z⟩
  cases w with
  | fr ds => cases h; exact ⟨E, fun _ z => by cases z⟩
  | cl d => exact other h
  | al i => exact other h
  | hl i d => exact other h
  | hp i => exact other h
theorem EnvR.gput {own : Bool} (E : EnvR K F σ H ρ ((v, w) :: st)) (ha : ∀ v, (v, W.al i) ∉ st) (h : gPut own i w ρ = some ρ') : EnvR K F (σ.set i (some v)) H ρ' st := by
  unfold gPut at h
  split at h
  · exact E.gset ha h
  · unfold gSetC at h
    cases h1 : PM.fz w ρ with
    | none => rw [h1] at h; cases h
    | some x =>
      rw [h1] at h
      exact (EnvR.fz E h1).setF_C h ha
theorem sim_par {o1 o2 : Bool} (ha : SimA K WW tr mr) : SimS K WW (tPar i j tr) (sPar o1 o2 i j mr) := fun F σ H ρ st x D E na e p => by
  rcases bindS_some e with ⟨ws, ρ1, e1, e⟩ | ⟨C, fs, ρ1, e1, rfl⟩
  · refine ha F σ H ρ st _ _ E e1 fun vs H1 hl E1 => ?_
    split at e
    · rename_i w1 w2
      match vs, hl, E1 with
      | [v1, v2], hl, E1 =>
        refine ⟨v1, v2, rfl, ?_⟩
        cases h1 : PM.nrm w2 ρ1 with
        | none => rw [h1] at e; cases e
        | some y =>
          obtain ⟨w2', ρ2⟩ := y
          rw [h1] at e
          dsimp only [Option.bind_some] at e
          cases h2 : gPut o1 i w1 ρ2 with
          | none => rw [h2] at e; cases e
          | some ρ3 =>
            rw [h2] at e
            dsimp only [Option.bind_some] at e
            cases h3 : gPut o2 j w2' ρ3 with
            | none => rw [h3] at e; cases e
            | some ρ4 =>
              rw [h3] at e
              cases e
              have E1 : EnvR K F σ H1 ρ1 ((v1, w1) :: (v2, w2) :: st) := E1
              obtain ⟨E2, n2⟩ := (E1.perm (List.Perm.swap _ _ _)).nrm h1
              have E3 := (E2.perm (List.Perm.swap _ _ _)).gput (own := o1) (i := i) (fun v z => by
                rcases List.mem_cons.mp z with z | z
                · exact n2 i (congrArg Prod.snd z).symm
                · exact na v i z) h2
              exact p _ _ (E3.gput (fun v => na v j) h3)
    · cases e
  · exact ha F σ H ρ st _ _ E e1 p
theorem sim_never {t : TS} : SimS K WW t sNever := fun F σ H ρ st x D E na e p => by cases e
/-! enumerate, zip -/
def mEnum (a : Mo (List W)) : Mo ItM := fun ρ => bindR (a ρ) fun ws ρ => match ws with
  | [w] => (lockW w ρ).bind fun x => (wD x.1).bind fun d => match d.u with
    | .lst ds => if ds.length ≤ 90000 then some (.ok ⟨(List.range ds.length).zipWith (fun i d => .tup [.int (i : Nat), d]) ds, x.2.1⟩ x.2.2) else none
    | _ => none
  | _ => none
theorem tup_land {M : List Addr} {T : Addr} {xs : List V} {ds : List D} (E : EnvR K F σ H ρ st) (hT : H T = none) (r : RepA (F.A ++ roots σ ρ st) K H xs ds) : EnvR K F σ (upd H T (.tup xs)) ρ ((.ref T, .cl (.tup ds)) :: st) :=
  EnvR.land (l := []) E (Ex.new hT) (Nw.tup hT (av_new E hT) r)
theorem sim_enum (ha : SimA K WW tr mr) : SimI K WW (iEnum K tr) (mEnum mr) := fun F σ H ρ st x Q E e p => by
  rcases bindR_some e with ⟨ws, ρ1, e1, e⟩ | ⟨C, fs, ρ1, e1, rfl⟩
  · refine ha F σ H ρ st _ _ E e1 fun vs H1 hl E1 => ?_
    split at e
    · rename_i w
      match vs, hl, E1 with
      | [v], hl, E1 =>
        have E1 : EnvR K F σ H1 ρ1 ((v, w) :: st) := E1
        cases h1 : lockW w ρ1 with
        | none => rw [h1] at e; cases e
        | some y =>
          obtain ⟨w', un, ρ2⟩ := y
          rw [h1] at e
          dsimp only [Option.bind_some] at e
          cases h2 : wD w' with
          | none => rw [h2] at e; cases e
          | some d =>
            rw [h2] at e
            dsimp only [Option.bind_some] at e
            split at e
            · rename_i ds hd
              split at e
              · rename_i hlen
                cases e
                obtain ⟨E2, nh, _⟩ := E1.lock h1
                obtain ⟨a, xs, rfl, sq, r⟩ := nr_lst (E2.nearW h2) hd
                have hz : ((List.range ds.length).zipWith (fun i d => D.tup [.int (i : Nat), d]) ds).length = ds.length := by simp
                refine ⟨a, xs, rfl, .inl (.inl sq), p (by show _ ≤ 90000; rw [hz]; exact hlen) _ _ _ _ E2 ?_ nh (fun i => no_al h2)⟩
                intro σ H ρ st E
                obtain ⟨a', xs, ha, sq, r⟩ := nr_lst (E.nearW h2) hd
                cases ha
                show (∀ i, i < ((List.range ds.length).zipWith (fun i d => D.tup [.int (i : Nat), d]) ds).length → _) ∧ _
                rw [hz]
                refine ⟨fun i hi => ?_, ⟨xs, .inl (.inl sq), by rw [r.len]; exact Nat.le_refl _⟩, fun i x H' hi y => ?_⟩
                · have hx : i < xs.length := by rw [r.len]; exact hi
                  exact ⟨xs, xs[i], .inl (.inl sq), List.getElem?_eq_getElem hx⟩
                · obtain ⟨T, x', rfl, hT, rfl, hx⟩ := y
                  obtain ⟨d', g1, g2⟩ := r.getV (hx xs (.inl (.inl sq)))
                  refine ⟨.tup [.int (i : Nat), d'], ?_, tup_land (M := []) E hT (.cons (.int _) (.cons g2 .nil))⟩
                  rw [List.getElem?_zipWith, List.getElem?_range hi, g1]
              · cases e
            · cases e
    · cases e
  · exact ha F σ H ρ st _ _ E e1 p
/-- two lists that stay (no list of a slot that may change) -/
def mZip (a : Mo (List W)) : Mo ItM := fun ρ => bindR (a ρ) fun ws ρ => (fzs ws ρ).bind fun x => match x.1 with
  | [dx, dy] => match dx.u, dy.u with
    | .lst ds, .lst es => if ds.length ≤ 90000 then some (.ok ⟨ds.zipWith (fun d e => .tup [d, e]) es, none⟩ x.2) else none
    | _, _ => none
  | _ => none
theorem sim_zip (ha : SimA K WW tr mr) : SimI K WW (iZip K tr) (mZip mr) := fun F σ H ρ st x Q E e p => by
  rcases bindR_some e with ⟨ws, ρ1, e1, e⟩ | ⟨C, fs, ρ1, e1, rfl⟩
  · refine ha F σ H ρ st _ _ E e1 fun vs H1 hl E1 => ?_
    cases h1 : fzs ws ρ1 with
    | none => rw [h1] at e; cases e
    | some y =>
      obtain ⟨zs, ρ2⟩ := y
      rw [h1] at e
      dsimp only [Option.bind_some] at e
      obtain ⟨l2, E2⟩ := E1.fzs hl h1
      split at e
      · rename_i dx dy
        have l3 : vs.length = 2 := hl.trans l2.symm
        match vs, l3, E2 with
        | [v1, v2], _, E2 =>
          have E2 : EnvR K F σ H1 ρ2 ((v1, .cl dx) :: (v2, .cl dy) :: st) := E2
          split at e
          · rename_i ds es hx hy
            split at e
            · rename_i hlen
              cases e
              have n1 : Nr _ K H1 v1 dx := .cl (E2.rep (List.mem_cons_self ..))
              have n2 : Nr _ K H1 v2 dy := .cl (E2.rep (List.mem_cons_of_mem _ (List.mem_cons_self ..)))
              have r1 := E2.rep (List.mem_cons_self ..)
              have r2 := E2.rep (List.mem_cons_of_mem _ (List.mem_cons_self ..))
              obtain ⟨a, xs, rfl, sx, rx⟩ := nr_lst n1 hx
              obtain ⟨b, ys, rfl, sy, ry⟩ := nr_lst n2 hy
              have sub : ∀ x ∈ F.A ++ roots σ ρ2 st, x ∈ F.A ++ roots σ ρ2 ((V.ref a, W.cl dx) :: (V.ref b, W.cl dy) :: st) := av_st fun x hx => List.mem_cons_of_mem _ (List.mem_cons_of_mem _ hx)
              have E3 : EnvR K F σ H1 ρ2 ((.ref a, .cl (.bo (.ref b) dx dy)) :: st) := E2.pop.pop.pushC (.bo (r1.mono sub) (r2.mono sub))
              have hz : (ds.zipWith (fun d e => D.tup [d, e]) es).length = min ds.length es.length := by simp
              refine ⟨a, b, xs, ys, rfl, .inl (.inl sx), .inl (.inl sy), p (by show _ ≤ 90000; rw [hz]; omega) _ _ _ _ E3 ?_ (fun _ z => by cases z) (fun _ z => by cases z)⟩
              intro σ H ρ st E
              have rb := E.rep (List.mem_cons_self ..)
              generalize hM : F.A ++ roots σ ρ ((V.ref a, W.cl (.bo (.ref b) dx dy)) :: st) = MM at rb
              cases rb with
              | bo q1 q2 =>
                have n1 : Nr MM K H (.ref a) dx := .cl q1
                have n2 : Nr MM K H (.ref b) dy := .cl q2
                obtain ⟨a', xs, ha, sx, rx⟩ := nr_lst n1 hx
                obtain ⟨b', ys, hb, sy, ry⟩ := nr_lst n2 hy
                cases ha
                cases hb
                show (∀ i, i < (ds.zipWith (fun d e => D.tup [d, e]) es).length → _) ∧ _
                rw [hz]
                refine ⟨fun i hi => ?_, ⟨xs, ys, .inl (.inl sx), .inl (.inl sy), by rw [rx.len, ry.len]; omega⟩, fun i x H' hi y => ?_⟩
                · have h1 : i < xs.length := by rw [rx.len]; omega
                  have h2 : i < ys.length := by rw [ry.len]; omega
                  exact ⟨xs, ys, xs[i], ys[i], .inl (.inl sx), .inl (.inl sy), List.getElem?_eq_getElem h1, List.getElem?_eq_getElem h2⟩
                · obtain ⟨T, x1, y1, rfl, hT, rfl, g1, g2⟩ := y
                  obtain ⟨d1, k1, k2⟩ := rx.getV (g1 xs (.inl (.inl sx)))
                  obtain ⟨d2, k3, k4⟩ := ry.getV (g2 ys (.inl (.inl sy)))
                  subst hM
                  refine ⟨.tup [d1, d2], ?_, tup_land (M := []) E hT (.cons k2 (.cons k4 .nil))⟩
                  rw [List.getElem?_zipWith, k1, k3]
            · cases e
          · cases e
      · cases e
  · exact ha F σ H ρ st _ _ E e1 p
def dAddI (a b : D) : Option W := match a.u, b.u with
  | .int i, .int j => some (.cl (.int (i + j)))
  | _, _ => none
theorem o_ipadd : Op2 K (ipI fun i j => i + j) dAddI := fun M H x y dx dy w Q hM nx ny e q => by
  unfold dAddI at e
  split at e
  · rename_i i j h1 h2
    cases e
    rw [nr_int nx h1, nr_int ny h2]
    exact ⟨i, j, rfl, rfl, q _ _ Ex.refl (.cl (.int _))⟩
  · cases e
theorem sim_cnt : SimS K WW tCont sCnt := fun F σ H ρ st o D E na e p => by
  cases e
  exact p _ _ E
/-! sorted texts -/
def sortedU (ys : List Str) : Bool := match ys with
  | a :: b :: r => !decide (b.cps.toList < a.cps.toList) && sortedU (b :: r)
  | _ => true
end
end PM

/-! PM11: own classes: attributes, methods, properties, new instances. -/
namespace PM
open PySem PySem.Spec PyProof.Rows L2 SL
def insOf (C : Str) : D → Option (List (Str × D))
  | .ins C' fs => if C' = C then some fs else none
  | _ => none
def mFld (C f : Str) (a : Mo W) : Mo W := fun ρ => bindR (a ρ) fun w ρ => (deref ρ w).bind fun d => (insOf C d.u).bind fun fs => (fs.lookup f).map fun d => .ok (.cl d) ρ
def putD (f : Str) (v : D) : List (Str × D) → List (Str × D)
  | [] => [(f, v)]
  | (g, x) :: r => if g = f then (g, v) :: r else (g, x) :: putD f v r
/-- self.f = e -/
def sFldM (C f : Str) (i : Nat) (e : Mo W) : MS := fun ρ => bindS (e ρ) fun w ρ => (fz w ρ).bind fun x => match x.2[i]? with
  | some (.io d) => (insOf C d).bind fun fs => if fs.length < 1000 then some (.nx (x.2.set i (.io (.ins C (putD f x.1 fs))))) else none
  | _ => none
def callT (ms : List Bool) (m : Fnm) (ws : List W) (ρ : List Sl) : Option (R W) := if okAl ms ws = true then (argsOf ρ ms ws).bind fun as => match m as with
  | some (.rt w outs) => (putO ms ws outs ρ).map fun ρ => .ok w ρ
  | _ => none else none
def mMeth (C : Str) (n : Str) (ms : List Bool) (m : Fnm) (a : Mo W) (b : Mo (List W)) : Mo W := fun ρ => bindR (a ρ) fun w ρ => (deref ρ w).bind fun d => (insOf C d.u).bind fun fs => if (fs.lookup n).isNone then bindR (b ρ) fun ws ρ => callT ms m (w :: ws) ρ else none
def mProp (C : Str) (ms : List Bool) (m : Fnm) (a : Mo W) : Mo W := fun ρ => bindR (a ρ) fun w ρ => (deref ρ w).bind fun d => (insOf C d.u).bind fun _ => callT ms m [w] ρ
/-- C(..): dvs are the values of what lacks -/
def mMake (C : Str) (ms : List Bool) (m : Fnm) (dvs : List D) (b : Mo (List W)) : Mo W := fun ρ => bindR (b ρ) fun ws ρ => if okAl ms ws = true then (argsOf ρ ms ws).bind fun as => match m (.io (.ins C []) :: (as ++ dvs.map .cl)) with
  | some (.rt (.cl .non) (.io (.ins C' fs) :: outs)) => if C' = C then (putO ms ws outs ρ).map fun ρ => .ok (.cl (.ins C fs)) ρ else none
  | _ => none else none
section
variable {K : PySem.W.Frag} {WW : WX} {F : Fm} {M A Io : List Addr} {H H' : Hp} {σ : L2.St} {ρ ρ' as : List Sl} {st : List (V × W)} {v : V} {w w' : W} {i j : Nat} {tr : TA} {mr : Mo (List W)} {te ta : TE} {me ma : Mo W} {C f : Str} {d : D} {fs : List (Str × D)} {p : Addr} {ms : List Bool} {m : Fnm} {vs : List V} {ws : List W}
theorem nr_ins (h : Nr M K H v d) (e : insOf C d.u = some fs) : ∃ a dx vs, v = .ref a ∧ H a = some (.ins (He.ga K C) dx vs) ∧ vs.map (·.1) = fs.map (·.1) ∧ RepA M K H (vs.map (·.2)) (fs.map (·.2)) := by
  have h := h.u
  unfold insOf at e
  split at e
  · rename_i C' fs' hd
    split at e
    · rename_i hC
      subst hC
      cases e
      rw [hd] at h
      cases h with
      | cl r => cases r with | ins a n b => exact ⟨_, _, _, rfl, a.at_, n, b⟩
      | own r => cases r with | ins a n b => exact ⟨_, _, _, rfl, a, n, b⟩
    · cases e
  · cases e
theorem lookup_rep {f : Str} : ∀ {vs : List (Str × V)} {fs : List (Str × D)}, vs.map (·.1) = fs.map (·.1) → RepA M K H (vs.map (·.2)) (fs.map (·.2)) → (∀ d, fs.lookup f = some d → ∃ v, vs.lookup f = some v ∧ Rep M K H v d) ∧ (fs.lookup f = none → vs.lookup f = none)
  | [], [], _, _ => ⟨(fun d h => by cases h), fun _ => rfl⟩
  | [], _ :: _, h, _ => by cases h
  | _ :: _, [], h, _ => by cases h
  | (a, x) :: vs, (b, y) :: fs, h, r => by
    have hab : a = b := by simpa using (List.cons.inj h).1
    subst hab
    have r : RepA M K H (x :: vs.map (·.2)) (y :: fs.map (·.2)) := r
    cases r with
    | cons r1 r2 =>
      obtain ⟨ih1, ih2⟩ := lookup_rep (List.cons.inj h).2 r2
      by_cases hf : (f == a) = true
      · refine ⟨fun d e => ?_, fun e => ?_⟩
        · have e : (match f == a with | true => some y | false => fs.lookup f) = some d := e
          rw [hf] at e
          cases e
          exact ⟨x, by show (match f == a with | true => some x | false => vs.lookup f) = _; rw [hf], r1⟩
        · have e : (match f == a with | true => some y | false => fs.lookup f) = none := e
          rw [hf] at e
          cases e
      · have hf : (f == a) = false := by simpa using hf
        refine ⟨fun d e => ?_, fun e => ?_⟩
        · have e : (match f == a with | true => some y | false => fs.lookup f) = some d := e
          rw [hf] at e
          obtain ⟨v, h1, h2⟩ := ih1 d e
          exact ⟨v, by show (match f == a with | true => some x | false => vs.lookup f) = _; rw [hf]; exact h1, h2⟩
        · have e : (match f == a with | true => some y | false => fs.lookup f) = none := e
          rw [hf] at e
          show (match f == a with | true => some x | false => vs.lookup f) = _
          rw [hf]
          exact ih2 e
theorem sim_fld (c : Cls K (He.ga K C)) (n : NoAttr K (He.ga K C) f) (ha : SimE K WW ta ma) : SimE K WW (tFld K ta f) (mFld C f ma) := fun F σ H ρ st x Q E e p => by
  rcases bindR_some e with ⟨w1, ρ1, e1, e⟩ | ⟨C', fs, ρ1, e1, rfl⟩
  · refine ha F σ H ρ st _ _ E e1 fun v1 H1 E1 => ?_
    cases h1 : deref ρ1 w1 with
    | none => rw [h1] at e; cases e
    | some d1 =>
      rw [h1] at e
      dsimp only [Option.bind_some] at e
      cases h2 : insOf C d1.u with
      | none => rw [h2] at e; cases e
      | some fs =>
        rw [h2] at e
        dsimp only [Option.bind_some] at e
        cases h3 : fs.lookup f with
        | none => rw [h3] at e; cases e
        | some d2 =>
          rw [h3] at e
          cases e
          obtain ⟨a, dx, vs, rfl, ea, nm, r⟩ := nr_ins (E1.near (List.mem_cons_self ..) h1) h2
          obtain ⟨v2, g1, g2⟩ := (lookup_rep nm r).1 d2 h3
          refine ⟨a, _, dx, vs, v2, rfl, ea, c, n, g1, p v2 H1 ?_⟩
          exact E1.pop.pushC (g2.mono (av_st fun x hx => List.mem_cons_of_mem _ hx))
  · exact ha F σ H ρ st _ _ E e1 p
theorem put_rep {x : V} {y : D} (rx : Rep M K H x y) : ∀ {vs : List (Str × V)} {fs : List (Str × D)}, vs.map (·.1) = fs.map (·.1) → RepA M K H (vs.map (·.2)) (fs.map (·.2)) →
    (putF f x vs).map (·.1) = (putD f y fs).map (·.1) ∧ RepA M K H ((putF f x vs).map (·.2)) ((putD f y fs).map (·.2))
  | [], [], _, _ => ⟨rfl, .cons rx .nil⟩
  | [], _ :: _, h, _ => by cases h
  | _ :: _, [], h, _ => by cases h
  | (a, x') :: vs, (b, y') :: fs, h, r => by
    have hab : a = b := by simpa using (List.cons.inj h).1
    subst hab
    have r : RepA M K H (x' :: vs.map (·.2)) (y' :: fs.map (·.2)) := r
    cases r with
    | cons r1 r2 =>
      have ht : vs.map (·.1) = fs.map (·.1) := (List.cons.inj h).2
      by_cases hf : a = f
      · have e1 : putF f x ((a, x') :: vs) = (a, x) :: vs := if_pos hf
        have e2 : putD f y ((a, y') :: fs) = (a, y) :: fs := if_pos hf
        rw [e1, e2]
        exact ⟨by simp [ht], .cons rx r2⟩
      · have e1 : putF f x ((a, x') :: vs) = (a, x') :: putF f x vs := if_neg hf
        have e2 : putD f y ((a, y') :: fs) = (a, y') :: putD f y fs := if_neg hf
        obtain ⟨i1, i2⟩ := put_rep rx ht r2
        rw [e1, e2]
        exact ⟨by simp [i1], .cons r1 i2⟩
theorem sim_sfld (c : Cls K (He.ga K C)) (n : NoAttr K (He.ga K C) f) (he : SimE K WW te me) : SimS K WW (sFld K (tVar i) te f) (sFldM C f i me) := fun F σ H ρ st o D E na e p => by
  rcases bindS_some e with ⟨w1, ρ1, e1, e⟩ | ⟨C', fs, ρ1, e1, rfl⟩
  · refine he F σ H ρ st _ _ E e1 fun v1 H1 E1 => ?_
    cases h1 : PM.fz w1 ρ1 with
    | none => rw [h1] at e; cases e
    | some y =>
      obtain ⟨d1, ρ2⟩ := y
      rw [h1] at e
      dsimp only [Option.bind_some] at e
      have E2 := EnvR.fz E1 h1
      split at e
      · rename_i d0 hd
        cases h2 : insOf C d0 with
        | none => rw [h2] at e; cases e
        | some fs =>
          rw [h2] at e
          dsimp only [Option.bind_some] at e
          split at e
          · rename_i hlen
            cases e
            obtain ⟨o, ho, q⟩ := slot_at E2 hd
            have rv := E2.rep (List.mem_cons_self ..)
            generalize hM : F.A ++ roots σ ρ2 ((v1, W.cl d1) :: st) = MM at q rv
            cases q with
            | @io pp _ m own =>
              cases own with
              | lst a b => cases h2
              | @ins C' dx vs ds a nm b =>
                unfold insOf at h2
                dsimp only at h2
                split at h2
                · rename_i hC
                  subst hC
                  cases h2
                  refine ⟨_, ho, pp, _, dx, vs, rfl, a, c, n, ?_, ?_⟩
                  · have := congrArg List.length nm
                    rw [List.length_map, List.length_map] at this
                    omega
                  · have hp : pp ∈ F.A ++ roots σ ρ2 ((v1, W.cl d1) :: st) := mem_av (roots_slot ho hd rfl)
                    obtain ⟨i1, i2⟩ := put_rep (f := f) rv nm b
                    have E3 := E2.mut (u := .ins (He.ga K C') dx (putF f v1 vs)) (s' := .io (.ins C' (putD f d1 fs))) ho hd rfl (fun _ z => by cases z) rfl (fun _ _ => ⟨_, rfl⟩) (.io m (.ins upd_same i1 (by
                      rw [hM]
                      rw [hM] at hp
                      exact i2.ex (Ex.mut hp))))
                    exact p _ _ E3.pop
                · cases h2
          · cases e
      · cases e
  · exact he F σ H ρ st _ _ E e1 p
/-- the common end of calls -/
theorem EnvR.callT {r : R W} {Q : VK} (E : EnvR K F σ H ρ (vs.zip ws ++ st)) (hl : vs.length = ws.length) (h : PM.callT ms m ws ρ = some r) (post : ∀ w ρ', r = .ok w ρ' → ∀ v H, EnvR K F σ H ρ' ((v, w) :: st) → Q v H) : spM K m vs H Q E0 := by
  unfold PM.callT at h
  split at h
  · rename_i hn
    cases h1 : argsOf ρ ms ws with
    | none => rw [h1] at h; cases h
    | some as =>
      rw [h1] at h
      dsimp only [Option.bind_some] at h
      obtain ⟨s1, s2, s3⟩ := E.call_start hl h1 hn
      cases h2 : m as with
      | none => rw [h2] at h; cases h
      | some r' =>
        rw [h2] at h
        refine ⟨_, _, as, r', s1, s2, h2, ?_⟩
        cases r' with
        | rt w outs =>
          dsimp only at h
          cases h3 : putO ms ws outs ρ with
          | none => rw [h3] at h; cases h
          | some ρ2 =>
            rw [h3] at h
            cases h
            intro v H' ex tr nw ho
            exact post _ _ rfl v H' (E.call_end hl hn s3 h3 ex tr nw ho)
        | ex C fs outs => cases h
  · cases h
theorem sim_meth {n : Str} (ha : SimE K WW ta ma) (hb : SimA K WW tr mr) : SimE K WW (tMeth (He.ga K C) n (spM K m) [] E0 ta tr) (mMeth C n ms m ma mr) := fun F σ H ρ st x Q E e p => by
  rcases bindR_some e with ⟨w1, ρ1, e1, e⟩ | ⟨C', fs, ρ1, e1, rfl⟩
  · refine ha F σ H ρ st _ _ E e1 fun v1 H1 E1 => ?_
    cases h1 : deref ρ1 w1 with
    | none => rw [h1] at e; cases e
    | some d1 =>
      rw [h1] at e
      dsimp only [Option.bind_some] at e
      cases h2 : insOf C d1.u with
      | none => rw [h2] at e; cases e
      | some fs =>
        rw [h2] at e
        dsimp only [Option.bind_some] at e
        split at e
        · rename_i h3
          obtain ⟨a, dx, vs, rfl, ea, nm, r⟩ := nr_ins (E1.near (List.mem_cons_self ..) h1) h2
          refine ⟨a, dx, vs, rfl, ea, (lookup_rep nm r).2 (by simpa using h3), ?_⟩
          rcases bindR_some e with ⟨ws, ρ2, e2, e⟩ | ⟨C', fs, ρ2, e2, rfl⟩
          · refine hb F σ H1 ρ1 _ _ _ E1 e2 fun us H2 hl E2 => ?_
            rw [List.append_nil]
            refine EnvR.callT (vs := V.ref a :: us) (ws := w1 :: ws) (E2.perm List.perm_middle) (by simp [hl]) e fun w ρ' hr v H' E' => ?_
            subst hr
            exact p v H' E'
          · exact hb F σ H1 ρ1 _ _ _ E1 e2 (ExR.up p)
        · cases e
  · exact ha F σ H ρ st _ _ E e1 p
theorem sim_prop (ha : SimE K WW ta ma) : SimE K WW (tProp (He.ga K C) (spM K m) [] E0 ta) (mProp C ms m ma) := fun F σ H ρ st x Q E e p => by
  rcases bindR_some e with ⟨w1, ρ1, e1, e⟩ | ⟨C', fs, ρ1, e1, rfl⟩
  · refine ha F σ H ρ st _ _ E e1 fun v1 H1 E1 => ?_
    cases h1 : deref ρ1 w1 with
    | none => rw [h1] at e; cases e
    | some d1 =>
      rw [h1] at e
      dsimp only [Option.bind_some] at e
      cases h2 : insOf C d1.u with
      | none => rw [h2] at e; cases e
      | some fs =>
        rw [h2] at e
        dsimp only [Option.bind_some] at e
        obtain ⟨a, dx, vs, rfl, ea, nm, r⟩ := nr_ins (E1.near (List.mem_cons_self ..) h1) h2
        refine ⟨a, dx, vs, rfl, ea, ?_⟩
        refine EnvR.callT (vs := [V.ref a]) (ws := [w1]) E1 rfl e fun w ρ' hr v H' E' => ?_
        subst hr
        exact p v H' E'
  · exact ha F σ H ρ st _ _ E e1 p
/-- one more thing is handed in to be changed: a new instance -/
theorem EnvR.self {x dx Cc : Addr} {ds : List D} {ws : List V} (E : EnvR K ⟨A, Io, H⟩ (vs.map some) H as []) (ok : as.all argOk = true) (hx : H x = none) (hdx : H dx = none) (hne : dx ≠ x) (hC : Cc = He.ga K C)
    (r : RepA A K H ws ds) : EnvR K ⟨x :: A, x :: Io, upd (upd H dx (.own x)) x (.ins Cc dx [])⟩ ((V.ref x :: (vs ++ ws)).map some) (upd (upd H dx (.own x)) x (.ins Cc dx [])) (.io (.ins C []) :: (as ++ ds.map .cl)) [] := by
  have hl := E.len
  rw [List.length_map] at hl
  have hrl := r.len
  have keep : Ex [] H (upd (upd H dx (.own x)) x (.ins Cc dx [])) := (Ex.new hdx).trans (fun a o _ z => by
    have hax : a ≠ x := by
      rintro rfl
      by_cases q : a = dx
      · exact hne q.symm
      · rw [upd_ne q, hx] at z
        cases z
    rw [upd_ne hax]
    exact z)
  have xA : x ∉ A := fun h => E.ok.tr x h hx
  have er : roots ((V.ref x :: (vs ++ ws)).map some) (.io (.ins C []) :: (as ++ ds.map .cl)) [] = x :: roots (vs.map some) as [] := by
    unfold roots
    rw [List.filterMap_nil, List.append_nil, List.append_nil]
    show ((some (V.ref x), Sl.io (.ins C [])) :: ((vs ++ ws).map some).zip (as ++ ds.map .cl)).filterMap rootS = _
    rw [List.filterMap_cons]
    show x :: (((vs ++ ws).map some).zip (as ++ ds.map .cl)).filterMap rootS = _
    rw [List.map_append, List.zip_append (by rw [List.length_map]; exact hl), List.filterMap_append]
    have e0 : ((ws.map some).zip (ds.map Sl.cl)).filterMap rootS = [] := by
      rw [List.filterMap_eq_nil_iff]
      rintro ⟨a, b⟩ h
      obtain ⟨d, _, e⟩ := List.mem_map.mp (List.of_mem_zip h).2
      subst e
      cases a with
      | none => rfl
      | some a => exact rootS_cl
    rw [e0, List.append_nil]
  have xr : x ∉ roots (vs.map some) as [] := fun h => root_tr E h hx
  have sub : ∀ y ∈ (x :: A) ++ (x :: roots (vs.map some) as []), y ∈ A ++ roots (vs.map some) as [] ∨ y = x := fun y hy => by
    simp only [List.mem_append, List.mem_cons] at hy ⊢
    rcases hy with (h | h) | h | h
    · exact .inr h
    · exact .inl (.inl h)
    · exact .inr h
    · exact .inl (.inr h)
  refine ⟨⟨fun a ha => ?_, fun a ha => ?_⟩, ?_, Ex.refl, fun _ z => z, by rw [er]; exact List.nodup_cons.mpr ⟨xr, E.nd⟩, fun k o s h1 h2 => ?_, fun y hy => by cases hy⟩
  · rcases List.mem_cons.mp ha with h | h
    · rw [h]
      show upd _ x _ x ≠ none
      rw [upd_same]
      exact fun z => by cases z
    · have := E.ok.tr a h
      show (upd (upd H dx (.own x)) x (.ins Cc dx [])) a ≠ none
      rw [ex_same keep this]
      exact this
  · rcases List.mem_cons.mp ha with h | h
    · rw [h]
      exact List.mem_cons_self ..
    · exact List.mem_cons_of_mem _ (E.ok.io a h)
  · simp [hl, hrl]
  · rw [er]
    cases k with
    | zero =>
      simp at h1 h2
      subst h1 h2
      subst hC
      exact .io (List.mem_cons_self ..) (.ins (vs := []) (ds := []) upd_same rfl .nil)
    | succ k =>
      have h2 : (as ++ ds.map Sl.cl)[k]? = some s := by simpa using h2
      have h1 : ((vs ++ ws).map some)[k]? = some o := by simpa using h1
      by_cases hk : k < as.length
      · rw [List.getElem?_append_left hk] at h2
        rw [List.map_append, List.getElem?_append_left (by rw [List.length_map]; omega)] at h1
        have q := E.sl k o s h1 h2
        have hok := List.all_eq_true.mp ok s (List.mem_of_getElem? h2)
        have hM : ∀ {d : D} {p : Addr}, Own (A ++ roots (vs.map some) as []) K H p d → Own (x :: A ++ (x :: roots (vs.map some) as [])) K (upd (upd H dx (.own x)) x (.ins Cc dx [])) p d := fun {d p} r => by
          have r2 := r.fresh hx sub
          refine r2.ex (keep.nil) (ex_same keep ?_)
          cases r with
          | lst a _ => rw [a]; exact fun z => by cases z
          | ins a _ _ => rw [a]; exact fun z => by cases z
        show SlR _ (x :: A ++ (x :: roots (vs.map some) as [])) K _ o s
        generalize hG : A ++ roots (vs.map some) as [] = MM at q sub hM
        have q : SlR ⟨A, Io, H⟩ MM K H o s := by
          rw [← hG]
          rw [← hG] at q
          exact q
        cases q with
        | un => cases hok
        | cl r => exact .cl ((r.fresh hx sub).ex keep.nil)
        | ow n a b => cases hok
        | lk n a b => cases hok
        | io m r => exact .io (List.mem_cons_of_mem _ m) (hM r)
        | @dt p d m n r =>
          refine .dt (List.mem_cons_of_mem _ m) (fun z => ?_) (hM r)
          rcases List.mem_cons.mp z with z | z
          · rw [z] at m
            exact xA m
          · exact n z
      · rw [List.getElem?_append_right (by omega), List.getElem?_map] at h2
        rw [List.map_append, List.getElem?_append_right (by rw [List.length_map]; omega), List.length_map, List.getElem?_map] at h1
        cases hd : ds[k - as.length]? with
        | none => rw [hd] at h2; cases h2
        | some d =>
          rw [hd] at h2
          cases h2
          obtain ⟨v, g1, g2⟩ := r.get hd
          rw [hl, g1] at h1
          cases h1
          refine .cl ((g2.fresh (M' := x :: A ++ (x :: roots (vs.map some) as [])) hx fun y hy => ?_).ex keep.nil)
          rcases sub y hy with h | h
          · rcases List.mem_append.mp h with h | h
            · exact .inl h
            · refine .inl ?_
              rcases mem_roots.mp h with ⟨k, o, s, q1, q2, q3⟩ | ⟨y, hy, _⟩
              · have q4 := List.all_eq_true.mp ok s (List.mem_of_getElem? q2)
                have q5 := E.sl k o s q1 q2
                cases q5 with
                | un => cases q4
                | cl r => rw [rootS_cl] at q3; cases q3
                | ow n a b => cases q4
                | lk n a b => cases q4
                | io m r => cases q3; exact E.ok.io _ m
                | dt m n r => cases q3
              · cases hy
          · exact .inr h
theorem sim_make {dvs : List D} {dvv : List V} (hd : ∀ M H, RepA M K H dvv dvs) (hb : SimA K WW tr mr) : SimE K WW (tMake (He.ga K C) (spM K m) dvv E0 tr) (mMake C ms m dvs mr) := fun F σ H ρ st x Q E e p => by
  rcases bindR_some e with ⟨ws, ρ1, e1, e⟩ | ⟨C', fs, ρ1, e1, rfl⟩
  · refine hb F σ H ρ st _ _ E e1 fun vs H1 hl E1 => fun x dx hx hdx hne => ?_
    split at e
    · rename_i hn
      cases h1 : argsOf ρ1 ms ws with
      | none => rw [h1] at e; cases e
      | some as =>
        rw [h1] at e
        dsimp only [Option.bind_some] at e
        obtain ⟨s1, s2, s3⟩ := E1.call_start hl h1 hn
        have sel := EnvR.self (C := C) (x := x) (dx := dx) s1 s2 hx hdx hne rfl (hd (F.A ++ roots σ ρ1 (vs.zip ws ++ st)) H1)
        split at e
        · rename_i C' fs outs h2
          split at e
          · rename_i hC
            subst hC
            cases h3 : putO ms ws outs ρ1 with
            | none => rw [h3] at e; cases e
            | some ρ2 =>
              rw [h3] at e
              cases e
              have keep : Ex [] H1 (upd (upd H1 dx (.own x)) x (.ins (He.ga K C') dx [])) := (Ex.new hdx).trans (fun a o _ z => by
                have hax : a ≠ x := by
                  rintro rfl
                  by_cases q : a = dx
                  · exact hne q.symm
                  · rw [upd_ne q, hx] at z
                    cases z
                rw [upd_ne hax]
                exact z)
              have xA : x ∉ F.A ++ roots σ ρ1 (vs.zip ws ++ st) := fun h => s1.ok.tr x h hx
              refine ⟨_, _, _, _, sel, ?_, h2, ?_⟩
              · rw [List.all_cons, List.all_append, s2]
                show (true && (true && _)) = true
                rw [Bool.true_and, Bool.true_and, List.all_eq_true]
                intro s hs
                obtain ⟨d, _, rfl⟩ := List.mem_map.mp hs
                rfl
              · intro v H3 ex tr nw ho
                refine ⟨?_, ?_⟩
                · cases nw with
                  | cl r => exact rep_non r
                · have own := ho 0 x (.ins C' fs) rfl rfl
                  have e0 : (rootW (v, W.cl D.non)).toList ++ (x :: (F.A ++ roots σ ρ1 (vs.zip ws ++ st))) = x :: (F.A ++ roots σ ρ1 (vs.zip ws ++ st)) := by
                    rw [rootW_cl]
                    rfl
                  rw [e0] at own
                  have tr3 : ∀ a, H1 a ≠ none → H3 a ≠ none := fun a h => tr a (by rw [ex_same keep h]; exact h)
                  refine p (.ref x) H3 (E1.call_end (Io := roots (vs.map some) as []) hl hn s3 h3 (fun a o hn z => ?_) tr3 (.cl ?_) (fun i q d g1 g2 => ?_))
                  · have ha : a ≠ x := by
                      rintro rfl
                      rw [hx] at z
                      cases z
                    refine ex a o (fun h => ?_) (keep a o List.not_mem_nil z)
                    rcases List.mem_cons.mp h with h | h
                    · exact ha h
                    · exact hn h
                  · cases own with
                    | ins a b c => exact .ins ⟨a, xA⟩ b (c.mono fun y hy => List.mem_cons_of_mem _ hy)
                  · have hk : i < vs.length := (List.getElem?_eq_some_iff.mp g1).1
                    have o2 := ho (i + 1) q d (by
                      show (vs ++ dvv)[i]? = _
                      rw [List.getElem?_append_left hk]
                      exact g1) g2
                    rw [e0] at o2
                    rw [rootW_cl]
                    exact o2.mono fun y hy => List.mem_cons_of_mem _ hy
          · cases e
        · cases e
    · cases e
  · exact hb F σ H ρ st _ _ E e1 p
end
end PM

/-! PM12: isinstance, sorted texts and numbers, formatted texts, the text and the length of own instances. -/
namespace PM
open PySem PySem.Spec PyProof.Rows L2 SL
/-! ### isinstance -/
inductive Kd where
  | b (T : String) | own (C : Str) | exc (C : Str) | fn
  deriving DecidableEq
def kd : D → Option Kd
  | .non => some (.b "NoneType")
  | .bl _ => some (.b "bool")
  | .int _ => some (.b "int")
  | .str _ => some (.b "str")
  | .lst _ => some (.b "list")
  | .scr _ => some (.b "list")
  | .tup _ => some (.b "tuple")
  | .dK _ => some (.b "dict")
  | .ins C _ => some (.own C)
  | .exc C _ => some (.exc C)
  | .glo _ => some .fn
  | _ => none
def kdV (K : PySem.W.Frag) : Kd → Value
  | .b T => .type T
  | .own C => .ref (He.ga K C)
  | .exc C => .ref (He.ga K C)
  | .fn => .type "function"
/-- what is asked of the written part for a kind -/
structure OwnK (K : PySem.W.Frag) (C : Str) : Prop where
  cls : Cls K (He.ga K C)
  ha : PySem.W.findIn K (.ref (He.ga K C)) "__class__" = some (some (.builtin "object.__class__"))
  hn : PySem.W.specialIn K (.builtin "object.__class__") "__get__" = some (some (.builtin "getset_descriptor.__get__"))
  htk : PySem.W.takesIn K (.builtin "object.__class__") = some true
  hm : PySem.W.mroIn K (He.ga K C) (.type "object") = some true
def ownB (K : PySem.W.Frag) (C : Str) : Bool := (He.Fa.cls C).ok K && (decide (PySem.W.findIn K (.ref (He.ga K C)) "__class__" = some (some (.builtin "object.__class__"))) && (decide (PySem.W.specialIn K (.builtin "object.__class__") "__get__" = some (some (.builtin "getset_descriptor.__get__"))) &&
  (decide (PySem.W.takesIn K (.builtin "object.__class__") = some true) && decide (PySem.W.mroIn K (He.ga K C) (.type "object") = some true))))
theorem ownB_ok {K : PySem.W.Frag} {C : Str} (h : ownB K C = true) : OwnK K C := by
  simp only [ownB, Bool.and_eq_true, decide_eq_true_eq] at h
  exact ⟨He.cls_ok h.1, h.2.1, h.2.2.1, h.2.2.2.1, h.2.2.2.2⟩
def KdOk (K : PySem.W.Frag) : Kd → Prop
  | .b _ => True
  | .own C => OwnK K C
  | .exc C => isiB K (He.ga K C) = true
  | .fn => False
inductive Cd where
  | ty (T : String) | own (C : Str)
def cdV (K : PySem.W.Frag) : Cd → Value
  | .ty T => .type T
  | .own C => .ref (He.ga K C)
def cdIs : Cd → D → Bool
  | .ty T, .ty T' => decide (T' = T)
  | .own C, .glo C' => decide (C' = C)
  | _, _ => false
def cdsAre : List Cd → List D → Bool
  | [], [] => true
  | c :: cs, d :: ds => cdIs c d.u && cdsAre cs ds
  | _, _ => false
def lookK (k : Kd) : List (Kd × Bool) → Option Bool
  | [] => none
  | (k', b) :: r => if k' = k then some b else lookK k r
def dIsi (c : Cd) (tab : List (Kd × Bool)) : List D → Option W
  | [a, x] => if cdIs c x.u = true then (kd a.u).bind fun k => (lookK k tab).map fun b => .cl (.bl b) else none
  | _ => none
def dIsiT (cs : List Cd) (tab : List (Kd × Bool)) : List D → Option W
  | [a, x] => match x.u with
    | .tup ds => if cdsAre cs ds = true then (kd a.u).bind fun k => (lookK k tab).map fun b => .cl (.bl b) else none
    | _ => none
  | _ => none
inductive Tab (K : PySem.W.Frag) (ev : Value → Option Bool) : List (Kd × Bool) → Prop
  | nil : Tab K ev []
  | cons {k : Kd} {b : Bool} {r : List (Kd × Bool)} : KdOk K k → ev (kdV K k) = some b → Tab K ev r → Tab K ev ((k, b) :: r)
section
variable {K : PySem.W.Frag} {M : List Addr} {H H' : Hp} {p : Addr} {v : V} {d : D} {vs : List V} {ds : List D} {k : Kd} {b : Bool} {ev : Value → Option Bool}
theorem tab_at : ∀ {tab : List (Kd × Bool)}, Tab K ev tab → lookK k tab = some b → KdOk K k ∧ ev (kdV K k) = some b
  | [], _, h => by cases h
  | (k', b') :: r, .cons a e t, h => by
    unfold lookK at h
    split at h
    · rename_i hk
      subst hk
      cases h
      exact ⟨a, e⟩
    · exact tab_at t h
theorem ty_of (h : Nr M K H v d) (e : kd d.u = some k) (ok : KdOk K k) : TyY K H v (kdV K k) := by
  have h := h.u.rep0
  generalize d.u = x at h e
  cases h with
  | non => cases e; exact .base (.base .non)
  | bl b => cases e; exact .base (.base (.bl b))
  | int b => cases e; exact .base (.base (.int b))
  | str b => cases e; exact .base (.base (.str b))
  | ty n => cases e
  | glo x => cases e; exact ok.elim
  | lst a _ => cases e; exact .base (.base (.lst a.at_))
  | scr a =>
    cases e
    rcases a with ⟨a, _⟩ | ⟨o, its, n, h1, h2, _⟩
    · rcases a with a | ⟨o, a⟩
      · exact .base (.base (.lst a))
      · exact .base (.base (.frz a))
    · exact .base (.kList h1 h2)
  | tup a _ =>
    cases e
    exact .base (.base (.tup a.1))
  | dK a _ _ => cases e; exact .base (.base (.dK a.at_))
  | rng a => cases e
  | ins a _ _ =>
    cases e
    have ok : OwnK K _ := ok
    exact .base (.base (.ins a.at_ ok.cls ok.ha ok.hn ok.htk ok.hm))
  | exc a a2 _ _ =>
    cases e
    exact .exc a.at_ _ a2.at_ ok
  | tg _ => cases e
  | bo _ _ => cases e
theorem cd_of {c : Cd} {x : V} (h : Nr M K H x d) (e : cdIs c d.u = true) : ClsV x (cdV K c) := by
  have h := h.u.rep0
  generalize d.u = y at h e
  cases c with
  | ty T =>
    cases h <;> try cases e
    rename_i n
    have : n = T := of_decide_eq_true e
    subst this
    exact .ty _
  | own C =>
    cases h <;> try cases e
    rename_i n
    have : n = C := of_decide_eq_true e
    subst this
    exact .own _
theorem cds_of : ∀ {cs : List Cd} {vs : List V} {ds : List D}, RepA M K H vs ds → cdsAre cs ds = true → Paired ClsV vs (cs.map (cdV K))
  | [], _, _, .nil, _ => .nil
  | c :: cs, _, _, .cons h a, e => by
    have e : (cdIs c _ && cdsAre cs _) = true := e
    rw [Bool.and_eq_true] at e
    exact .cons (cd_of (.cl h) e.1) (cds_of a e.2)
  | [], _, _, .cons _ _, e => by cases e
  | _ :: _, _, _, .nil, e => by cases e
theorem o_isi {c : Cd} {tab : List (Kd × Bool)} (t : Tab K (fun t => PySem.W.kitOne K t (cdV K c)) tab) : OpN K (vIsi K) (dIsi c tab) := fun M H xs ds w Q hM nr e q => by
  unfold dIsi at e
  split at e
  · obtain ⟨x, y, rfl, n1, n2⟩ := nra2 nr
    split at e
    · rename_i a x' hc
      cases h1 : kd a.u with
      | none => rw [h1] at e; cases e
      | some k =>
        rw [h1] at e
        dsimp only [Option.bind_some] at e
        cases h2 : lookK k tab with
        | none => rw [h2] at e; cases e
        | some b =>
          rw [h2] at e
          cases e
          obtain ⟨o1, o2⟩ := tab_at t h2
          exact v_isi (cd_of n2 hc) (ty_of n1 h1 o1) o2 (q _ _ Ex.refl (.cl (.bl _)))
    · cases e
  · cases e
theorem o_isiT {cs : List Cd} {tab : List (Kd × Bool)} (t : Tab K (fun t => PySem.W.kitAny K t (cs.map (cdV K))) tab) : OpN K (vIsi K) (dIsiT cs tab) := fun M H xs ds w Q hM nr e q => by
  unfold dIsiT at e
  split at e
  · rename_i a a2
    obtain ⟨x, y, rfl, n1, n2⟩ := nra2 nr
    split at e
    · rename_i ds hx
      split at e
      · rename_i hc
        cases h1 : kd a.u with
        | none => rw [h1] at e; cases e
        | some k =>
          rw [h1] at e
          dsimp only [Option.bind_some] at e
          cases h2 : lookK k tab with
          | none => rw [h2] at e; cases e
          | some b =>
            rw [h2] at e
            cases e
            obtain ⟨o1, o2⟩ := tab_at t h2
            have n2 := n2.u
            rw [hx] at n2
            cases n2 with
            | own r => cases r
            | cl r =>
              cases r with
              | @tup tp cv _ s1 r1 =>
                exact v_isiT s1.1 (cds_of r1 hc) (ty_of n1 h1 o1) o2 (q _ _ Ex.refl (.cl (.bl _)))
      · cases e
    · cases e
  · cases e
end
/-! ### sorted -/
def sortI (ns : List Int) : List Int := ns.mergeSort (fun a b => decide (a ≤ b))
def rSrt (K : PySem.W.Frag) : List V → Hp → VK → Prop := fun xs H Q => rSorted K xs H Q ∨ rSortedS K xs H Q
theorem call_srt {X : Cx} : CallR X (.builtin "sorted") (rSrt X.K) := cr_sorted.or cr_sortedS
def dSrt : List D → Option W
  | [a] => match a.u with
    | .lst ds => match strsOf ds with
      | some zs => if zs.length < 64 then some (.fr ((sortS zs).map .str)) else none
      | none => (intsOf ds).bind fun ns => if ns.length < 64 then some (.fr ((sortI ns).map .int)) else none
    | .tup ds => none
    | _ => none
  | _ => none
theorem str_lt_asymm {a b : List Nat} (h : a < b) : ¬ b < a := fun h2 => List.lt_asymm h h2
theorem insS_perm (z : Str) : ∀ ys : List Str, (insS z ys).Perm (z :: ys)
  | [] => List.Perm.refl _
  | y :: ys => by
    unfold insS
    split
    · exact List.Perm.refl _
    · exact ((insS_perm z ys).cons y).trans (List.Perm.swap _ _ _)
theorem sortS_perm : ∀ zs : List Str, (sortS zs).Perm zs
  | [] => List.Perm.refl _
  | z :: zs => (insS_perm z _).trans ((sortS_perm zs).cons z)
abbrev leS (a b : Str) : Prop := ¬ b.cps.toList < a.cps.toList
theorem insS_sorted {z : Str} : ∀ {ys : List Str}, ys.Pairwise leS → (insS z ys).Pairwise leS
  | [], _ => by unfold insS; exact List.pairwise_singleton _ _
  | y :: ys, h => by
    unfold insS
    obtain ⟨h1, h2⟩ := List.pairwise_cons.mp h
    split
    · rename_i hlt
      refine List.pairwise_cons.mpr ⟨fun x hx => ?_, h⟩
      rcases List.mem_cons.mp hx with rfl | hx
      · exact str_lt_asymm hlt
      · exact fun q => h1 x hx (List.lt_trans q hlt)
    · rename_i hge
      refine List.pairwise_cons.mpr ⟨fun x hx => ?_, insS_sorted h2⟩
      rcases List.mem_cons.mp ((insS_perm z ys).mem_iff.mp hx) with rfl | hx
      · exact hge
      · exact h1 x hx
theorem sortS_sorted : ∀ zs : List Str, (sortS zs).Pairwise leS
  | [] => .nil
  | z :: zs => insS_sorted (sortS_sorted zs)
theorem leS_antisymm {a b : Str} (h1 : leS a b) (h2 : leS b a) : a = b := str_ext (List.le_antisymm (show a.cps.toList ≤ b.cps.toList from h1) (show b.cps.toList ≤ a.cps.toList from h2))
theorem leS_trans {a b c : Str} (h1 : leS a b) (h2 : leS b c) : leS a c := List.le_trans (show a.cps.toList ≤ b.cps.toList from h1) (show b.cps.toList ≤ c.cps.toList from h2)
theorem perm_eq {α : Type} {R : α → α → Prop} (anti : ∀ a b, R a b → R b a → a = b) : ∀ {l1 l2 : List α}, l1.Perm l2 → l1.Pairwise R → l2.Pairwise R → l1 = l2
  | [], l2, h, _, _ => (List.Perm.nil_eq h)
  | a :: l1, [], h, _, _ => by
    have := h.length_eq
    simp at this
  | a :: l1, b :: l2, h, p1, p2 => by
    obtain ⟨q1, q2⟩ := List.pairwise_cons.mp p1
    obtain ⟨r1, r2⟩ := List.pairwise_cons.mp p2
    have e : a = b := by
      have ha : a ∈ b :: l2 := h.mem_iff.mp (List.mem_cons_self ..)
      have hb : b ∈ a :: l1 := h.mem_iff.mpr (List.mem_cons_self ..)
      rcases List.mem_cons.mp ha with e | ha
      · exact e
      · rcases List.mem_cons.mp hb with e | hb
        · exact e.symm
        · exact anti _ _ (q1 b hb) (r1 a ha)
    subst e
    rw [perm_eq anti (List.Perm.cons_inv h) q2 r2]
theorem rising_le : ∀ {p : Str} {r : List Str}, risingS p r = true → (∀ x ∈ r, leS p x) ∧ r.Pairwise leS
  | p, [], _ => ⟨fun x h => absurd h List.not_mem_nil, .nil⟩
  | p, x :: r, h => by
    have h : (!ltCps x.cps.toList p.cps.toList && risingS x r) = true := h
    rw [Bool.and_eq_true] at h
    have hx : leS p x := by
      intro z
      have h1 := h.1
      rw [PyProof.Rows.ltCps_eq, decide_eq_true z] at h1
      cases h1
    obtain ⟨i1, i2⟩ := rising_le h.2
    refine ⟨fun y hy => ?_, List.pairwise_cons.mpr ⟨i1, i2⟩⟩
    rcases List.mem_cons.mp hy with rfl | hy
    · exact hx
    · exact leS_trans hx (i1 y hy)
theorem sortedS_pw : ∀ {ys : List Str}, sortedS ys = true → ys.Pairwise leS
  | [], _ => .nil
  | x :: r, h => List.pairwise_cons.mpr (rising_le h)
theorem o_srt {K : PySem.W.Frag} : OpN K (rSrt K) dSrt := fun M H xs ds w Q hM nr e q => by
  unfold dSrt at e
  split at e
  · obtain ⟨v, rfl, n⟩ := nra1 nr
    split at e
    · rename_i ds h1
      obtain ⟨a, xs, rfl, s1, r1⟩ := nr_lst n h1
      split at e
      · rename_i zs hz
        split at e
        · rename_i hl
          cases e
          rw [strs_of r1 hz] at s1
          refine .inr ⟨a, zs, rfl, .inl (.inl s1), hl, fun ys p hp hs hn => ?_⟩
          have ey : ys = sortS zs := perm_eq (fun _ _ => leS_antisymm) (hp.trans (sortS_perm zs).symm) (sortedS_pw hs) (sortS_sorted zs)
          rw [ey]
          exact q _ _ (Ex.new hn) (Nw.new hn (RepA.strs _))
        · cases e
      · rename_i hz
        cases h2 : intsOf ds with
        | none => rw [h2] at e; cases e
        | some ns =>
          rw [h2] at e
          dsimp only [Option.bind_some] at e
          split at e
          · rename_i hl
            cases e
            rw [ints_of r1 h2] at s1
            refine .inl ⟨a, ns, rfl, .inl (.inl s1), hl, fun ns' p hp hs hn => ?_⟩
            have ey : ns' = sortI ns := perm_eq (fun _ _ h1 h2 => Int.le_antisymm h1 h2) (hp.trans (List.mergeSort_perm ns _).symm) hs (by
              have := List.pairwise_mergeSort (le := fun a b : Int => decide (a ≤ b)) (fun a b c h1 h2 => by
                simp only [decide_eq_true_eq] at *
                omega) (fun a b => by
                simp only [Bool.or_eq_true, decide_eq_true_eq]
                omega) ns
              exact this.imp (fun h => of_decide_eq_true h))
            rw [ey]
            exact q _ _ (Ex.new hn) (Nw.new hn (RepA.ints _))
          · cases e
    · cases e
    · cases e
  · cases e
/-! ### formatted texts -/
def mFmt (a : Mo W) : Mo W := fun ρ => bindR (a ρ) fun w ρ => match (deref ρ w).map D.u with
  | some (.str z) => if z.length ≤ 100000 then some (.ok (.cl (.str z)) ρ) else none
  | _ => none
def mJs : List (Mo W) → Str → Mo W
  | [], acc => fun ρ => some (.ok (.cl (.str acc)) ρ)
  | m :: ms, acc => fun ρ => bindR (m ρ) fun w ρ => match (deref ρ w).map D.u with
    | some (.str y) => if (acc ++ y).length ≤ 100000 then mJs ms (acc ++ y) ρ else none
    | _ => none
inductive SimEs (K : PySem.W.Frag) (WW : WX) : List TE → List (Mo W) → Prop
  | nil : SimEs K WW [] []
  | cons {t : TE} {ts : List TE} {m : Mo W} {ms : List (Mo W)} : SimE K WW t m → SimEs K WW ts ms → SimEs K WW (t :: ts) (m :: ms)
section
variable {K : PySem.W.Frag} {WW : WX} {F : Fm} {M : List Addr} {H H' : Hp} {σ : L2.St} {ρ ρ' : List Sl} {st : List (V × W)} {tr : TA} {mr : Mo (List W)} {te ta tb : TE} {me ma mb : Mo W} {C : Str} {ms : List Bool} {m : Fnm}
theorem sim_fmt (ha : SimE K WW ta ma) : SimE K WW (tFmt ta) (mFmt ma) := fun F σ H ρ st x Q E e p => by
  rcases bindR_some e with ⟨w1, ρ1, e1, e⟩ | ⟨C', fs, ρ1, e1, rfl⟩
  · refine ha F σ H ρ st _ _ E e1 fun v1 H1 E1 => ?_
    cases h1 : deref ρ1 w1 with
    | none => rw [h1] at e; cases e
    | some d1 =>
      rw [h1] at e
      dsimp only [Option.map_some] at e
      split at e
      · rename_i z hz
        split at e
        · cases e
          cases nr_str (E1.near (List.mem_cons_self ..) h1) (Option.some.inj hz)
          exact .inl ⟨z, rfl, sz_le ‹_›, p _ _ (E1.pop.pushC (.str _))⟩
        · cases e
      · cases e
  · exact ha F σ H ρ st _ _ E e1 p
theorem sim_js : ∀ {ts : List TE} {ms : List (Mo W)}, SimEs K WW ts ms → ∀ (acc : Str), SimE K WW (fun σ H Q => tJs ts acc σ H fun out H1 => Q (.str out) H1) (mJs ms acc)
  | _, _, .nil, acc => fun F σ H ρ st x Q E e p => by
    cases e
    exact p _ _ (E.pushC (.str _))
  | _, _, .cons (t := t) (ts := ts) (m := m) (ms := ms) h r, acc => fun F σ H ρ st x Q E e p => by
    have e : (bindR (m ρ) fun w ρ => match (deref ρ w).map D.u with
      | some (.str y) => if (acc ++ y).length ≤ 100000 then mJs ms (acc ++ y) ρ else none
      | _ => none) = some x := e
    show t σ H _
    rcases bindR_some e with ⟨w1, ρ1, e1, e⟩ | ⟨C', fs, ρ1, e1, rfl⟩
    · refine h F σ H ρ st _ _ E e1 fun v1 H1 E1 => ?_
      cases h1 : deref ρ1 w1 with
      | none => rw [h1] at e; cases e
      | some d1 =>
        rw [h1] at e
        dsimp only [Option.map_some] at e
        split at e
        · rename_i z hz
          split at e
          · rename_i hl
            refine ⟨z, nr_str (E1.near (List.mem_cons_self ..) h1) (Option.some.inj hz), sz_le hl, ?_⟩
            exact sim_js r (acc ++ z) F σ H1 ρ1 st x Q E1.pop e p
          · cases e
        · cases e
    · exact h F σ H ρ st _ _ E e1 p
/-! ### own text, own length, own == -/
def chkS : R W → Bool
  | .ok (.cl (.str _)) _ => true
  | _ => false
def chkN : R W → Bool
  | .ok (.cl (.int i)) _ => decide (0 ≤ i ∧ i < 1000000)
  | _ => false
def chkB : R W → Bool
  | .ok (.cl (.bl _)) _ => true
  | _ => false
def callC (chk : R W → Bool) (C : Str) (m : Fnm) (ws : List W) (ρ : List Sl) : Option (R W) := match ws with
  | w :: _ => (deref ρ w).bind fun d => (insOf C d.u).bind fun _ => (callT (ws.map fun _ => false) m ws ρ).bind fun r => if chk r = true then some r else none
  | [] => none
def mStrO (C : Str) (m : Fnm) (a : Mo (List W)) : Mo W := fun ρ => bindR (a ρ) fun ws ρ => match ws with
  | [w] => callC chkS C m [w] ρ
  | _ => none
def mLenO (C : Str) (m : Fnm) (a : Mo (List W)) : Mo W := fun ρ => bindR (a ρ) fun ws ρ => match ws with
  | [w] => callC chkN C m [w] ρ
  | _ => none
theorem callC_ok {chk : R W → Bool} {ws : List W} {vs : List V} {r : R W} (E : EnvR K F σ H ρ (vs.zip ws ++ st)) (hl : vs.length = ws.length) (h : callC chk C m ws ρ = some r) :
    (∃ a dx fs, vs.head? = some (V.ref a) ∧ H a = some (.ins (He.ga K C) dx fs)) ∧ chk r = true ∧ callT (ws.map fun _ => false) m ws ρ = some r := by
  unfold callC at h
  split at h
  · rename_i w ws'
    match vs, hl, E with
    | v :: vs', hl, E =>
      cases h1 : deref ρ w with
      | none => rw [h1] at h; cases h
      | some d =>
        rw [h1] at h
        dsimp only [Option.bind_some] at h
        cases h2 : insOf C d.u with
        | none => rw [h2] at h; cases h
        | some fs =>
          rw [h2] at h
          dsimp only [Option.bind_some] at h
          obtain ⟨a, dx, gs, rfl, ea, _⟩ := nr_ins (E.near (v := v) (w := w) (List.mem_cons_self ..) h1) h2
          cases h3 : callT (List.map (fun _ => false) (w :: ws')) m (w :: ws') ρ with
          | none => rw [h3] at h; cases h
          | some r' =>
            rw [h3] at h
            dsimp only [Option.bind_some] at h
            split at h
            · rename_i hc
              cases h
              exact ⟨⟨a, dx, gs, rfl, ea⟩, hc, rfl⟩
            · cases h
  · cases h
theorem sim_strO (ha : SimA K WW tr mr) : SimE K WW (tCB (rStrO (He.ga K C) (spM K m) E0) tr) (mStrO C m mr) := fun F σ H ρ st x Q E e p => by
  rcases bindR_some e with ⟨ws, ρ1, e1, e⟩ | ⟨C', fs, ρ1, e1, rfl⟩
  · refine ha F σ H ρ st _ _ E e1 fun vs H1 hl E1 => ?_
    split at e
    · rename_i w
      match vs, hl, E1 with
      | [v], hl, E1 =>
        obtain ⟨⟨a, dx, fs, hv, ea⟩, hc, hcall⟩ := callC_ok E1 hl e
        cases hv
        refine ⟨a, dx, fs, rfl, ea, EnvR.callT E1 hl hcall fun w ρ' hr v H' E' => ?_⟩
        subst hr
        have hcl : ∃ y, w = .cl (.str y) := by
          cases w with
          | cl d => cases d <;> first | exact ⟨_, rfl⟩ | cases hc
          | _ => cases hc
        obtain ⟨y, rfl⟩ := hcl
        exact ⟨y, rep_str (E'.rep (List.mem_cons_self ..)), p v H' E'⟩
    · cases e
  · exact ha F σ H ρ st _ _ E e1 p
theorem sim_lenO (ha : SimA K WW tr mr) : SimE K WW (tCB (rLenO (He.ga K C) (spM K m) E0) tr) (mLenO C m mr) := fun F σ H ρ st x Q E e p => by
  rcases bindR_some e with ⟨ws, ρ1, e1, e⟩ | ⟨C', fs, ρ1, e1, rfl⟩
  · refine ha F σ H ρ st _ _ E e1 fun vs H1 hl E1 => ?_
    split at e
    · rename_i w
      match vs, hl, E1 with
      | [v], hl, E1 =>
        obtain ⟨⟨a, dx, fs, hv, ea⟩, hc, hcall⟩ := callC_ok E1 hl e
        cases hv
        refine ⟨a, dx, fs, rfl, ea, EnvR.callT E1 hl hcall fun w ρ' hr v H' E' => ?_⟩
        subst hr
        have hcl : ∃ i, w = .cl (.int i) ∧ 0 ≤ i ∧ i < 1000000 := by
          cases w with
          | cl d => cases d <;> first | exact ⟨_, rfl, of_decide_eq_true hc⟩ | cases hc
          | _ => cases hc
        obtain ⟨i, rfl, h0, h1⟩ := hcl
        exact ⟨i, rep_int (E'.rep (List.mem_cons_self ..)), h0, by omega, p v H' E'⟩
    · cases e
  · exact ha F σ H ρ st _ _ E e1 p
/-- own == anything of the kinds ks -/
def mEqO (C : Str) (ks : List Kd) (m : Fnm) (a b : Mo W) : Mo W := fun ρ => bindR (a ρ) fun x ρ => bindR (b ρ) fun y ρ => (deref ρ y).bind fun dy => (kd dy.u).bind fun k => if decide (k ∈ ks) = true then callC chkB C m [x, y] ρ else none
def mNeO (C : Str) (ks : List Kd) (m : Fnm) (a b : Mo W) : Mo W := fun ρ => bindR (mEqO C ks m a b ρ) fun w ρ => match w with
  | .cl (.bl b) => some (.ok (.cl (.bl (!b))) ρ)
  | _ => none
structure EqKs (K : PySem.W.Frag) (C : Str) (ks : List Kd) : Prop where
  ok : ∀ k ∈ ks, KdOk K k ∧ PySem.W.notFirst K (He.ga K C) (kdV K k) = true
theorem eqO_core {ks : List Kd} (hk : EqKs K C ks) (ha : SimE K WW ta ma) (hb : SimE K WW tb mb) (F : Fm) (σ : L2.St) (H : Hp) (ρ : List Sl) (st : List (V × W)) (r : R W) (Q : VK) (G : V → V → Hp → Prop)
    (hG : ∀ x y H (a dx : Addr) (fs : List (Str × V)) (t : Value), x = .ref a → H a = some (.ins (He.ga K C) dx fs) → TyY K H y t → PySem.W.notFirst K (He.ga K C) t = true → spM K m [x, y] H (fun z H' => ∃ b, z = .bl b ∧ Q z H') E0 → G x y H)
    (E : EnvR K F σ H ρ st) (e : mEqO C ks m ma mb ρ = some r) (p : PostE K F WW σ st Q r) : ta σ H fun x H1 => tb σ H1 fun y H2 => G x y H2 := by
  rcases bindR_some e with ⟨w1, ρ1, e1, e⟩ | ⟨C', fs, ρ1, e1, rfl⟩
  · refine ha F σ H ρ st _ _ E e1 fun v1 H1 E1 => ?_
    rcases bindR_some e with ⟨w2, ρ2, e2, e⟩ | ⟨C', fs, ρ2, e2, rfl⟩
    · refine hb F σ H1 ρ1 _ _ _ E1 e2 fun v2 H2 E2 => ?_
      cases h1 : deref ρ2 w2 with
      | none => rw [h1] at e; cases e
      | some d2 =>
        rw [h1] at e
        dsimp only [Option.bind_some] at e
        cases h2 : kd d2.u with
        | none => rw [h2] at e; cases e
        | some k =>
          rw [h2] at e
          dsimp only [Option.bind_some] at e
          split at e
          · rename_i hm
            obtain ⟨o1, o2⟩ := hk.ok k (of_decide_eq_true hm)
            have E3 : EnvR K F σ H2 ρ2 ([v1, v2].zip [w1, w2] ++ st) := E2.perm (List.Perm.swap _ _ _)
            obtain ⟨⟨a, dx, fs, hv, ea⟩, hc, hcall⟩ := callC_ok E3 rfl e
            cases hv
            refine hG _ _ _ a dx fs _ rfl ea (ty_of (E2.near (List.mem_cons_self ..) h1) h2 o1) o2 (EnvR.callT E3 rfl hcall fun w ρ' hr v H' E' => ?_)
            subst hr
            have hcl : ∃ y, w = .cl (.bl y) := by
              cases w with
              | cl d => cases d <;> first | exact ⟨_, rfl⟩ | cases hc
              | _ => cases hc
            obtain ⟨y, rfl⟩ := hcl
            exact ⟨y, rep_bl (E'.rep (List.mem_cons_self ..)), p v H' E'⟩
          · cases e
    · exact hb F σ H1 ρ1 _ _ _ E1 e2 (ExR.up p)
  · exact ha F σ H ρ st _ _ E e1 p
theorem sim_eqO {ks : List Kd} (hk : EqKs K C ks) (ha : SimE K WW ta ma) (hb : SimE K WW tb mb) : SimE K WW (tOp (rEqO K (He.ga K C) (spM K m) E0) ta tb) (mEqO C ks m ma mb) := fun F σ H ρ st x Q E e p =>
  eqO_core hk ha hb F σ H ρ st x Q _ (fun x y H a dx fs t h1 h2 h3 h4 h5 => ⟨a, dx, fs, t, h1, h2, h3, h4, h5⟩) E e p
theorem sim_neO {ks : List Kd} (hk : EqKs K C ks) (ha : SimE K WW ta ma) (hb : SimE K WW tb mb) : SimE K WW (tOp (rNeO K (He.ga K C) (spM K m) E0) ta tb) (mNeO C ks m ma mb) := fun F σ H ρ st x Q E e p => by
  have hG : ∀ x y H (a dx : Addr) (fs : List (Str × V)) (t : Value), x = .ref a → H a = some (.ins (He.ga K C) dx fs) → TyY K H y t → PySem.W.notFirst K (He.ga K C) t = true → spM K m [x, y] H (fun z H' => ∃ b, z = .bl b ∧ ∃ b', z = .bl b' ∧ Q (.bl (!b')) H') E0 → rNeO K (He.ga K C) (spM K m) E0 x y H Q := fun x y H a dx fs t h1 h2 h3 h4 h5 => by
    refine ⟨a, dx, fs, t, h1, h2, h3, h4, ?_⟩
    obtain ⟨A, Io, as, r, s1, s2, s3, s4⟩ := h5
    refine ⟨A, Io, as, r, s1, s2, s3, ?_⟩
    cases r with
    | rt w outs =>
      intro v H' ex tr nw ho
      obtain ⟨b, rfl, b', hb', q⟩ := s4 v H' ex tr nw ho
      cases hb'
      exact ⟨b, rfl, q⟩
    | ex C fs outs => exact s4
  rcases bindR_some e with ⟨w1, ρ1, e1, e⟩ | ⟨C', fs, ρ1, e1, rfl⟩
  · refine eqO_core hk ha hb F σ H ρ st _ (fun z H' => ∃ b, z = .bl b ∧ Q (.bl (!b)) H') (rNeO K (He.ga K C) (spM K m) E0 · · · Q) hG E e1 fun v H1 E1 => ?_
    split at e
    · rename_i b
      cases e
      cases rep_bl (E1.rep (List.mem_cons_self ..))
      exact ⟨b, rfl, p _ _ (E1.pop.pushC (.bl _))⟩
    · cases e
  · exact eqO_core hk ha hb F σ H ρ st _ (fun z H' => ∃ b, z = .bl b ∧ Q (.bl (!b)) H') (rNeO K (He.ga K C) (spM K m) E0 · · · Q) hG E e1 p
end
end PM

/-! PM13: lists of own instances that are equal, by == and by !=. -/
namespace PM
open PySem PySem.Spec PyProof.Rows L2 SL
section
variable {X : Cx} {n : Nat} {D' : Eqv}
def rNeG (D' : Eqv) : R2 := fun x y H Q => DList D' x y H ∧ ∀ H', Ext H H' → Q (.bl false) H'
theorem op_neG (hD : Mon D') (h : EqG X n D') (hr : Room (n + 1) X.A) : OpR X (compareOp .NotEq) (rNeG D') := by
  rintro pins s σ H _ _ v u Q I rx ry ⟨⟨a, b, xs, ys, rfl, rfl, ha, hb, p⟩, q⟩
  obtain rfl : v = .ref a := rx
  obtain rfl : u = .ref b := ry
  refine SL.rc_listN (N := xs.length) hr.units0 (fun _ s' => LoopI X pins σ H s') (fun i s' st => ?_) (fun s' ⟨H', I', e⟩ => ⟨.bl false, H', I', rfl, q H' e⟩) ⟨H, I, Ext.rfl'⟩
  obtain ⟨H1, I1, e1⟩ := id st
  obtain ⟨_, us, k, r, g⟩ := I1.hok a _ (e1 _ _ ha)
  obtain ⟨_, ws, k2, r2, g2⟩ := I1.hok b _ (e1 _ _ hb)
  have z1 : us.toArray.size = xs.length := by rw [List.size_toArray, ← r.length]
  have z2 : ws.toArray.size = xs.length := by rw [List.size_toArray, ← r2.length, ← p.1]
  exact ⟨us.toArray, ws.toArray, k, k2, g, g2, z1, z2, fun h1 h2 => turnG hD h (sb := ⟨hr, rfl⟩) p r r2 i h1 h2 s' st⟩
end
/-- the plain == says True of the two -/
def saysEq (K : PySem.W.Frag) (m : Fnm) (a b : Addr) (H : Hp) : Prop := ∃ (d e : D) (outs : List Sl), Rep [] K H (.ref a) d ∧ Rep [] K H (.ref b) e ∧ m [.cl d, .cl e] = some (.rt (.cl (.bl true)) outs)
theorem ext_ex {H H' : Hp} (e : Ext H H') : Ex [] H H' := fun a o _ h => e a o h
theorem saysEq_mon {K : PySem.W.Frag} {m : Fnm} : ∀ a b H H', Ext H H' → saysEq K m a b H → saysEq K m a b H' := fun a b H H' e ⟨d, d2, o, r1, r2, h⟩ => ⟨d, d2, o, r1.ex (ext_ex e), r2.ex (ext_ex e), h⟩
theorem spEq_of {K : PySem.W.Frag} {m : Fnm} {vs : List V} {H : Hp} {Q : VK} {E : XK} (h : spEq (saysEq K m) vs H Q E) : spM K m vs H Q E := by
  obtain ⟨a, b, rfl, ⟨d, e, outs, r1, r2, hm⟩, q⟩ := h
  have hM : ∀ {d : D} {v : V}, Rep [] K H v d → Rep ([] ++ roots [some (V.ref a), some (V.ref b)] [.cl d, .cl e] []) K H v d := fun r => r
  refine ⟨[], [], [.cl d, .cl e], _, ⟨⟨fun a h => absurd h List.not_mem_nil, fun a h => absurd h List.not_mem_nil⟩, rfl, Ex.refl, fun _ z => z, .nil, fun i o s h1 h2 => ?_, fun x hx => by cases hx⟩, rfl, hm, ?_⟩
  · have e0 : (Fm.mk [] [] H).A ++ roots (List.map some [V.ref a, V.ref b]) [Sl.cl d, Sl.cl e] [] = [] := rfl
    rw [e0]
    match i, h1, h2 with
    | 0, h1, h2 =>
      simp at h1 h2
      subst h1 h2
      exact .cl r1
    | 1, h1, h2 =>
      simp at h1 h2
      subst h1 h2
      exact .cl r2
    | i + 2, h1, h2 => simp at h1
  · intro v H' ex tr nw ho
    cases nw with
    | cl r =>
      cases rep_bl r
      exact q H' fun a o h => ex a o List.not_mem_nil h
theorem FnOk_imp {P : Program} {w : World} {K : PySem.W.Frag} {mg : Str → Option Value} {base : Heap} {CX : CXT} {k : Nat} {f : Addr} {fd : FuncData} {ps : List Str} {sp sp' : Sp} (F : FnOk P w K mg base CX k f fd ps sp) (h : ∀ vs H Q E, sp' vs H Q E → sp vs H Q E) : FnOk P w K mg base CX k f fd ps sp' := by
  constructor
  · exact fun vs H Q E q => F.len vs H Q E (h vs H Q E q)
  · exact fun A outer s H args us vs Q E hr e b r q => F.run A outer s H args us vs Q E hr e b r (h vs H Q E q)
/-- lists of instances that are equal: != says False -/
abbrev DOwn (K : PySem.W.Frag) (C : Str) (m : Fnm) : Eqv := DIns (He.ga K C) (saysEq K m)
theorem op_neL {X : Cx} {CX : CXT} {n : Nat} {C : Str} {m : Fnm} {f : Addr} {fd : FuncData} {ps : List Str} (F : FnOk X.prog X.w X.K X.mg X.base CX n f fd ps (spM X.K m)) (hs : PySem.W.findIn X.K (.ref (He.ga X.K C)) "__eq__" = some (some (.ref f))) (hf : PySem.W.isFn X.K (.ref f) = true)
    (hb : Binds X.K fd ps []) (hx : Passes CX X E0) (hr : Room (n + 1) X.A) : OpR X (compareOp .NotEq) (rNeG (DOwn X.K C m)) :=
  op_neG (mon_ins saysEq_mon) (eqG_ins (E := E0) (FnOk_imp F fun _ _ _ _ h => spEq_of h) hs hf hb hx) hr
def eqAllM (C : Str) (m : Fnm) : List D → List D → Bool
  | [], [] => true
  | d :: ds, e :: es => (insOf C d.u).isSome && ((insOf C e.u).isSome && ((match m [.cl d, .cl e] with
    | some (.rt (.cl (.bl true)) _) => true
    | _ => false) && eqAllM C m ds es))
  | _, _ => false
def dNeL (C : Str) (m : Fnm) (a b : D) : Option W := match a.u, b.u with
  | .lst ds, .lst es => if eqAllM C m ds es = true then some (.cl (.bl false)) else none
  | _, _ => none
theorem eqAll_prs {K : PySem.W.Frag} {M : List Addr} {H : Hp} {C : Str} {m : Fnm} : ∀ {xs ys : List V} {ds es : List D}, RepA M K H xs ds → RepA M K H ys es → eqAllM C m ds es = true → Prs (DOwn K C m) xs ys H
  | _, _, _, _, .nil, .nil, _ => Prs.nil
  | _, _, _, _, .cons h a, .cons h2 a2, e => by
    unfold eqAllM at e
    simp only [Bool.and_eq_true] at e
    obtain ⟨e1, e2, e3, e4⟩ := e
    obtain ⟨f1, e1⟩ := Option.isSome_iff_exists.mp e1
    obtain ⟨f2, e2⟩ := Option.isSome_iff_exists.mp e2
    obtain ⟨a1, dx, vs, rfl, q1, _⟩ := nr_ins (.cl h) e1
    obtain ⟨b1, dy, ws, rfl, q2, _⟩ := nr_ins (.cl h2) e2
    refine Prs.cons ⟨a1, b1, dx, dy, vs, ws, rfl, rfl, q1, q2, ?_⟩ (eqAll_prs a a2 e4)
    split at e3
    · rename_i outs hm
      exact ⟨_, _, outs, h.mono fun _ z => absurd z List.not_mem_nil, h2.mono fun _ z => absurd z List.not_mem_nil, hm⟩
    · cases e3
  | _, _, _, _, .nil, .cons _ _, e => by cases e
  | _, _, _, _, .cons _ _, .nil, e => by cases e
theorem o_neL {K : PySem.W.Frag} {C : Str} {m : Fnm} : Op2 K (rNeG (DOwn K C m)) (dNeL C m) := fun M H x y dx dy w Q hM nx ny e q => by
  unfold dNeL at e
  split at e
  · rename_i ds es h1 h2
    obtain ⟨a, xs, rfl, s1, r1⟩ := nr_lst nx h1
    obtain ⟨b, ys, rfl, s2, r2⟩ := nr_lst ny h2
    split at e
    · rename_i he
      cases e
      exact ⟨⟨a, b, xs, ys, rfl, rfl, s1, s2, eqAll_prs r1 r2 he⟩, fun H' e => q _ _ (ext_ex e) (.cl (.bl _))⟩
    · cases e
  · cases e
end PM

/-! PM14: the head's hook with defs at any address (getters of properties); looks of own classes. -/
namespace PM
open PySem PySem.Spec PyProof.Rows L2 SL
structure DA where
  ad : PySem.W.Frag → Addr
  d : He.DefD
def fnA (K : PySem.W.Frag) (a : Addr) : He.FnW := match K.lookup a with
  | some ⟨_, _, .func fd, _⟩ => some (fd.name, fd.qualname, fd.params, fd.body, fd.scope, fd.globals, fd.closure, fd.builtins)
  | _ => none
def okA (K : PySem.W.Frag) (a : Addr) (d : He.DefD) : Bool := PySem.W.keepIn K (.ref a) && (match K.lookup a with
  | some ⟨_, _, .func fd, _⟩ => PySem.W.codeIn K fd.code d.qual && (He.dflB K fd.defaults (d.dvs K) && He.kwdB K fd.kwdefaults (d.kws K))
  | _ => false)
theorem funA {K : PySem.W.Frag} {d : He.DefD} {a : Addr} (e : fnA K a = d.val) (c : okA K a d = true) : ∃ fd, FunD K d.name d.qual d.params d.body d.scope (d.dvs K) (d.kws K) a fd := by
  obtain ⟨kp, c⟩ := He.ba c
  unfold fnA at e
  rcases q : K.lookup a with _ | ⟨oc, od, dt, osl⟩ <;> rw [q] at c e
  · cases c
  · cases dt
    case func fd =>
      rcases fd with ⟨a1, a2, a3, a4, a5, a6, a7, a8, a9, a10, a11, a12, a13, a14, a15⟩
      cases (show (some (a1, a2, a3, a4, a5, a6, a7, a15) : He.FnW) = some (d.name, d.qual, d.params, .stmts d.body, d.scope, mainGlobals, [], builtinsNs) from e)
      obtain ⟨code, c⟩ := He.ba c
      obtain ⟨dfl, kwd⟩ := He.ba c
      exact ⟨_, ⟨oc, od, a8, a9, a10, a11, a12, a13, a14, osl, rfl, q, code, He.dflB_ok dfl, He.kwdB_ok kwd⟩, kp⟩
    all_goals cases c
abbrev AlA : Type := Bool × List He.FnW
def obsA (ok : Looks) (fn : List DA) (K : PySem.W.Frag) : AlA := ((ok.all fun f => f K) && fn.all fun d => okA K (d.ad K) d.d, fn.map fun d => fnA K (d.ad K))
def valA (fn : List DA) : AlA := (true, fn.map fun d => d.d.val)
def SaysA (ok : Looks) (fn : List DA) (K : PySem.W.Frag) : Prop := obsA ok fn K = valA fn
def obsAG (n : Nat) (ok : Looks) (fn : List DA) (g : Addr → Option Obj) : AlA := obsA ok fn (He.frG g (cStatics :: He.asD g n))
def hookA (n : Nat) (ok : Looks) (fn : List DA) : PySem.W.Hook where
  α := AlA
  obs s := obsAG n ok fn s.heap.get?
  val _ := valA fn
  says _ h := ∃ K : PySem.W.Frag, K.In h ∧ SaysA ok fn K
  of _ _ e := ⟨_, He.frG_in, e⟩
  keeps _ _ _ := fun ⟨K, hK, c⟩ k => ⟨K, PySem.W.Frag.In.keeps hK k, c⟩
theorem obsAG_eq {n : Nat} {ok : Looks} {fn : List DA} {g : Addr → Option Obj} {s : Shared} (h : ∀ a, g a = s.heap.get? a) : obsAG n ok fn g = (hookA n ok fn).obs s := by
  rw [show g = s.heap.get? from funext h]
  rfl
section
variable {ok : Looks} {fn : List DA} {K : PySem.W.Frag}
theorem SaysA.look (c : SaysA ok fn K) (i : Nat) {f : PySem.W.Frag → Bool} (h : ok[i]? = some f := by rfl) : f K = true := by
  have c1 : ((ok.all fun f => f K) && fn.all fun d => okA K (d.ad K) d.d) = true := congrArg Prod.fst c
  exact List.all_eq_true.mp (Bool.and_eq_true_iff.mp c1).1 f (List.mem_of_getElem? h)
theorem SaysA.defn (c : SaysA ok fn K) (i : Nat) {d : DA} (h : fn[i]? = some d := by rfl) : ∃ fd, FunD K d.d.name d.d.qual d.d.params d.d.body d.d.scope (d.d.dvs K) (d.d.kws K) (d.ad K) fd := by
  have c1 : ((ok.all fun f => f K) && fn.all fun d => okA K (d.ad K) d.d) = true := congrArg Prod.fst c
  have c2 : (fn.map fun d => fnA K (d.ad K)) = fn.map fun d => d.d.val := congrArg Prod.snd c
  have c3 : (fn.map fun d => fnA K (d.ad K))[i]? = (fn.map fun d => d.d.val)[i]? := congrArg (fun l => l[i]?) c2
  rw [List.getElem?_map, List.getElem?_map, h] at c3
  exact funA (Option.some.inj c3) (List.all_eq_true.mp (Bool.and_eq_true_iff.mp c1).2 d (List.mem_of_getElem? h))
end
/-! ### looks -/
def pgA (K : PySem.W.Frag) (C f : Str) : Addr := match PySem.W.recIn K (He.ma K (He.ga K C) f) "property" with
  | some (.ref g :: _) => g
  | _ => 0
def propB (K : PySem.W.Frag) (C f : Str) : Bool := decide (PySem.W.findIn K (.ref (He.ga K C)) f = some (some (.ref (He.ma K (He.ga K C) f)))) && (decide (PySem.W.specialIn K (.ref (He.ma K (He.ga K C) f)) "__get__" = some (some (.builtin "property.__get__"))) &&
  (decide (PySem.W.takesIn K (.ref (He.ma K (He.ga K C) f)) = some true) && (match PySem.W.recIn K (He.ma K (He.ga K C) f) "property" with
    | some (.ref _ :: _) => true
    | _ => false)))
theorem propB_ok {K : PySem.W.Frag} {C f : Str} (h : propB K C f = true) : PropOf K (He.ga K C) f (He.ma K (He.ga K C) f) (pgA K C f) := by
  simp only [propB, Bool.and_eq_true, decide_eq_true_eq] at h
  obtain ⟨h1, h2, h3, h4⟩ := h
  refine ⟨h1, h2, h3, ?_⟩
  unfold pgA
  split at h4
  · rename_i g r e
    rw [e]
    exact ⟨r, rfl⟩
  · cases h4
/-- a special method of an own class -/
def specB (K : PySem.W.Frag) (C m : Str) : Bool := decide (PySem.W.findIn K (.ref (He.ga K C)) m = some (some (.ref (He.ma K (He.ga K C) m)))) && PySem.W.isFn K (.ref (He.ma K (He.ga K C) m))
theorem specB_ok {K : PySem.W.Frag} {C m : Str} (h : specB K C m = true) : PySem.W.findIn K (.ref (He.ga K C)) m = some (some (.ref (He.ma K (He.ga K C) m))) ∧ PySem.W.isFn K (.ref (He.ma K (He.ga K C) m)) = true := by
  simpa only [specB, Bool.and_eq_true, decide_eq_true_eq] using h
/-- isinstance: a kind against a class; kinds against classes -/
def isiLk (K : PySem.W.Frag) (t u : Value) (b : Bool) : Bool := decide (PySem.W.kitOne K t u = some b)
theorem isiLk_ok {K : PySem.W.Frag} {t u : Value} {b : Bool} (h : isiLk K t u b = true) : PySem.W.kitOne K t u = some b := of_decide_eq_true h
def isiLkT (K : PySem.W.Frag) (t : Value) (us : List Value) (b : Bool) : Bool := decide (PySem.W.kitAny K t us = some b)
theorem isiLkT_ok {K : PySem.W.Frag} {t : Value} {us : List Value} {b : Bool} (h : isiLkT K t us b = true) : PySem.W.kitAny K t us = some b := of_decide_eq_true h
def kdOkB (K : PySem.W.Frag) : Kd → Bool
  | .b _ => true
  | .own C => ownB K C
  | .exc C => isiB K (He.ga K C)
  | .fn => false
theorem kdOkB_ok {K : PySem.W.Frag} : ∀ {k : Kd}, kdOkB K k = true → KdOk K k
  | .b _, _ => trivial
  | .own _, h => ownB_ok h
  | .exc _, h => h
def eqKsB (K : PySem.W.Frag) (C : Str) (ks : List Kd) : Bool := ks.all fun k => kdOkB K k && PySem.W.notFirst K (He.ga K C) (kdV K k)
theorem eqKsB_ok {K : PySem.W.Frag} {C : Str} {ks : List Kd} (h : eqKsB K C ks = true) : EqKs K C ks := ⟨fun k hk => by
  have := List.all_eq_true.mp h k hk
  rw [Bool.and_eq_true] at this
  exact ⟨kdOkB_ok this.1, this.2⟩⟩
/-- isinstance by a table of kinds -/
def tabB (K : PySem.W.Frag) (c : Cd) (tab : List (Kd × Bool)) : Bool := tab.all fun p => kdOkB K p.1 && decide (PySem.W.kitOne K (kdV K p.1) (cdV K c) = some p.2)
theorem tabB_ok {K : PySem.W.Frag} {c : Cd} : ∀ {tab : List (Kd × Bool)}, tabB K c tab = true → Tab K (fun t => PySem.W.kitOne K t (cdV K c)) tab
  | [], _ => .nil
  | (k, b) :: r, h => by
    unfold tabB at h
    rw [List.all_cons, Bool.and_eq_true, Bool.and_eq_true] at h
    exact .cons (kdOkB_ok h.1.1) (of_decide_eq_true h.1.2) (tabB_ok h.2)
def tabBT (K : PySem.W.Frag) (cs : List Cd) (tab : List (Kd × Bool)) : Bool := tab.all fun p => kdOkB K p.1 && decide (PySem.W.kitAny K (kdV K p.1) (cs.map (cdV K)) = some p.2)
theorem tabBT_ok {K : PySem.W.Frag} {cs : List Cd} : ∀ {tab : List (Kd × Bool)}, tabBT K cs tab = true → Tab K (fun t => PySem.W.kitAny K t (cs.map (cdV K))) tab
  | [], _ => .nil
  | (k, b) :: r, h => by
    unfold tabBT at h
    rw [List.all_cons, Bool.and_eq_true, Bool.and_eq_true] at h
    exact .cons (kdOkB_ok h.1.1) (of_decide_eq_true h.1.2) (tabBT_ok h.2)
theorem raw0 {P : Program} {w : World} {K : PySem.W.Frag} {mg : Str → Option Value} {base : Heap} {CX : CXT} {k : Nat} {f : Addr} {fd : FuncData} {ps : List Str} {sp : Sp} (F : FnOk P w K mg base CX k f fd ps sp) (hb : Binds K fd ps []) : FnR P w K mg base CX k f sp := by
  have h := F.raw hb .nil
  have e : (fun (vs : List V) (H : Hp) (Q : VK) (E : XK) => sp (vs ++ []) H Q E) = sp := by
    funext vs H Q E
    rw [List.append_nil]
  rw [e] at h
  exact h
end PM

/-! PM15: the law's promise from its plain run; what calls bind where defaults stand. -/
namespace PM
open PySem PySem.Spec PySem.Calls PyProof PyProof.Rows L2 SL
theorem law_sp {K : PySem.W.Frag} {m : Fnm} {ns : List Int} {o : List Sl} (hm : m [.cl (.scr ns)] = some (.rt (.cl (.bl true)) o)) {H : Hp} {a : Addr} (hS : SqL K H a (ns.map V.int)) :
    spM K m [.ref a] H (fun v _ => v = .bl true) fun _ _ _ => False := by
  refine ⟨[], [], [.cl (.scr ns)], _, ?_, rfl, hm, ?_⟩
  · refine ⟨⟨(fun _ z => nomatch z), (fun _ z => nomatch z)⟩, rfl, fun _ _ _ h => h, fun _ h => h, .nil, ?_, fun _ z => nomatch z⟩
    intro i x s h1 h2
    match i with
    | 0 =>
      cases h1
      cases h2
      refine .cl (.scr ?_)
      exact hS.imp (fun z => ⟨z, fun q => nomatch q⟩) id
    | i + 1 => simp at h1
  · intro v H' _ _ hn _
    cases hn with
    | cl r => cases r; rfl
section
variable {K : PySem.W.Frag} {x qual : Str} {params : Arguments} {body : List Stmt} {scope : Scope} {dvs : List V} {kws : List (Str × V)} {f : Addr} {fd : FuncData} {ps : List Str}
/-- all is written, though defaults stand -/
theorem binds_all (F : FunD K x qual params body scope dvs kws f fd) (hd : dvs ≠ [])
    (h : ∀ (T : Addr) (kV doc pm : Value) (an : Option Addr) (cdv ct : Value) (us its : List Value), us.length = ps.length → its.length = dvs.length →
      ∃ k, bindArgs (PySem.W.fnOf x qual params body scope (.ref T) kV doc pm an cdv ct) ⟨us, []⟩ = seqItems? (.ref T) >>= k ∧ k (some its.toArray) = pure (ps.zip us)) : Binds K fd ps [] := by
  obtain ⟨ds, hv, hb⟩ := FunD.binds1 (ps := ps) F ps.length dvs.length hd (by rw [Nat.sub_self]; rfl) (fun T kV doc pm an cdv ct us its h1 h2 => by
    obtain ⟨k, e1, e2⟩ := h T kV doc pm an cdv ct us its h1 h2
    refine ⟨k, e1, ?_⟩
    rw [e2, ← h2, List.drop_length, List.append_nil])
  rw [List.drop_length] at hv
  cases hv
  exact hb
/-- what lacks is filled up -/
theorem binds_fill (F : FunD K x qual params body scope dvs kws f fd) (n j : Nat) (hd : dvs ≠ []) (hn : n + (dvs.length - j) = ps.length) {dd : List V} (hq : dvs.drop j = dd)
    (h : ∀ (T : Addr) (kV doc pm : Value) (an : Option Addr) (cdv ct : Value) (us its : List Value), us.length = n → its.length = dvs.length →
      ∃ k, bindArgs (PySem.W.fnOf x qual params body scope (.ref T) kV doc pm an cdv ct) ⟨us, []⟩ = seqItems? (.ref T) >>= k ∧ k (some its.toArray) = pure (ps.zip (us ++ its.drop j))) : ∃ ds, Vals dd ds ∧ Binds K fd ps ds := by
  obtain ⟨ds, hv, hb⟩ := FunD.binds1 (ps := ps) F n j hd hn h
  exact ⟨ds, hq ▸ hv, hb⟩
end
end PM

/-! PW0: plain runs read backwards: what must hold ahead of a step, that a promise holds behind it. -/
namespace PM
open PySem PySem.Spec PyProof.Rows L2 SL
def okE {α : Type} (x : Option (R α)) (P : α → List Sl → Prop) : Prop := ∃ w ρ, x = some (.ok w ρ) ∧ P w ρ
def okG (x : Option (List Sl)) (N : List Sl → Prop) : Prop := ∃ ρ, x = some ρ ∧ N ρ
def okW {α : Type} (x : Option α) (P : α → Prop) : Prop := ∃ w, x = some w ∧ P w
def okO (N : List Sl → Prop) (T : W → List Sl → Prop) (L : Bool → List Sl → Prop) : Out → Prop
  | .nx ρ => N ρ
  | .rt w ρ => T w ρ
  | .ct ρ => L false ρ
  | .bk ρ => L true ρ
  | .ex _ _ _ => False
def okS (x : Option Out) (N : List Sl → Prop) (T : W → List Sl → Prop) (L : Bool → List Sl → Prop) : Prop := ∃ o, x = some o ∧ okO N T L o
def okF (x : Option FR) (P : W → List Sl → Prop) : Prop := ∃ w o, x = some (.rt w o) ∧ P w o
section
variable {α β : Type} {ρ ρ' as : List Sl} {P P' : W → List Sl → Prop} {N N' : List Sl → Prop} {T T' : W → List Sl → Prop} {L L' : Bool → List Sl → Prop} {a b e : Mo W} {es : Mo (List W)} {c c' : Mo Bool} {m m' body : MS} {g : Tg} {f : D → D → Option W} {fl : List D → Option W} {w : W} {d : D} {ds : List D} {i j n k : Nat}
theorem okE_eq {x : Option (R α)} {P : α → List Sl → Prop} {w : α} {ρ : List Sl} (h : x = some (.ok w ρ)) (p : P w ρ) : okE x P := ⟨w, ρ, h, p⟩
theorem okG_eq {x : Option (List Sl)} (h : x = some ρ) (p : N ρ) : okG x N := ⟨ρ, h, p⟩
theorem okW_eq {x : Option α} {P : α → Prop} {w : α} (h : x = some w) (p : P w) : okW x P := ⟨w, h, p⟩
theorem okE.mono {x : Option (R α)} {P P' : α → List Sl → Prop} (h : okE x P) (i : ∀ w ρ, P w ρ → P' w ρ) : okE x P' := by
  obtain ⟨w, ρ, e, p⟩ := h
  exact ⟨w, ρ, e, i _ _ p⟩
theorem okF.mono {x : Option FR} (h : okF x P) (i : ∀ w ρ, P w ρ → P' w ρ) : okF x P' := by
  obtain ⟨w, ρ, e, p⟩ := h
  exact ⟨w, ρ, e, i _ _ p⟩
theorem okO.mono {o : Out} (h : okO N T L o) (hN : ∀ ρ, N ρ → N' ρ) (hT : ∀ w ρ, T w ρ → T' w ρ) (hL : ∀ b ρ, L b ρ → L' b ρ) : okO N' T' L' o := by
  cases o with
  | nx ρ => exact hN _ h
  | rt w ρ => exact hT _ _ h
  | ct ρ => exact hL _ _ h
  | bk ρ => exact hL _ _ h
  | ex C fs ρ => exact h
theorem okS.mono {x : Option Out} (h : okS x N T L) (hN : ∀ ρ, N ρ → N' ρ) (hT : ∀ w ρ, T w ρ → T' w ρ) (hL : ∀ b ρ, L b ρ → L' b ρ) : okS x N' T' L' := by
  obtain ⟨o, e, p⟩ := h
  exact ⟨o, e, p.mono hN hT hL⟩
theorem okE_bind {x : Option (R α)} {f : α → List Sl → Option (R β)} {P : β → List Sl → Prop} (h : okE x fun w ρ => okE (f w ρ) P) : okE (bindR x f) P := by
  obtain ⟨w, ρ, e, u, ρ', e', p⟩ := h
  exact ⟨u, ρ', by rw [e]; exact e', p⟩
theorem okE_opt {x : Option α} {f : α → Option (R β)} {P : β → List Sl → Prop} (h : okW x fun w => okE (f w) P) : okE (x.bind f) P := by
  obtain ⟨w, e, u, ρ', e', p⟩ := h
  exact ⟨u, ρ', by rw [e]; exact e', p⟩
theorem okE_map {x : Option α} {f : α → R β} {P : β → List Sl → Prop} (h : okW x fun w => okE (some (f w)) P) : okE (x.map f) P := by
  obtain ⟨w, e, u, ρ', e', p⟩ := h
  exact ⟨u, ρ', by rw [e]; exact e', p⟩
theorem okE_some {w : α} {P : α → List Sl → Prop} (p : P w ρ) : okE (some (.ok w ρ)) P := ⟨w, ρ, rfl, p⟩
theorem okS_bind {x : Option (R α)} {f : α → List Sl → Option Out} (h : okE x fun w ρ => okS (f w ρ) N T L) : okS (bindS x f) N T L := by
  obtain ⟨w, ρ, e, o, e', p⟩ := h
  exact ⟨o, by rw [e]; exact e', p⟩
theorem okS_opt {x : Option α} {f : α → Option Out} (h : okW x fun w => okS (f w) N T L) : okS (x.bind f) N T L := by
  obtain ⟨w, e, o, e', p⟩ := h
  exact ⟨o, by rw [e]; exact e', p⟩
theorem okS_nx {x : Option (List Sl)} (h : okG x N) : okS (x.map .nx) N T L := by
  obtain ⟨ρ, rfl, p⟩ := h
  exact ⟨_, rfl, p⟩
-- statements
theorem okS_seq (h : okS (m ρ) (fun ρ => okS (m' ρ) N T L) T L) : okS (sSeq m m' ρ) N T L := by
  obtain ⟨o, e, p⟩ := h
  unfold sSeq
  rw [e]
  cases o with
  | nx ρ => exact p
  | rt w ρ => exact ⟨_, rfl, p⟩
  | ct ρ => exact ⟨_, rfl, p⟩
  | bk ρ => exact ⟨_, rfl, p⟩
  | ex C fs ρ => exact p.elim
theorem okS_next (h : N ρ) : okS (sNext ρ) N T L := ⟨_, rfl, h⟩
theorem okS_asg (h : okE (e ρ) fun w ρ => okG (g w ρ) N) : okS (sAsg e g ρ) N T L := okS_bind (h.mono fun _ _ h => okS_nx h)
theorem okS_ret (h : okE (e ρ) T) : okS (sRet e ρ) N T L := okS_bind (h.mono fun _ _ h => ⟨_, rfl, h⟩)
theorem okS_drop (h : okE (e ρ) fun _ ρ => N ρ) : okS (sDrop e ρ) N T L := okS_bind (h.mono fun _ _ h => ⟨_, rfl, h⟩)
theorem okS_cnt (h : L false ρ) : okS (sCnt ρ) N T L := ⟨_, rfl, h⟩
theorem okS_brk (h : L true ρ) : okS (sBrk ρ) N T L := ⟨_, rfl, h⟩
theorem okS_if (h : okE (c ρ) fun k ρ => (k = true → okS (m ρ) N T L) ∧ (k = false → okS (m' ρ) N T L)) : okS (sIf c m m' ρ) N T L := okS_bind (h.mono fun k ρ h => by
  cases k with
  | true => exact h.1 rfl
  | false => exact h.2 rfl)
theorem okS_yes (h : okE (c ρ) fun k ρ => k = true ∧ okS (m ρ) N T L) : okS (sIf c m m' ρ) N T L := okS_bind (h.mono fun k ρ h => by
  obtain ⟨rfl, h⟩ := h
  exact h)
theorem okS_no (h : okE (c ρ) fun k ρ => k = false ∧ okS (m' ρ) N T L) : okS (sIf c m m' ρ) N T L := okS_bind (h.mono fun k ρ h => by
  obtain ⟨rfl, h⟩ := h
  exact h)
theorem okS_aug (h : okE (mVar i ρ) fun x ρ => okE (e ρ) fun y ρ => okW (deref ρ x) fun dx => okW (deref ρ y) fun dy => okW (f dx dy) fun w => okG (gSet i w ρ) N) : okS (sAug f i e ρ) N T L :=
  okS_bind (h.mono fun _ _ h => okS_bind (h.mono fun _ _ h => okS_opt (h.elim fun _ h => ⟨_, h.1, okS_opt (h.2.elim fun _ h => ⟨_, h.1, okS_opt (h.2.elim fun _ h => ⟨_, h.1, okS_nx h.2⟩)⟩)⟩)))
theorem okS_fg {is : List Nat} (h : okG (wipeS is ρ) fun ρ => okS (m ρ) N T L) : okS (sFg is m ρ) N T L := by
  obtain ⟨ρ', e, h⟩ := h
  exact okS_opt ⟨_, e, h⟩
/-- a loop, by what holds ahead of each turn -/
theorem okS_loop (I : Nat → List Sl → Prop) : ∀ (ds : List D) (i : Nat) {ρ : List Sl}, I i ρ → (∀ (j : Nat) (d : D) (ρ : List Sl), ds[j]? = some d → I (i + j) ρ → okG (g (.cl d) ρ) fun ρ => okS (m ρ) (fun ρ => I (i + j + 1) ρ) T (fun b ρ => if b = true then N ρ else I (i + j + 1) ρ)) → (∀ ρ, I (i + ds.length) ρ → N ρ) → okS (loopS g m ds ρ) N T L
  | [], i, ρ, h0, hs, he => ⟨_, rfl, he ρ h0⟩
  | d :: ds, i, ρ, h0, hs, he => by
    obtain ⟨ρ1, e1, o, e2, p⟩ := hs 0 d ρ rfl h0
    have ih : ∀ ρ, I (i + 1) ρ → okS (loopS g m ds ρ) N T L := fun ρ h => okS_loop I ds (i + 1) h (fun j d ρ hj hI => by
      have := hs (j + 1) d ρ (by simpa using hj) (by rw [show i + (j + 1) = i + 1 + j by omega]; exact hI)
      rw [show i + (j + 1) + 1 = i + 1 + j + 1 by omega] at this
      exact this) (fun ρ h => he ρ (by rw [show i + (d :: ds).length = i + 1 + ds.length by simp; omega]; exact h))
    unfold loopS
    rw [e1]
    show okS (match m ρ1 with
      | some (.nx ρ2) => loopS g m ds ρ2
      | some (.ct ρ2) => loopS g m ds ρ2
      | some (.bk ρ2) => some (.nx ρ2)
      | x => x) N T L
    rw [e2]
    cases o with
    | nx ρ => exact ih _ p
    | rt w ρ => exact ⟨_, rfl, p⟩
    | ct ρ => exact ih _ (by simpa [okO] using p)
    | bk ρ => exact ⟨_, rfl, by simpa [okO] using p⟩
    | ex C fs ρ => exact p.elim
theorem okS_for {it : Mo ItM} (h : okE (it ρ) fun i ρ => okS (loopS g m i.ds ρ) (fun ρ => okG (unl i.un ρ) N) T L) : okS (sFor it g m ρ) N T L := okS_bind (h.mono fun i ρ h => by
  obtain ⟨o, e, p⟩ := h
  rw [e]
  cases o with
  | nx ρ => exact okS_nx p
  | rt w ρ => exact ⟨_, rfl, p⟩
  | ct ρ => exact ⟨_, rfl, p⟩
  | bk ρ => exact ⟨_, rfl, p⟩
  | ex C fs ρ => exact p.elim)
/-- a while loop: how many turns are left at most -/
theorem okS_while (I : Nat → List Sl → Prop) (hI : ∀ k ρ, I k ρ → okE (c ρ) fun b ρ => (b = true → 0 < k ∧ okS (m ρ) (fun ρ => I (k - 1) ρ) T (fun q ρ => if q = true then N ρ else I (k - 1) ρ)) ∧ (b = false → N ρ)) : ∀ (n k : Nat) {ρ : List Sl}, k < n → I k ρ → okS (sWhile c m n ρ) N T L
  | 0, k, ρ, hk, _ => absurd hk (by omega)
  | n + 1, k, ρ, hk, h => by
    unfold sWhile
    refine okS_bind ((hI k ρ h).mono fun b ρ h => ?_)
    cases b with
    | false => exact ⟨_, rfl, h.2 rfl⟩
    | true =>
      obtain ⟨k0, o, e, p⟩ := h.1 rfl
      have ih : ∀ ρ, I (k - 1) ρ → okS (sWhile c m n ρ) N T L := fun ρ h => okS_while I hI n (k - 1) (by omega) h
      rw [if_pos rfl, e]
      cases o with
      | nx ρ => exact ih _ p
      | rt w ρ => exact ⟨_, rfl, p⟩
      | ct ρ => exact ih _ (by simpa [okO] using p)
      | bk ρ => exact ⟨_, rfl, by simpa [okO] using p⟩
      | ex C fs ρ => exact p.elim
-- values
theorem okE_op (h : okE (a ρ) fun x ρ => okE (b ρ) fun y ρ => okW (deref ρ x) fun dx => okW (deref ρ y) fun dy => okW (f dx dy) fun w => P w ρ) : okE (mOp f a b ρ) P :=
  okE_bind (h.mono fun _ _ h => okE_bind (h.mono fun _ _ h => okE_opt (h.elim fun _ h => ⟨_, h.1, okE_opt (h.2.elim fun _ h => ⟨_, h.1, okE_map (h.2.elim fun _ h => ⟨_, h.1, okE_some h.2⟩)⟩)⟩)))
theorem okE_cb (h : okE (es ρ) fun ws ρ => okW (derefs ρ ws) fun ds => okW (fl ds) fun w => P w ρ) : okE (mCB fl es ρ) P :=
  okE_bind (h.mono fun _ _ h => okE_opt (h.elim fun _ h => ⟨_, h.1, okE_map (h.2.elim fun _ h => ⟨_, h.1, okE_some h.2⟩)⟩))
theorem okE_cons {P : List W → List Sl → Prop} (h : okE (e ρ) fun w ρ => okE (es ρ) fun ws ρ => P (w :: ws) ρ) : okE (mCons e es ρ) P :=
  okE_bind (h.mono fun _ _ h => okE_bind (h.mono fun _ _ h => okE_some h))
theorem okE_nil {P : List W → List Sl → Prop} (h : P [] ρ) : okE (mNil ρ) P := okE_some h
theorem okE_tup (h : okE (es ρ) fun ws ρ => okW (fzs ws ρ) fun x => x.1.length ≤ 100000 ∧ P (.cl (.tup x.1)) x.2) : okE (mTup es ρ) P :=
  okE_bind (h.mono fun _ _ h => okE_opt (h.elim fun x h => ⟨_, h.1, by dsimp only; rw [if_pos h.2.1]; exact okE_some h.2.2⟩))
theorem okE_lst (h : okE (es ρ) fun ws ρ => okW (fzs ws ρ) fun x => x.1.length ≤ 100000 ∧ P (.fr x.1) x.2) : okE (mLst es ρ) P :=
  okE_bind (h.mono fun _ _ h => okE_opt (h.elim fun x h => ⟨_, h.1, by dsimp only; rw [if_pos h.2.1]; exact okE_some h.2.2⟩))
theorem okB_test {P : Bool → List Sl → Prop} (h : okE (e ρ) fun w ρ => ∃ b, deref ρ w = some (.bl b) ∧ P b ρ) : okE (mTest e ρ) P := okE_bind (h.mono fun w ρ h => by
  obtain ⟨b, e, p⟩ := h
  rw [e]
  exact okE_some p)
theorem okE_if (h : okE (c ρ) fun k ρ => (k = true → okE (a ρ) P) ∧ (k = false → okE (b ρ) P)) : okE (mIf c a b ρ) P := okE_bind (h.mono fun k ρ h => by
  cases k with
  | true => exact h.1 rfl
  | false => exact h.2 rfl)
theorem okB_and {P : Bool → List Sl → Prop} (h : okE (c ρ) fun k ρ => (k = true → okE (c' ρ) P) ∧ (k = false → P false ρ)) : okE (mAnd c c' ρ) P := okE_bind (h.mono fun k ρ h => by
  cases k with
  | true => exact h.1 rfl
  | false => exact okE_some (h.2 rfl))
theorem okB_or {P : Bool → List Sl → Prop} (h : okE (c ρ) fun k ρ => (k = true → P true ρ) ∧ (k = false → okE (c' ρ) P)) : okE (mOr c c' ρ) P := okE_bind (h.mono fun k ρ h => by
  cases k with
  | true => exact okE_some (h.1 rfl)
  | false => exact h.2 rfl)
theorem okB_not {P : Bool → List Sl → Prop} (h : okE (c ρ) fun k ρ => P (!k) ρ) : okE (mNot c ρ) P := okE_bind (h.mono fun _ _ h => okE_some h)
theorem okE_fr (h : okE (e ρ) fun w ρ => P (match w with | .fr ds => .cl (.lst ds) | w => w) ρ) : okE (mFr e ρ) P := okE_bind (h.mono fun w ρ h => by cases w <;> exact okE_some h)
theorem okE_call {ms : List Bool} {mf : Fnm} (h : okE (es ρ) fun ws ρ => okAl ms ws = true ∧ okW (argsOf ρ ms ws) fun as => okF (mf as) fun w o => okG (putO ms ws o ρ) fun ρ => P w ρ) : okE (callN ms mf es ρ) P := okE_bind (h.mono fun ws ρ h => by
  obtain ⟨h1, as, e1, w, o, e2, ρ', e3, p⟩ := h
  rw [if_pos h1]
  refine okE_opt ⟨_, e1, ?_⟩
  dsimp only
  rw [e2]
  exact okE_map ⟨_, e3, okE_some p⟩)
/-- a display over items -/
theorem okE_loopC {t : Mo Bool} {vs : List Nat} {Q : List D → List Sl → Prop} (I : Nat → List Sl → List D → Prop) : ∀ (ds : List D) (i : Nat) {ρ : List Sl} {acc : List D}, I i ρ acc → (∀ (j : Nat) (d : D) (ρ : List Sl) (acc : List D), ds[j]? = some d → I (i + j) ρ acc →
    okG (g (.cl d) ρ) fun ρ => okE (t ρ) fun b ρ => (b = true → okE (e ρ) fun w ρ => okW (fz w ρ) fun x => okG (wipeS vs x.2) fun ρ => I (i + j + 1) ρ (acc ++ [x.1])) ∧ (b = false → okG (wipeS vs ρ) fun ρ => I (i + j + 1) ρ acc)) → (∀ ρ acc, I (i + ds.length) ρ acc → Q acc ρ) → okE (loopC g t e vs ds ρ acc) Q
  | [], i, ρ, acc, h0, hs, he => ⟨_, _, rfl, he ρ acc h0⟩
  | d :: ds, i, ρ, acc, h0, hs, he => by
    obtain ⟨ρ1, e1, b, ρ2, e2, p⟩ := hs 0 d ρ acc rfl h0
    have ih : ∀ ρ acc, I (i + 1) ρ acc → okE (loopC g t e vs ds ρ acc) Q := fun ρ acc h => okE_loopC I ds (i + 1) h (fun j d ρ acc hj hI => by
      have := hs (j + 1) d ρ acc (by simpa using hj) (by rw [show i + (j + 1) = i + 1 + j by omega]; exact hI)
      rw [show i + (j + 1) + 1 = i + 1 + j + 1 by omega] at this
      exact this) (fun ρ acc h => he ρ acc (by rw [show i + (d :: ds).length = i + 1 + ds.length by simp; omega]; exact h))
    unfold loopC
    refine okE_opt ⟨_, e1, okE_bind ⟨b, ρ2, e2, ?_⟩⟩
    cases b with
    | true =>
      obtain ⟨w, ρ3, e3, x, e4, ρ4, e5, p⟩ := p.1 rfl
      rw [if_pos rfl]
      exact okE_bind ⟨w, ρ3, e3, okE_opt ⟨_, e4, okE_opt ⟨_, e5, ih _ _ p⟩⟩⟩
    | false =>
      obtain ⟨ρ4, e5, p⟩ := p.2 rfl
      rw [if_neg (by decide)]
      exact okE_opt ⟨_, e5, ih _ _ p⟩
theorem okE_lc {it : Mo ItM} {t : Mo Bool} {vs : List Nat} (h : okE (it ρ) fun i ρ => idle vs ρ = true ∧ okE (loopC g t e vs i.ds ρ []) fun acc ρ => okG (unl i.un ρ) fun ρ => P (.fr acc) ρ) : okE (mLc it g t e vs ρ) P := okE_bind (h.mono fun i ρ h => by
  rw [if_pos h.1]
  exact okE_bind (h.2.mono fun acc ρ h => okE_map (h.elim fun _ h => ⟨_, h.1, okE_some h.2⟩)))
-- defs
theorem okF_fn (hl : as.length = n) (h : okS (body (as ++ List.replicate k .un)) (fun ρ => okW (outsOf as ρ) fun o => P (.cl .non) o) (fun w ρ => okW (retW w ρ) fun w => okW (outsOf as ρ) fun o => P w o) (fun _ _ => False)) : okF (fnM n k body as) P := by
  obtain ⟨o, e, p⟩ := h
  unfold fnM
  rw [if_pos hl, e]
  cases o with
  | nx ρ =>
    obtain ⟨o, e, p⟩ := p
    exact ⟨_, _, by show (outsOf as ρ).map _ = _; rw [e]; rfl, p⟩
  | rt w ρ =>
    obtain ⟨w', e1, o, e, p⟩ := p
    exact ⟨_, _, by show ((retW w ρ).bind fun w => (outsOf as ρ).map fun o => FR.rt w o) = _; rw [e1, e]; rfl, p⟩
  | ct ρ => exact p.elim
  | bk ρ => exact p.elim
  | ex C fs ρ => exact p.elim
theorem okF_eq {x : Option FR} {o : List Sl} (h : x = some (.rt w o)) (p : P w o) : okF x P := ⟨w, o, h, p⟩
end
end PM

/-! PW1: the drawing defs that many laws share: what they answer. -/
namespace PM
open PySem PySem.Spec PyProof.Rows L2 SL
/-- the box: what is left of a cell, a seed, how often was drawn -/
def BoxL (n : Nat) (ds : List D) : Prop := ∃ a s c : Int, ds = [.int a, .int s, .int c] ∧ 0 ≤ a ∧ 0 ≤ s ∧ s < 2147483648 ∧ 0 ≤ c ∧ c ≤ n
theorem BoxL.mono {m n : Nat} {ds : List D} (h : BoxL m ds) (k : m ≤ n) : BoxL n ds := by
  obtain ⟨a, s, c, e, h1, h2, h3, h4, h5⟩ := h
  exact ⟨a, s, c, e, h1, h2, h3, h4, by omega⟩
def cellM (A B : Int) : MS := (sSeq (sIf (mTest (mOp dLt (mVar 1) (mCB dLen (mCons (mVar 0) mNil)))) (sRet (mOp dIx (mVar 0) (mVar 1))) sNext)
    (sRet (mOp dAdd (mOp dMul (mC (.int A)) (mVar 1)) (mC (.int B)))))
def boxM : MS := (sRet (mLst (mCons (mCB dMax2 (mCons (mC (.int 0)) (mCons (mOp dSub (mVar 0) (mOp dPow (mC (.int 10)) (mC (.int 18)))) mNil))) (mCons (mOp dMod (mVar 0) (mC (.int 2147483629))) (mCons (mC (.int 0)) mNil)))))
def takeM (A B : Int) : MS := (sSeq (sIf (mTest (mOp dGt (mOp dIx (mVar 0) (mC (.int 0))) (mC (.int 0)))) (sSeq (sAsg (mOp dMod (mOp dIx (mVar 0) (mC (.int 0))) (mVar 1)) (gSetC 4))
    (sSeq (sAsg (mOp dDiv (mOp dIx (mVar 0) (mC (.int 0))) (mVar 1)) (gSubL 0 (mC (.int 0))))
    (sRet (mVar 4)))) sNext)
    (sSeq (sAsg (mOp dAdd (mOp dIx (mVar 0) (mC (.int 2))) (mC (.int 1))) (gSubL 0 (mC (.int 2))))
    (sSeq (sAsg (mOp dMod (mOp dAdd (mOp dAdd (mOp dMul (mOp dIx (mVar 0) (mC (.int 1))) (mC (.int 48271))) (mOp dMul (mC (.int A)) (mOp dIx (mVar 0) (mC (.int 2))))) (mC (.int B))) (mC (.int 2147483647))) (gSetC 2))
    (sSeq (sAsg (mOp dMod (mOp dPow (mOp dAdd (mVar 2) (mOp dMul (mC (.int 15485863)) (mOp dIx (mVar 0) (mC (.int 2))))) (mC (.int 2))) (mC (.int 2147483629))) (gSetC 3))
    (sRet (mOp dMod (mOp dAdd (mOp dDiv (mOp dMod (mOp dPow (mVar 3) (mC (.int 2))) (mC (.int 2147483587))) (mC (.int 16))) (mOp dDiv (mVar 2) (mC (.int 64)))) (mVar 1)))))))
section
variable {ρ : List Sl} {P : W → List Sl → Prop} {A B i j : Int} {n k : Nat} {d e : D} {ds : List D} {m : Int}
-- values with a bound
theorem w_mod {Q : W → Prop} (h : 0 < j) (q : Q (.cl (.int (i % j)))) : okW (dMod (.int i) (.int j)) Q := ⟨_, by show (if 0 < j then some (W.cl (.int (i % j))) else none) = _; rw [if_pos h], q⟩
theorem w_div {Q : W → Prop} (h : 0 < j) (h2 : j < big) (q : Q (.cl (.int (i / j)))) : okW (dDiv (.int i) (.int j)) Q := ⟨_, by show (if 0 < j ∧ j < big then some (W.cl (.int (i / j))) else none) = _; rw [if_pos ⟨h, h2⟩], q⟩
theorem w_mul {Q : W → Prop} (h1 : -big < i) (h2 : i < big) (h3 : -big < j) (h4 : j < big) (q : Q (.cl (.int (i * j)))) : okW (dMul (.int i) (.int j)) Q := ⟨_, by show (if -big < i ∧ i < big ∧ -big < j ∧ j < big then some (W.cl (.int (i * j))) else none) = _; rw [if_pos ⟨h1, h2, h3, h4⟩], q⟩
theorem w_sq {Q : W → Prop} (h1 : -18446744073709551616 < i) (h2 : i < 18446744073709551616) (q : Q (.cl (.int (i ^ 2)))) : okW (dPow (.int i) (.int 2)) Q := ⟨_, by show (if (0 : Int) ≤ 2 ∧ (2 : Int) ≤ 1000000 ∧ -18446744073709551616 < i ∧ i < 18446744073709551616 then some (W.cl (.int (i ^ 2))) else none) = _; rw [if_pos ⟨by decide, by decide, h1, h2⟩], q⟩
theorem w_add {Q : W → Prop} (q : Q (.cl (.int (i + j)))) : okW (dAdd (.int i) (.int j)) Q := ⟨_, rfl, q⟩
theorem w_addI {Q : W → Prop} (q : Q (.cl (.int (i + j)))) : okW (dAddI (.int i) (.int j)) Q := ⟨_, rfl, q⟩
theorem w_sub {Q : W → Prop} (q : Q (.cl (.int (i - j)))) : okW (dSub (.int i) (.int j)) Q := ⟨_, rfl, q⟩
theorem w_lt {Q : W → Prop} (q : Q (.cl (.bl (decide (i < j))))) : okW (dLt (.int i) (.int j)) Q := ⟨_, rfl, q⟩
theorem w_le {Q : W → Prop} (q : Q (.cl (.bl (decide (i ≤ j))))) : okW (dLe (.int i) (.int j)) Q := ⟨_, rfl, q⟩
theorem w_gt {Q : W → Prop} (q : Q (.cl (.bl (decide (j < i))))) : okW (dGt (.int i) (.int j)) Q := ⟨_, rfl, q⟩
theorem w_ge {Q : W → Prop} (q : Q (.cl (.bl (decide (j ≤ i))))) : okW (dGe (.int i) (.int j)) Q := ⟨_, rfl, q⟩
theorem w_max2 {Q : W → Prop} (q : Q (.cl (.int (if j > i then j else i)))) : okW (dMax2 [.int i, .int j]) Q := ⟨_, rfl, q⟩
theorem w_min2 {Q : W → Prop} (q : Q (.cl (.int (if j < i then j else i)))) : okW (dMin2 [.int i, .int j]) Q := ⟨_, rfl, q⟩
theorem w_lenL {Q : W → Prop} (q : Q (.cl (.int ds.length))) : okW (dLen [.lst ds]) Q := ⟨_, rfl, q⟩
theorem w_lenT {Q : W → Prop} (q : Q (.cl (.int ds.length))) : okW (dLen [.tup ds]) Q := ⟨_, rfl, q⟩
theorem w_lenC {ns : List Int} {Q : W → Prop} (q : Q (.cl (.int ns.length))) : okW (dLen [.scr ns]) Q := ⟨_, rfl, q⟩
theorem w_listL {Q : W → Prop} (q : Q (.fr ds)) : okW (dList [.lst ds]) Q := ⟨_, rfl, q⟩
theorem w_listT {Q : W → Prop} (q : Q (.fr ds)) : okW (dList [.tup ds]) Q := ⟨_, rfl, q⟩
theorem okE_c (q : P (.cl d) ρ) : okE (mC d ρ) P := ⟨_, _, rfl, q⟩
theorem okE_var {k : Nat} {w : W} (h : mVar k ρ = some (.ok w ρ)) (q : P w ρ) : okE (mVar k ρ) P := ⟨_, _, h, q⟩
theorem okE_frc (q : P (.cl d) ρ) : okE (mFr (mC d) ρ) P := ⟨_, _, rfl, q⟩
theorem okE_frv {k : Nat} {w : W} (h : mFr (mVar k) ρ = some (.ok w ρ)) (q : P w ρ) : okE (mFr (mVar k) ρ) P := ⟨_, _, h, q⟩
theorem okW_deref {w : W} {Q : D → Prop} (h : deref ρ w = some d) (q : Q d) : okW (deref ρ w) Q := ⟨_, h, q⟩
theorem okW_derefs {ws : List W} {Q : List D → Prop} (h : derefs ρ ws = some ds) (q : Q ds) : okW (derefs ρ ws) Q := ⟨_, h, q⟩
theorem okW_fzs {ws : List W} {x : List D × List Sl} {Q : List D × List Sl → Prop} (h : fzs ws ρ = some x) (q : Q x) : okW (fzs ws ρ) Q := ⟨_, h, q⟩
theorem w_fz1 {a : D} {Q : List D × List Sl → Prop} (q : Q ([a], ρ)) : okW (fzs [.cl a] ρ) Q := ⟨_, rfl, q⟩
theorem w_fz2 {a b : D} {Q : List D × List Sl → Prop} (q : Q ([a, b], ρ)) : okW (fzs [.cl a, .cl b] ρ) Q := ⟨_, rfl, q⟩
theorem w_fz3 {a b c : D} {Q : List D × List Sl → Prop} (q : Q ([a, b, c], ρ)) : okW (fzs [.cl a, .cl b, .cl c] ρ) Q := ⟨_, rfl, q⟩
theorem okW_fz {w : W} {x : D × List Sl} {Q : D × List Sl → Prop} (h : fz w ρ = some x) (q : Q x) : okW (fz w ρ) Q := ⟨_, h, q⟩
theorem okG_setC {k : Nat} {N : List Sl → Prop} (h : (ρ[k]?.map free) = some true) (q : N (ρ.set k (.cl d))) : okG (gSetC k (.cl d) ρ) N := by
  refine ⟨_, ?_, q⟩
  show setF k (.cl d) ρ = _
  unfold setF
  cases e : ρ[k]? with
  | none => rw [e] at h; cases h
  | some t =>
    rw [e] at h
    have h : some (free t) = some true := h
    have h := Option.some.inj h
    show (if free t = true then some (ρ.set k (.cl d)) else none) = _
    rw [if_pos h]
theorem okG_setCf {k : Nat} {N : List Sl → Prop} (h : (ρ[k]?.map free) = some true) (q : N (ρ.set k (.cl (.lst ds)))) : okG (gSetC k (.fr ds) ρ) N := okG_setC (d := .lst ds) h q
theorem okG_setO {k : Nat} {N : List Sl → Prop} (h : (ρ[k]?.map free) = some true) (q : N (ρ.set k (.ow ds))) : okG (gSet k (.fr ds) ρ) N := by
  refine ⟨_, ?_, q⟩
  show setF k (.ow ds) ρ = _
  unfold setF
  cases e : ρ[k]? with
  | none => rw [e] at h; cases h
  | some t =>
    rw [e] at h
    have h : some (free t) = some true := h
    have h := Option.some.inj h
    show (if free t = true then some (ρ.set k (.ow ds)) else none) = _
    rw [if_pos h]
theorem okG_setOc {k : Nat} {N : List Sl → Prop} (h : (ρ[k]?.map free) = some true) (q : N (ρ.set k (.cl d))) : okG (gSet k (.cl d) ρ) N := okG_setC (d := d) h q
theorem okW_ix {b : D} {w : W} {Q : W → Prop} (h : dIx d b = some w) (q : Q w) : okW (dIx d b) Q := ⟨_, h, q⟩
theorem okG_subL {k : Nat} {w : W} {e : Mo W} {ρ' : List Sl} {N : List Sl → Prop} (h : gSubL k e w ρ = some ρ') (q : N ρ') : okG (gSubL k e w ρ) N := ⟨_, h, q⟩
theorem okW_ret {w w' : W} {Q : W → Prop} (h : retW w ρ = some w') (q : Q w') : okW (retW w ρ) Q := ⟨_, h, q⟩
theorem okW_outs {as o : List Sl} {Q : List Sl → Prop} (h : outsOf as ρ = some o) (q : Q o) : okW (outsOf as ρ) Q := ⟨_, h, q⟩
theorem big_eq : big = 10000000000000000000000000000000000000000 := rfl
local macro_rules | `(tactic| walk_at "p1") => `(tactic| first
  | with_reducible refine PM.okS_seq ?_ | with_reducible refine PM.okS_next ?_ | with_reducible refine PM.okS_asg ?_ | with_reducible refine PM.okS_ret ?_ | with_reducible refine PM.okS_drop ?_ | with_reducible refine PM.okS_aug ?_ | with_reducible refine PM.okS_cnt ?_
  | with_reducible refine PM.okE_op ?_ | with_reducible refine PM.okE_cb ?_ | with_reducible refine PM.okE_cons ?_ | with_reducible refine PM.okE_nil ?_ | with_reducible refine PM.okB_not ?_ | with_reducible refine PM.okE_c ?_
  | ((with_reducible refine' PM.okE_var ?hv ?_); (case hv => rfl)) | ((with_reducible refine' PM.okE_frv ?hv ?_); (case hv => rfl)) | with_reducible refine PM.okE_frc ?_ | with_reducible refine PM.okE_fr ?_
  | with_reducible refine PM.w_fz1 ?_ | with_reducible refine PM.w_fz2 ?_ | with_reducible refine PM.w_fz3 ?_
  | ((with_reducible refine' PM.okW_deref ?hv ?_); (case hv => rfl)) | ((with_reducible refine' PM.okW_derefs ?hv ?_); (case hv => rfl)) | ((with_reducible refine' PM.okW_fzs ?hv ?_); (case hv => rfl)) | ((with_reducible refine' PM.okW_fz ?hv ?_); (case hv => rfl))
  | with_reducible refine PM.w_add ?_ | with_reducible refine PM.w_sub ?_ | with_reducible refine PM.w_lt ?_ | with_reducible refine PM.w_le ?_ | with_reducible refine PM.w_gt ?_ | with_reducible refine PM.w_ge ?_ | with_reducible refine PM.w_addI ?_
  | with_reducible refine PM.w_mod (by omega) ?_ | with_reducible refine PM.w_div (by omega) (by rw [PM.big_eq]; omega) ?_ | with_reducible refine PM.w_mul (by rw [PM.big_eq]; omega) (by rw [PM.big_eq]; omega) (by rw [PM.big_eq]; omega) (by rw [PM.big_eq]; omega) ?_ | with_reducible refine PM.w_sq (by omega) (by omega) ?_
  | with_reducible refine PM.w_max2 ?_ | with_reducible refine PM.w_min2 ?_ | with_reducible refine PM.w_lenL ?_ | with_reducible refine PM.w_lenT ?_ | with_reducible refine PM.w_lenC ?_ | with_reducible refine PM.w_listL ?_ | with_reducible refine PM.w_listT ?_
  | ((with_reducible refine PM.okG_setC rfl ?_); (try dsimp only [List.set])) | ((with_reducible refine PM.okG_setCf rfl ?_); (try dsimp only [List.set])) | ((with_reducible refine PM.okG_setO rfl ?_); (try dsimp only [List.set])) | ((with_reducible refine PM.okG_setOc rfl ?_); (try dsimp only [List.set]))
  | ((with_reducible refine' PM.okW_ix ?hv ?_); (case hv => rfl))
  | ((with_reducible refine' PM.okW_ret ?hv ?_); (case hv => rfl)) | ((with_reducible refine' PM.okW_outs ?hv ?_); (case hv => rfl))
  | ((with_reducible refine' PM.okB_test ⟨_, ?hv, ?_⟩); (case hv => rfl)))
local macro_rules | `(tactic| walk_at "p") => `(tactic| repeat walk_at "p1")
theorem take_ok (hA : 0 ≤ A) (hA2 : A ≤ 1000000) (hB : 0 ≤ B) (hB2 : B ≤ 1000000) (hb : BoxL n ds) (hn : n ≤ 100000000) (hm : 0 < m) (hm2 : m ≤ 1000000) (q : ∀ v ds', 0 ≤ v → v < m → BoxL (n + 1) ds' → P (.cl (.int v)) [.io (.lst ds'), .cl (.int m)]) :
    okF (fnM 2 3 (takeM A B) [.io (.lst ds), .cl (.int m)]) P := by
  obtain ⟨a, s, c, rfl, h1, h2, h3, h4, h5⟩ := hb
  refine okF_fn rfl ?_
  show okS (takeM A B [.io (.lst [.int a, .int s, .int c]), .cl (.int m), .un, .un, .un]) _ _ _
  refine okS_seq (okS_if (okE_eq (w := decide (0 < a)) rfl ⟨fun ht => ?_, fun ht => ?_⟩))
  · have ht := of_decide_eq_true ht
    refine okS_seq (okS_asg (okE_op (okE_eq (w := .cl (.int a)) rfl (okE_eq (w := .cl (.int m)) rfl (okW_eq rfl (okW_eq rfl (w_mod hm (okG_eq rfl ?_))))))))
    refine okS_seq (okS_asg (okE_op (okE_eq (w := .cl (.int a)) rfl (okE_eq (w := .cl (.int m)) rfl (okW_eq rfl (okW_eq rfl (w_div hm (by rw [big_eq]; omega) (okG_eq rfl ?_))))))))
    refine okS_ret (okE_eq rfl (okW_eq rfl (okW_eq rfl ?_)))
    exact q _ _ (Int.emod_nonneg _ (by omega)) (Int.emod_lt_of_pos _ hm) ⟨a / m, s, c, rfl, Int.ediv_nonneg h1 (by omega), h2, h3, h4, by omega⟩
  · refine okS_next (okS_seq (okS_asg (okE_eq (w := .cl (.int (c + 1))) rfl (okG_eq (ρ := [.io (.lst [.int a, .int s, .int (c + 1)]), .cl (.int m), .un, .un, .un]) rfl ?_))))
    generalize hc : c + 1 = c1
    have k1 : 0 ≤ c1 := by omega
    have k2 : c1 ≤ 100000001 := by omega
    have k3 : 0 ≤ A * c1 := Int.mul_nonneg hA k1
    have k4 : A * c1 ≤ 1000000 * 100000001 := Int.mul_le_mul hA2 k2 k1 (by decide)
    walk_at "p"
    exact q _ _ (Int.emod_nonneg _ (by omega)) (Int.emod_lt_of_pos _ hm) ⟨a, s, c1, rfl, h1, h2, h3, k1, by omega⟩
/-- where a box stands in a frame -/
def boxAt (ρ : List Sl) (i : Nat) (n : Nat) : Prop := ∃ s ds, ρ[i]? = some s ∧ slL s = some ds ∧ BoxL n ds
theorem okE_take {mf : Fnm} {s : Sl} {k : Nat} {e : Mo W} (hmf : mf = fnM 2 3 (takeM A B)) (hA : 0 ≤ A) (hA2 : A ≤ 1000000) (hB : 0 ≤ B) (hB2 : B ≤ 1000000) (hs : ρ[k]? = some s) (hl : slL s = some ds) (hb : BoxL n ds) (hn : n ≤ 100000000)
    (he : okE (e ρ) fun w ρ' => ρ' = ρ ∧ w = .cl (.int m)) (hm : 0 < m) (hm2 : m ≤ 1000000) (q : ∀ v ds', 0 ≤ v → v < m → BoxL (n + 1) ds' → P (.cl (.int v)) (ρ.set k (slPut s ds'))) :
    okE (callN [true, false] mf (mCons (mVar k) (mCons (mFr e) mNil)) ρ) P := by
  subst hmf
  have hv : mVar k ρ = some (.ok (.al k) ρ) := by
    unfold mVar
    rw [hs]
    cases s <;> first | rfl | cases hl
  have hd : argAl true k ρ = some (.io (.lst ds)) := by
    unfold argAl
    rw [hs]
    cases s with
    | ow xs => cases hl; rfl
    | io x =>
      cases x with
      | lst xs => cases hl; rfl
      | _ => cases hl
    | _ => cases hl
  refine okE_call (okE_cons (okE_eq hv (okE_cons (okE_fr (he.mono ?_)))))
  rintro w ρ' ⟨rfl, rfl⟩
  refine okE_nil ⟨rfl, okW_eq (w := [.io (.lst ds), .cl (.int m)]) ?_ ?_⟩
  · show ((argOf true (.al k) ρ').bind fun s => (argsOf ρ' [false] [.cl (.int m)]).map (s :: ·)) = _
    show ((argAl true k ρ').bind fun s => (argsOf ρ' [false] [.cl (.int m)]).map (s :: ·)) = _
    rw [hd]
    rfl
  · refine take_ok hA hA2 hB hB2 hb hn hm hm2 fun v ds' v0 v1 hb' => ?_
    refine okG_eq ?_ (q v ds' v0 v1 hb')
    show (ρ'[k]?.bind fun s => putS s (.lst ds')).bind (fun s => putO [false] [.cl (.int m)] [.cl (.int m)] (ρ'.set k s)) = _
    rw [hs]
    cases s with
    | ow xs => rfl
    | io x =>
      cases x with
      | lst xs => rfl
      | _ => cases hl
    | _ => cases hl
theorem box_ok {v : Int} (q : ∀ ds, BoxL 0 ds → P (.fr ds) [.cl (.int v)]) : okF (fnM 1 0 boxM [.cl (.int v)]) P := by
  refine okF_fn rfl ?_
  show okS (boxM [.cl (.int v)]) _ _ _
  refine okS_ret (okE_eq (w := .fr [.int (if v - 10 ^ 18 > 0 then v - 10 ^ 18 else 0), .int (v % 2147483629), .int 0]) rfl ?_)
  refine okW_eq rfl (okW_eq rfl (q _ ⟨_, _, _, rfl, ?_, Int.emod_nonneg _ (by decide), ?_, by decide, by decide⟩))
  · split
    · omega
    · exact Int.le_refl _
  · have := Int.emod_lt_of_pos v (b := 2147483629) (by decide)
    omega
theorem cell_ok {ns : List Int} {k : Nat} (hk : k < 1000000) (hA : 0 ≤ A) (hA2 : A ≤ 1000000) (q : ∀ v, P (.cl (.int v)) [.cl (.scr ns), .cl (.int k)]) : okF (fnM 2 0 (cellM A B) [.cl (.scr ns), .cl (.int k)]) P := by
  refine okF_fn rfl ?_
  show okS (cellM A B [.cl (.scr ns), .cl (.int k)]) _ _ _
  refine okS_seq (okS_if (okE_eq (w := decide ((k : Int) < ns.length)) rfl ⟨fun ht => ?_, fun ht => ?_⟩))
  · have ht := of_decide_eq_true ht
    refine okS_ret (okE_op ?_)
    walk_at "p"
    have hk : k < ns.length := by omega
    refine okW_eq (w := .cl (.int (ns[k]))) ?_ ?_
    · show (atI ns (k : Int)).map (fun n => W.cl (.int n)) = _
      have : atI ns (k : Int) = some ns[k] := by
        unfold atI ixN
        rw [if_pos (by omega), if_pos ht]
        show ns[(k : Int).toNat]? = _
        rw [Int.toNat_natCast]
        exact List.getElem?_eq_getElem hk
      rw [this]
      rfl
    · walk_at "p"
      exact q _
  · refine okS_next (okS_ret (okE_op (okE_op ?_)))
    walk_at "p"
    exact q _
end
end PM

/-! PW2: _law_mixed, for all laws that have it. -/
namespace PM
open PySem PySem.Spec PyProof.Rows L2 SL
theorem perm_pop {α : Type} : ∀ (l : List α) (v : Nat) (h : v < l.length), (l[v] :: l.eraseIdx v).Perm l
  | [], v, h => absurd h (Nat.not_lt_zero v)
  | a :: l, 0, _ => .refl _
  | a :: l, v + 1, h => have hv : v < l.length := by simpa using h
    (List.Perm.swap a (l[v]'hv) (l.eraseIdx v)).trans ((perm_pop l v hv).cons a)
section
variable {ρ as : List Sl} {P : W → List Sl → Prop} {A B : Int} {i j n k : Nat} {d e : D} {ds cs xs ys : List D} {m : Int} {es : Mo (List W)} {f : List D → List D → Option (D × List D)} {s : Sl}
theorem okE_rng1 {P : ItM → List Sl → Prop} (h : okE (es ρ) fun ws ρ => okW (derefs ρ ws) fun ds => ∃ n : Int, ds = [.int n] ∧ n ≤ 90000 ∧ -1000000 ≤ n ∧ P ⟨(List.range n.toNat).map fun i => .int (i : Nat), none⟩ ρ) : okE (mRng1 es ρ) P := okE_bind (h.mono fun ws ρ h => by
  obtain ⟨ds, e, n, rfl, h1, h2, p⟩ := h
  refine okE_opt ⟨_, e, ?_⟩
  show okE (if n ≤ 90000 ∧ -1000000 ≤ n then some (.ok ⟨(List.range n.toNat).map fun i => .int (i : Nat), none⟩ ρ) else none) P
  rw [if_pos ⟨h1, h2⟩]
  exact okE_some p)
theorem okE_mut (h0 : (ρ[i]?.bind slL) = some cs) (h : okE (es ρ) fun ws ρ => okW (fzs ws ρ) fun x => ∃ s cs, x.2[i]? = some s ∧ slL s = some cs ∧ okW (f cs x.1) fun y => P (.cl y.1) (x.2.set i (slPut s y.2))) : okE (mMut f i es ρ) P := by
  unfold mMut
  rw [h0]
  refine okE_bind (h.mono fun ws ρ h => ?_)
  obtain ⟨x, e1, s, cs, e2, e3, y, e4, p⟩ := h
  refine okE_opt ⟨_, e1, ?_⟩
  unfold mutAt
  refine okE_opt ⟨_, e2, okE_opt ⟨_, e3, okE_map ⟨_, e4, okE_some p⟩⟩⟩
theorem popAt_ok {Q : D × List D → Prop} {v : Int} (h0 : 0 ≤ v) (h1 : v < cs.length) (h2 : cs.length ≤ 100000) (q : ∀ hv : v.toNat < cs.length, Q (cs[v.toNat], cs.eraseIdx v.toNat)) : okW (fPopAt cs [.int v]) Q := by
  have hv : v.toNat < cs.length := by omega
  refine ⟨_, ?_, q hv⟩
  show (if cs.length ≤ 100000 then (ixN cs.length v).bind fun k => (cs[k]?).map fun d => (d, cs.eraseIdx k) else none) = _
  rw [if_pos h2]
  have : ixN cs.length v = some v.toNat := by
    unfold ixN
    rw [if_pos h0, if_pos h1]
  rw [this]
  show (cs[v.toNat]?).map (fun d => (d, cs.eraseIdx v.toNat)) = _
  rw [List.getElem?_eq_getElem hv]
  rfl
def mixedM (tk : Fnm) : MS := (sSeq (sAsg (mCB dList (mCons (mVar 1) mNil)) (gSet 2))
    (sRet (mLc (mRng1 (mCons (mCB dLen (mCons (mVar 1) mNil)) mNil)) (gSetC 3) mYes (mMut fPopAt 2 (mCons (callN [true, false] tk (mCons (mVar 0) (mCons (mFr (mCB dLen (mCons (mVar 2) mNil))) mNil))) mNil)) [3])))
local macro_rules | `(tactic| walk_at "p1") => `(tactic| first
  | with_reducible refine PM.okS_seq ?_ | with_reducible refine PM.okS_next ?_ | with_reducible refine PM.okS_asg ?_ | with_reducible refine PM.okS_ret ?_ | with_reducible refine PM.okS_drop ?_ | with_reducible refine PM.okS_aug ?_ | with_reducible refine PM.okS_cnt ?_
  | with_reducible refine PM.okE_op ?_ | with_reducible refine PM.okE_cb ?_ | with_reducible refine PM.okE_cons ?_ | with_reducible refine PM.okE_nil ?_ | with_reducible refine PM.okB_not ?_ | with_reducible refine PM.okE_c ?_
  | ((with_reducible refine' PM.okE_var ?hv ?_); (case hv => rfl)) | ((with_reducible refine' PM.okE_frv ?hv ?_); (case hv => rfl)) | with_reducible refine PM.okE_frc ?_ | with_reducible refine PM.okE_fr ?_
  | with_reducible refine PM.w_fz1 ?_ | with_reducible refine PM.w_fz2 ?_ | with_reducible refine PM.w_fz3 ?_
  | ((with_reducible refine' PM.okW_deref ?hv ?_); (case hv => rfl)) | ((with_reducible refine' PM.okW_derefs ?hv ?_); (case hv => rfl)) | ((with_reducible refine' PM.okW_fzs ?hv ?_); (case hv => rfl)) | ((with_reducible refine' PM.okW_fz ?hv ?_); (case hv => rfl))
  | with_reducible refine PM.w_add ?_ | with_reducible refine PM.w_sub ?_ | with_reducible refine PM.w_lt ?_ | with_reducible refine PM.w_le ?_ | with_reducible refine PM.w_gt ?_ | with_reducible refine PM.w_ge ?_ | with_reducible refine PM.w_addI ?_
  | with_reducible refine PM.w_mod (by omega) ?_ | with_reducible refine PM.w_div (by omega) (by rw [PM.big_eq]; omega) ?_ | with_reducible refine PM.w_mul (by rw [PM.big_eq]; omega) (by rw [PM.big_eq]; omega) (by rw [PM.big_eq]; omega) (by rw [PM.big_eq]; omega) ?_ | with_reducible refine PM.w_sq (by omega) (by omega) ?_
  | with_reducible refine PM.w_max2 ?_ | with_reducible refine PM.w_min2 ?_ | with_reducible refine PM.w_lenL ?_ | with_reducible refine PM.w_lenT ?_ | with_reducible refine PM.w_lenC ?_ | with_reducible refine PM.w_listL ?_ | with_reducible refine PM.w_listT ?_
  | ((with_reducible refine PM.okG_setC rfl ?_); (try dsimp only [List.set])) | ((with_reducible refine PM.okG_setCf rfl ?_); (try dsimp only [List.set])) | ((with_reducible refine PM.okG_setO rfl ?_); (try dsimp only [List.set])) | ((with_reducible refine PM.okG_setOc rfl ?_); (try dsimp only [List.set]))
  | ((with_reducible refine' PM.okW_ix ?hv ?_); (case hv => rfl))
  | ((with_reducible refine' PM.okW_ret ?hv ?_); (case hv => rfl)) | ((with_reducible refine' PM.okW_outs ?hv ?_); (case hv => rfl))
  | ((with_reducible refine' PM.okB_test ⟨_, ?hv, ?_⟩); (case hv => rfl)))
local macro_rules | `(tactic| walk_at "p") => `(tactic| repeat walk_at "p1")
theorem mixed_ok (hA : 0 ≤ A) (hA2 : A ≤ 1000000) (hB : 0 ≤ B) (hB2 : B ≤ 1000000) (hb : BoxL n ds) (hn : n ≤ 90000000) (hx : xs.length ≤ 1000) (q : ∀ ys ds', ys.Perm xs → BoxL (n + xs.length) ds' → P (.fr ys) [.io (.lst ds'), .cl (.lst xs)]) :
    okF (fnM 2 2 (mixedM (fnM 2 3 (takeM A B))) [.io (.lst ds), .cl (.lst xs)]) P := by
  refine okF_fn rfl ?_
  show okS (mixedM (fnM 2 3 (takeM A B)) [.io (.lst ds), .cl (.lst xs), .un, .un]) _ _ _
  refine okS_seq (okS_asg (okE_cb ?_))
  walk_at "p"
  refine okE_lc (okE_rng1 ?_)
  walk_at "p"
  refine ⟨_, rfl, by omega, by omega, rfl, ?_⟩
  refine okE_loopC (fun j ρ acc => ∃ ls ds', ρ = [.io (.lst ds'), .cl (.lst xs), .ow ls, .un] ∧ ls.length + j = xs.length ∧ (acc ++ ls).Perm xs ∧ BoxL (n + j) ds') _ 0 ⟨xs, ds, rfl, by omega, .refl _, hb⟩ ?_ ?_
  · rintro j d ρ acc hj ⟨ls, ds', rfl, h1, h2, h3⟩
    have hj2 : j < xs.length := by
      have := (List.getElem?_eq_some_iff.mp hj).1
      rw [List.length_map, List.length_range] at this
      omega
    walk_at "p"
    refine okE_eq rfl ⟨fun _ => ?_, fun z => by cases z⟩
    refine okE_mut rfl (okE_cons (okE_take (m := ls.length) rfl hA hA2 hB hB2 rfl rfl h3 (by omega) (okE_eq rfl ⟨rfl, rfl⟩) (by omega) (by omega) fun v ds2 v0 v1 hb2 => ?_))
    walk_at "p"
    refine ⟨_, _, rfl, rfl, popAt_ok v0 v1 (by omega) fun hv => ?_⟩
    walk_at "p"
    refine okG_eq rfl ⟨_, _, rfl, ?_, ?_, ?_⟩
    · rw [List.length_eraseIdx_of_lt hv]
      omega
    · rw [List.append_assoc]
      exact (List.Perm.append_left acc (perm_pop ls v.toNat hv)).trans h2
    · rw [show 0 + j + 1 = 0 + j + 1 from rfl]
      exact hb2
  · rintro ρ acc ⟨ls, ds', rfl, h1, h2, h3⟩
    have h1 : ls = [] := by
      rw [List.length_map, List.length_range] at h1
      have : ls.length = 0 := by omega
      exact List.eq_nil_of_length_eq_zero this
    subst h1
    rw [List.append_nil] at h2
    refine okG_eq rfl ?_
    walk_at "p"
    refine q _ _ h2 ?_
    rw [List.length_map, List.length_range] at h3
    exact h3.mono (by omega)
theorem okE_mixed {mf : Fnm} {s : Sl} {k : Nat} {e : Mo W} (hmf : mf = fnM 2 2 (mixedM (fnM 2 3 (takeM A B)))) (hA : 0 ≤ A) (hA2 : A ≤ 1000000) (hB : 0 ≤ B) (hB2 : B ≤ 1000000) (hs : ρ[k]? = some s) (hl : slL s = some ds) (hb : BoxL n ds) (hn : n ≤ 90000000)
    (he : okE (mFr e ρ) fun w ρ' => ρ' = ρ ∧ w = .cl (.lst xs)) (hx : xs.length ≤ 1000) (q : ∀ ys ds', ys.Perm xs → BoxL (n + xs.length) ds' → P (.fr ys) (ρ.set k (slPut s ds'))) :
    okE (callN [true, false] mf (mCons (mVar k) (mCons (mFr e) mNil)) ρ) P := by
  subst hmf
  have hv : mVar k ρ = some (.ok (.al k) ρ) := by
    unfold mVar
    rw [hs]
    cases s <;> first | rfl | cases hl
  have hd : argAl true k ρ = some (.io (.lst ds)) := by
    unfold argAl
    rw [hs]
    cases s with
    | ow xs => cases hl; rfl
    | io x =>
      cases x with
      | lst xs => cases hl; rfl
      | _ => cases hl
    | _ => cases hl
  refine okE_call (okE_cons (okE_eq hv (okE_cons (he.mono ?_))))
  rintro w ρ' ⟨rfl, rfl⟩
  refine okE_nil ⟨rfl, okW_eq (w := [.io (.lst ds), .cl (.lst xs)]) ?_ ?_⟩
  · show ((argAl true k ρ').bind fun s => (argsOf ρ' [false] [.cl (.lst xs)]).map (s :: ·)) = _
    rw [hd]
    rfl
  · refine mixed_ok hA hA2 hB hB2 hb hn hx fun ys ds' v0 hb' => ?_
    refine okG_eq ?_ (q ys ds' v0 hb')
    show (ρ'[k]?.bind fun s => putS s (.lst ds')).bind (fun s => putO [false] [.cl (.lst xs)] [.cl (.lst xs)] (ρ'.set k s)) = _
    rw [hs]
    cases s with
    | ow xs => rfl
    | io x =>
      cases x with
      | lst xs => rfl
      | _ => cases hl
    | _ => cases hl
end
end PM

/-! PW3: texts as lists of signs; _law_columns, for all laws that have it. -/
namespace PM
open PySem PySem.Spec PyProof.Rows L2 SL
/-- a text by its signs -/
def S (l : List Nat) : Str := ⟨l.toArray⟩
theorem S_cps (l : List Nat) : (S l).cps.toList = l := rfl
theorem S_len (l : List Nat) : (S l).length = l.length := by rw [SL.len_str]; rfl
theorem S_inj {a b : List Nat} (h : S a = S b) : a = b := by
  have := congrArg (fun z : Str => z.cps.toList) h
  exact this
theorem S_add (a b : List Nat) : S a ++ S b = S (a ++ b) := by
  apply SL.str_ext
  rw [cps_add]
  rfl
theorem S_of (z : Str) : ∃ l, z = S l := ⟨z.cps.toList, by cases z; rfl⟩
theorem S_take (l : List Nat) (k : Nat) : cutS (S l) none (some (k : Int)) = S (l.take k) := by
  unfold cutS
  rw [HT.sIx_none, HT.sIx_nat, S_cps, S_len]
  show S _ = S _
  rw [List.drop_zero, Nat.sub_zero]
  congr 1
  rcases Nat.le_total k l.length with h | h
  · rw [Nat.min_eq_left h]
  · rw [Nat.min_eq_right h, List.take_of_length_le (Nat.le_refl _), List.take_of_length_le h]
theorem S_drop (l : List Nat) (k : Nat) : cutS (S l) (some (k : Int)) none = S (l.drop k) := by
  unfold cutS
  rw [HT.sIx_none, HT.sIx_nat, S_cps, S_len]
  show S _ = S _
  congr 1
  rcases Nat.le_total k l.length with h | h
  · rw [Nat.min_eq_left h]
    exact List.take_of_length_le (by rw [List.length_drop]; exact Nat.le_refl _)
  · rw [Nat.min_eq_right h, List.drop_of_length_le (Nat.le_refl _), List.drop_of_length_le h, List.take_nil]
theorem S_join (ls : List (List Nat)) : Txt.join "" (ls.map S) = S ls.flatten := by
  apply SL.str_ext
  rw [TL.join_eq]
  have e := TL.tl_join "" (ls.map S)
  have e2 : TL.tl ("" : Str) = [] := by decide +kernel
  rw [e2, joinL_nil, List.map_map] at e
  have e3 : (Str.join "" (ls.map S)).cps.toList = (ls.map (TL.tl ∘ S)).flatten := e
  rw [e3]
  have : ls.map (TL.tl ∘ S) = ls := by
    conv => rhs; rw [← List.map_id ls]
    rfl
  rw [this]
  rfl
def lets : List Nat := [97,98,99,100,101,102,103,104,105,106,107,108,109,110,111,112,113,114,115,116,117,118,119,120,121,122]
theorem letters_eq : ("abcdefghijklmnopqrstuvwxyz" : Str) = S lets := by decide +kernel
/-- the signs of a name -/
def NmL (l : List Nat) : Prop := 1 ≤ l.length ∧ l.length ≤ 8 ∧ ∀ c ∈ l, c ∈ lets
def Nm (z : Str) : Prop := NmL z.cps.toList
/-- a letter by its number -/
def lt (i : Int) : Nat := lets.getD i.toNat 0
theorem lt_mem {i : Int} (h0 : 0 ≤ i) (h1 : i < 26) : lt i ∈ lets := by
  unfold lt
  have h : i.toNat < lets.length := by show i.toNat < 26; omega
  rw [List.getD_eq_getElem?_getD, List.getElem?_eq_getElem h]
  exact List.getElem_mem h
theorem lt_at {i : Int} (h0 : 0 ≤ i) (h1 : i < 26) : atI lets i = some (lt i) := by
  have h : i.toNat < lets.length := by show i.toNat < 26; omega
  unfold atI ixN
  rw [if_pos h0, if_pos (by show i < 26; exact h1)]
  show lets[i.toNat]? = _
  unfold lt
  rw [List.getD_eq_getElem?_getD, List.getElem?_eq_getElem h]
  rfl
theorem lets_get : ∀ i < 26, lets.getD i 0 = 97 + i := by decide +kernel
theorem lt_eq {i : Int} (h0 : 0 ≤ i) (h1 : i < 26) : (lt i : Int) = 97 + i := by
  unfold lt
  rw [lets_get i.toNat (by omega)]
  omega
theorem lt_inj {i j : Int} (h0 : 0 ≤ i) (h1 : i < 26) (k0 : 0 ≤ j) (k1 : j < 26) (h : lt i = lt j) : i = j := by
  have a := lt_eq h0 h1
  have b := lt_eq k0 k1
  rw [h] at a
  omega
theorem w_letter {i : Int} {Q : W → Prop} (h0 : 0 ≤ i) (h1 : i < 26) (q : Q (.cl (.str (S [lt i])))) : okW (dIx (.str (S lets)) (.int i)) Q := by
  refine ⟨_, ?_, q⟩
  show (if (S lets).length ≤ 100000 then (atI (S lets).cps.toList i).map (fun c => W.cl (.str ⟨#[c]⟩)) else none) = _
  rw [if_pos (by decide +kernel), S_cps, lt_at h0 h1]
  rfl
theorem w_adds {a b : List Nat} {Q : W → Prop} (h : a.length + b.length ≤ 100000) (q : Q (.cl (.str (S (a ++ b))))) : okW (dAdd (.str (S a)) (.str (S b))) Q := by
  refine ⟨_, ?_, q⟩
  show (if (S a).length + (S b).length ≤ 100000 then some (W.cl (.str (S a ++ S b))) else none) = _
  rw [S_len, S_len, if_pos h, S_add]
theorem w_take {a : List Nat} {k : Nat} {Q : W → Prop} (h : a.length ≤ 100000) (q : Q (.cl (.str (S (a.take k))))) : okW (dSl (.str (S a)) none (some (k : Int))) Q := by
  refine ⟨_, ?_, q⟩
  show (if (S a).length ≤ 100000 then some (W.cl (.str (cutS (S a) none (some (k : Int))))) else none) = _
  rw [S_len, if_pos h, S_take]
theorem w_drop {a : List Nat} {k : Nat} {Q : W → Prop} (h : a.length ≤ 100000) (q : Q (.cl (.str (S (a.drop k))))) : okW (dSl (.str (S a)) (some (k : Int)) none) Q := by
  refine ⟨_, ?_, q⟩
  show (if (S a).length ≤ 100000 then some (W.cl (.str (cutS (S a) (some (k : Int)) none))) else none) = _
  rw [S_len, if_pos h, S_drop]
theorem strsOf_map (zs : List Str) : strsOf (zs.map D.str) = some zs := by
  induction zs with
  | nil => rfl
  | cons z zs ih =>
    show (strsOf (zs.map D.str)).map (z :: ·) = _
    rw [ih]
    rfl
theorem w_join {ls : List (List Nat)} {Q : W → Prop} (h : ls.flatten.length ≤ 100000) (q : Q (.cl (.str (S ls.flatten)))) : okW (fJoin "" [.lst ((ls.map S).map .str)]) Q := by
  refine ⟨_, ?_, q⟩
  show ((strsOf ((ls.map S).map .str)).bind fun zs => if (zs.map (·.length)).sum + zs.length * (("" : Str).length) ≤ 16777216 then some (W.cl (.str (Txt.join "" zs))) else none) = _
  rw [strsOf_map]
  show (if ((ls.map S).map (·.length)).sum + (ls.map S).length * (("" : Str).length) ≤ 16777216 then some (W.cl (.str (Txt.join "" (ls.map S)))) else none) = _
  rw [S_join]
  have e : (((ls.map S).map (·.length)).sum + (ls.map S).length * (("" : Str).length)) ≤ 16777216 := by
    have e2 : (("" : Str).length) = 0 := by decide +kernel
    rw [e2, Nat.mul_zero, Nat.add_zero]
    have : ((ls.map S).map (·.length)).sum = ls.flatten.length := by
      clear h q
      induction ls with
      | nil => rfl
      | cons l ls ih => rw [List.map_cons, List.map_cons, List.sum_cons, ih, List.flatten_cons, List.length_append, S_len]
    omega
  rw [if_pos e]
/-- words that fit, each its own -/
theorem words_ok {R : Nat → List Nat → Prop} {m : Nat} {ls : List (List Nat)} (hl : ls.length = m) (hR : ∀ (i : Nat) (h : i < ls.length), R i ls[i]) (hi : ∀ i j l, i < m → j < m → R i l → R j l → i = j) (hN : ∀ i l, i < m → R i l → NmL l) : ls.Nodup ∧ ∀ l ∈ ls, NmL l := by
  constructor
  · unfold List.Nodup
    rw [List.pairwise_iff_getElem]
    intro i j h1 h2 h e
    have a := hR i h1
    rw [e] at a
    have := hi i j _ (by omega) (by omega) a (hR j h2)
    omega
  · intro l h
    obtain ⟨i, h1, rfl⟩ := List.getElem_of_mem h
    exact hN i _ (by omega) (hR i h1)
section
variable {ρ as : List Sl} {N : List Sl → Prop} {T : W → List Sl → Prop} {L : Bool → List Sl → Prop} {P : W → List Sl → Prop} {A B : Int} {i j n k : Nat} {d e : D} {ds cs xs ys : List D} {m : Int} {es : Mo (List W)} {f : List D → List D → Option (D × List D)} {s : Sl} {m1 m2 : MS}
theorem okS_seqM (I : List Sl → Prop) (h1 : okS (m1 ρ) I T L) (h2 : ∀ ρ, I ρ → okS (m2 ρ) N T L) : okS (sSeq m1 m2 ρ) N T L := okS_seq (h1.mono h2 (fun _ _ h => h) fun _ _ h => h)
/-- [e for k in range(..)], e a text by k: the box may be drawn from -/
theorem okE_words {e : Mo W} {R : Nat → List Nat → Prop} {a1 a2 a3 a4 a5 a6 a7 a8 : Sl} {q m : Nat} {es : Mo (List W)} (hb : BoxL n ds) (hm : m ≤ 1000)
    (hes : ∀ (ds : List D) ρ, ρ = [.io (.lst ds), a1, a2, a3, a4, a5, a6, a7, a8, .un] → okE (es ρ) fun ws ρ' => ρ' = ρ ∧ ws = [.cl (.int m)])
    (he : ∀ k ds, k < m → BoxL (n + q * k) ds → okE (e [.io (.lst ds), a1, a2, a3, a4, a5, a6, a7, a8, .cl (.int k)]) fun w ρ => ∃ l ds2, w = .cl (.str (S l)) ∧ ρ = [.io (.lst ds2), a1, a2, a3, a4, a5, a6, a7, a8, .cl (.int k)] ∧ BoxL (n + q * k + q) ds2 ∧ R k l)
    (p : ∀ (ls : List (List Nat)) (ds' : List D), ls.length = m → (∀ (i : Nat) (h : i < ls.length), R i ls[i]) → BoxL (n + q * m) ds' → P (.fr ((ls.map S).map .str)) [.io (.lst ds'), a1, a2, a3, a4, a5, a6, a7, a8, .un]) :
    okE (mLc (mRng1 es) (gSetC 9) mYes e [9] [.io (.lst ds), a1, a2, a3, a4, a5, a6, a7, a8, .un]) P := by
  refine okE_lc (okE_rng1 ((hes ds _ rfl).mono ?_))
  rintro ws ρ ⟨rfl, rfl⟩
  refine okW_derefs rfl ⟨(m : Int), rfl, by omega, by omega, rfl, ?_⟩
  refine okE_loopC (fun j ρ acc => ∃ (ls : List (List Nat)) (ds' : List D), ρ = [.io (.lst ds'), a1, a2, a3, a4, a5, a6, a7, a8, .un] ∧ acc = (ls.map S).map .str ∧ ls.length = j ∧ (∀ (i : Nat) (h : i < ls.length), R i ls[i]) ∧ BoxL (n + q * j) ds') _ 0 ⟨[], ds, rfl, rfl, rfl, (fun i h => absurd h (Nat.not_lt_zero i)), hb⟩ ?_ ?_
  · rintro j d ρ acc hj ⟨ls, ds', rfl, rfl, h1, h2, h3⟩
    have hj2 := (List.getElem?_eq_some_iff.mp hj)
    obtain ⟨hj2, hj3⟩ := hj2
    rw [List.length_map, List.length_range] at hj2
    rw [List.getElem_map, List.getElem_range] at hj3
    subst hj3
    refine okG_setC rfl ?_
    dsimp only [List.set]
    refine okE_eq rfl ⟨fun _ => ?_, fun z => by cases z⟩
    rw [Nat.zero_add] at h1 h3
    refine (he j ds' (by omega) h3).mono ?_
    rintro w ρ ⟨l, ds2, rfl, rfl, h4, h5⟩
    refine okW_eq rfl (okG_eq rfl ⟨ls ++ [l], ds2, rfl, ?_, ?_, ?_, ?_⟩)
    · simp
    · rw [List.length_append, h1]
      show j + 1 = 0 + j + 1
      omega
    · intro i h
      rw [List.getElem_append]
      split
      · exact h2 i _
      · have : i = j := by
          rw [List.length_append] at h
          have : i < ls.length + 1 := h
          omega
        subst this
        simpa [h1] using h5
    · rw [show n + q * (0 + j + 1) = n + q * j + q by rw [Nat.zero_add, Nat.mul_add, Nat.mul_one]; omega]
      exact h4
  · rintro ρ acc ⟨ls, ds', rfl, rfl, h1, h2, h3⟩
    rw [List.length_map, List.length_range, Nat.zero_add] at h1 h3
    exact okG_eq rfl (p _ _ (by omega) h2 h3)
end
end PM

/-! PW4: _law_columns, for all laws that have it. -/
namespace PM
open PySem PySem.Spec PyProof.Rows L2 SL
def columnsM (tk mx : Fnm) : MS := (sSeq (sAsg (mC (.str "abcdefghijklmnopqrstuvwxyz")) (gSetC 2))
    (sSeq (sAsg (mTup (mCons (callN [true, false] tk (mCons (mVar 0) (mCons (mFr (mC (.int 4))) mNil))) (mCons (callN [true, false] tk (mCons (mVar 0) (mCons (mFr (mC (.int 26))) mNil))) mNil))) (gTupM 2 (gsCons (gSetC 3) (gsCons (gSetC 4) gsNil))))
    (sSeq (sAsg (mBS fJoin (mC (.str "")) (mCons (mLc (mRng1 (mCons (mC (.int 8)) mNil)) (gSetC 9) mYes (mOp dIx (mVar 2) (callN [true, false] tk (mCons (mVar 0) (mCons (mFr (mC (.int 26))) mNil)))) [9]) mNil)) (gSetC 5))
    (sSeq (sAsg (callN [true, false] tk (mCons (mVar 0) (mCons (mFr (mC (.int 8))) mNil))) (gSetC 6))
    (sSeq (sAsg (mLc (mRng1 (mCons (mVar 1) mNil)) (gSetC 9) mYes (mOp dAdd (mOp dAdd (mSl (mVar 5) mNoPart (mPart (mVar 6))) (mOp dIx (mVar 2) (mOp dMod (mOp dAdd (mVar 4) (mOp dMul (mC (.int 11)) (mVar 9))) (mC (.int 26))))) (mSl (mVar 5) (mPart (mOp dAdd (mVar 6) (mC (.int 1)))) mNoPart)) [9]) (gSetC 7))
    (sSeq (sIf (mTest (mOp dEq (mVar 3) (mC (.int 0)))) (sAsg (mLc (mRng1 (mCons (mVar 1) mNil)) (gSetC 9) mYes (mOp dIx (mVar 2) (mOp dMod (mOp dAdd (mVar 4) (mOp dMul (mC (.int 3)) (mVar 9))) (mC (.int 26)))) [9]) (gSetC 7)) sNext)
    (sSeq (sIf (mTest (mOp dEq (mVar 3) (mC (.int 1)))) (sSeq (sAsg (callN [true, false] tk (mCons (mVar 0) (mCons (mFr (mC (.int 4))) mNil))) (gSetC 8))
    (sAsg (mLc (mRng1 (mCons (mVar 1) mNil)) (gSetC 9) mYes (mSl (mVar 5) mNoPart (mPart (mOp dAdd (mOp dAdd (mVar 8) (mVar 9)) (mC (.int 1))))) [9]) (gSetC 7))) sNext)
    (sSeq (sIf (mTest (mOp dEq (mVar 3) (mC (.int 2)))) (sAsg (mLc (mRng1 (mCons (mVar 1) mNil)) (gSetC 9) mYes (mOp dAdd (mOp dIx (mVar 2) (mOp dMod (mOp dAdd (mVar 4) (mOp dMul (mC (.int 7)) (mVar 9))) (mC (.int 26)))) (mSl (mVar 5) mNoPart (mPart (callN [true, false] tk (mCons (mVar 0) (mCons (mFr (mC (.int 8))) mNil)))))) [9]) (gSetC 7)) sNext)
    (sRet (callN [true, false] mx (mCons (mVar 0) (mCons (mFr (mVar 7)) mNil))))))))))))
section
variable {ρ as : List Sl} {N : List Sl → Prop} {T : W → List Sl → Prop} {L : Bool → List Sl → Prop} {P : W → List Sl → Prop} {A B : Int} {i j : Int} {n k : Nat} {d e : D} {ds cs xs ys : List D} {m : Int} {es : Mo (List W)} {a b : Mo W} {lo hi : MO} {s : Sl} {m1 m2 : MS} {fs : Str → List D → Option W}
theorem okE_sl (h : okE (a ρ) fun w ρ => okE (lo ρ) fun l ρ => okE (hi ρ) fun h ρ => okW (deref ρ w) fun d => okW (dSl d l h) fun w => P w ρ) : okE (mSl a lo hi ρ) P :=
  okE_bind (h.mono fun _ _ h => okE_bind (h.mono fun _ _ h => okE_bind (h.mono fun _ _ h => okE_opt (h.elim fun _ h => ⟨_, h.1, okE_map (h.2.elim fun _ h => ⟨_, h.1, okE_some h.2⟩)⟩))))
theorem okE_nopart {P : Option Int → List Sl → Prop} (h : P none ρ) : okE (mNoPart ρ) P := okE_some h
theorem okE_part {P : Option Int → List Sl → Prop} (h : okE (a ρ) fun w ρ => ∃ n : Int, deref ρ w = some (.int n) ∧ P (some n) ρ) : okE (mPart a ρ) P := okE_bind (h.mono fun w ρ h => by
  obtain ⟨n, e, p⟩ := h
  rw [e]
  exact okE_some p)
theorem okE_bs (h : okE (a ρ) fun x ρ => ∃ z, deref ρ x = some (.str z) ∧ okE (es ρ) fun ws ρ => okW (derefs ρ ws) fun ds => okW (fs z ds) fun w => P w ρ) : okE (mBS fs a es ρ) P := okE_bind (h.mono fun x ρ h => by
  obtain ⟨z, e, h⟩ := h
  rw [e]
  exact okE_bind (h.mono fun ws ρ h => okE_opt (h.elim fun _ h => ⟨_, h.1, okE_map (h.2.elim fun _ h => ⟨_, h.1, okE_some h.2⟩)⟩)))
theorem w_eqi {Q : W → Prop} (q : Q (.cl (.bl (decide (i = j))))) : okW (dEq (.int i) (.int j)) Q := by
  refine ⟨_, ?_, q⟩
  have h1 : ∀ x : Int, SeqAt.shaped (.int x) = true := fun x => by simp [SeqAt.shaped, PyData.canLay0, PyData.depth]
  show (if SeqAt.shaped (.int i) = true ∧ SeqAt.shaped (.int j) = true then some (PyData.eqv (.int i) (.int j)) else none).map (fun b => W.cl (.bl b)) = _
  rw [if_pos ⟨h1 _, h1 _⟩]
  have : PyData.eqv (.int i) (.int j) = decide (i = j) := by
    unfold PyData.eqv
    by_cases h : i = j
    · subst h
      simp
    · simp [h]
  rw [this]
  rfl
theorem okE_test_eqi {P : Bool → List Sl → Prop} {k : Nat} (h : mVar k ρ = some (.ok (.cl (.int i)) ρ)) (q : P (decide (i = j)) ρ) : okE (mTest (mOp dEq (mVar k) (mC (.int j))) ρ) P :=
  okB_test (okE_op (okE_var h (okE_c (okW_eq rfl (okW_eq rfl (w_eqi ⟨_, rfl, q⟩))))))
local macro_rules | `(tactic| walk_at "p1") => `(tactic| first
  | with_reducible refine PM.okS_seq ?_ | with_reducible refine PM.okS_next ?_ | with_reducible refine PM.okS_asg ?_ | with_reducible refine PM.okS_ret ?_ | with_reducible refine PM.okS_drop ?_ | with_reducible refine PM.okS_aug ?_ | with_reducible refine PM.okS_cnt ?_
  | with_reducible refine PM.okE_op ?_ | with_reducible refine PM.okE_cb ?_ | with_reducible refine PM.okE_cons ?_ | with_reducible refine PM.okE_nil ?_ | with_reducible refine PM.okB_not ?_ | with_reducible refine PM.okE_c ?_
  | ((with_reducible refine' PM.okE_var ?hv ?_); (case hv => rfl)) | ((with_reducible refine' PM.okE_frv ?hv ?_); (case hv => rfl)) | with_reducible refine PM.okE_frc ?_ | with_reducible refine PM.okE_fr ?_
  | with_reducible refine PM.w_fz1 ?_ | with_reducible refine PM.w_fz2 ?_ | with_reducible refine PM.w_fz3 ?_
  | ((with_reducible refine' PM.okW_deref ?hv ?_); (case hv => rfl)) | ((with_reducible refine' PM.okW_derefs ?hv ?_); (case hv => rfl)) | ((with_reducible refine' PM.okW_fzs ?hv ?_); (case hv => rfl)) | ((with_reducible refine' PM.okW_fz ?hv ?_); (case hv => rfl))
  | with_reducible refine PM.w_add ?_ | with_reducible refine PM.w_sub ?_ | with_reducible refine PM.w_lt ?_ | with_reducible refine PM.w_le ?_ | with_reducible refine PM.w_gt ?_ | with_reducible refine PM.w_ge ?_ | with_reducible refine PM.w_addI ?_
  | with_reducible refine PM.w_mod (by omega) ?_ | with_reducible refine PM.w_div (by omega) (by rw [PM.big_eq]; omega) ?_ | with_reducible refine PM.w_mul (by rw [PM.big_eq]; omega) (by rw [PM.big_eq]; omega) (by rw [PM.big_eq]; omega) (by rw [PM.big_eq]; omega) ?_ | with_reducible refine PM.w_sq (by omega) (by omega) ?_
  | with_reducible refine PM.w_max2 ?_ | with_reducible refine PM.w_min2 ?_ | with_reducible refine PM.w_lenL ?_ | with_reducible refine PM.w_lenT ?_ | with_reducible refine PM.w_lenC ?_ | with_reducible refine PM.w_listL ?_ | with_reducible refine PM.w_listT ?_
  | ((with_reducible refine PM.okG_setC rfl ?_); (try dsimp only [List.set])) | ((with_reducible refine PM.okG_setCf rfl ?_); (try dsimp only [List.set])) | ((with_reducible refine PM.okG_setO rfl ?_); (try dsimp only [List.set])) | ((with_reducible refine PM.okG_setOc rfl ?_); (try dsimp only [List.set]))
  | ((with_reducible refine' PM.okW_ix ?hv ?_); (case hv => rfl))
  | ((with_reducible refine' PM.okW_ret ?hv ?_); (case hv => rfl)) | ((with_reducible refine' PM.okW_outs ?hv ?_); (case hv => rfl))
  | ((with_reducible refine' PM.okB_test ⟨_, ?hv, ?_⟩); (case hv => rfl)))
local macro_rules | `(tactic| walk_at "p") => `(tactic| repeat walk_at "p1")
/-- what the columns are: names, each its own -/
def Cols (m : Nat) (ls : List (List Nat)) : Prop := ls.length = m ∧ ls.Nodup ∧ ∀ l ∈ ls, NmL l
def colF (ds : List D) (m : Nat) (w f : Int) (st : List Nat) (t : Nat) (ls : List (List Nat)) (s8 : Sl) : List Sl := [.io (.lst ds), .cl (.int m), .cl (.str (S lets)), .cl (.int w), .cl (.int f), .cl (.str (S st)), .cl (.int t), .cl (.lst ((ls.map S).map .str)), s8, .un]
theorem flat_one : ∀ (ls : List (List Nat)), (∀ (i : Nat) (h : i < ls.length), ls[i].length = 1 ∧ ∀ c ∈ ls[i], c ∈ lets) → ls.flatten.length = ls.length ∧ ∀ c ∈ ls.flatten, c ∈ lets
  | [], _ => ⟨rfl, fun c h => by cases h⟩
  | l :: ls, h => by
    have h0 := h 0 (Nat.zero_lt_succ _)
    obtain ⟨a, b⟩ := flat_one ls fun i hi => h (i + 1) (by simpa using hi)
    rw [List.flatten_cons]
    constructor
    · rw [List.length_append, a]
      have : l.length = 1 := h0.1
      rw [this, List.length_cons]
      omega
    · intro c hc
      rcases List.mem_append.mp hc with q | q
      · exact h0.2 c q
      · exact b c q
theorem perm_map {α β : Type} {f : α → β} (g : β → α) (hg : ∀ x, g (f x) = x) {xs : List α} {ys : List β} (h : ys.Perm (xs.map f)) : ∃ zs : List α, ys = zs.map f ∧ zs.Perm xs := by
  refine ⟨ys.map g, ?_, ?_⟩
  · rw [List.map_map]
    conv => lhs; rw [← List.map_id ys]
    refine List.map_congr_left fun y hy => ?_
    obtain ⟨x, _, rfl⟩ := List.mem_map.mp (h.mem_iff.mp hy)
    show f x = f (g (f x))
    rw [hg]
  · have z := h.map g
    rw [List.map_map] at z
    have e : xs.map (g ∘ f) = xs := by
      conv => rhs; rw [← List.map_id xs]
      exact List.map_congr_left fun x _ => hg x
    rw [e] at z
    exact z
def unS : D → List Nat
  | .str z => z.cps.toList
  | _ => []
theorem columns_ok {m : Nat} (hA : 0 ≤ A) (hA2 : A ≤ 1000000) (hB : 0 ≤ B) (hB2 : B ≤ 1000000) (hb : BoxL n ds) (hn : n ≤ 80000000) (hm : m ≤ 5) (q : ∀ ls ds', Cols m ls → BoxL (n + 30) ds' → P (.fr ((ls.map S).map .str)) [.io (.lst ds'), .cl (.int m)]) :
    okF (fnM 2 8 (columnsM (fnM 2 3 (takeM A B)) (fnM 2 2 (mixedM (fnM 2 3 (takeM A B))))) [.io (.lst ds), .cl (.int m)]) P := by
  refine okF_fn rfl ?_
  show okS (columnsM (fnM 2 3 (takeM A B)) (fnM 2 2 (mixedM (fnM 2 3 (takeM A B)))) [.io (.lst ds), .cl (.int m), .un, .un, .un, .un, .un, .un, .un, .un]) _ _ _
  unfold columnsM
  rw [letters_eq]
  walk_at "p"
  refine okE_tup (okE_cons (okE_take (m := 4) rfl hA hA2 hB hB2 rfl rfl hb (by omega) (okE_eq rfl ⟨rfl, rfl⟩) (by omega) (by omega) fun w d1 w0 w1 hb => ?_))
  dsimp only [List.set, slPut]
  refine okE_cons (okE_take (m := 26) rfl hA hA2 hB hB2 rfl rfl hb (by omega) (okE_eq rfl ⟨rfl, rfl⟩) (by omega) (by omega) fun f d2 f0 f1 hb => ?_)
  dsimp only [List.set, slPut]
  walk_at "p"
  refine ⟨Nat.le_of_ble_eq_true rfl, okG_eq rfl ?_⟩
  dsimp only [List.set]
  refine okS_seq (okS_asg (okE_bs (okE_c ⟨_, rfl, okE_cons ?_⟩)))
  refine okE_words (R := fun _ l => l.length = 1 ∧ ∀ c ∈ l, c ∈ lets) (q := 1) (m := 8) hb (by decide) (fun ds ρ e => by subst e; exact okE_eq rfl ⟨rfl, rfl⟩) ?_ ?_
  · intro k ds hk hb
    refine okE_op (okE_var rfl (okE_take (m := 26) rfl hA hA2 hB hB2 rfl rfl hb (by omega) (okE_eq rfl ⟨rfl, rfl⟩) (by omega) (by omega) fun v d3 v0 v1 hb => ?_))
    dsimp only [List.set, slPut]
    refine okW_eq rfl (okW_eq rfl (w_letter v0 v1 ⟨_, _, rfl, rfl, hb, rfl, fun c hc => ?_⟩))
    rw [List.mem_singleton.mp hc]
    exact lt_mem v0 v1
  intro ls d3 h1 h2 hb
  obtain ⟨h3, h4⟩ := flat_one ls h2
  rw [h1] at h3
  refine okE_nil (okW_derefs rfl ?_)
  refine w_join (ls := ls) (by omega) (okG_setC rfl ?_)
  generalize ls.flatten = st at h3 h4 ⊢
  dsimp only [List.set]
  refine okS_seq (okS_asg (okE_take (m := 8) rfl hA hA2 hB hB2 rfl rfl hb (by omega) (okE_eq rfl ⟨rfl, rfl⟩) (by omega) (by omega) fun t d4 t0 t1 hb => ?_))
  dsimp only [List.set, slPut]
  obtain ⟨t, rfl⟩ := Int.eq_ofNat_of_zero_le t0
  refine okG_setC rfl ?_
  dsimp only [List.set]
  refine okS_seq (okS_asg (okE_words (R := fun k l => l = (st.take t ++ [lt ((f + 11 * k) % 26)]) ++ st.drop (t + 1)) (q := 0) (m := m) hb (by omega) (fun ds ρ e => by subst e; exact okE_eq rfl ⟨rfl, rfl⟩) ?_ ?_))
  · intro k ds hk hb
    refine okE_op (okE_op ?_)
    refine okE_sl (okE_var rfl (okE_nopart (okE_part (okE_var rfl ⟨_, rfl, okW_eq rfl (w_take (by omega) ?_)⟩))))
    refine okE_op ?_
    walk_at "p"
    refine w_letter (Int.emod_nonneg _ (by decide)) (Int.emod_lt_of_pos _ (by decide)) ?_
    walk_at "p"
    have k1 : (st.take t).length ≤ 8 := by rw [List.length_take]; omega
    refine w_adds (by rw [List.length_singleton]; omega) ?_
    refine okE_sl (okE_var rfl (okE_part (okE_op ?_)))
    walk_at "p"
    refine ⟨_, rfl, okE_nopart (okW_eq rfl (w_drop (k := t + 1) (by omega) ?_))⟩
    walk_at "p"
    refine w_adds (by rw [List.length_append, List.length_singleton, List.length_drop]; omega) ?_
    exact ⟨_, _, rfl, rfl, hb.mono (by omega), rfl⟩
  intro ls d5 h5 h6 hb
  have c5 : Cols m ls := ⟨h5, words_ok (R := fun k l => l = (st.take t ++ [lt ((f + 11 * k) % 26)]) ++ st.drop (t + 1)) h5 h6 (fun i j l hi hj e1 e2 => by
    have z := List.append_cancel_left (List.append_cancel_right (e1.symm.trans e2))
    have z := lt_inj (Int.emod_nonneg _ (by decide)) (Int.emod_lt_of_pos _ (by decide)) (Int.emod_nonneg _ (by decide)) (Int.emod_lt_of_pos _ (by decide)) (List.singleton_inj.mp z)
    omega) (fun i l _ e => by
    subst e
    refine ⟨?_, ?_, ?_⟩
    · rw [List.length_append, List.length_append, List.length_singleton]
      omega
    · rw [List.length_append, List.length_append, List.length_singleton, List.length_take, List.length_drop]
      omega
    · intro c hc
      rcases List.mem_append.mp hc with hc | hc
      · rcases List.mem_append.mp hc with hc | hc
        · exact h4 c (List.mem_of_mem_take hc)
        · rw [List.mem_singleton.mp hc]
          exact lt_mem (Int.emod_nonneg _ (by decide)) (Int.emod_lt_of_pos _ (by decide))
      · exact h4 c (List.mem_of_mem_drop hc))⟩
  refine okG_setCf rfl ?_
  dsimp only [List.set]
  let I : Nat → List Sl → Prop := fun r ρ => ∃ ls ds' s8, ρ = colF ds' m w f st t ls s8 ∧ free s8 = true ∧ Cols m ls ∧ BoxL (n + r) ds'
  refine okS_seqM (I 11) (okS_if (okE_test_eqi rfl ⟨fun _ => ?_, fun _ => okS_next ⟨ls, d5, _, rfl, rfl, c5, hb.mono (by omega)⟩⟩)) ?_
  · refine okS_asg (okE_words (R := fun k l => l = [lt ((f + 3 * k) % 26)]) (q := 0) (m := m) hb (by omega) (fun ds ρ e => by subst e; exact okE_eq rfl ⟨rfl, rfl⟩) ?_ ?_)
    · intro k ds hk hb
      walk_at "p"
      refine w_letter (Int.emod_nonneg _ (by decide)) (Int.emod_lt_of_pos _ (by decide)) ?_
      exact ⟨_, _, rfl, rfl, hb.mono (by omega), rfl⟩
    · intro ls d6 h7 h8 hb
      refine okG_setCf rfl ?_
      refine ⟨ls, d6, _, rfl, rfl, ⟨h7, words_ok (R := fun k l => l = [lt ((f + 3 * k) % 26)]) h7 h8 (fun i j l hi hj e1 e2 => ?_) (fun i l _ e => ?_)⟩, hb.mono (by omega)⟩
      · have z := lt_inj (Int.emod_nonneg _ (by decide)) (Int.emod_lt_of_pos _ (by decide)) (Int.emod_nonneg _ (by decide)) (Int.emod_lt_of_pos _ (by decide)) (List.singleton_inj.mp (e1.symm.trans e2))
        omega
      · subst e
        exact ⟨Nat.le_refl _, by rw [List.length_singleton]; omega, fun c hc => by
          rw [List.mem_singleton.mp hc]
          exact lt_mem (Int.emod_nonneg _ (by decide)) (Int.emod_lt_of_pos _ (by decide))⟩
  clear hb c5 h5 h6 ls
  rintro ρ ⟨ls, d6, s8, rfl, f8, c6, hb⟩
  refine okS_seqM (I 12) (okS_if (okE_test_eqi rfl ⟨fun _ => ?_, fun _ => okS_next ⟨ls, d6, _, rfl, f8, c6, hb.mono (by omega)⟩⟩)) ?_
  · unfold colF
    refine okS_seq (okS_asg (okE_take (m := 4) rfl hA hA2 hB hB2 rfl rfl hb (by omega) (okE_eq rfl ⟨rfl, rfl⟩) (by omega) (by omega) fun v d7 v0 v1 hb => ?_))
    dsimp only [List.set, slPut]
    obtain ⟨v, rfl⟩ := Int.eq_ofNat_of_zero_le v0
    refine okG_setC (congrArg some f8) ?_
    dsimp only [List.set]
    refine okS_asg (okE_words (R := fun k l => l = st.take (v + k + 1)) (q := 0) (m := m) hb (by omega) (fun ds ρ e => by subst e; exact okE_eq rfl ⟨rfl, rfl⟩) ?_ ?_)
    · intro k ds hk hb
      refine okE_sl (okE_var rfl (okE_nopart (okE_part ?_)))
      walk_at "p"
      refine ⟨_, rfl, okW_eq rfl (w_take (k := v + k + 1) (by omega) ?_)⟩
      exact ⟨_, _, rfl, rfl, hb.mono (by omega), rfl⟩
    · intro ls d6 h7 h8 hb
      refine okG_setCf rfl ?_
      refine ⟨ls, d6, _, rfl, rfl, ⟨h7, words_ok (R := fun k l => l = st.take (v + k + 1)) h7 h8 (fun i j l hi hj e1 e2 => ?_) (fun i l hi e => ?_)⟩, hb.mono (by omega)⟩
      · have z := congrArg List.length (e1.symm.trans e2)
        rw [List.length_take, List.length_take] at z
        omega
      · subst e
        exact ⟨by rw [List.length_take]; omega, by rw [List.length_take]; omega, fun c hc => h4 c (List.mem_of_mem_take hc)⟩
  clear hb c6 f8 s8 ls
  rintro ρ ⟨ls, d6, s8, rfl, f8, c6, hb⟩
  refine okS_seqM (I 17) (okS_if (okE_test_eqi rfl ⟨fun _ => ?_, fun _ => okS_next ⟨ls, d6, _, rfl, f8, c6, hb.mono (by omega)⟩⟩)) ?_
  · unfold colF
    refine okS_asg (okE_words (R := fun k l => ∃ z, l = lt ((f + 7 * k) % 26) :: z ∧ z.length ≤ 7 ∧ ∀ c ∈ z, c ∈ lets) (q := 1) (m := m) hb (by omega) (fun ds ρ e => by subst e; exact okE_eq rfl ⟨rfl, rfl⟩) ?_ ?_)
    · intro k ds hk hb
      refine okE_op ?_
      walk_at "p"
      refine w_letter (Int.emod_nonneg _ (by decide)) (Int.emod_lt_of_pos _ (by decide)) ?_
      refine okE_sl (okE_var rfl (okE_nopart (okE_part (okE_take (m := 8) rfl hA hA2 hB hB2 rfl rfl hb (by omega) (okE_eq rfl ⟨rfl, rfl⟩) (by omega) (by omega) fun v d7 v0 v1 hb => ?_))))
      dsimp only [List.set, slPut]
      obtain ⟨v, rfl⟩ := Int.eq_ofNat_of_zero_le v0
      refine ⟨_, rfl, okW_eq rfl (w_take (by omega) ?_)⟩
      walk_at "p"
      refine w_adds (by rw [List.length_singleton, List.length_take]; omega) ?_
      exact ⟨_, _, rfl, rfl, hb.mono (by omega), st.take v, rfl, by rw [List.length_take]; omega, fun c hc => h4 c (List.mem_of_mem_take hc)⟩
    · intro ls d6 h7 h8 hb
      refine okG_setCf rfl ?_
      refine ⟨ls, d6, _, rfl, f8, ⟨h7, words_ok (R := fun k l => ∃ z, l = lt ((f + 7 * k) % 26) :: z ∧ z.length ≤ 7 ∧ ∀ c ∈ z, c ∈ lets) h7 h8 (fun i j l hi hj e1 e2 => ?_) (fun i l hi e => ?_)⟩, hb.mono (by omega)⟩
      · obtain ⟨z1, e1, _⟩ := e1
        obtain ⟨z2, e2, _⟩ := e2
        have z := lt_inj (Int.emod_nonneg _ (by decide)) (Int.emod_lt_of_pos _ (by decide)) (Int.emod_nonneg _ (by decide)) (Int.emod_lt_of_pos _ (by decide)) (List.cons.inj (e1.symm.trans e2)).1
        omega
      · obtain ⟨z, rfl, k1, k2⟩ := e
        refine ⟨by rw [List.length_cons]; omega, by rw [List.length_cons]; omega, fun c hc => ?_⟩
        rcases List.mem_cons.mp hc with rfl | hc
        · exact lt_mem (Int.emod_nonneg _ (by decide)) (Int.emod_lt_of_pos _ (by decide))
        · exact k2 c hc
  clear hb c6 f8 s8 ls
  rintro ρ ⟨ls, d6, s8, rfl, f8, c6, hb⟩
  unfold colF
  refine okS_ret (okE_mixed (xs := (ls.map S).map .str) rfl hA hA2 hB hB2 rfl rfl hb (by omega) (okE_eq rfl ⟨rfl, rfl⟩) (by rw [List.length_map, List.length_map, c6.1]; omega) fun ys d7 hp hb => ?_)
  dsimp only [List.set, slPut]
  walk_at "p"
  rw [List.length_map, List.length_map, c6.1] at hb
  rw [List.map_map] at hp
  obtain ⟨ls2, e, hq⟩ := perm_map unS (fun x => rfl) hp
  subst e
  rw [← List.map_map]
  exact q ls2 d7 ⟨hq.length_eq.trans c6.1, hq.nodup_iff.mpr c6.2.1, fun l hl => c6.2.2 l (hq.mem_iff.mp hl)⟩ (hb.mono (by omega))
end
end PM

/-! PW5: lists of names: compared, looked through, sorted, cut; more steps. -/
namespace PM
open PySem PySem.Spec PyProof.Rows L2 SL
abbrev LS (zs : List Str) : List D := zs.map .str
theorem pds_strs : ∀ zs : List Str, pds (LS zs) = some (zs.map PyData.str)
  | [] => rfl
  | z :: zs => by
    show (pd (.str z)).bind (fun x => (pds (LS zs)).map (x :: ·)) = _
    rw [pds_strs zs]
    rfl
theorem pd_strs (zs : List Str) : pd (.lst (LS zs)) = some (.list (zs.map PyData.str)) := by
  show (pds (LS zs)).map PyData.list = _
  rw [pds_strs]
  rfl
theorem eqv_strs : ∀ zs ws : List Str, PyData.eqvAll (zs.map PyData.str) (ws.map PyData.str) = decide (zs = ws)
  | [], [] => by simp [PyData.eqvAll]
  | [], w :: ws => by simp [PyData.eqvAll]
  | z :: zs, [] => by simp [PyData.eqvAll]
  | z :: zs, w :: ws => by
    rw [List.map_cons, List.map_cons, PyData.eqvAll, eqv_strs zs ws, PyData.eqv]
    by_cases h : z = w
    · subst h
      simp
    · simp [h]
def Ascs (zs : List Str) : Prop := ∀ z ∈ zs, Asc z
theorem dEqB_L {zs ws : List Str} (h1 : Ascs zs) (h2 : Ascs ws) : dEqB (.lst (LS zs)) (.lst (LS ws)) = some (decide (zs = ws)) := by
  unfold dEqB
  rw [pd_strs, pd_strs]
  show (if _ ∧ _ then some _ else none) = _
  rw [if_pos ⟨shaped_strs h1, shaped_strs h2⟩, PyData.eqv, eqv_strs]
theorem dEqB_S {z w : Str} (h1 : Asc z) (h2 : Asc w) : dEqB (.str z) (.str w) = some (decide (z = w)) := by
  have h : ∀ z : Str, Asc z → SeqAt.shaped (.str z) = true := fun z h => by
    have := shaped_strs (ys := [z]) (fun x hx => by rw [List.mem_singleton.mp hx]; exact h)
    simp only [SeqAt.shaped, PyData.canLay0, PyData.depth, PyData.canLayAll0, PyData.depthAll, List.map_cons, List.map_nil, Bool.and_true] at this ⊢
    simp only [Bool.and_eq_true] at this ⊢
    exact ⟨this.1, by simp⟩
  show (if SeqAt.shaped (.str z) = true ∧ SeqAt.shaped (.str w) = true then some (PyData.eqv (.str z) (.str w)) else none) = _
  rw [if_pos ⟨h z h1, h w h2⟩, PyData.eqv]
  by_cases e : z = w
  · subst e
    simp
  · simp [e]
theorem dEqB_SN {z : Str} (h1 : Asc z) : dEqB (.str z) .non = some false := by
  have h : ∀ z : Str, Asc z → SeqAt.shaped (.str z) = true := fun z h => by
    have := shaped_strs (ys := [z]) (fun x hx => by rw [List.mem_singleton.mp hx]; exact h)
    simp only [SeqAt.shaped, PyData.canLay0, PyData.depth, PyData.canLayAll0, PyData.depthAll, List.map_cons, List.map_nil, Bool.and_true] at this ⊢
    simp only [Bool.and_eq_true] at this ⊢
    exact ⟨this.1, by simp⟩
  show (if SeqAt.shaped (.str z) = true ∧ SeqAt.shaped .none = true then some (PyData.eqv (.str z) .none) else none) = _
  rw [if_pos ⟨h z h1, by simp [SeqAt.shaped, PyData.canLay0, PyData.depth]⟩, PyData.eqv]
theorem dEqB_NN : dEqB .non .non = some true := by
  show (if SeqAt.shaped .none = true ∧ SeqAt.shaped .none = true then some (PyData.eqv .none .none) else none) = _
  have h : SeqAt.shaped .none = true := by simp [SeqAt.shaped, PyData.canLay0, PyData.depth]
  rw [if_pos ⟨h, h⟩, PyData.eqv]
theorem w_eq {a b : D} {c : Bool} {Q : W → Prop} (h : dEqB a b = some c) (q : Q (.cl (.bl c))) : okW (dEq a b) Q := ⟨_, by unfold dEq; rw [h]; rfl, q⟩
theorem w_ne {a b : D} {c : Bool} {Q : W → Prop} (h : dEqB a b = some c) (q : Q (.cl (.bl (!c)))) : okW (dNe a b) Q := ⟨_, by unfold dNe; rw [h]; rfl, q⟩
theorem flats_strs : ∀ zs : List Str, flats (LS zs) = some (zs.map V.str)
  | [] => rfl
  | z :: zs => by
    show (flat (.str z)).bind (fun v => (flats (LS zs)).map (v :: ·)) = _
    rw [flats_strs zs]
    rfl
theorem inV_strs {x : Str} {ys : List Str} : inV (.str x) (ys.map V.str) = decide (x ∈ ys) := by
  unfold inV
  rw [Bool.eq_iff_iff, List.any_eq_true, decide_eq_true_eq]
  constructor
  · rintro ⟨v, hv, e⟩
    obtain ⟨y, hy, rfl⟩ := List.mem_map.mp hv
    have : y = x := by simpa [eqV] using e
    rw [← this]
    exact hy
  · intro h
    exact ⟨.str x, List.mem_map.mpr ⟨x, h, rfl⟩, by simp [eqV]⟩
theorem inV_non {ys : List Str} : inV .non (ys.map V.str) = false := by
  unfold inV
  rw [List.any_eq_false]
  intro v hv
  obtain ⟨y, _, rfl⟩ := List.mem_map.mp hv
  simp [eqV]
theorem dInB_L {z : Str} {zs : List Str} : dInB (.str z) (.lst (LS zs)) = some (decide (z ∈ zs)) := by
  show (flat (.str z)).bind (fun v => (flats (LS zs)).map fun vs => inV v vs) = _
  rw [flats_strs]
  show some (inV (.str z) (zs.map V.str)) = _
  rw [inV_strs]
theorem dInB_N {zs : List Str} : dInB .non (.lst (LS zs)) = some false := by
  show (flat .non).bind (fun v => (flats (LS zs)).map fun vs => inV v vs) = _
  rw [flats_strs]
  show some (inV .non (zs.map V.str)) = _
  rw [inV_non]
theorem w_in {a b : D} {c : Bool} {Q : W → Prop} (h : dInB a b = some c) (q : Q (.cl (.bl c))) : okW (dIn a b) Q := ⟨_, by unfold dIn; rw [h]; rfl, q⟩
theorem w_niL {z : Str} {zs : List Str} {Q : W → Prop} (q : Q (.cl (.bl (!decide (z ∈ zs))))) : okW (dNi (.str z) (.lst (LS zs))) Q := ⟨_, by
  show (dInB (.str z) (.lst (LS zs))).map (fun b => W.cl (.bl (!b))) = _
  rw [dInB_L]
  rfl, q⟩
theorem w_srt {zs : List Str} {Q : W → Prop} (h : zs.length < 64) (q : Q (.fr (LS (sortS zs)))) : okW (dSrt [.lst (LS zs)]) Q := ⟨_, by
  show (match strsOf (LS zs) with
      | some zs => if zs.length < 64 then some (W.fr ((sortS zs).map .str)) else none
      | none => (intsOf (LS zs)).bind fun ns => if ns.length < 64 then some (W.fr ((sortI ns).map .int)) else none) = _
  rw [strsOf_map]
  show (if _ then _ else _) = _
  rw [if_pos h], q⟩
theorem sortS_eq {a b : List Str} : sortS a = sortS b ↔ a.Perm b := by
  constructor
  · intro h
    exact (sortS_perm a).symm.trans (h ▸ sortS_perm b)
  · intro h
    exact perm_eq (fun _ _ => leS_antisymm) ((sortS_perm a).trans (h.trans (sortS_perm b).symm)) (sortS_sorted a) (sortS_sorted b)
theorem sortS_len (a : List Str) : (sortS a).length = a.length := (sortS_perm a).length_eq
theorem sortS_mem {a : List Str} {z : Str} : z ∈ sortS a ↔ z ∈ a := (sortS_perm a).mem_iff
theorem lets_asc : ∀ c ∈ lets, c < 128 := by decide +kernel
theorem Nm.asc {z : Str} (h : Nm z) : Asc z := fun c hc => lets_asc c (h.2.2 c hc)
theorem cut_take {α : Type} (xs : List α) (k : Nat) : cutL xs none (some (k : Int)) = xs.take k := by
  unfold cutL
  rw [HT.sIx_none, HT.sIx_nat, List.drop_zero, Nat.sub_zero]
  rcases Nat.le_total k xs.length with h | h
  · rw [Nat.min_eq_left h]
  · rw [Nat.min_eq_right h, List.take_of_length_le (Nat.le_refl _), List.take_of_length_le h]
theorem cut_drop {α : Type} (xs : List α) (k : Nat) : cutL xs (some (k : Int)) none = xs.drop k := by
  unfold cutL
  rw [HT.sIx_none, HT.sIx_nat]
  rcases Nat.le_total k xs.length with h | h
  · rw [Nat.min_eq_left h]
    exact List.take_of_length_le (by rw [List.length_drop]; exact Nat.le_refl _)
  · rw [Nat.min_eq_right h, List.drop_of_length_le (Nat.le_refl _), List.drop_of_length_le h, List.take_nil]
theorem cut_mid {α : Type} (xs : List α) (a b : Nat) : cutL xs (some (a : Int)) (some (b : Int)) = (xs.drop a).take (b - a) := by
  unfold cutL
  rw [HT.sIx_nat, HT.sIx_nat]
  rcases Nat.le_total a xs.length with h | h
  · rw [Nat.min_eq_left h]
    rcases Nat.le_total b xs.length with h2 | h2
    · rw [Nat.min_eq_left h2]
    · rw [Nat.min_eq_right h2, List.take_of_length_le (by rw [List.length_drop]; exact Nat.le_refl _), List.take_of_length_le (by rw [List.length_drop]; omega)]
  · rw [Nat.min_eq_right h, List.drop_of_length_le (Nat.le_refl _), List.drop_of_length_le h, List.take_nil, List.take_nil]
theorem w_sl {ds : List D} {lo hi : Option Int} {Q : W → Prop} (q : Q (.fr (cutL ds lo hi))) : okW (dSl (.lst ds) lo hi) Q := ⟨_, rfl, q⟩
section
variable {ρ as : List Sl} {P : W → List Sl → Prop} {a b c : Mo W} {f g : D → D → Option W}
theorem okB_tru {P : Bool → List Sl → Prop} (h : okE (a ρ) fun w ρ => ∃ d k, deref ρ w = some d ∧ dTru d.u = some k ∧ P k ρ) : okE (mTru a ρ) P := okE_bind (h.mono fun w ρ h => by
  obtain ⟨d, k, e1, e2, p⟩ := h
  rw [e1]
  show okE ((dTru d.u).map fun b => R.ok b ρ) P
  rw [e2]
  exact okE_some p)
theorem okE_notV (h : okE (a ρ) fun w ρ => ∃ k, deref ρ w = some (.bl k) ∧ P (.cl (.bl (!k))) ρ) : okE (mNotV a ρ) P := okE_bind (okB_test (h.mono fun w ρ h => by
  obtain ⟨k, e, p⟩ := h
  exact ⟨k, e, okE_some p⟩))
theorem okE_andV (h : okE (a ρ) fun w ρ => ∃ k, deref ρ w = some (.bl k) ∧ (k = true → okE (b ρ) P) ∧ (k = false → P (.cl (.bl false)) ρ)) : okE (mAndV a b ρ) P := okE_bind (okB_test (h.mono fun w ρ h => by
  obtain ⟨k, e, p1, p2⟩ := h
  refine ⟨k, e, ?_⟩
  cases k with
  | true => exact p1 rfl
  | false => exact okE_some (p2 rfl)))
theorem okE_orV (h : okE (a ρ) fun w ρ => ∃ k, deref ρ w = some (.bl k) ∧ (k = false → okE (b ρ) P) ∧ (k = true → P (.cl (.bl true)) ρ)) : okE (mOrV a b ρ) P := okE_bind (okB_test (h.mono fun w ρ h => by
  obtain ⟨k, e, p1, p2⟩ := h
  refine ⟨k, e, ?_⟩
  cases k with
  | false => exact p1 rfl
  | true => exact okE_some (p2 rfl)))
theorem okE_chain (h : okE (a ρ) fun x ρ => okE (b ρ) fun y ρ => okW (deref ρ x) fun dx => okW (deref ρ y) fun dy => ∃ k, f dx dy = some (.cl (.bl k)) ∧ (k = true → okE (c ρ) fun z ρ => okW (deref ρ y) fun dy => okW (deref ρ z) fun dz => okW (g dy dz) fun w => P w ρ) ∧ (k = false → P (.cl (.bl false)) ρ)) : okE (mChain f g a b c ρ) P :=
  okE_bind (h.mono fun x ρ h => okE_bind (h.mono fun y ρ h => by
    obtain ⟨dx, e1, dy, e2, k, e3, p1, p2⟩ := h
    rw [e1, e2]
    show okE (match f dx dy with
      | some (.cl (.bl true)) => bindR (c ρ) fun z ρ => (deref ρ y).bind fun dy => (deref ρ z).bind fun dz => (g dy dz).map fun w => .ok w ρ
      | some (.cl (.bl false)) => some (.ok (.cl (.bl false)) ρ)
      | _ => none) P
    rw [e3]
    cases k with
    | false => exact okE_some (p2 rfl)
    | true => exact okE_bind ((p1 rfl).mono fun z ρ h => okE_opt (h.elim fun _ h => ⟨_, h.1, okE_opt (h.2.elim fun _ h => ⟨_, h.1, okE_map (h.2.elim fun _ h => ⟨_, h.1, okE_some h.2⟩)⟩)⟩))))
end
end PM

/-! PW6: own classes and loops over items, read backwards. -/
namespace PM
open PySem PySem.Spec PyProof.Rows L2 SL
/-- a call with values at hand -/
def okT (ms : List Bool) (m : Fnm) (ws : List W) (ρ : List Sl) (P : W → List Sl → Prop) : Prop := okAl ms ws = true ∧ okW (argsOf ρ ms ws) fun as => okF (m as) fun w o => okG (putO ms ws o ρ) fun ρ => P w ρ
section
variable {ρ as : List Sl} {N : List Sl → Prop} {T : W → List Sl → Prop} {L : Bool → List Sl → Prop} {P : W → List Sl → Prop} {a b c e : Mo W} {es : Mo (List W)} {C n f : Str} {ms : List Bool} {m : Fnm} {i : Nat} {ws : List W} {ks : List Kd} {dvs : List D}
theorem okT_run (h : okT ms m ws ρ P) : okE (callT ms m ws ρ) P := by
  obtain ⟨h1, as, e1, w, o, e2, ρ', e3, p⟩ := h
  unfold callT
  rw [if_pos h1]
  refine okE_opt ⟨_, e1, ?_⟩
  dsimp only
  rw [e2]
  exact okE_map ⟨_, e3, okE_some p⟩
/-- values that stay, handed over to be read -/
theorem okT_c {ds : List D} (h : okF (m (ds.map .cl)) fun w o => P w ρ) (ho : ∀ w o, m (ds.map .cl) = some (.rt w o) → o.length = ds.length) : okT (ds.map fun _ => false) m (ds.map .cl) ρ P := by
  refine ⟨?_, ds.map .cl, ?_, ?_⟩
  · unfold okAl
    have : (ds.map fun _ => false).any id = false := by
      rw [List.any_eq_false]
      intro x hx
      obtain ⟨_, _, rfl⟩ := List.mem_map.mp hx
      decide
    rw [this]
    rfl
  · clear ho h
    induction ds with
    | nil => rfl
    | cons d ds ih =>
      show ((some (Sl.cl d)).bind fun s => (argsOf ρ (ds.map fun _ => false) (ds.map .cl)).map (s :: ·)) = _
      rw [ih]
      rfl
  · obtain ⟨w, o, e, p⟩ := h
    refine ⟨w, o, e, ρ, ?_, p⟩
    have hl := ho w o e
    clear ho e p
    induction ds generalizing o with
    | nil =>
      cases o with
      | nil => rfl
      | cons x o => rfl
    | cons d ds ih =>
      cases o with
      | nil => cases hl
      | cons x o => exact ih o (by simpa using hl)
theorem okE_fld (h : okE (a ρ) fun w ρ => ∃ fs d, deref ρ w = some (.ins C fs) ∧ fs.lookup f = some d ∧ P (.cl d) ρ) : okE (mFld C f a ρ) P := okE_bind (h.mono fun w ρ h => by
  obtain ⟨fs, d, e1, e2, p⟩ := h
  rw [e1]
  show okE ((insOf C (.ins C fs)).bind fun fs => (fs.lookup f).map fun d => R.ok (W.cl d) ρ) P
  have : insOf C (.ins C fs) = some fs := by
    show (if C = C then some fs else none) = _
    rw [if_pos rfl]
  rw [this]
  exact okE_map ⟨_, e2, okE_some p⟩)
theorem insOf_eq {fs : List (Str × D)} : insOf C (.ins C fs) = some fs := by
  show (if C = C then some fs else none) = _
  rw [if_pos rfl]
theorem okE_meth (h : okE (a ρ) fun w ρ => ∃ fs, deref ρ w = some (.ins C fs) ∧ fs.lookup n = none ∧ okE (es ρ) fun ws ρ => okT ms m (w :: ws) ρ P) : okE (mMeth C n ms m a es ρ) P := okE_bind (h.mono fun w ρ h => by
  obtain ⟨fs, e1, e2, h⟩ := h
  rw [e1]
  show okE ((insOf C (.ins C fs)).bind fun fs => if (fs.lookup n).isNone then bindR (es ρ) fun ws ρ => callT ms m (w :: ws) ρ else none) P
  rw [insOf_eq]
  show okE (if (fs.lookup n).isNone then bindR (es ρ) fun ws ρ => callT ms m (w :: ws) ρ else none) P
  rw [e2]
  exact okE_bind (h.mono fun ws ρ h => okT_run h))
theorem okE_prop (h : okE (a ρ) fun w ρ => ∃ fs, deref ρ w = some (.ins C fs) ∧ okT ms m [w] ρ P) : okE (mProp C ms m a ρ) P := okE_bind (h.mono fun w ρ h => by
  obtain ⟨fs, e1, h⟩ := h
  rw [e1]
  show okE ((insOf C (.ins C fs)).bind fun _ => callT ms m [w] ρ) P
  rw [insOf_eq]
  exact okT_run h)
theorem okE_make (h : okE (es ρ) fun ws ρ => okAl ms ws = true ∧ okW (argsOf ρ ms ws) fun as => ∃ fs outs, m (.io (.ins C []) :: (as ++ dvs.map .cl)) = some (.rt (.cl .non) (.io (.ins C fs) :: outs)) ∧ okG (putO ms ws outs ρ) fun ρ => P (.cl (.ins C fs)) ρ) : okE (mMake C ms m dvs es ρ) P := okE_bind (h.mono fun ws ρ h => by
  obtain ⟨h1, as, e1, fs, outs, e2, ρ', e3, p⟩ := h
  rw [if_pos h1]
  refine okE_opt ⟨_, e1, ?_⟩
  dsimp only
  rw [e2]
  show okE (if C = C then (putO ms ws outs ρ).map fun ρ => R.ok (W.cl (.ins C fs)) ρ else none) P
  rw [if_pos rfl]
  exact okE_map ⟨_, e3, okE_some p⟩)
theorem okS_fld (h : okE (e ρ) fun w ρ => okW (fz w ρ) fun x => ∃ fs, x.2[i]? = some (.io (.ins C fs)) ∧ fs.length < 1000 ∧ N (x.2.set i (.io (.ins C (putD f x.1 fs))))) : okS (sFldM C f i e ρ) N T L := okS_bind (h.mono fun w ρ h => okS_opt (h.elim fun x h => ⟨x, h.1, by
  obtain ⟨fs, e1, e2, p⟩ := h.2
  rw [e1]
  show okS ((insOf C (.ins C fs)).bind fun fs => if fs.length < 1000 then some (.nx (x.2.set i (.io (.ins C (putD f x.1 fs))))) else none) N T L
  rw [insOf_eq]
  show okS (if fs.length < 1000 then some (.nx (x.2.set i (.io (.ins C (putD f x.1 fs))))) else none) N T L
  rw [if_pos e2]
  exact ⟨_, rfl, p⟩⟩))
theorem okE_iu {P : ItM → List Sl → Prop} (h : okE (e ρ) fun w ρ => okW (lockW w ρ) fun x => okW (wD x.1) fun d => okW (itemsD d.u) fun ds => ds.length ≤ 90000 ∧ P ⟨ds, x.2.1⟩ x.2.2) : okE (mIU e ρ) P := okE_bind (h.mono fun w ρ h => by
  obtain ⟨x, e1, d, e2, ds, e3, h1, p⟩ := h
  refine okE_opt ⟨_, e1, okE_opt ⟨_, e2, okE_opt ⟨_, e3, ?_⟩⟩⟩
  dsimp only
  rw [if_pos h1]
  exact okE_some p)
theorem okE_enum {P : ItM → List Sl → Prop} (h : okE (es ρ) fun ws ρ => ∃ w, ws = [w] ∧ okW (lockW w ρ) fun x => ∃ ds, wD x.1 = some (.lst ds) ∧ ds.length ≤ 90000 ∧ P ⟨(List.range ds.length).zipWith (fun i d => .tup [.int (i : Nat), d]) ds, x.2.1⟩ x.2.2) : okE (mEnum es ρ) P := okE_bind (h.mono fun ws ρ h => by
  obtain ⟨w, rfl, x, e1, ds, e2, h1, p⟩ := h
  show okE ((lockW w ρ).bind fun x => (wD x.1).bind fun d => match d.u with
    | .lst ds => if ds.length ≤ 90000 then some (.ok ⟨(List.range ds.length).zipWith (fun i d => .tup [.int (i : Nat), d]) ds, x.2.1⟩ x.2.2) else none
    | _ => none) P
  refine okE_opt ⟨_, e1, okE_opt ⟨_, e2, ?_⟩⟩
  show okE (if ds.length ≤ 90000 then some (.ok ⟨(List.range ds.length).zipWith (fun i d => .tup [.int (i : Nat), d]) ds, x.2.1⟩ x.2.2) else none) P
  rw [if_pos h1]
  exact okE_some p)
theorem okE_zip {P : ItM → List Sl → Prop} (h : okE (es ρ) fun ws ρ => okW (fzs ws ρ) fun x => ∃ ds es, x.1 = [.lst ds, .lst es] ∧ ds.length ≤ 90000 ∧ P ⟨ds.zipWith (fun d e => .tup [d, e]) es, none⟩ x.2) : okE (mZip es ρ) P := okE_bind (h.mono fun ws ρ h => by
  obtain ⟨x, e1, ds, es, e2, h1, p⟩ := h
  refine okE_opt ⟨_, e1, ?_⟩
  dsimp only
  rw [e2]
  show okE (if ds.length ≤ 90000 then some (.ok ⟨ds.zipWith (fun d e => .tup [d, e]) es, none⟩ x.2) else none) P
  rw [if_pos h1]
  exact okE_some p)
theorem okE_strO {fs : List (Str × D)} {z : Str} (h : okE (es ρ) fun ws ρ' => ∃ d, ws = [.cl d] ∧ d.u = .ins C fs ∧ okF (m [.cl d]) fun w o => w = .cl (.str z) ∧ o.length = 1 ∧ P (.cl (.str z)) ρ') : okE (mStrO C m es ρ) P := okE_bind (h.mono fun ws ρ h => by
  obtain ⟨d, rfl, e1, w, o, e2, rfl, hl, p⟩ := h
  obtain ⟨w2, ρ2, e3, e4, e5⟩ := okT_run (okT_c (ds := [d]) (P := fun w ρ2 => w = .cl (.str z) ∧ ρ2 = ρ) ⟨_, _, e2, rfl, rfl⟩ fun w o e => by
    cases e2.symm.trans e
    exact hl)
  subst e4
  subst e5
  show okE ((insOf C d.u).bind fun _ => (callT [false] m [.cl d] ρ2).bind fun r => if chkS r = true then some r else none) P
  rw [e1, insOf_eq]
  have e3 : callT [false] m [.cl d] ρ2 = some (.ok (.cl (.str z)) ρ2) := e3
  show okE ((callT [false] m [.cl d] ρ2).bind fun r => if chkS r = true then some r else none) P
  rw [e3]
  exact okE_some p)
theorem okE_call1 (h : okE (es ρ) fun ws ρ' => ∃ d, ws = [.cl d] ∧ okF (m [.cl d]) fun w o => o.length = 1 ∧ P w ρ') : okE (callN [false] m es ρ) P := okE_call (h.mono fun ws ρ h => by
  obtain ⟨d, rfl, w, o, e, hl, p⟩ := h
  refine ⟨rfl, _, rfl, w, o, e, ρ, ?_, p⟩
  match o, hl with
  | [_], _ => rfl)
theorem okE_call2 (h : okE (es ρ) fun ws ρ' => ∃ d1 d2, ws = [.cl d1, .cl d2] ∧ okF (m [.cl d1, .cl d2]) fun w o => o.length = 2 ∧ P w ρ') : okE (callN [false, false] m es ρ) P := okE_call (h.mono fun ws ρ h => by
  obtain ⟨d1, d2, rfl, w, o, e, hl, p⟩ := h
  refine ⟨rfl, _, rfl, w, o, e, ρ, ?_, p⟩
  match o, hl with
  | [_, _], _ => rfl)
theorem okE_call3 (h : okE (es ρ) fun ws ρ' => ∃ d1 d2 d3, ws = [.cl d1, .cl d2, .cl d3] ∧ okF (m [.cl d1, .cl d2, .cl d3]) fun w o => o.length = 3 ∧ P w ρ') : okE (callN [false, false, false] m es ρ) P := okE_call (h.mono fun ws ρ h => by
  obtain ⟨d1, d2, d3, rfl, w, o, e, hl, p⟩ := h
  refine ⟨rfl, _, rfl, w, o, e, ρ, ?_, p⟩
  match o, hl with
  | [_, _, _], _ => rfl)
theorem okT1 {d : D} (h : okF (m [.cl d]) fun w o => o.length = 1 ∧ P w ρ) : okT [false] m [.cl d] ρ P := by
  obtain ⟨w, o, e, hl, p⟩ := h
  refine ⟨rfl, _, rfl, w, o, e, ρ, ?_, p⟩
  match o, hl with
  | [_], _ => rfl
theorem okT2 {d1 d2 : D} (h : okF (m [.cl d1, .cl d2]) fun w o => o.length = 2 ∧ P w ρ) : okT [false, false] m [.cl d1, .cl d2] ρ P := by
  obtain ⟨w, o, e, hl, p⟩ := h
  refine ⟨rfl, _, rfl, w, o, e, ρ, ?_, p⟩
  match o, hl with
  | [_, _], _ => rfl
theorem okG_tup2 {g1 g2 : Tg} {x y : D} (h : okG (g1 (.cl x) ρ) fun ρ => okG (g2 (.cl y) ρ) N) : okG (gTupM 2 (gsCons g1 (gsCons g2 gsNil)) (.cl (.tup [x, y])) ρ) N := by
  obtain ⟨ρ1, e1, ρ2, e2, p⟩ := h
  refine ⟨ρ2, ?_, p⟩
  show ((g1 (.cl x) ρ).bind fun ρ => (g2 (.cl y) ρ).bind fun ρ => some ρ) = _
  rw [e1]
  show ((g2 (.cl y) ρ1).bind fun ρ => some ρ) = _
  rw [e2]
  rfl
theorem enum_at {α β : Type} {f : Nat → α → β} {ds : List α} {j : Nat} {d : β} (h : ((List.range ds.length).zipWith f ds)[j]? = some d) : ∃ x, ds[j]? = some x ∧ d = f j x := by
  obtain ⟨hj, e⟩ := List.getElem?_eq_some_iff.mp h
  rw [List.length_zipWith, List.length_range, Nat.min_self] at hj
  rw [List.getElem_zipWith, List.getElem_range] at e
  exact ⟨ds[j], List.getElem?_eq_getElem hj, e.symm⟩
theorem zip_at {α β γ : Type} {f : α → β → γ} {xs : List α} {ys : List β} {j : Nat} {d : γ} (h : (xs.zipWith f ys)[j]? = some d) : ∃ x y, xs[j]? = some x ∧ ys[j]? = some y ∧ d = f x y := by
  obtain ⟨hj, e⟩ := List.getElem?_eq_some_iff.mp h
  rw [List.length_zipWith] at hj
  have h1 : j < xs.length := by omega
  have h2 : j < ys.length := by omega
  rw [List.getElem_zipWith] at e
  exact ⟨xs[j], ys[j], List.getElem?_eq_getElem h1, List.getElem?_eq_getElem h2, e.symm⟩
theorem nodup_take {α : Type} {xs : List α} (hn : xs.Nodup) {j : Nat} {z : α} (h : xs[j]? = some z) : z ∉ xs.take j := by
  intro hm
  obtain ⟨hj, e⟩ := List.getElem?_eq_some_iff.mp h
  obtain ⟨i, hi, e2⟩ := List.getElem_of_mem hm
  rw [List.length_take] at hi
  rw [List.getElem_take] at e2
  unfold List.Nodup at hn
  rw [List.pairwise_iff_getElem] at hn
  exact hn i j (by omega) hj (by omega) (e2.trans e.symm)
theorem strs_at {zs : List Str} {j : Nat} {d : D} (h : (LS zs)[j]? = some d) : ∃ z, zs[j]? = some z ∧ d = .str z := by
  rw [List.getElem?_map] at h
  cases e : zs[j]? with
  | none => rw [e] at h; cases h
  | some z =>
    rw [e] at h
    cases h
    exact ⟨z, rfl, rfl⟩
end
end PM

/-! PW7: _law_drawn_shape, for all laws that have it. -/
namespace PM
open PySem PySem.Spec PyProof.Rows L2 SL
def spD : Option Str → D
  | none => .non
  | some z => .str z
def drawnM (tk mx : Fnm) : MS := (sSeq (sAsg (mLc (mIU (callN [true, false] mx (mCons (mVar 0) (mCons (mFr (mVar 1)) mNil)))) (gSetC 5) (mTest (mOp dEq (callN [true, false] tk (mCons (mVar 0) (mCons (mFr (mC (.int 2))) mNil))) (mC (.int 0)))) (mVar 5) [5]) (gSetC 2))
    (sSeq (sAsg (mLc (mIU (mVar 1)) (gSetC 5) (mTest (mOp dNi (mVar 5) (mVar 2))) (mVar 5) [5]) (gSetC 3))
    (sSeq (sAsg (mIf (mAnd (mTest (mOp dNe (mVar 3) (mLst mNil))) (mTest (mOp dEq (callN [true, false] tk (mCons (mVar 0) (mCons (mFr (mC (.int 2))) mNil))) (mC (.int 0))))) (mOp dIx (mVar 3) (callN [true, false] tk (mCons (mVar 0) (mCons (mFr (mCB dLen (mCons (mVar 3) mNil))) mNil)))) (mC .non)) (gSetC 4))
    (sRet (mTup (mCons (mVar 2) (mCons (mVar 4) mNil)))))))
structure Drawn (cs fx : List Str) (sp : Option Str) : Prop where
  nd : fx.Nodup
  sub : ∀ z ∈ fx, z ∈ cs
  sp : ∀ z, sp = some z → z ∈ cs ∧ z ∉ fx
section
variable {ρ as : List Sl} {P : W → List Sl → Prop} {A B : Int} {n : Nat} {ds : List D} {cs : List Str}
local macro_rules | `(tactic| walk_at "p1") => `(tactic| first
  | with_reducible refine PM.okS_seq ?_ | with_reducible refine PM.okS_next ?_ | with_reducible refine PM.okS_asg ?_ | with_reducible refine PM.okS_ret ?_ | with_reducible refine PM.okS_drop ?_ | with_reducible refine PM.okS_aug ?_ | with_reducible refine PM.okS_cnt ?_
  | with_reducible refine PM.okE_op ?_ | with_reducible refine PM.okE_cb ?_ | with_reducible refine PM.okE_cons ?_ | with_reducible refine PM.okE_nil ?_ | with_reducible refine PM.okB_not ?_ | with_reducible refine PM.okE_c ?_
  | ((with_reducible refine' PM.okE_var ?hv ?_); (case hv => rfl)) | ((with_reducible refine' PM.okE_frv ?hv ?_); (case hv => rfl)) | with_reducible refine PM.okE_frc ?_ | with_reducible refine PM.okE_fr ?_
  | with_reducible refine PM.w_fz1 ?_ | with_reducible refine PM.w_fz2 ?_ | with_reducible refine PM.w_fz3 ?_
  | ((with_reducible refine' PM.okW_deref ?hv ?_); (case hv => rfl)) | ((with_reducible refine' PM.okW_derefs ?hv ?_); (case hv => rfl)) | ((with_reducible refine' PM.okW_fzs ?hv ?_); (case hv => rfl)) | ((with_reducible refine' PM.okW_fz ?hv ?_); (case hv => rfl))
  | with_reducible refine PM.w_add ?_ | with_reducible refine PM.w_sub ?_ | with_reducible refine PM.w_lt ?_ | with_reducible refine PM.w_le ?_ | with_reducible refine PM.w_gt ?_ | with_reducible refine PM.w_ge ?_ | with_reducible refine PM.w_addI ?_
  | with_reducible refine PM.w_mod (by omega) ?_ | with_reducible refine PM.w_div (by omega) (by rw [PM.big_eq]; omega) ?_ | with_reducible refine PM.w_mul (by rw [PM.big_eq]; omega) (by rw [PM.big_eq]; omega) (by rw [PM.big_eq]; omega) (by rw [PM.big_eq]; omega) ?_ | with_reducible refine PM.w_sq (by omega) (by omega) ?_
  | with_reducible refine PM.w_max2 ?_ | with_reducible refine PM.w_min2 ?_ | with_reducible refine PM.w_lenL ?_ | with_reducible refine PM.w_lenT ?_ | with_reducible refine PM.w_lenC ?_ | with_reducible refine PM.w_listL ?_ | with_reducible refine PM.w_listT ?_
  | ((with_reducible refine PM.okG_setC rfl ?_); (try dsimp only [List.set])) | ((with_reducible refine PM.okG_setCf rfl ?_); (try dsimp only [List.set])) | ((with_reducible refine PM.okG_setO rfl ?_); (try dsimp only [List.set])) | ((with_reducible refine PM.okG_setOc rfl ?_); (try dsimp only [List.set]))
  | ((with_reducible refine' PM.okW_ix ?hv ?_); (case hv => rfl))
  | ((with_reducible refine' PM.okW_ret ?hv ?_); (case hv => rfl)) | ((with_reducible refine' PM.okW_outs ?hv ?_); (case hv => rfl))
  | ((with_reducible refine' PM.okB_test ⟨_, ?hv, ?_⟩); (case hv => rfl)))
local macro_rules | `(tactic| walk_at "p") => `(tactic| repeat walk_at "p1")
theorem perm_strs {ys : List D} {cs : List Str} (h : ys.Perm (LS cs)) : ∃ zs, ys = LS zs ∧ zs.Perm cs :=
  perm_map (f := D.str) (fun d => match d with | .str z => z | _ => Str.empty) (fun _ => rfl) h
theorem drawn_ok (hA : 0 ≤ A) (hA2 : A ≤ 1000000) (hB : 0 ≤ B) (hB2 : B ≤ 1000000) (hb : BoxL n ds) (hn : n ≤ 80000000) (hc : cs.Nodup) (hl : cs.length ≤ 5) (ha : Ascs cs) (q : ∀ fx sp ds', Drawn cs fx sp → BoxL (n + 20) ds' → P (.cl (.tup [.lst (LS fx), spD sp])) [.io (.lst ds'), .cl (.lst (LS cs))]) :
    okF (fnM 2 4 (drawnM (fnM 2 3 (takeM A B)) (fnM 2 2 (mixedM (fnM 2 3 (takeM A B))))) [.io (.lst ds), .cl (.lst (LS cs))]) P := by
  refine okF_fn rfl ?_
  show okS (drawnM (fnM 2 3 (takeM A B)) (fnM 2 2 (mixedM (fnM 2 3 (takeM A B)))) [.io (.lst ds), .cl (.lst (LS cs)), .un, .un, .un, .un]) _ _ _
  unfold drawnM
  have hcl : (LS cs).length = cs.length := List.length_map ..
  refine okS_seq (okS_asg (okE_lc (okE_iu (okE_mixed (xs := LS cs) rfl hA hA2 hB hB2 rfl rfl hb (by omega) (okE_eq rfl ⟨rfl, rfl⟩) (by omega) fun ys d1 hp hb => ?_))))
  dsimp only [List.set, slPut]
  rw [hcl] at hb
  obtain ⟨zs, e, hp2⟩ := perm_strs hp
  subst e
  clear hp
  have hz := hp2.length_eq
  have hzl : (LS zs).length = zs.length := List.length_map ..
  refine okW_eq rfl (okW_eq rfl (okW_eq rfl ⟨by omega, rfl, ?_⟩))
  refine okE_loopC (fun j ρ acc => ∃ d2 fx, ρ = [.io (.lst d2), .cl (.lst (LS cs)), .un, .un, .un, .un] ∧ acc = LS fx ∧ fx.Sublist (zs.take j) ∧ BoxL (n + cs.length + j) d2) _ 0 ⟨d1, [], rfl, rfl, List.nil_sublist _, hb⟩ ?_ ?_
  · rintro j d ρ acc hj ⟨d2, fx, rfl, rfl, hs, hb⟩
    obtain ⟨z, hz2, rfl⟩ := strs_at hj
    obtain ⟨hj2, e⟩ := List.getElem?_eq_some_iff.mp hz2
    rw [Nat.zero_add] at hs hb ⊢
    have e2 : zs.take (j + 1) = zs.take j ++ [z] := by rw [List.take_succ_eq_append_getElem hj2, e]
    refine okG_setC rfl ?_
    dsimp only [List.set]
    refine okB_test (okE_op (okE_take (m := 2) rfl hA hA2 hB hB2 rfl rfl hb (by omega) (okE_eq rfl ⟨rfl, rfl⟩) (by omega) (by omega) fun v d3 v0 v1 hb => ?_))
    dsimp only [List.set, slPut]
    refine okE_c (okW_eq rfl (okW_eq rfl (w_eqi ⟨_, rfl, fun _ => ?_, fun _ => ?_⟩)))
    · refine okE_var rfl (okW_eq rfl (okG_eq rfl ⟨d3, fx ++ [z], rfl, ?_, ?_, hb⟩))
      · show LS fx ++ [D.str z] = (fx ++ [z]).map D.str
        rw [List.map_append]
        rfl
      · rw [e2]
        exact hs.append (List.Sublist.refl _)
    · refine okG_eq rfl ⟨d3, fx, rfl, rfl, ?_, hb⟩
      rw [e2]
      exact hs.trans (List.sublist_append_left _ _)
  rintro ρ acc ⟨d2, fx, rfl, rfl, hs, hb⟩
  rw [hzl, Nat.zero_add] at hb
  rw [hzl, Nat.zero_add, List.take_of_length_le (Nat.le_refl _)] at hs
  have f1 : fx.Nodup := (hp2.nodup_iff.mpr hc).sublist hs
  have f2 : ∀ z ∈ fx, z ∈ cs := fun z hz => hp2.mem_iff.mp (hs.subset hz)
  refine okG_eq rfl (okG_setCf rfl ?_)
  dsimp only [List.set]
  refine okS_seq (okS_asg (okE_lc (okE_iu (okE_var rfl (okW_eq rfl (okW_eq rfl (okW_eq rfl ⟨by omega, rfl, ?_⟩)))))))
  refine okE_loopC (fun j ρ acc => ρ = [.io (.lst d2), .cl (.lst (LS cs)), .cl (.lst (LS fx)), .un, .un, .un] ∧ acc = LS ((cs.take j).filter fun z => !decide (z ∈ fx))) _ 0 ⟨rfl, rfl⟩ ?_ ?_
  · rintro j d ρ acc hj ⟨rfl, rfl⟩
    obtain ⟨z, hz2, rfl⟩ := strs_at hj
    obtain ⟨hj2, e⟩ := List.getElem?_eq_some_iff.mp hz2
    rw [Nat.zero_add]
    have e2 : cs.take (j + 1) = cs.take j ++ [z] := by rw [List.take_succ_eq_append_getElem hj2, e]
    refine okG_setC rfl ?_
    dsimp only [List.set]
    refine okB_test (okE_op (okE_var rfl (okE_var rfl (okW_eq rfl (okW_eq rfl (w_niL ⟨_, rfl, fun q => ?_, fun q => ?_⟩))))))
    · refine okE_var rfl (okW_eq rfl (okG_eq rfl ⟨rfl, ?_⟩))
      rw [e2, List.filter_append, List.filter_cons, q]
      show LS ((cs.take j).filter fun z => !decide (z ∈ fx)) ++ [D.str z] = (((cs.take j).filter fun z => !decide (z ∈ fx)) ++ [z]).map D.str
      rw [List.map_append]
      rfl
    · refine okG_eq rfl ⟨rfl, ?_⟩
      rw [e2, List.filter_append, List.filter_cons, q]
      simp
  rintro ρ acc ⟨rfl, rfl⟩
  rw [hcl, Nat.zero_add, List.take_of_length_le (Nat.le_refl _)]
  have hr : ∀ z ∈ cs.filter (fun z => !decide (z ∈ fx)), z ∈ cs ∧ z ∉ fx := fun z hz => by simpa using hz
  have hrl : (cs.filter (fun z => !decide (z ∈ fx))).length ≤ 5 := Nat.le_trans (List.length_filter_le ..) hl
  generalize cs.filter (fun z => !decide (z ∈ fx)) = rs at hr hrl ⊢
  have hrs : (LS rs).length = rs.length := List.length_map ..
  refine okG_eq rfl (okG_setCf rfl ?_)
  dsimp only [List.set]
  have fin : ∀ (sp : Option Str) d3, (∀ z, sp = some z → z ∈ cs ∧ z ∉ fx) → BoxL (n + 20) d3 → okS (sRet (mTup (mCons (mVar 2) (mCons (mVar 4) mNil))) [.io (.lst d3), .cl (.lst (LS cs)), .cl (.lst (LS fx)), .cl (.lst (LS rs)), .cl (spD sp), .un]) (fun ρ => okW (outsOf [.io (.lst ds), .cl (.lst (LS cs))] ρ) fun o => P (.cl .non) o) (fun w ρ => okW (retW w ρ) fun w => okW (outsOf [.io (.lst ds), .cl (.lst (LS cs))] ρ) fun o => P w o) (fun _ _ => False) := by
    intro sp d3 hsp hb
    refine okS_ret (okE_tup ?_)
    walk_at "p"
    refine ⟨Nat.le_of_ble_eq_true rfl, ?_⟩
    walk_at "p"
    exact q fx sp d3 ⟨f1, f2, hsp⟩ hb
  refine okS_seq (okS_asg (okE_if (okB_and (okB_test (okE_op (okE_var rfl (okE_eq (w := .fr (LS [])) rfl ?_)))))))
  have hra : Ascs rs := fun z hz => ha z (hr z hz).1
  refine okW_eq rfl (okW_eq rfl (w_ne (dEqB_L (ws := []) hra (fun z hz => by cases hz)) ⟨_, rfl, fun q1 => ?_, fun q1 => ?_⟩))
  · have q1 : rs ≠ [] := by simpa using q1
    have q2 : 0 < rs.length := List.length_pos_iff.mpr q1
    refine okB_test (okE_op (okE_take (m := 2) rfl hA hA2 hB hB2 rfl rfl hb (by omega) (okE_eq rfl ⟨rfl, rfl⟩) (by omega) (by omega) fun v d3 v0 v1 hb => ?_))
    dsimp only [List.set, slPut]
    refine okE_c (okW_eq rfl (okW_eq rfl (w_eqi ⟨_, rfl, fun _ => ?_, fun _ => ?_⟩)))
    · refine okE_op (okE_var rfl (okE_take (m := rs.length) rfl hA hA2 hB hB2 rfl rfl hb (by omega) (okE_cb (okE_cons (okE_var rfl (okE_nil (okW_eq rfl (w_lenL ⟨rfl, by rw [hrs]⟩)))))) (by omega) (by omega) fun v d4 v0 v1 hb => ?_))
      dsimp only [List.set, slPut]
      obtain ⟨v, rfl⟩ := Int.eq_ofNat_of_zero_le v0
      have hv : v < rs.length := by omega
      refine okW_eq rfl (okW_eq rfl ?_)
      have e : (LS rs)[v]? = some (.str (rs[v]'hv)) := by
        rw [List.getElem?_map, List.getElem?_eq_getElem hv]
        rfl
      refine okW_eq (w := .cl (.str (rs[v]'hv))) (by
        show (atI (LS rs) (v : Int)).map W.cl = _
        rw [atI_nat e]
        rfl) (okG_setC rfl ?_)
      dsimp only [List.set]
      exact fin (some (rs[v]'hv)) d4 (fun z hz => by
        cases hz
        exact hr _ (List.getElem_mem hv)) (hb.mono (by omega))
    · refine okE_c (okG_setC rfl ?_)
      dsimp only [List.set]
      exact fin none d3 (fun z hz => by cases hz) (hb.mono (by omega))
  · refine ⟨(fun q => by cases q), fun _ => okE_c (okG_setC rfl ?_)⟩
    dsimp only [List.set]
    exact fin none d2 (fun z hz => by cases hz) (hb.mono (by omega))
end
end PM

/-! the plain runs of the defs of searchorders_k12_shapes_served -/
namespace K12
open PySem PySem.Spec PyProof.Rows L2 SL PM
def b_is_name : MS := (sSeq (sIf (mOr (mNot (mTru (mCB (dIsi (.ty "str") [(.b "NoneType", false), (.b "bool", false), (.b "int", false), (.b "str", true), (.b "list", false), (.b "tuple", false), (.b "dict", false), (.own "Shape", false), (.own "Order", false)]) (mCons (mVar 0) (mCons (mC (.ty "str")) mNil))))) (mNot (mTest (mChain dLt dLe (mC (.int 0)) (mCB dLen (mCons (mVar 0) mNil)) (mC (.int (8))))))) (sRet (mC (.bl false))) sNext)
    (sRet (mCB dAll (mCons (mLc (mIU (mVar 0)) (gSetC 1) mYes (mOp dIn (mVar 1) (mC (.str "abcdefghijklmnopqrstuvwxyz"))) [1]) mNil))))
def m_is_name : Fnm := fnM 1 1 b_is_name
def b_is_list : MS := (sRet (mCB (dIsiT [.ty "list", .ty "tuple"] [(.b "NoneType", false), (.b "bool", false), (.b "int", false), (.b "str", false), (.b "list", true), (.b "tuple", true), (.b "dict", false), (.own "Shape", false), (.own "Order", false)]) (mCons (mVar 0) (mCons (mTup (mCons (mC (.ty "list")) (mCons (mC (.ty "tuple")) mNil))) mNil))))
def m_is_list : Fnm := fnM 1 0 b_is_list
def b_Shape_D_init_D : MS := (sSeq (sIf (mOr (mNot (mTru (callN [false] m_is_list (mCons (mFr (mVar 1)) mNil)))) (mTest (mOp dGt (mCB dLen (mCons (mVar 1) mNil)) (mC (.int (5)))))) sNever sNext)
    (sSeq (sFor (mEnum (mCons (mVar 1) mNil)) (gTupM 2 (gsCons (gSetC 3) (gsCons (gSetC 4) gsNil))) (sSeq (sIf (mNot (mTru (callN [false] m_is_name (mCons (mFr (mVar 4)) mNil)))) sNever sNext)
    (sIf (mTest (mOp dIn (mVar 4) (mSl (mVar 1) mNoPart (mPart (mVar 3))))) sNever sNext)))
    (sSeq (sIf (mAnd (mTest (mOp dIsnt (mVar 2) (mC .non))) (mNot (mTru (callN [false] m_is_name (mCons (mFr (mVar 2)) mNil))))) sNever sNext)
    (sSeq (sIf (mTest (mOp dIn (mVar 2) (mVar 1))) sNever sNext)
    (sSeq (sIf (mAnd (mTest (mOp dIsnt (mVar 2) (mC .non))) (mTest (mOp dEq (mCB dLen (mCons (mVar 1) mNil)) (mC (.int (5)))))) sNever sNext)
    (sSeq (sFldM "Shape" "fixed_columns" 0 (mCB dSrt (mCons (mVar 1) mNil)))
    (sFldM "Shape" "span_column" 0 (mVar 2))))))))
def m_Shape_D_init_D : Fnm := fnM 3 2 b_Shape_D_init_D
def b_Shape_span : MS := (sRet (mFld "Shape" "span_column" (mVar 0)))
def m_Shape_span : Fnm := fnM 1 0 b_Shape_span
def b_Shape_fixed : MS := (sRet (mCB dList (mCons (mFld "Shape" "fixed_columns" (mVar 0)) mNil)))
def m_Shape_fixed : Fnm := fnM 1 0 b_Shape_fixed
def b_Shape_columns : MS := (sRet (mCB dSrt (mCons (mOp dAdd (mFld "Shape" "fixed_columns" (mVar 0)) (mIf (mTest (mOp dIs (mFld "Shape" "span_column" (mVar 0)) (mC .non))) (mLst mNil) (mLst (mCons (mFld "Shape" "span_column" (mVar 0)) mNil)))) mNil)))
def m_Shape_columns : Fnm := fnM 1 0 b_Shape_columns
def b_Shape_D_eq_D : MS := (sSeq (sIf (mNot (mTru (mCB (dIsi (.own "Shape") [(.b "NoneType", false), (.b "bool", false), (.b "int", false), (.b "str", false), (.b "list", false), (.b "tuple", false), (.b "dict", false), (.own "Shape", true), (.own "Order", false)]) (mCons (mVar 1) (mCons (mC (.glo "Shape")) mNil))))) (sRet (mC (.bl false))) sNext)
    (sRet (mAndV (mOp dEq (mFld "Shape" "fixed_columns" (mVar 0)) (mFld "Shape" "fixed_columns" (mVar 1))) (mOp dEq (mFld "Shape" "span_column" (mVar 0)) (mFld "Shape" "span_column" (mVar 1))))))
def m_Shape_D_eq_D : Fnm := fnM 2 0 b_Shape_D_eq_D
def b_Shape_D_str_D : MS := (sSeq (sAsg (mIf (mTest (mOp dNe (mFld "Shape" "fixed_columns" (mVar 0)) (mLst mNil))) (mBS fJoin (mC (.str "+")) (mCons (mFld "Shape" "fixed_columns" (mVar 0)) mNil)) (mC (.str "-"))) (gSetC 1))
    (sSeq (sAsg (mIf (mTest (mOp dIs (mFld "Shape" "span_column" (mVar 0)) (mC .non))) (mC (.str "")) (mJs [(mC (.str ":")), (mFmt (mFld "Shape" "span_column" (mVar 0)))] Str.empty)) (gSetC 2))
    (sRet (mJs [(mFmt (mVar 1)), (mFmt (mVar 2))] Str.empty))))
def m_Shape_D_str_D : Fnm := fnM 1 2 b_Shape_D_str_D
def b_checked_columns : MS := (sSeq (sIf (mOr (mNot (mTru (callN [false] m_is_list (mCons (mFr (mVar 0)) mNil)))) (mNot (mTest (mChain dLe dLe (mC (.int 1)) (mCB dLen (mCons (mVar 0) mNil)) (mC (.int (5))))))) sNever sNext)
    (sSeq (sAsg (mLst mNil) (gSet 1))
    (sSeq (sFor (mIU (mVar 0)) (gSetC 2) (sSeq (sIf (mNot (mTru (callN [false] m_is_name (mCons (mFr (mVar 2)) mNil)))) sNever sNext)
    (sSeq (sIf (mTest (mOp dIn (mVar 2) (mVar 1))) sNever sNext)
    (sDrop (mMut fAppend 1 (mCons (mVar 2) mNil))))))
    (sRet (mVar 1)))))
def m_checked_columns : Fnm := fnM 1 2 b_checked_columns
def b_need_known : MS := (sSeq (sIf (mNot (mTru (mCB (dIsi (.own "Shape") [(.b "NoneType", false), (.b "bool", false), (.b "int", false), (.b "str", false), (.b "list", false), (.b "tuple", false), (.b "dict", false), (.own "Shape", true), (.own "Order", false)]) (mCons (mVar 1) (mCons (mC (.glo "Shape")) mNil))))) sNever sNext)
    (sFor (mIU (mMeth "Shape" "columns" [false] m_Shape_columns (mFr (mVar 1)) mNil)) (gSetC 2) (sIf (mTest (mOp dNi (mVar 2) (mVar 0))) sNever sNext)))
def m_need_known : Fnm := fnM 2 1 b_need_known
def b_need_all_known : MS := (sSeq (sIf (mOr (mNot (mTru (callN [false] m_is_list (mCons (mFr (mVar 1)) mNil)))) (mTest (mOp dGt (mCB dLen (mCons (mVar 1) mNil)) (mC (.int (12)))))) sNever sNext)
    (sFor (mIU (mVar 1)) (gSetC 2) (sDrop (callN [false, false] m_need_known (mCons (mFr (mVar 0)) (mCons (mFr (mVar 2)) mNil))))))
def m_need_all_known : Fnm := fnM 2 1 b_need_all_known
def b_Order_D_init_D : MS := (sFldM "Order" "own_columns" 0 (callN [false] m_checked_columns (mCons (mFr (mVar 1)) mNil)))
def m_Order_D_init_D : Fnm := fnM 2 0 b_Order_D_init_D
def b_Order_columns : MS := (sRet (mCB dList (mCons (mFld "Order" "own_columns" (mVar 0)) mNil)))
def m_Order_columns : Fnm := fnM 1 0 b_Order_columns
def b_Order_reach : MS := (sSeq (sDrop (callN [false, false] m_need_known (mCons (mFr (mFld "Order" "own_columns" (mVar 0))) (mCons (mFr (mVar 1)) mNil))))
    (sSeq (sPar false false 2 3 (mCons (mMeth "Shape" "fixed" [false] m_Shape_fixed (mFr (mVar 1)) mNil) (mCons (mC (.int 0)) mNil)))
    (sSeq (sWhile (mAnd (mTest (mOp dLt (mVar 3) (mCB dLen (mCons (mFld "Order" "own_columns" (mVar 0)) mNil)))) (mTest (mOp dIn (mOp dIx (mFld "Order" "own_columns" (mVar 0)) (mVar 3)) (mVar 2)))) (sAug dAddI 3 (mC (.int 1))) 20)
    (sSeq (sAsg (mAndV (mOp dIsnt (mProp "Shape" [false] m_Shape_span (mFr (mVar 1))) (mC .non)) (mOp dEq (mSl (mFld "Order" "own_columns" (mVar 0)) (mPart (mVar 3)) (mPart (mOp dAdd (mVar 3) (mC (.int 1))))) (mLst (mCons (mProp "Shape" [false] m_Shape_span (mFr (mVar 1))) mNil)))) (gSetC 4))
    (sRet (mTup (mCons (mVar 3) (mCons (mVar 4) mNil))))))))
def m_Order_reach : Fnm := fnM 2 3 b_Order_reach
def b_Order_serves : MS := (sSeq (sAsg (mMeth "Order" "reach" [false, false] m_Order_reach (mFr (mVar 0)) (mCons (mFr (mVar 1)) mNil)) (gTupM 2 (gsCons (gSetC 2) (gsCons (gSetC 3) gsNil))))
    (sRet (mAndV (mOp dEq (mVar 2) (mCB dLen (mCons (mMeth "Shape" "fixed" [false] m_Shape_fixed (mFr (mVar 1)) mNil) mNil))) (mOrV (mOp dIs (mProp "Shape" [false] m_Shape_span (mFr (mVar 1))) (mC .non)) (mVar 3)))))
def m_Order_serves : Fnm := fnM 2 2 b_Order_serves
def b_need_order : MS := (sIf (mNot (mTru (mCB (dIsi (.own "Order") [(.b "NoneType", false), (.b "bool", false), (.b "int", false), (.b "str", false), (.b "list", false), (.b "tuple", false), (.b "dict", false), (.own "Shape", false), (.own "Order", true)]) (mCons (mVar 0) (mCons (mC (.glo "Order")) mNil))))) sNever sNext)
def m_need_order : Fnm := fnM 1 0 b_need_order
def b_served_shapes : MS := (sSeq (sDrop (callN [false] m_need_order (mCons (mFr (mVar 0)) mNil)))
    (sSeq (sDrop (callN [false, false] m_need_all_known (mCons (mFr (mMeth "Order" "columns" [false] m_Order_columns (mFr (mVar 0)) mNil)) (mCons (mFr (mVar 1)) mNil))))
    (sRet (mLc (mIU (mVar 1)) (gSetC 2) (mTru (mMeth "Order" "serves" [false, false] m_Order_serves (mFr (mVar 0)) (mCons (mFr (mVar 2)) mNil))) (mVar 2) [2]))))
def m_served_shapes : Fnm := fnM 2 1 b_served_shapes
def b_l_law_cell : MS := (sSeq (sIf (mTest (mOp dLt (mVar 1) (mCB dLen (mCons (mVar 0) mNil)))) (sRet (mOp dIx (mVar 0) (mVar 1))) sNext)
    (sRet (mOp dAdd (mOp dMul (mC (.int 6029)) (mVar 1)) (mC (.int 41)))))
def m_l_law_cell : Fnm := fnM 2 0 b_l_law_cell
def b_l_law_box : MS := (sRet (mLst (mCons (mCB dMax2 (mCons (mC (.int 0)) (mCons (mOp dSub (mVar 0) (mOp dPow (mC (.int 10)) (mC (.int 18)))) mNil))) (mCons (mOp dMod (mVar 0) (mC (.int 2147483629))) (mCons (mC (.int 0)) mNil)))))
def m_l_law_box : Fnm := fnM 1 0 b_l_law_box
def b_l_law_take : MS := (sSeq (sIf (mTest (mOp dGt (mOp dIx (mVar 0) (mC (.int 0))) (mC (.int 0)))) (sSeq (sAsg (mOp dMod (mOp dIx (mVar 0) (mC (.int 0))) (mVar 1)) (gSetC 4))
    (sSeq (sAsg (mOp dDiv (mOp dIx (mVar 0) (mC (.int 0))) (mVar 1)) (gSubL 0 (mC (.int 0))))
    (sRet (mVar 4)))) sNext)
    (sSeq (sAsg (mOp dAdd (mOp dIx (mVar 0) (mC (.int 2))) (mC (.int 1))) (gSubL 0 (mC (.int 2))))
    (sSeq (sAsg (mOp dMod (mOp dAdd (mOp dAdd (mOp dMul (mOp dIx (mVar 0) (mC (.int 1))) (mC (.int 48271))) (mOp dMul (mC (.int 6029)) (mOp dIx (mVar 0) (mC (.int 2))))) (mC (.int 41))) (mC (.int 2147483647))) (gSetC 2))
    (sSeq (sAsg (mOp dMod (mOp dPow (mOp dAdd (mVar 2) (mOp dMul (mC (.int 15485863)) (mOp dIx (mVar 0) (mC (.int 2))))) (mC (.int 2))) (mC (.int 2147483629))) (gSetC 3))
    (sRet (mOp dMod (mOp dAdd (mOp dDiv (mOp dMod (mOp dPow (mVar 3) (mC (.int 2))) (mC (.int 2147483587))) (mC (.int 16))) (mOp dDiv (mVar 2) (mC (.int 64)))) (mVar 1)))))))
def m_l_law_take : Fnm := fnM 2 3 b_l_law_take
def b_l_law_mixed : MS := (sSeq (sAsg (mCB dList (mCons (mVar 1) mNil)) (gSet 2))
    (sRet (mLc (mRng1 (mCons (mCB dLen (mCons (mVar 1) mNil)) mNil)) (gSetC 3) mYes (mMut fPopAt 2 (mCons (callN [true, false] m_l_law_take (mCons (mVar 0) (mCons (mFr (mCB dLen (mCons (mVar 2) mNil))) mNil))) mNil)) [3])))
def m_l_law_mixed : Fnm := fnM 2 2 b_l_law_mixed
def b_l_law_columns : MS := (sSeq (sAsg (mC (.str "abcdefghijklmnopqrstuvwxyz")) (gSetC 2))
    (sSeq (sAsg (mTup (mCons (callN [true, false] m_l_law_take (mCons (mVar 0) (mCons (mFr (mC (.int 4))) mNil))) (mCons (callN [true, false] m_l_law_take (mCons (mVar 0) (mCons (mFr (mC (.int 26))) mNil))) mNil))) (gTupM 2 (gsCons (gSetC 3) (gsCons (gSetC 4) gsNil))))
    (sSeq (sAsg (mBS fJoin (mC (.str "")) (mCons (mLc (mRng1 (mCons (mC (.int 8)) mNil)) (gSetC 9) mYes (mOp dIx (mVar 2) (callN [true, false] m_l_law_take (mCons (mVar 0) (mCons (mFr (mC (.int 26))) mNil)))) [9]) mNil)) (gSetC 5))
    (sSeq (sAsg (callN [true, false] m_l_law_take (mCons (mVar 0) (mCons (mFr (mC (.int 8))) mNil))) (gSetC 6))
    (sSeq (sAsg (mLc (mRng1 (mCons (mVar 1) mNil)) (gSetC 9) mYes (mOp dAdd (mOp dAdd (mSl (mVar 5) mNoPart (mPart (mVar 6))) (mOp dIx (mVar 2) (mOp dMod (mOp dAdd (mVar 4) (mOp dMul (mC (.int 11)) (mVar 9))) (mC (.int 26))))) (mSl (mVar 5) (mPart (mOp dAdd (mVar 6) (mC (.int 1)))) mNoPart)) [9]) (gSetC 7))
    (sSeq (sIf (mTest (mOp dEq (mVar 3) (mC (.int 0)))) (sAsg (mLc (mRng1 (mCons (mVar 1) mNil)) (gSetC 9) mYes (mOp dIx (mVar 2) (mOp dMod (mOp dAdd (mVar 4) (mOp dMul (mC (.int 3)) (mVar 9))) (mC (.int 26)))) [9]) (gSetC 7)) sNext)
    (sSeq (sIf (mTest (mOp dEq (mVar 3) (mC (.int 1)))) (sSeq (sAsg (callN [true, false] m_l_law_take (mCons (mVar 0) (mCons (mFr (mC (.int 4))) mNil))) (gSetC 8))
    (sAsg (mLc (mRng1 (mCons (mVar 1) mNil)) (gSetC 9) mYes (mSl (mVar 5) mNoPart (mPart (mOp dAdd (mOp dAdd (mVar 8) (mVar 9)) (mC (.int 1))))) [9]) (gSetC 7))) sNext)
    (sSeq (sIf (mTest (mOp dEq (mVar 3) (mC (.int 2)))) (sAsg (mLc (mRng1 (mCons (mVar 1) mNil)) (gSetC 9) mYes (mOp dAdd (mOp dIx (mVar 2) (mOp dMod (mOp dAdd (mVar 4) (mOp dMul (mC (.int 7)) (mVar 9))) (mC (.int 26)))) (mSl (mVar 5) mNoPart (mPart (callN [true, false] m_l_law_take (mCons (mVar 0) (mCons (mFr (mC (.int 8))) mNil)))))) [9]) (gSetC 7)) sNext)
    (sRet (callN [true, false] m_l_law_mixed (mCons (mVar 0) (mCons (mFr (mVar 7)) mNil))))))))))))
def m_l_law_columns : Fnm := fnM 2 8 b_l_law_columns
def b_l_law_drawn_shape : MS := (sSeq (sAsg (mLc (mIU (callN [true, false] m_l_law_mixed (mCons (mVar 0) (mCons (mFr (mVar 1)) mNil)))) (gSetC 5) (mTest (mOp dEq (callN [true, false] m_l_law_take (mCons (mVar 0) (mCons (mFr (mC (.int 2))) mNil))) (mC (.int 0)))) (mVar 5) [5]) (gSetC 2))
    (sSeq (sAsg (mLc (mIU (mVar 1)) (gSetC 5) (mTest (mOp dNi (mVar 5) (mVar 2))) (mVar 5) [5]) (gSetC 3))
    (sSeq (sAsg (mIf (mAnd (mTest (mOp dNe (mVar 3) (mLst mNil))) (mTest (mOp dEq (callN [true, false] m_l_law_take (mCons (mVar 0) (mCons (mFr (mC (.int 2))) mNil))) (mC (.int 0))))) (mOp dIx (mVar 3) (callN [true, false] m_l_law_take (mCons (mVar 0) (mCons (mFr (mCB dLen (mCons (mVar 3) mNil))) mNil)))) (mC .non)) (gSetC 4))
    (sRet (mTup (mCons (mVar 2) (mCons (mVar 4) mNil)))))))
def m_l_law_drawn_shape : Fnm := fnM 2 4 b_l_law_drawn_shape
def b_l_law_reach : MS := (sSeq (sAsg (mC (.int 0)) (gSetC 3))
    (sSeq (sFor (mIU (mVar 0)) (gSetC 4) (sSeq (sIf (mTest (mOp dNi (mVar 4) (mVar 1))) (sRet (mTup (mCons (mVar 3) (mCons (mOp dEq (mVar 4) (mVar 2)) mNil)))) sNext)
    (sAsg (mOp dAdd (mVar 3) (mC (.int 1))) (gSetC 3))))
    (sRet (mTup (mCons (mVar 3) (mCons (mC (.bl false)) mNil))))))
def m_l_law_reach : Fnm := fnM 3 2 b_l_law_reach
def b_l_law_serves : MS := (sSeq (sAsg (mOp dEq (mCB dSrt (mCons (mSl (mVar 0) mNoPart (mPart (mCB dLen (mCons (mVar 1) mNil)))) mNil)) (mCB dSrt (mCons (mVar 1) mNil))) (gSetC 3))
    (sRet (mAndV (mVar 3) (mOrV (mOp dIs (mVar 2) (mC .non)) (mOp dEq (mSl (mVar 0) (mPart (mCB dLen (mCons (mVar 1) mNil))) (mPart (mOp dAdd (mCB dLen (mCons (mVar 1) mNil)) (mC (.int 1))))) (mLst (mCons (mVar 2) mNil)))))))
def m_l_law_serves : Fnm := fnM 3 1 b_l_law_serves
def b_law : MS := (sSeq (sFor (mRng1 (mCons (mCB dMax2 (mCons (mC (.int 2)) (mCons (mCB dMin2 (mCons (mCB dLen (mCons (mVar 0) mNil)) (mCons (mC (.int 8)) mNil))) mNil))) mNil)) (gSetC 1) (sSeq (sAsg (callN [false] m_l_law_box (mCons (mFr (callN [false, false] m_l_law_cell (mCons (mFr (mVar 0)) (mCons (mFr (mVar 1)) mNil)))) mNil)) (gSet 2))
    (sSeq (sAsg (callN [true, false] m_l_law_columns (mCons (mVar 2) (mCons (mFr (mOp dAdd (mC (.int 1)) (callN [true, false] m_l_law_take (mCons (mVar 2) (mCons (mFr (mC (.int 5))) mNil))))) mNil))) (gSetC 3))
    (sSeq (sFg [6] (sAsg (mLc (mRng1 (mCons (callN [true, false] m_l_law_take (mCons (mVar 2) (mCons (mFr (mC (.int 13))) mNil))) mNil)) (gSetC 6) mYes (callN [true, false] m_l_law_drawn_shape (mCons (mVar 2) (mCons (mFr (mVar 3)) mNil))) [6]) (gSetC 4)))
    (sSeq (sAsg (mSl (mOp dAdd (mVar 4) (mSl (mVar 4) mNoPart (mPart (callN [true, false] m_l_law_take (mCons (mVar 2) (mCons (mFr (mC (.int 2))) mNil)))))) mNoPart (mPart (mC (.int 12)))) (gSetC 4))
    (sSeq (sFg [11, 12] (sAsg (mLc (mIU (mVar 4)) (gTupM 2 (gsCons (gSetC 11) (gsCons (gSetC 12) gsNil))) mYes (mMake "Shape" [false, false] m_Shape_D_init_D [] (mCons (mFr (mVar 11)) (mCons (mFr (mVar 12)) mNil))) [11, 12]) (gSetC 5)))
    (sFor (mRng1 (mCons (mC (.int 5)) mNil)) (gSetC 6) (sSeq (sAsg (callN [true, false] m_l_law_mixed (mCons (mVar 2) (mCons (mFr (mVar 3)) mNil))) (gSetC 7))
    (sSeq (sPar false false 8 9 (mCons (mMake "Order" [false] m_Order_D_init_D [] (mCons (mFr (mVar 7)) mNil)) (mCons (mCB dList (mCons (mVar 5) mNil)) mNil)))
    (sSeq (sAsg (mLst mNil) (gSetC 10))
    (sSeq (sFor (mZip (mCons (mVar 4) (mCons (mVar 5) mNil))) (gTupM 2 (gsCons (gTupM 2 (gsCons (gSetC 11) (gsCons (gSetC 12) gsNil))) (gsCons (gSetC 13) gsNil))) (sSeq (sIf (mTest (mOp dNe (mCB dRepr (mCons (mMeth "Order" "reach" [false, false] m_Order_reach (mFr (mVar 8)) (mCons (mFr (mVar 13)) mNil)) mNil)) (mCB dRepr (mCons (callN [false, false, false] m_l_law_reach (mCons (mFr (mVar 7)) (mCons (mFr (mVar 11)) (mCons (mFr (mVar 12)) mNil)))) mNil)))) (sRet (mC (.bl false))) sNext)
    (sSeq (sAsg (callN [false, false, false] m_l_law_serves (mCons (mFr (mVar 7)) (mCons (mFr (mVar 11)) (mCons (mFr (mVar 12)) mNil)))) (gSetC 15))
    (sSeq (sIf (mTest (mOp dNe (mCB dRepr (mCons (mMeth "Order" "serves" [false, false] m_Order_serves (mFr (mVar 8)) (mCons (mFr (mVar 13)) mNil)) mNil)) (mCB dRepr (mCons (mVar 15) mNil)))) (sRet (mC (.bl false))) sNext)
    (sAsg (mOp dAdd (mVar 10) (mOp dMul (mLst (mCons (mVar 13) mNil)) (mCB dInt (mCons (mVar 15) mNil)))) (gSetC 10))))))
    (sSeq (sFor (mIU (mTup (mCons (mVar 5) (mCons (mCB dTuple (mCons (mVar 5) mNil)) mNil)))) (gSetC 14) (sSeq (sAsg (callN [false, false] m_served_shapes (mCons (mFr (mVar 8)) (mCons (mFr (mVar 14)) mNil))) (gSet 16))
    (sSeq (sFg [13] (sAsg (mLc (mIU (mVar 16)) (gSetC 13) mYes (mStrO "Shape" m_Shape_D_str_D (mCons (mVar 13) mNil)) [13]) (gSetC 17)))
    (sSeq (sFg [13] (sIf (mOr (mNot (mTru (mCB (dIsi (.ty "list") [(.b "NoneType", false), (.b "bool", false), (.b "int", false), (.b "str", false), (.b "list", true), (.b "tuple", false), (.b "dict", false), (.own "Shape", false), (.own "Order", false)]) (mCons (mVar 16) (mCons (mC (.ty "list")) mNil))))) (mTest (mOp dNe (mVar 17) (mLc (mIU (mVar 10)) (gSetC 13) mYes (mStrO "Shape" m_Shape_D_str_D (mCons (mVar 13) mNil)) [13])))) (sRet (mC (.bl false))) sNext))
    (sDrop (mMut fAppend 16 (mCons (mC .non) mNil)))))))
    (sIf (mOr (mTest (mOp (dNeL "Shape" m_Shape_D_eq_D) (mVar 5) (mVar 9))) (mTest (mOp dNe (mMeth "Order" "columns" [false] m_Order_columns (mFr (mVar 8)) mNil) (mVar 7)))) (sRet (mC (.bl false))) sNext)))))))))))))
    (sRet (mOp dEq (callN [false, false] m_served_shapes (mCons (mFr (mMake "Order" [false] m_Order_D_init_D [] (mCons (mFr (mLst (mCons (mC (.str "a")) mNil))) mNil))) (mCons (mFr (mLst mNil)) mNil))) (mLst mNil))))
def m_law : Fnm := fnM 1 17 b_law
end K12

/-! the plain law of k12: the program's defs -/
namespace K12
open PySem PySem.Spec PyProof.Rows L2 SL PM
local macro_rules | `(tactic| walk_at "p1") => `(tactic| first
  | with_reducible refine PM.okS_seq ?_ | with_reducible refine PM.okS_next ?_ | with_reducible refine PM.okS_asg ?_ | with_reducible refine PM.okS_ret ?_ | with_reducible refine PM.okS_drop ?_ | with_reducible refine PM.okS_aug ?_ | with_reducible refine PM.okS_cnt ?_
  | with_reducible refine PM.okE_op ?_ | with_reducible refine PM.okE_cb ?_ | with_reducible refine PM.okE_cons ?_ | with_reducible refine PM.okE_nil ?_ | with_reducible refine PM.okB_not ?_ | with_reducible refine PM.okE_c ?_
  | ((with_reducible refine' PM.okE_var ?hv ?_); (case hv => rfl)) | ((with_reducible refine' PM.okE_frv ?hv ?_); (case hv => rfl)) | with_reducible refine PM.okE_frc ?_ | with_reducible refine PM.okE_fr ?_
  | with_reducible refine PM.w_fz1 ?_ | with_reducible refine PM.w_fz2 ?_ | with_reducible refine PM.w_fz3 ?_
  | ((with_reducible refine' PM.okW_deref ?hv ?_); (case hv => rfl)) | ((with_reducible refine' PM.okW_derefs ?hv ?_); (case hv => rfl)) | ((with_reducible refine' PM.okW_fzs ?hv ?_); (case hv => rfl)) | ((with_reducible refine' PM.okW_fz ?hv ?_); (case hv => rfl))
  | with_reducible refine PM.w_add ?_ | with_reducible refine PM.w_sub ?_ | with_reducible refine PM.w_lt ?_ | with_reducible refine PM.w_le ?_ | with_reducible refine PM.w_gt ?_ | with_reducible refine PM.w_ge ?_ | with_reducible refine PM.w_addI ?_
  | with_reducible refine PM.w_mod (by omega) ?_ | with_reducible refine PM.w_div (by omega) (by rw [PM.big_eq]; omega) ?_ | with_reducible refine PM.w_mul (by rw [PM.big_eq]; omega) (by rw [PM.big_eq]; omega) (by rw [PM.big_eq]; omega) (by rw [PM.big_eq]; omega) ?_ | with_reducible refine PM.w_sq (by omega) (by omega) ?_
  | with_reducible refine PM.w_max2 ?_ | with_reducible refine PM.w_min2 ?_ | with_reducible refine PM.w_lenL ?_ | with_reducible refine PM.w_lenT ?_ | with_reducible refine PM.w_lenC ?_ | with_reducible refine PM.w_listL ?_ | with_reducible refine PM.w_listT ?_
  | ((with_reducible refine PM.okG_setC rfl ?_); (try dsimp only [List.set])) | ((with_reducible refine PM.okG_setCf rfl ?_); (try dsimp only [List.set])) | ((with_reducible refine PM.okG_setO rfl ?_); (try dsimp only [List.set])) | ((with_reducible refine PM.okG_setOc rfl ?_); (try dsimp only [List.set]))
  | ((with_reducible refine' PM.okW_ix ?hv ?_); (case hv => rfl))
  | ((with_reducible refine' PM.okW_ret ?hv ?_); (case hv => rfl)) | ((with_reducible refine' PM.okW_outs ?hv ?_); (case hv => rfl))
  | ((with_reducible refine' PM.okB_test ⟨_, ?hv, ?_⟩); (case hv => rfl)))
local macro_rules | `(tactic| walk_at "p") => `(tactic| repeat walk_at "p1")
structure ShOk (fx : List Str) (sp : Option Str) : Prop where
  len : fx.length ≤ 5
  nd : fx.Nodup
  nm : ∀ z ∈ fx, Nm z
  sp : ∀ z, sp = some z → Nm z ∧ z ∉ fx ∧ fx.length < 5
def shD (fx : List Str) (sp : Option Str) : D := .ins "Shape" [("fixed_columns", .lst (LS (sortS fx))), ("span_column", spD sp)]
def ordD (cs : List Str) : D := .ins "Order" [("own_columns", .lst (LS cs))]
section
variable {ρ as : List Sl} {P : W → List Sl → Prop} {z : Str} {fx : List Str} {sp : Option Str}
theorem is_name_ok (h : Nm z) (p : P (.cl (.bl true)) [.cl (.str z)]) : okF (m_is_name [.cl (.str z)]) P := by
  unfold m_is_name
  refine okF_fn rfl ?_
  show okS (b_is_name [.cl (.str z), .un]) _ _ _
  unfold b_is_name
  have hl : z.length = z.cps.toList.length := SL.len_str z
  obtain ⟨h1, h2, h3⟩ := h
  refine okS_seq (okS_no (okB_or (okB_not (okB_tru (okE_eq (w := .cl (.bl true)) rfl ⟨_, true, rfl, rfl, (fun q => by cases q), fun _ => ?_⟩)))))
  refine okB_not (okB_test (okE_chain (okE_c (okE_cb (okE_cons (okE_var rfl (okE_nil (okW_eq rfl (okW_eq (w := .cl (.int z.length)) ?_ (okW_eq rfl (okW_eq rfl ⟨true, ?_, fun _ => okE_c (okW_eq rfl (okW_eq rfl (w_le ⟨true, ?_, rfl, ?_⟩))), (fun q => by cases q)⟩)))))))))))
  · show (if z.length ≤ 100000 then some (W.cl (.int z.length)) else none) = _
    rw [if_pos (by omega)]
  · show some (W.cl (.bl (decide ((0 : Int) < z.length)))) = _
    rw [decide_eq_true (by omega)]
  · show some (D.bl (decide ((z.length : Int) ≤ 8))) = _
    rw [decide_eq_true (by omega)]
  refine okS_next (okS_ret (okE_cb (okE_cons (okE_lc (okE_iu (okE_var rfl (okW_eq rfl (okW_eq rfl (okW_eq rfl ⟨?_, rfl, ?_⟩)))))))))
  · show (z.cps.toList.map fun c => D.str ⟨#[c]⟩).length ≤ 90000
    rw [List.length_map]
    omega
  refine okE_loopC (fun j ρ acc => ρ = [.cl (.str z), .un] ∧ ∃ bs : List Bool, acc = bs.map .bl ∧ ∀ b ∈ bs, b = true) _ 0 ⟨rfl, [], rfl, fun b hb => by cases hb⟩ ?_ ?_
  · rintro j d ρ acc hj ⟨rfl, bs, rfl, hbs⟩
    obtain ⟨c, hc, rfl⟩ := List.mem_map.mp (List.mem_of_getElem? hj)
    walk_at "p"
    refine okE_eq rfl ⟨fun _ => ?_, (fun q => by cases q)⟩
    walk_at "p"
    refine w_in (c := true) ?_ (okW_eq rfl (okG_eq rfl ⟨rfl, bs ++ [true], by simp, fun b hb => ?_⟩))
    · rw [letters_eq]
      show some (decide (c ∈ (S lets).cps.toList)) = _
      rw [S_cps, decide_eq_true (h3 c hc)]
    · rcases List.mem_append.mp hb with hb | hb
      · exact hbs b hb
      · exact List.mem_singleton.mp hb
  · rintro ρ acc ⟨rfl, bs, rfl, hbs⟩
    refine okG_eq rfl (okE_nil (okW_eq rfl (okW_eq (w := .cl (.bl true)) ?_ ?_)))
    · have e : ∀ bs : List Bool, blsOf (bs.map .bl) = some bs := fun bs => by
        induction bs with
        | nil => rfl
        | cons b bs ih =>
          show (blsOf (bs.map .bl)).map (b :: ·) = _
          rw [ih]
          rfl
      show (blsOf (bs.map .bl)).map (fun bs => W.cl (.bl (bs.all id))) = _
      rw [e]
      have : bs.all id = true := List.all_eq_true.mpr hbs
      show some (W.cl (.bl (bs.all id))) = _
      rw [this]
    · walk_at "p"
      exact p
theorem is_list_ok {ds : List D} (p : P (.cl (.bl true)) [.cl (.lst ds)]) : okF (m_is_list [.cl (.lst ds)]) P := by
  unfold m_is_list
  refine okF_fn rfl ?_
  show okS (b_is_list [.cl (.lst ds)]) _ _ _
  unfold b_is_list
  refine okS_ret (okE_eq (w := .cl (.bl true)) rfl ?_)
  walk_at "p"
  exact p
theorem is_tuple_ok {ds : List D} (p : P (.cl (.bl true)) [.cl (.tup ds)]) : okF (m_is_list [.cl (.tup ds)]) P := by
  unfold m_is_list
  refine okF_fn rfl ?_
  show okS (b_is_list [.cl (.tup ds)]) _ _ _
  unfold b_is_list
  refine okS_ret (okE_eq (w := .cl (.bl true)) rfl ?_)
  walk_at "p"
  exact p
theorem putD_span {x v : D} : putD "span_column" v [(("fixed_columns" : Str), x)] = [(("fixed_columns" : Str), x), (("span_column" : Str), v)] := by
  unfold putD
  rw [if_neg (by decide +kernel)]
  rfl
theorem shape_ok (h : ShOk fx sp) (p : P (.cl .non) [.io (shD fx sp), .cl (.lst (LS fx)), .cl (spD sp)]) : okF (m_Shape_D_init_D [.io (.ins "Shape" []), .cl (.lst (LS fx)), .cl (spD sp)]) P := by
  unfold m_Shape_D_init_D
  refine okF_fn rfl ?_
  show okS (b_Shape_D_init_D [.io (.ins "Shape" []), .cl (.lst (LS fx)), .cl (spD sp), .un, .un]) _ _ _
  unfold b_Shape_D_init_D
  have hl : (LS fx).length = fx.length := List.length_map ..
  have h5 := h.len
  refine okS_seq (okS_no (okB_or (okB_not (okB_tru (okE_call1 (okE_cons (okE_frv rfl (okE_nil ⟨_, rfl, is_list_ok ⟨rfl, _, true, rfl, rfl, (fun q => by cases q), fun _ => ?_⟩⟩))))))))
  refine okB_test (okE_op ?_)
  walk_at "p"
  refine ⟨_, rfl, decide_eq_false (by omega), ?_⟩
  walk_at "p"
  refine okS_for (okE_enum ?_)
  walk_at "p"
  refine ⟨_, rfl, okW_eq rfl ⟨_, rfl, by omega, ?_⟩⟩
  refine okS_loop (fun j ρ => ∃ s3 s4, ρ = [.io (.ins "Shape" []), .cl (.lst (LS fx)), .cl (spD sp), s3, s4] ∧ free s3 = true ∧ free s4 = true) _ 0 ⟨_, _, rfl, rfl, rfl⟩ ?_ ?_
  · rintro j d ρ hj ⟨s3, s4, rfl, f3, f4⟩
    obtain ⟨x, hx, rfl⟩ := enum_at hj
    obtain ⟨z, hz, rfl⟩ := strs_at hx
    have hm : z ∈ fx := List.mem_of_getElem? hz
    refine okG_tup2 (okG_setC (congrArg some f3) ?_)
    dsimp only [List.set]
    refine okG_setC (congrArg some f4) ?_
    dsimp only [List.set]
    refine okS_seq (okS_no (okB_not (okB_tru (okE_call1 (okE_cons (okE_frv rfl (okE_nil ⟨_, rfl, is_name_ok (h.nm z hm) ⟨rfl, _, true, rfl, rfl, rfl, okS_next ?_⟩⟩)))))))
    refine okS_no (okB_test (okE_op (okE_var rfl (okE_sl (okE_var rfl (okE_nopart (okE_part (okE_var rfl ⟨_, rfl, okW_eq rfl (w_sl ?_)⟩))))))))
    rw [cut_take, ← List.map_take]
    walk_at "p"
    refine w_in dInB_L ⟨_, rfl, decide_eq_false (nodup_take h.nd hz), okS_next ⟨_, _, rfl, rfl, rfl⟩⟩
  · rintro ρ ⟨s3, s4, rfl, f3, f4⟩
    refine okG_eq rfl ?_
    have tail : ∀ t : D, t = spD sp → okS (sSeq (sFldM "Shape" "fixed_columns" 0 (mCB dSrt (mCons (mVar 1) mNil))) (sFldM "Shape" "span_column" 0 (mVar 2)) [.io (.ins "Shape" []), .cl (.lst (LS fx)), .cl t, s3, s4]) (fun ρ => okW (outsOf [.io (.ins "Shape" []), .cl (.lst (LS fx)), .cl (spD sp)] ρ) fun o => P (.cl .non) o) (fun w ρ => okW (retW w ρ) fun w => okW (outsOf [.io (.ins "Shape" []), .cl (.lst (LS fx)), .cl (spD sp)] ρ) fun o => P w o) (fun _ _ => False) := by
      rintro t rfl
      refine okS_seq (okS_fld (okE_cb (okE_cons (okE_var rfl (okE_nil (okW_eq rfl (w_srt (by omega) (okW_eq rfl ⟨[], rfl, by simp, ?_⟩))))))))
      dsimp only [List.set, putD]
      refine okS_fld (okE_var rfl (okW_eq rfl ⟨_, rfl, by simp, ?_⟩))
      rw [putD_span]
      exact ⟨_, rfl, p⟩
    cases sp with
    | none =>
      refine okS_seq (okS_no (okB_and (okE_eq (w := false) rfl ⟨(fun q => by cases q), fun _ => ⟨rfl, okS_next ?_⟩⟩)))
      refine okS_seq (okS_no (okB_test (okE_op ?_)))
      walk_at "p"
      refine w_in dInB_N ⟨_, rfl, rfl, okS_next ?_⟩
      refine okS_seq (okS_no (okB_and (okE_eq (w := false) rfl ⟨(fun q => by cases q), fun _ => ⟨rfl, okS_next ?_⟩⟩)))
      exact tail _ rfl
    | some z =>
      obtain ⟨z1, z2, z3⟩ := h.sp z rfl
      refine okS_seq (okS_no (okB_and (okE_eq (w := true) rfl ⟨fun _ => ?_, (fun q => by cases q)⟩)))
      refine okB_not (okB_tru (okE_call1 (okE_cons (okE_frv rfl (okE_nil ⟨_, rfl, is_name_ok z1 ⟨rfl, _, true, rfl, rfl, rfl, okS_next ?_⟩⟩)))))
      refine okS_seq (okS_no (okB_test (okE_op ?_)))
      walk_at "p"
      refine w_in dInB_L ⟨_, rfl, decide_eq_false z2, okS_next ?_⟩
      refine okS_seq (okS_no (okB_and (okE_eq (w := true) rfl ⟨fun _ => ?_, (fun q => by cases q)⟩)))
      refine okB_test (okE_op ?_)
      walk_at "p"
      refine w_eqi ⟨_, rfl, decide_eq_false (by omega), okS_next ?_⟩
      exact tail _ rfl
end
end K12

/-! the plain law of k12: shapes and orders -/
namespace K12
open PySem PySem.Spec PyProof.Rows L2 SL PM
local macro_rules | `(tactic| walk_at "p1") => `(tactic| first
  | with_reducible refine PM.okS_seq ?_ | with_reducible refine PM.okS_next ?_ | with_reducible refine PM.okS_asg ?_ | with_reducible refine PM.okS_ret ?_ | with_reducible refine PM.okS_drop ?_ | with_reducible refine PM.okS_aug ?_ | with_reducible refine PM.okS_cnt ?_
  | with_reducible refine PM.okE_op ?_ | with_reducible refine PM.okE_cb ?_ | with_reducible refine PM.okE_cons ?_ | with_reducible refine PM.okE_nil ?_ | with_reducible refine PM.okB_not ?_ | with_reducible refine PM.okE_c ?_
  | ((with_reducible refine' PM.okE_var ?hv ?_); (case hv => rfl)) | ((with_reducible refine' PM.okE_frv ?hv ?_); (case hv => rfl)) | with_reducible refine PM.okE_frc ?_ | with_reducible refine PM.okE_fr ?_
  | with_reducible refine PM.w_fz1 ?_ | with_reducible refine PM.w_fz2 ?_ | with_reducible refine PM.w_fz3 ?_
  | ((with_reducible refine' PM.okW_deref ?hv ?_); (case hv => rfl)) | ((with_reducible refine' PM.okW_derefs ?hv ?_); (case hv => rfl)) | ((with_reducible refine' PM.okW_fzs ?hv ?_); (case hv => rfl)) | ((with_reducible refine' PM.okW_fz ?hv ?_); (case hv => rfl))
  | with_reducible refine PM.w_add ?_ | with_reducible refine PM.w_sub ?_ | with_reducible refine PM.w_lt ?_ | with_reducible refine PM.w_le ?_ | with_reducible refine PM.w_gt ?_ | with_reducible refine PM.w_ge ?_ | with_reducible refine PM.w_addI ?_
  | with_reducible refine PM.w_mod (by omega) ?_ | with_reducible refine PM.w_div (by omega) (by rw [PM.big_eq]; omega) ?_ | with_reducible refine PM.w_mul (by rw [PM.big_eq]; omega) (by rw [PM.big_eq]; omega) (by rw [PM.big_eq]; omega) (by rw [PM.big_eq]; omega) ?_ | with_reducible refine PM.w_sq (by omega) (by omega) ?_
  | with_reducible refine PM.w_max2 ?_ | with_reducible refine PM.w_min2 ?_ | with_reducible refine PM.w_lenL ?_ | with_reducible refine PM.w_lenT ?_ | with_reducible refine PM.w_lenC ?_ | with_reducible refine PM.w_listL ?_ | with_reducible refine PM.w_listT ?_
  | ((with_reducible refine PM.okG_setC rfl ?_); (try dsimp only [List.set])) | ((with_reducible refine PM.okG_setCf rfl ?_); (try dsimp only [List.set])) | ((with_reducible refine PM.okG_setO rfl ?_); (try dsimp only [List.set])) | ((with_reducible refine PM.okG_setOc rfl ?_); (try dsimp only [List.set]))
  | ((with_reducible refine' PM.okW_ix ?hv ?_); (case hv => rfl))
  | ((with_reducible refine' PM.okW_ret ?hv ?_); (case hv => rfl)) | ((with_reducible refine' PM.okW_outs ?hv ?_); (case hv => rfl))
  | ((with_reducible refine' PM.okB_test ⟨_, ?hv, ?_⟩); (case hv => rfl)))
local macro_rules | `(tactic| walk_at "p") => `(tactic| repeat walk_at "p1")
section
variable {ρ as : List Sl} {P : W → List Sl → Prop} {z : Str} {fx cs : List Str} {sp : Option Str}
theorem sh_fixed {fx : List Str} {sp : Option Str} : ([(("fixed_columns" : Str), D.lst (LS (sortS fx))), (("span_column" : Str), spD sp)] : List (Str × D)).lookup ("fixed_columns" : Str) = some (D.lst (LS (sortS fx))) := rfl
theorem sh_span {fx : List Str} {sp : Option Str} : ([(("fixed_columns" : Str), D.lst (LS (sortS fx))), (("span_column" : Str), spD sp)] : List (Str × D)).lookup ("span_column" : Str) = some (spD sp) := by
  have h : (("span_column" : Str) == ("fixed_columns" : Str)) = false := by decide +kernel
  rw [List.lookup_cons, h]
  rfl
theorem or_cols {cs : List Str} : ([(("own_columns" : Str), D.lst (LS cs))] : List (Str × D)).lookup ("own_columns" : Str) = some (D.lst (LS cs)) := rfl
theorem span_ok (p : P (.cl (spD sp)) [.cl (shD fx sp)]) : okF (m_Shape_span [.cl (shD fx sp)]) P := by
  unfold m_Shape_span
  refine okF_fn rfl ?_
  show okS (b_Shape_span [.cl (shD fx sp)]) _ _ _
  unfold b_Shape_span
  refine okS_ret (okE_fld (okE_var rfl ⟨_, _, rfl, sh_span, ?_⟩))
  walk_at "p"
  exact p
theorem fixed_ok (p : P (.fr (LS (sortS fx))) [.cl (shD fx sp)]) : okF (m_Shape_fixed [.cl (shD fx sp)]) P := by
  unfold m_Shape_fixed
  refine okF_fn rfl ?_
  show okS (b_Shape_fixed [.cl (shD fx sp)]) _ _ _
  unfold b_Shape_fixed
  refine okS_ret (okE_cb (okE_cons (okE_fld (okE_var rfl ⟨_, _, rfl, sh_fixed, ?_⟩))))
  walk_at "p"
  exact p
theorem w_addLL {zs ws : List Str} {Q : W → Prop} (h : zs.length + ws.length ≤ 100000) (q : Q (.fr (LS (zs ++ ws)))) : okW (dAdd (.lst (LS zs)) (.lst (LS ws))) Q := by
  refine ⟨_, ?_, q⟩
  show (if (LS zs).length + (LS ws).length ≤ 100000 then some (W.fr (LS zs ++ LS ws)) else none) = _
  rw [List.length_map, List.length_map, if_pos h]
  show some (W.fr (zs.map D.str ++ ws.map D.str)) = some (W.fr ((zs ++ ws).map D.str))
  rw [List.map_append]
theorem shcols_ok (h : ShOk fx sp) (p : P (.fr (LS (sortS (sortS fx ++ sp.toList)))) [.cl (shD fx sp)]) : okF (m_Shape_columns [.cl (shD fx sp)]) P := by
  unfold m_Shape_columns
  refine okF_fn rfl ?_
  show okS (b_Shape_columns [.cl (shD fx sp)]) _ _ _
  unfold b_Shape_columns
  have hl := sortS_len fx
  have h5 := h.len
  refine okS_ret (okE_cb (okE_cons (okE_op (okE_fld (okE_var rfl ⟨_, _, rfl, sh_fixed, ?_⟩)))))
  cases sp with
  | none =>
    refine okE_if (okB_test (okE_op (okE_fld (okE_var rfl ⟨_, _, rfl, sh_span, ?_⟩))))
    refine okE_c (okW_eq rfl (okW_eq rfl (okW_eq rfl ⟨true, rfl, fun _ => ?_, (fun q => by cases q)⟩)))
    refine okE_eq (w := .fr (LS [])) rfl ?_
    refine okW_eq rfl (okW_eq rfl (w_addLL (by simp; omega) ?_))
    refine okE_nil (okW_eq rfl (w_srt (by simp; omega) ?_))
    walk_at "p"
    exact p
  | some z =>
    refine okE_if (okB_test (okE_op (okE_fld (okE_var rfl ⟨_, _, rfl, sh_span, ?_⟩))))
    refine okE_c (okW_eq rfl (okW_eq rfl (okW_eq rfl ⟨false, rfl, (fun q => by cases q), fun _ => ?_⟩)))
    refine okE_lst (okE_cons (okE_fld (okE_var rfl ⟨_, _, rfl, sh_span, ?_⟩)))
    refine okE_nil (w_fz1 ⟨Nat.le_of_ble_eq_true rfl, ?_⟩)
    refine okW_eq rfl (okW_eq rfl (w_addLL (ws := [z]) (by simp; omega) ?_))
    refine okE_nil (okW_eq rfl (w_srt (by simp; omega) ?_))
    walk_at "p"
    exact p
theorem w_eqD {d : D} {Q : W → Prop} (h : dEqB d d = some true) (q : Q (.cl (.bl true))) : okW (dEq d d) Q := w_eq h q
theorem sp_eq (h : ∀ z, sp = some z → Asc z) : dEqB (spD sp) (spD sp) = some true := by
  cases sp with
  | none => exact dEqB_NN
  | some z =>
    show dEqB (.str z) (.str z) = _
    rw [dEqB_S (h z rfl) (h z rfl), decide_eq_true rfl]
theorem sheq_ok (h : ShOk fx sp) : okF (m_Shape_D_eq_D [.cl (shD fx sp), .cl (shD fx sp)]) fun w o => w = .cl (.bl true) := by
  unfold m_Shape_D_eq_D
  refine okF_fn rfl ?_
  show okS (b_Shape_D_eq_D [.cl (shD fx sp), .cl (shD fx sp)]) _ _ _
  unfold b_Shape_D_eq_D
  have hx : Ascs (sortS fx) := fun z hz => (h.nm z (sortS_mem.mp hz)).asc
  refine okS_seq (okS_no (okB_not (okB_tru (okE_eq (w := .cl (.bl true)) rfl ⟨_, true, rfl, rfl, rfl, okS_next ?_⟩))))
  refine okS_ret (okE_andV (okE_op (okE_fld (okE_var rfl ⟨_, _, rfl, sh_fixed, okE_fld (okE_var rfl ⟨_, _, rfl, sh_fixed, ?_⟩)⟩))))
  refine okW_eq rfl (okW_eq rfl (w_eqD (by rw [dEqB_L hx hx, decide_eq_true rfl]) ⟨true, rfl, fun _ => ?_, (fun q => by cases q)⟩))
  refine okE_op (okE_fld (okE_var rfl ⟨_, _, rfl, sh_span, okE_fld (okE_var rfl ⟨_, _, rfl, sh_span, ?_⟩)⟩))
  refine okW_eq rfl (okW_eq rfl (w_eqD (sp_eq fun z e => (h.sp z e).1.asc) ?_))
  walk_at "p"
  rfl
theorem checked_ok (h1 : 1 ≤ cs.length) (h2 : cs.length ≤ 5) (hn : cs.Nodup) (hm : ∀ z ∈ cs, Nm z) (p : P (.fr (LS cs)) [.cl (.lst (LS cs))]) : okF (m_checked_columns [.cl (.lst (LS cs))]) P := by
  unfold m_checked_columns
  refine okF_fn rfl ?_
  show okS (b_checked_columns [.cl (.lst (LS cs)), .un, .un]) _ _ _
  unfold b_checked_columns
  have hl : (LS cs).length = cs.length := List.length_map ..
  refine okS_seq (okS_no (okB_or (okB_not (okB_tru (okE_call1 (okE_cons (okE_frv rfl (okE_nil ⟨_, rfl, is_list_ok ⟨rfl, _, true, rfl, rfl, (fun q => by cases q), fun _ => ?_⟩⟩))))))))
  refine okB_not (okB_test (okE_chain (okE_c (okE_cb (okE_cons (okE_var rfl (okE_nil (okW_eq rfl (w_lenL (okW_eq rfl (okW_eq rfl ⟨true, ?_, fun _ => okE_c (okW_eq rfl (okW_eq rfl (w_le ⟨_, rfl, ?_, okS_next ?_⟩))), (fun q => by cases q)⟩)))))))))))
  · show some (W.cl (.bl (decide ((1 : Int) ≤ (LS cs).length)))) = _
    rw [decide_eq_true (by omega)]
  · rw [decide_eq_true (by omega)]
    rfl
  refine okS_seq (okS_asg (okE_eq (w := .fr []) rfl (okG_setO rfl ?_)))
  dsimp only [List.set]
  refine okS_seq (okS_for (okE_iu (okE_var rfl (okW_eq rfl (okW_eq rfl (okW_eq rfl ⟨by omega, ?_⟩))))))
  refine okS_loop (fun j ρ => ∃ s2, ρ = [.cl (.lst (LS cs)), .ow (LS (cs.take j)), s2] ∧ free s2 = true) _ 0 ⟨_, rfl, rfl⟩ ?_ ?_
  · rintro j d ρ hj ⟨s2, rfl, f2⟩
    obtain ⟨z, hz, rfl⟩ := strs_at hj
    have hmz : z ∈ cs := List.mem_of_getElem? hz
    rw [Nat.zero_add]
    refine okG_setC (congrArg some f2) ?_
    dsimp only [List.set]
    refine okS_seq (okS_no (okB_not (okB_tru (okE_call1 (okE_cons (okE_frv rfl (okE_nil ⟨_, rfl, is_name_ok (hm z hmz) ⟨rfl, _, true, rfl, rfl, rfl, okS_next ?_⟩⟩)))))))
    refine okS_seq (okS_no (okB_test (okE_op (okE_var rfl (okE_var rfl ?_)))))
    refine okW_eq rfl (okW_eq rfl (w_in dInB_L ⟨_, rfl, decide_eq_false (nodup_take hn hz), okS_next ?_⟩))
    refine okS_drop (okE_mut rfl (okE_cons (okE_var rfl (okE_nil ?_))))
    refine w_fz1 ⟨_, _, rfl, rfl, okW_eq (w := (.non, LS (cs.take j) ++ [.str z])) ?_ ⟨.cl (.str z), ?_, rfl⟩⟩
    · show (if (LS (cs.take j)).length < 100000 then some (D.non, LS (cs.take j) ++ [.str z]) else none) = _
      rw [if_pos (by rw [List.length_map, List.length_take]; omega)]
    · obtain ⟨hj2, e⟩ := List.getElem?_eq_some_iff.mp hz
      have e2 : cs.take (j + 1) = cs.take j ++ [z] := by rw [List.take_succ_eq_append_getElem hj2, e]
      rw [e2]
      have e3 : LS (cs.take j ++ [z]) = LS (cs.take j) ++ [.str z] := List.map_append ..
      rw [e3]
      rfl
  · rintro ρ ⟨s2, rfl, f2⟩
    rw [hl, Nat.zero_add, List.take_of_length_le (Nat.le_refl _)]
    refine okG_eq rfl (okS_ret (okE_var rfl ?_))
    walk_at "p"
    exact p
end
end K12

/-! the plain law of k12: orders -/
namespace K12
open PySem PySem.Spec PyProof.Rows L2 SL PM
local macro_rules | `(tactic| walk_at "p1") => `(tactic| first
  | with_reducible refine PM.okS_seq ?_ | with_reducible refine PM.okS_next ?_ | with_reducible refine PM.okS_asg ?_ | with_reducible refine PM.okS_ret ?_ | with_reducible refine PM.okS_drop ?_ | with_reducible refine PM.okS_aug ?_ | with_reducible refine PM.okS_cnt ?_
  | with_reducible refine PM.okE_op ?_ | with_reducible refine PM.okE_cb ?_ | with_reducible refine PM.okE_cons ?_ | with_reducible refine PM.okE_nil ?_ | with_reducible refine PM.okB_not ?_ | with_reducible refine PM.okE_c ?_
  | ((with_reducible refine' PM.okE_var ?hv ?_); (case hv => rfl)) | ((with_reducible refine' PM.okE_frv ?hv ?_); (case hv => rfl)) | with_reducible refine PM.okE_frc ?_ | with_reducible refine PM.okE_fr ?_
  | with_reducible refine PM.w_fz1 ?_ | with_reducible refine PM.w_fz2 ?_ | with_reducible refine PM.w_fz3 ?_
  | ((with_reducible refine' PM.okW_deref ?hv ?_); (case hv => rfl)) | ((with_reducible refine' PM.okW_derefs ?hv ?_); (case hv => rfl)) | ((with_reducible refine' PM.okW_fzs ?hv ?_); (case hv => rfl)) | ((with_reducible refine' PM.okW_fz ?hv ?_); (case hv => rfl))
  | with_reducible refine PM.w_add ?_ | with_reducible refine PM.w_sub ?_ | with_reducible refine PM.w_lt ?_ | with_reducible refine PM.w_le ?_ | with_reducible refine PM.w_gt ?_ | with_reducible refine PM.w_ge ?_ | with_reducible refine PM.w_addI ?_
  | with_reducible refine PM.w_mod (by omega) ?_ | with_reducible refine PM.w_div (by omega) (by rw [PM.big_eq]; omega) ?_ | with_reducible refine PM.w_mul (by rw [PM.big_eq]; omega) (by rw [PM.big_eq]; omega) (by rw [PM.big_eq]; omega) (by rw [PM.big_eq]; omega) ?_ | with_reducible refine PM.w_sq (by omega) (by omega) ?_
  | with_reducible refine PM.w_max2 ?_ | with_reducible refine PM.w_min2 ?_ | with_reducible refine PM.w_lenL ?_ | with_reducible refine PM.w_lenT ?_ | with_reducible refine PM.w_lenC ?_ | with_reducible refine PM.w_listL ?_ | with_reducible refine PM.w_listT ?_
  | ((with_reducible refine PM.okG_setC rfl ?_); (try dsimp only [List.set])) | ((with_reducible refine PM.okG_setCf rfl ?_); (try dsimp only [List.set])) | ((with_reducible refine PM.okG_setO rfl ?_); (try dsimp only [List.set])) | ((with_reducible refine PM.okG_setOc rfl ?_); (try dsimp only [List.set]))
  | ((with_reducible refine' PM.okW_ix ?hv ?_); (case hv => rfl))
  | ((with_reducible refine' PM.okW_ret ?hv ?_); (case hv => rfl)) | ((with_reducible refine' PM.okW_outs ?hv ?_); (case hv => rfl))
  | ((with_reducible refine' PM.okB_test ⟨_, ?hv, ?_⟩); (case hv => rfl)))
local macro_rules | `(tactic| walk_at "p") => `(tactic| repeat walk_at "p1")
/-- columns of an order -/
structure OrOk (cs : List Str) : Prop where
  l1 : 1 ≤ cs.length
  l2 : cs.length ≤ 5
  nd : cs.Nodup
  nm : ∀ z ∈ cs, Nm z
structure KnOk (cs fx : List Str) (sp : Option Str) : Prop where
  sh : ShOk fx sp
  fx : ∀ z ∈ fx, z ∈ cs
  sp : ∀ z, sp = some z → z ∈ cs
section
variable {ρ as : List Sl} {P : W → List Sl → Prop} {z : Str} {fx cs : List Str} {sp : Option Str}
theorem order_ok (h : OrOk cs) (p : P (.cl .non) [.io (ordD cs), .cl (.lst (LS cs))]) : okF (m_Order_D_init_D [.io (.ins "Order" []), .cl (.lst (LS cs))]) P := by
  unfold m_Order_D_init_D
  refine okF_fn rfl ?_
  show okS (b_Order_D_init_D [.io (.ins "Order" []), .cl (.lst (LS cs))]) _ _ _
  unfold b_Order_D_init_D
  refine okS_fld (okE_call1 (okE_cons (okE_frv rfl (okE_nil ⟨_, rfl, checked_ok h.l1 h.l2 h.nd h.nm ⟨rfl, okW_eq rfl ⟨[], rfl, by simp, ?_⟩⟩⟩))))
  exact ⟨_, rfl, p⟩
theorem ocols_ok (p : P (.fr (LS cs)) [.cl (ordD cs)]) : okF (m_Order_columns [.cl (ordD cs)]) P := by
  unfold m_Order_columns
  refine okF_fn rfl ?_
  show okS (b_Order_columns [.cl (ordD cs)]) _ _ _
  unfold b_Order_columns
  refine okS_ret (okE_cb (okE_cons (okE_fld (okE_var rfl ⟨_, _, rfl, or_cols, ?_⟩))))
  walk_at "p"
  exact p
theorem need_order_ok (p : P (.cl .non) [.cl (ordD cs)]) : okF (m_need_order [.cl (ordD cs)]) P := by
  unfold m_need_order
  refine okF_fn rfl ?_
  show okS (b_need_order [.cl (ordD cs)]) _ _ _
  unfold b_need_order
  refine okS_no (okB_not (okB_tru (okE_eq (w := .cl (.bl true)) rfl ⟨_, true, rfl, rfl, rfl, okS_next ?_⟩)))
  walk_at "p"
  exact p
theorem need_ok (h : KnOk cs fx sp) (p : P (.cl .non) [.cl (.lst (LS cs)), .cl (shD fx sp)]) : okF (m_need_known [.cl (.lst (LS cs)), .cl (shD fx sp)]) P := by
  unfold m_need_known
  refine okF_fn rfl ?_
  show okS (b_need_known [.cl (.lst (LS cs)), .cl (shD fx sp), .un]) _ _ _
  unfold b_need_known
  refine okS_seq (okS_no (okB_not (okB_tru (okE_eq (w := .cl (.bl true)) rfl ⟨_, true, rfl, rfl, rfl, okS_next ?_⟩))))
  refine okS_for (okE_iu (okE_meth (okE_frv rfl ⟨_, rfl, rfl, okE_nil (okT1 (shcols_ok h.sh ⟨rfl, okW_eq rfl (okW_eq rfl (okW_eq rfl ⟨?_, ?_⟩))⟩))⟩)))
  · rw [List.length_map, sortS_len, List.length_append, sortS_len]
    have := h.sh.len
    have : sp.toList.length ≤ 1 := by cases sp <;> simp
    omega
  refine okS_loop (fun j ρ => ∃ s2, ρ = [.cl (.lst (LS cs)), .cl (shD fx sp), s2] ∧ free s2 = true) _ 0 ⟨_, rfl, rfl⟩ ?_ ?_
  · rintro j d ρ hj ⟨s2, rfl, f2⟩
    obtain ⟨z, hz, rfl⟩ := strs_at hj
    have hmz := sortS_mem.mp (List.mem_of_getElem? hz)
    have hm : z ∈ cs := by
      rcases List.mem_append.mp hmz with q | q
      · exact h.fx z (sortS_mem.mp q)
      · exact h.sp z (by simpa using q)
    refine okG_setC (congrArg some f2) ?_
    dsimp only [List.set]
    refine okS_no (okB_test (okE_op (okE_var rfl (okE_var rfl (okW_eq rfl (okW_eq rfl (w_niL ⟨_, rfl, ?_, okS_next ⟨_, rfl, rfl⟩⟩)))))))
    rw [decide_eq_true hm]
    rfl
  · rintro ρ ⟨s2, rfl, f2⟩
    exact okG_eq rfl ⟨_, rfl, p⟩
/-- how far an order reaches -/
def cnt (cs fx : List Str) : Nat := (cs.takeWhile fun z => decide (z ∈ fx)).length
theorem cnt_le (cs fx : List Str) : cnt cs fx ≤ cs.length := by
  unfold cnt
  exact (List.takeWhile_prefix _).length_le
def nextB (cs fx : List Str) (sp : Option Str) : Bool := match sp with
  | none => false
  | some z => decide ((cs.drop (cnt cs fx)).take 1 = [z])
theorem tw_step {α : Type} (p : α → Bool) : ∀ (l : List α) (c : Nat) (h : c < l.length), c ≤ (l.takeWhile p).length → (p (l[c]'h) = true → c + 1 ≤ (l.takeWhile p).length) ∧ (p (l[c]'h) = false → (l.takeWhile p).length = c)
  | [], c, h, _ => absurd h (Nat.not_lt_zero c)
  | a :: l, 0, h, _ => by
    rw [List.takeWhile_cons]
    constructor
    · intro q
      have q : p a = true := q
      rw [q]
      simp
    · intro q
      have q : p a = false := q
      rw [q]
      rfl
  | a :: l, c + 1, h, hc => by
    rw [List.takeWhile_cons] at hc ⊢
    cases q : p a with
    | false =>
      rw [q] at hc
      simp at hc
    | true =>
      rw [q] at hc
      simp only [if_true, List.length_cons] at hc ⊢
      obtain ⟨h1, h2⟩ := tw_step p l c (by simpa using h) (by omega)
      constructor
      · intro z
        have := h1 z
        omega
      · intro z
        have := h2 z
        omega
theorem w_ixL {zs : List Str} {c : Nat} {Q : W → Prop} (h : c < zs.length) (q : Q (.cl (.str (zs[c]'h)))) : okW (dIx (.lst (LS zs)) (.int c)) Q := by
  refine ⟨_, ?_, q⟩
  show (atI (LS zs) (c : Int)).map W.cl = _
  have e : (LS zs)[c]? = some (.str (zs[c]'h)) := by
    rw [List.getElem?_map, List.getElem?_eq_getElem h]
    rfl
  rw [atI_nat e]
  rfl
theorem okS_par {N : List Sl → Prop} {T : W → List Sl → Prop} {L : Bool → List Sl → Prop} {i j : Nat} {a : Mo (List W)} (h : okE (a ρ) fun ws ρ => ∃ v w, ws = [v, w] ∧ okW (nrm w ρ) fun y => okG (gSetC i v y.2) fun ρ => okG (gSetC j y.1 ρ) N) : okS (sPar false false i j a ρ) N T L := okS_bind (h.mono fun ws ρ h => by
  obtain ⟨v, w, rfl, y, e1, ρ1, e2, ρ2, e3, p⟩ := h
  show okS ((nrm w ρ).bind fun y => (gPut false i v y.2).bind fun ρ => (gPut false j y.1 ρ).map .nx) N T L
  refine okS_opt ⟨_, e1, okS_opt ⟨_, e2, okS_nx ⟨_, e3, p⟩⟩⟩)
theorem reach_ok (h : OrOk cs) (k : KnOk cs fx sp) (p : P (.cl (.tup [.int (cnt cs fx), .bl (nextB cs fx sp)])) [.cl (ordD cs), .cl (shD fx sp)]) : okF (m_Order_reach [.cl (ordD cs), .cl (shD fx sp)]) P := by
  unfold m_Order_reach
  refine okF_fn rfl ?_
  show okS (b_Order_reach [.cl (ordD cs), .cl (shD fx sp), .un, .un, .un]) _ _ _
  unfold b_Order_reach
  refine okS_seq (okS_drop (okE_call2 (okE_cons (okE_fr (okE_fld (okE_var rfl ⟨_, _, rfl, or_cols, okE_cons (okE_frv rfl (okE_nil ⟨_, _, rfl, need_ok k ⟨rfl, ?_⟩⟩))⟩))))))
  refine okS_seq (okS_par (okE_cons (okE_meth (okE_frv rfl ⟨_, rfl, rfl, okE_nil (okT1 (fixed_ok ⟨rfl, okE_cons (okE_c (okE_nil ⟨_, _, rfl, okW_eq rfl (okG_setCf rfl ?_)⟩))⟩))⟩))))
  dsimp only [List.set]
  refine okG_setC rfl ?_
  dsimp only [List.set]
  have hc := cnt_le cs fx
  have hl : (LS cs).length = cs.length := List.length_map ..
  have tail : ∀ c : Nat, cnt cs fx = c → okS (sSeq (sAsg (mAndV (mOp dIsnt (mProp "Shape" [false] m_Shape_span (mFr (mVar 1))) (mC .non)) (mOp dEq (mSl (mFld "Order" "own_columns" (mVar 0)) (mPart (mVar 3)) (mPart (mOp dAdd (mVar 3) (mC (.int 1))))) (mLst (mCons (mProp "Shape" [false] m_Shape_span (mFr (mVar 1))) mNil)))) (gSetC 4)) (sRet (mTup (mCons (mVar 3) (mCons (mVar 4) mNil)))) [.cl (ordD cs), .cl (shD fx sp), .cl (.lst (LS (sortS fx))), .cl (.int c), .un]) (fun ρ => okW (outsOf [.cl (ordD cs), .cl (shD fx sp)] ρ) fun o => P (.cl .non) o) (fun w ρ => okW (retW w ρ) fun w => okW (outsOf [.cl (ordD cs), .cl (shD fx sp)] ρ) fun o => P w o) (fun _ _ => False) := by
    rintro c rfl
    refine okS_seq (okS_asg (okE_andV (okE_op (okE_prop (okE_frv rfl ⟨_, rfl, okT1 (span_ok ⟨rfl, okE_c (okW_eq rfl (okW_eq rfl ?_))⟩)⟩)))))
    cases sp with
    | none =>
      refine okW_eq (w := .cl (.bl false)) rfl ⟨false, rfl, (fun q => by cases q), fun _ => okG_setC rfl ?_⟩
      dsimp only [List.set]
      refine okS_ret (okE_tup ?_)
      walk_at "p"
      refine ⟨Nat.le_of_ble_eq_true rfl, ?_⟩
      walk_at "p"
      exact p
    | some z =>
      refine okW_eq (w := .cl (.bl true)) rfl ⟨true, rfl, fun _ => ?_, (fun q => by cases q)⟩
      refine okE_op (okE_sl (okE_fld (okE_var rfl ⟨_, _, rfl, or_cols, okE_part (okE_var rfl ⟨_, rfl, okE_part (okE_op ?_)⟩)⟩)))
      walk_at "p"
      refine ⟨_, rfl, okW_eq rfl (w_sl ?_)⟩
      rw [show ((cnt cs fx : Nat) : Int) + 1 = ((cnt cs fx + 1 : Nat) : Int) from rfl, cut_mid, ← List.map_drop, ← List.map_take, Nat.add_sub_cancel_left]
      refine okE_lst (okE_cons (okE_prop (okE_frv rfl ⟨_, rfl, okT1 (span_ok ⟨rfl, okE_nil (w_fz1 ⟨Nat.le_of_ble_eq_true rfl, ?_⟩)⟩)⟩)))
      have ha : Ascs ((cs.drop (cnt cs fx)).take 1) := fun x hx => (h.nm x (List.mem_of_mem_drop (List.mem_of_mem_take hx))).asc
      have hb : Ascs [z] := fun x hx => by
        rw [List.mem_singleton.mp hx]
        exact (k.sh.sp z rfl).1.asc
      refine okW_eq rfl (okW_eq rfl (w_eq (dEqB_L ha hb) (okG_setC rfl ?_)))
      dsimp only [List.set]
      refine okS_ret (okE_tup ?_)
      walk_at "p"
      refine ⟨Nat.le_of_ble_eq_true rfl, ?_⟩
      walk_at "p"
      exact p
  refine okS_seq (okS_while (fun r ρ => ∃ c : Nat, ρ = [.cl (ordD cs), .cl (shD fx sp), .cl (.lst (LS (sortS fx))), .cl (.int c), .un] ∧ c ≤ cnt cs fx ∧ r + c = cs.length) ?_ 20 cs.length (by have := h.l2; omega) ⟨0, rfl, Nat.zero_le _, rfl⟩)
  rintro r ρ ⟨c, rfl, c1, c2⟩
  refine okB_and (okB_test (okE_op (okE_var rfl (okE_cb (okE_cons (okE_fld (okE_var rfl ⟨_, _, rfl, or_cols, ?_⟩)))))))
  walk_at "p"
  refine ⟨_, rfl, fun q => ?_, fun q => ?_⟩
  · have q := of_decide_eq_true q
    have q2 : c < cs.length := by omega
    refine okB_test (okE_op (okE_op (okE_fld (okE_var rfl ⟨_, _, rfl, or_cols, ?_⟩))))
    refine okE_var rfl (okW_eq rfl (okW_eq rfl (w_ixL q2 ?_)))
    refine okE_var rfl (okW_eq rfl (okW_eq rfl (w_in dInB_L ⟨_, rfl, fun z => ?_, fun z => ?_⟩)))
    · have z := sortS_mem.mp (of_decide_eq_true z)
      refine ⟨by omega, okS_aug (okE_var rfl (okE_c (okW_eq rfl (okW_eq rfl (w_addI (okG_setOc rfl ⟨c + 1, rfl, ?_, ?_⟩))))))⟩
      · exact (tw_step _ cs c q2 c1).1 (decide_eq_true z)
      · omega
    · have z : cs[c] ∉ fx := fun y => of_decide_eq_false z (sortS_mem.mpr y)
      have e : cnt cs fx = c := (tw_step _ cs c q2 c1).2 (decide_eq_false z)
      exact tail c e
  · have q := of_decide_eq_false q
    have e : cnt cs fx = c := by omega
    exact ⟨(fun q => by cases q), fun _ => tail c e⟩
end
end K12

/-! the plain law of k12: what is served -/
namespace K12
open PySem PySem.Spec PyProof.Rows L2 SL PM
local macro_rules | `(tactic| walk_at "p1") => `(tactic| first
  | with_reducible refine PM.okS_seq ?_ | with_reducible refine PM.okS_next ?_ | with_reducible refine PM.okS_asg ?_ | with_reducible refine PM.okS_ret ?_ | with_reducible refine PM.okS_drop ?_ | with_reducible refine PM.okS_aug ?_ | with_reducible refine PM.okS_cnt ?_
  | with_reducible refine PM.okE_op ?_ | with_reducible refine PM.okE_cb ?_ | with_reducible refine PM.okE_cons ?_ | with_reducible refine PM.okE_nil ?_ | with_reducible refine PM.okB_not ?_ | with_reducible refine PM.okE_c ?_
  | ((with_reducible refine' PM.okE_var ?hv ?_); (case hv => rfl)) | ((with_reducible refine' PM.okE_frv ?hv ?_); (case hv => rfl)) | with_reducible refine PM.okE_frc ?_ | with_reducible refine PM.okE_fr ?_
  | with_reducible refine PM.w_fz1 ?_ | with_reducible refine PM.w_fz2 ?_ | with_reducible refine PM.w_fz3 ?_
  | ((with_reducible refine' PM.okW_deref ?hv ?_); (case hv => rfl)) | ((with_reducible refine' PM.okW_derefs ?hv ?_); (case hv => rfl)) | ((with_reducible refine' PM.okW_fzs ?hv ?_); (case hv => rfl)) | ((with_reducible refine' PM.okW_fz ?hv ?_); (case hv => rfl))
  | with_reducible refine PM.w_add ?_ | with_reducible refine PM.w_sub ?_ | with_reducible refine PM.w_lt ?_ | with_reducible refine PM.w_le ?_ | with_reducible refine PM.w_gt ?_ | with_reducible refine PM.w_ge ?_ | with_reducible refine PM.w_addI ?_
  | with_reducible refine PM.w_mod (by omega) ?_ | with_reducible refine PM.w_div (by omega) (by rw [PM.big_eq]; omega) ?_ | with_reducible refine PM.w_mul (by rw [PM.big_eq]; omega) (by rw [PM.big_eq]; omega) (by rw [PM.big_eq]; omega) (by rw [PM.big_eq]; omega) ?_ | with_reducible refine PM.w_sq (by omega) (by omega) ?_
  | with_reducible refine PM.w_max2 ?_ | with_reducible refine PM.w_min2 ?_ | with_reducible refine PM.w_lenL ?_ | with_reducible refine PM.w_lenT ?_ | with_reducible refine PM.w_lenC ?_ | with_reducible refine PM.w_listL ?_ | with_reducible refine PM.w_listT ?_
  | ((with_reducible refine PM.okG_setC rfl ?_); (try dsimp only [List.set])) | ((with_reducible refine PM.okG_setCf rfl ?_); (try dsimp only [List.set])) | ((with_reducible refine PM.okG_setO rfl ?_); (try dsimp only [List.set])) | ((with_reducible refine PM.okG_setOc rfl ?_); (try dsimp only [List.set]))
  | ((with_reducible refine' PM.okW_ix ?hv ?_); (case hv => rfl))
  | ((with_reducible refine' PM.okW_ret ?hv ?_); (case hv => rfl)) | ((with_reducible refine' PM.okW_outs ?hv ?_); (case hv => rfl))
  | ((with_reducible refine' PM.okB_test ⟨_, ?hv, ?_⟩); (case hv => rfl)))
local macro_rules | `(tactic| walk_at "p") => `(tactic| repeat walk_at "p1")
def servB (cs fx : List Str) (sp : Option Str) : Bool := decide (cnt cs fx = fx.length) && (sp.isNone || nextB cs fx sp)
section
variable {ρ as : List Sl} {P : W → List Sl → Prop} {z : Str} {fx cs : List Str} {sp : Option Str}
theorem serves_ok (h : OrOk cs) (k : KnOk cs fx sp) (p : P (.cl (.bl (servB cs fx sp))) [.cl (ordD cs), .cl (shD fx sp)]) : okF (m_Order_serves [.cl (ordD cs), .cl (shD fx sp)]) P := by
  unfold m_Order_serves
  refine okF_fn rfl ?_
  show okS (b_Order_serves [.cl (ordD cs), .cl (shD fx sp), .un, .un]) _ _ _
  unfold b_Order_serves
  refine okS_seq (okS_asg (okE_meth (okE_frv rfl ⟨_, rfl, rfl, okE_cons (okE_frv rfl (okE_nil (okT2 (reach_ok h k ⟨rfl, okG_tup2 (okG_setC rfl ?_)⟩))))⟩)))
  dsimp only [List.set]
  refine okG_setC rfl ?_
  dsimp only [List.set]
  refine okS_ret (okE_andV (okE_op (okE_var rfl (okE_cb (okE_cons (okE_meth (okE_frv rfl ⟨_, rfl, rfl, okE_nil (okT1 (fixed_ok ⟨rfl, ?_⟩))⟩)))))))
  have hl : ((LS (sortS fx)).length : Int) = fx.length := by rw [List.length_map, sortS_len]
  walk_at "p"
  rw [hl]
  refine w_eqi ⟨_, rfl, fun q => ?_, fun q => ?_⟩
  · have q := of_decide_eq_true q
    have q2 : cnt cs fx = fx.length := by omega
    unfold servB at p
    rw [decide_eq_true q2, Bool.true_and] at p
    refine okE_orV (okE_op (okE_prop (okE_frv rfl ⟨_, rfl, okT1 (span_ok ⟨rfl, okE_c (okW_eq rfl (okW_eq rfl ?_))⟩)⟩)))
    cases sp with
    | none =>
      refine okW_eq (w := .cl (.bl true)) rfl ⟨true, rfl, (fun q => by cases q), fun _ => ?_⟩
      walk_at "p"
      exact p
    | some z =>
      refine okW_eq (w := .cl (.bl false)) rfl ⟨false, rfl, fun _ => ?_, (fun q => by cases q)⟩
      walk_at "p"
      exact p
  · have q := of_decide_eq_false q
    have q2 : ¬ cnt cs fx = fx.length := by omega
    unfold servB at p
    rw [decide_eq_false q2, Bool.false_and] at p
    walk_at "p"
    exact p
/-- shapes that are known, and an order's view of them -/
abbrev Sh := List Str × Option Str
abbrev shL (ss : List Sh) : List D := ss.map fun s => shD s.1 s.2
theorem sh_at {ss : List Sh} {j : Nat} {d : D} (h : (shL ss)[j]? = some d) : ∃ s, ss[j]? = some s ∧ d = shD s.1 s.2 := by
  rw [List.getElem?_map] at h
  cases e : ss[j]? with
  | none => rw [e] at h; cases h
  | some z =>
    rw [e] at h
    cases h
    exact ⟨z, rfl, rfl⟩
theorem need_all_ok {ss : List Sh} {d : D} (hd : d = .lst (shL ss) ∨ d = .tup (shL ss)) (h12 : ss.length ≤ 12) (k : ∀ s ∈ ss, KnOk cs s.1 s.2) (p : P (.cl .non) [.cl (.lst (LS cs)), .cl d]) : okF (m_need_all_known [.cl (.lst (LS cs)), .cl d]) P := by
  unfold m_need_all_known
  refine okF_fn rfl ?_
  show okS (b_need_all_known [.cl (.lst (LS cs)), .cl d, .un]) _ _ _
  unfold b_need_all_known
  have hl : (shL ss).length = ss.length := List.length_map ..
  have loop : okS (loopS (gSetC 2) (sDrop (callN [false, false] m_need_known (mCons (mFr (mVar 0)) (mCons (mFr (mVar 2)) mNil)))) (shL ss) [.cl (.lst (LS cs)), .cl d, .un]) (fun ρ => okW (outsOf [.cl (.lst (LS cs)), .cl d] ρ) fun o => P (.cl .non) o) (fun w ρ => okW (retW w ρ) fun w => okW (outsOf [.cl (.lst (LS cs)), .cl d] ρ) fun o => P w o) (fun _ _ => False) := by
    refine okS_loop (fun j ρ => ∃ s2, ρ = [.cl (.lst (LS cs)), .cl d, s2] ∧ free s2 = true) _ 0 ⟨_, rfl, rfl⟩ ?_ ?_
    · rintro j d2 ρ hj ⟨s2, rfl, f2⟩
      obtain ⟨s, hs, rfl⟩ := sh_at hj
      refine okG_setC (congrArg some f2) ?_
      dsimp only [List.set]
      exact okS_drop (okE_call2 (okE_cons (okE_frv rfl (okE_cons (okE_frv rfl (okE_nil ⟨_, _, rfl, need_ok (k s (List.mem_of_getElem? hs)) ⟨rfl, _, rfl, rfl⟩⟩))))))
    · rintro ρ ⟨s2, rfl, f2⟩
      exact ⟨_, rfl, p⟩
  rcases hd with rfl | rfl
  · refine okS_seq (okS_no (okB_or (okB_not (okB_tru (okE_call1 (okE_cons (okE_frv rfl (okE_nil ⟨_, rfl, is_list_ok ⟨rfl, _, true, rfl, rfl, (fun q => by cases q), fun _ => ?_⟩⟩))))))))
    refine okB_test (okE_op ?_)
    walk_at "p"
    refine ⟨_, rfl, decide_eq_false (by omega), okS_next ?_⟩
    exact okS_for (okE_iu (okE_var rfl (okW_eq rfl (okW_eq rfl (okW_eq rfl ⟨by omega, loop.mono (fun ρ h => ⟨ρ, rfl, h⟩) (fun _ _ h => h) fun _ _ h => h⟩)))))
  · refine okS_seq (okS_no (okB_or (okB_not (okB_tru (okE_call1 (okE_cons (okE_frv rfl (okE_nil ⟨_, rfl, is_tuple_ok ⟨rfl, _, true, rfl, rfl, (fun q => by cases q), fun _ => ?_⟩⟩))))))))
    refine okB_test (okE_op ?_)
    walk_at "p"
    refine ⟨_, rfl, decide_eq_false (by omega), okS_next ?_⟩
    exact okS_for (okE_iu (okE_var rfl (okW_eq rfl (okW_eq rfl (okW_eq rfl ⟨by omega, loop.mono (fun ρ h => ⟨ρ, rfl, h⟩) (fun _ _ h => h) fun _ _ h => h⟩)))))
end
end K12

/-! the plain law of k12: served shapes, and the law's own view of them -/
namespace K12
open PySem PySem.Spec PyProof.Rows L2 SL PM
local macro_rules | `(tactic| walk_at "p1") => `(tactic| first
  | with_reducible refine PM.okS_seq ?_ | with_reducible refine PM.okS_next ?_ | with_reducible refine PM.okS_asg ?_ | with_reducible refine PM.okS_ret ?_ | with_reducible refine PM.okS_drop ?_ | with_reducible refine PM.okS_aug ?_ | with_reducible refine PM.okS_cnt ?_
  | with_reducible refine PM.okE_op ?_ | with_reducible refine PM.okE_cb ?_ | with_reducible refine PM.okE_cons ?_ | with_reducible refine PM.okE_nil ?_ | with_reducible refine PM.okB_not ?_ | with_reducible refine PM.okE_c ?_
  | ((with_reducible refine' PM.okE_var ?hv ?_); (case hv => rfl)) | ((with_reducible refine' PM.okE_frv ?hv ?_); (case hv => rfl)) | with_reducible refine PM.okE_frc ?_ | with_reducible refine PM.okE_fr ?_
  | with_reducible refine PM.w_fz1 ?_ | with_reducible refine PM.w_fz2 ?_ | with_reducible refine PM.w_fz3 ?_
  | ((with_reducible refine' PM.okW_deref ?hv ?_); (case hv => rfl)) | ((with_reducible refine' PM.okW_derefs ?hv ?_); (case hv => rfl)) | ((with_reducible refine' PM.okW_fzs ?hv ?_); (case hv => rfl)) | ((with_reducible refine' PM.okW_fz ?hv ?_); (case hv => rfl))
  | with_reducible refine PM.w_add ?_ | with_reducible refine PM.w_sub ?_ | with_reducible refine PM.w_lt ?_ | with_reducible refine PM.w_le ?_ | with_reducible refine PM.w_gt ?_ | with_reducible refine PM.w_ge ?_ | with_reducible refine PM.w_addI ?_
  | with_reducible refine PM.w_mod (by omega) ?_ | with_reducible refine PM.w_div (by omega) (by rw [PM.big_eq]; omega) ?_ | with_reducible refine PM.w_mul (by rw [PM.big_eq]; omega) (by rw [PM.big_eq]; omega) (by rw [PM.big_eq]; omega) (by rw [PM.big_eq]; omega) ?_ | with_reducible refine PM.w_sq (by omega) (by omega) ?_
  | with_reducible refine PM.w_max2 ?_ | with_reducible refine PM.w_min2 ?_ | with_reducible refine PM.w_lenL ?_ | with_reducible refine PM.w_lenT ?_ | with_reducible refine PM.w_lenC ?_ | with_reducible refine PM.w_listL ?_ | with_reducible refine PM.w_listT ?_
  | ((with_reducible refine PM.okG_setC rfl ?_); (try dsimp only [List.set])) | ((with_reducible refine PM.okG_setCf rfl ?_); (try dsimp only [List.set])) | ((with_reducible refine PM.okG_setO rfl ?_); (try dsimp only [List.set])) | ((with_reducible refine PM.okG_setOc rfl ?_); (try dsimp only [List.set]))
  | ((with_reducible refine' PM.okW_ix ?hv ?_); (case hv => rfl))
  | ((with_reducible refine' PM.okW_ret ?hv ?_); (case hv => rfl)) | ((with_reducible refine' PM.okW_outs ?hv ?_); (case hv => rfl))
  | ((with_reducible refine' PM.okB_test ⟨_, ?hv, ?_⟩); (case hv => rfl)))
local macro_rules | `(tactic| walk_at "p") => `(tactic| repeat walk_at "p1")
section
variable {ρ as : List Sl} {P : W → List Sl → Prop} {z : Str} {fx cs : List Str} {sp : Option Str}
theorem served_ok {ss : List Sh} {d : D} (hd : d = .lst (shL ss) ∨ d = .tup (shL ss)) (h12 : ss.length ≤ 12) (h : OrOk cs) (k : ∀ s ∈ ss, KnOk cs s.1 s.2) (p : P (.fr (shL (ss.filter fun s => servB cs s.1 s.2))) [.cl (ordD cs), .cl d]) : okF (m_served_shapes [.cl (ordD cs), .cl d]) P := by
  unfold m_served_shapes
  refine okF_fn rfl ?_
  show okS (b_served_shapes [.cl (ordD cs), .cl d, .un]) _ _ _
  unfold b_served_shapes
  have hl : (shL ss).length = ss.length := List.length_map ..
  have loop : okE (loopC (gSetC 2) (mTru (mMeth "Order" "serves" [false, false] m_Order_serves (mFr (mVar 0)) (mCons (mFr (mVar 2)) mNil))) (mVar 2) [2] (shL ss) [.cl (ordD cs), .cl d, .un] []) fun acc ρ => okG (unl none ρ) fun ρ => okW (retW (.fr acc) ρ) fun w => okW (outsOf [.cl (ordD cs), .cl d] ρ) fun o => P w o := by
    refine okE_loopC (fun j ρ acc => ρ = [.cl (ordD cs), .cl d, .un] ∧ acc = shL ((ss.take j).filter fun s => servB cs s.1 s.2)) _ 0 ⟨rfl, rfl⟩ ?_ ?_
    · rintro j d2 ρ acc hj ⟨rfl, rfl⟩
      obtain ⟨s, hs, rfl⟩ := sh_at hj
      rw [Nat.zero_add]
      obtain ⟨hj2, e⟩ := List.getElem?_eq_some_iff.mp hs
      have e2 : ss.take (j + 1) = ss.take j ++ [s] := by rw [List.take_succ_eq_append_getElem hj2, e]
      refine okG_setC rfl ?_
      dsimp only [List.set]
      refine okB_tru (okE_meth (okE_frv rfl ⟨_, rfl, rfl, okE_cons (okE_frv rfl (okE_nil (okT2 (serves_ok h (k s (List.mem_of_getElem? hs)) ⟨rfl, _, _, rfl, rfl, fun q => ?_, fun q => ?_⟩))))⟩))
      · refine okE_var rfl (okW_eq rfl (okG_eq rfl ⟨rfl, ?_⟩))
        rw [e2, List.filter_append, List.filter_cons, q]
        simp
      · refine okG_eq rfl ⟨rfl, ?_⟩
        rw [e2, List.filter_append, List.filter_cons, q]
        simp
    · rintro ρ acc ⟨rfl, rfl⟩
      rw [hl, Nat.zero_add, List.take_of_length_le (Nat.le_refl _)]
      exact okG_eq rfl ⟨_, rfl, _, rfl, p⟩
  refine okS_seq (okS_drop (okE_call1 (okE_cons (okE_frv rfl (okE_nil ⟨_, rfl, need_order_ok ⟨rfl, ?_⟩⟩)))))
  refine okS_seq (okS_drop (okE_call2 (okE_cons (okE_fr (okE_meth (okE_frv rfl ⟨_, rfl, rfl, okE_nil (okT1 (ocols_ok ⟨rfl, okE_cons (okE_frv rfl (okE_nil ⟨_, _, rfl, need_all_ok hd h12 k ⟨rfl, ?_⟩⟩))⟩))⟩))))))
  rcases hd with rfl | rfl
  · exact okS_ret (okE_lc (okE_iu (okE_var rfl (okW_eq rfl (okW_eq rfl (okW_eq rfl ⟨by omega, rfl, loop⟩))))))
  · exact okS_ret (okE_lc (okE_iu (okE_var rfl (okW_eq rfl (okW_eq rfl (okW_eq rfl ⟨by omega, rfl, loop⟩))))))
def eqSp (z : Str) : Option Str → Bool
  | none => false
  | some y => decide (z = y)
theorem next_at {j : Nat} (e2 : cnt cs fx = j) (hz : cs[j]? = some z) : nextB cs fx sp = eqSp z sp := by
  obtain ⟨hj2, e⟩ := List.getElem?_eq_some_iff.mp hz
  have e3 : (cs.drop j).take 1 = [z] := by
    rw [List.drop_eq_getElem_cons hj2, e]
    rfl
  cases sp with
  | none => rfl
  | some y =>
    show decide ((cs.drop (cnt cs fx)).take 1 = [y]) = decide (z = y)
    rw [e2, e3]
    simp
theorem next_end (e2 : cnt cs fx = cs.length) : nextB cs fx sp = false := by
  cases sp with
  | none => rfl
  | some y =>
    show decide ((cs.drop (cnt cs fx)).take 1 = [y]) = _
    rw [e2, List.drop_of_length_le (Nat.le_refl _)]
    simp
theorem lreach_ok (h : OrOk cs) (hs : ∀ z, sp = some z → Asc z) (p : P (.cl (.tup [.int (cnt cs fx), .bl (nextB cs fx sp)])) [.cl (.lst (LS cs)), .cl (.lst (LS fx)), .cl (spD sp)]) : okF (m_l_law_reach [.cl (.lst (LS cs)), .cl (.lst (LS fx)), .cl (spD sp)]) P := by
  unfold m_l_law_reach
  refine okF_fn rfl ?_
  show okS (b_l_law_reach [.cl (.lst (LS cs)), .cl (.lst (LS fx)), .cl (spD sp), .un, .un]) _ _ _
  unfold b_l_law_reach
  have hl : (LS cs).length = cs.length := List.length_map ..
  have h2 := h.l2
  have hc := cnt_le cs fx
  refine okS_seq (okS_asg (okE_c (okG_setC rfl ?_)))
  dsimp only [List.set]
  refine okS_seq (okS_for (okE_iu (okE_var rfl (okW_eq rfl (okW_eq rfl (okW_eq rfl ⟨by omega, ?_⟩))))))
  refine okS_loop (fun j ρ => j ≤ cnt cs fx ∧ ∃ s4, ρ = [.cl (.lst (LS cs)), .cl (.lst (LS fx)), .cl (spD sp), .cl (.int j), s4] ∧ free s4 = true) _ 0 ⟨Nat.zero_le _, _, rfl, rfl⟩ ?_ ?_
  · rintro j d ρ hj ⟨hj1, s4, rfl, f4⟩
    obtain ⟨z, hz, rfl⟩ := strs_at hj
    rw [Nat.zero_add] at hj1 ⊢
    obtain ⟨hj2, e⟩ := List.getElem?_eq_some_iff.mp hz
    obtain ⟨t1, t2⟩ := tw_step (fun z => decide (z ∈ fx)) cs j hj2 hj1
    rw [e] at t1 t2
    refine okG_setC (congrArg some f4) ?_
    dsimp only [List.set]
    refine okS_seq (okS_if (okB_test (okE_op (okE_var rfl (okE_var rfl (okW_eq rfl (okW_eq rfl (w_niL ⟨_, rfl, fun q => ?_, fun q => ?_⟩))))))))
    · have q : z ∉ fx := by simpa using q
      have e2 : cnt cs fx = j := t2 (decide_eq_false q)
      have e4 : nextB cs fx sp = eqSp z sp := next_at e2 hz
      have za : Asc z := (h.nm z (List.mem_of_getElem? hz)).asc
      refine okS_ret (okE_tup (okE_cons (okE_var rfl (okE_cons (okE_op (okE_var rfl (okE_var rfl ?_)))))))
      rw [e2, e4] at p
      cases sp with
      | none =>
        refine okW_eq rfl (okW_eq rfl (w_eq (dEqB_SN za) ?_))
        walk_at "p"
        refine ⟨Nat.le_of_ble_eq_true rfl, ?_⟩
        walk_at "p"
        exact p
      | some y =>
        refine okW_eq rfl (okW_eq rfl (w_eq (dEqB_S za (hs y rfl)) ?_))
        walk_at "p"
        refine ⟨Nat.le_of_ble_eq_true rfl, ?_⟩
        walk_at "p"
        exact p
    · have q : z ∈ fx := by simpa using q
      refine okS_next (okS_asg (okE_op ?_))
      walk_at "p"
      exact ⟨t1 (decide_eq_true q), _, rfl, rfl⟩
  · rintro ρ ⟨hj1, s4, rfl, f4⟩
    rw [hl, Nat.zero_add] at hj1
    have e2 : cnt cs fx = cs.length := by omega
    have e4 : nextB cs fx sp = false := next_end e2
    rw [e2, e4] at p
    refine okG_eq rfl (okS_ret (okE_tup ?_))
    walk_at "p"
    refine ⟨Nat.le_of_ble_eq_true rfl, ?_⟩
    walk_at "p"
    rw [hl, Nat.zero_add]
    exact p
end
end K12

/-! the plain law of k12: the law's own view of what is served -/
namespace K12
open PySem PySem.Spec PyProof.Rows L2 SL PM
local macro_rules | `(tactic| walk_at "p1") => `(tactic| first
  | with_reducible refine PM.okS_seq ?_ | with_reducible refine PM.okS_next ?_ | with_reducible refine PM.okS_asg ?_ | with_reducible refine PM.okS_ret ?_ | with_reducible refine PM.okS_drop ?_ | with_reducible refine PM.okS_aug ?_ | with_reducible refine PM.okS_cnt ?_
  | with_reducible refine PM.okE_op ?_ | with_reducible refine PM.okE_cb ?_ | with_reducible refine PM.okE_cons ?_ | with_reducible refine PM.okE_nil ?_ | with_reducible refine PM.okB_not ?_ | with_reducible refine PM.okE_c ?_
  | ((with_reducible refine' PM.okE_var ?hv ?_); (case hv => rfl)) | ((with_reducible refine' PM.okE_frv ?hv ?_); (case hv => rfl)) | with_reducible refine PM.okE_frc ?_ | with_reducible refine PM.okE_fr ?_
  | with_reducible refine PM.w_fz1 ?_ | with_reducible refine PM.w_fz2 ?_ | with_reducible refine PM.w_fz3 ?_
  | ((with_reducible refine' PM.okW_deref ?hv ?_); (case hv => rfl)) | ((with_reducible refine' PM.okW_derefs ?hv ?_); (case hv => rfl)) | ((with_reducible refine' PM.okW_fzs ?hv ?_); (case hv => rfl)) | ((with_reducible refine' PM.okW_fz ?hv ?_); (case hv => rfl))
  | with_reducible refine PM.w_add ?_ | with_reducible refine PM.w_sub ?_ | with_reducible refine PM.w_lt ?_ | with_reducible refine PM.w_le ?_ | with_reducible refine PM.w_gt ?_ | with_reducible refine PM.w_ge ?_ | with_reducible refine PM.w_addI ?_
  | with_reducible refine PM.w_mod (by omega) ?_ | with_reducible refine PM.w_div (by omega) (by rw [PM.big_eq]; omega) ?_ | with_reducible refine PM.w_mul (by rw [PM.big_eq]; omega) (by rw [PM.big_eq]; omega) (by rw [PM.big_eq]; omega) (by rw [PM.big_eq]; omega) ?_ | with_reducible refine PM.w_sq (by omega) (by omega) ?_
  | with_reducible refine PM.w_max2 ?_ | with_reducible refine PM.w_min2 ?_ | with_reducible refine PM.w_lenL ?_ | with_reducible refine PM.w_lenT ?_ | with_reducible refine PM.w_lenC ?_ | with_reducible refine PM.w_listL ?_ | with_reducible refine PM.w_listT ?_
  | ((with_reducible refine PM.okG_setC rfl ?_); (try dsimp only [List.set])) | ((with_reducible refine PM.okG_setCf rfl ?_); (try dsimp only [List.set])) | ((with_reducible refine PM.okG_setO rfl ?_); (try dsimp only [List.set])) | ((with_reducible refine PM.okG_setOc rfl ?_); (try dsimp only [List.set]))
  | ((with_reducible refine' PM.okW_ix ?hv ?_); (case hv => rfl))
  | ((with_reducible refine' PM.okW_ret ?hv ?_); (case hv => rfl)) | ((with_reducible refine' PM.okW_outs ?hv ?_); (case hv => rfl))
  | ((with_reducible refine' PM.okB_test ⟨_, ?hv, ?_⟩); (case hv => rfl)))
local macro_rules | `(tactic| walk_at "p") => `(tactic| repeat walk_at "p1")
theorem nodup_len : ∀ {l m : List Str}, l.Nodup → (∀ x ∈ l, x ∈ m) → l.length ≤ m.length
  | [], m, _, _ => Nat.zero_le _
  | a :: l, m, hn, hs => by
    obtain ⟨h1, h2⟩ := List.nodup_cons.mp hn
    have ha := hs a (List.mem_cons_self ..)
    have p := List.perm_cons_erase ha
    have := nodup_len (m := m.erase a) h2 fun x hx => (List.mem_erase_of_ne (fun (e : x = a) => h1 (e ▸ hx))).mpr (hs x (List.mem_cons_of_mem _ hx))
    have := p.length_eq
    rw [List.length_cons] at this ⊢
    omega
theorem nodup_perm : ∀ {l m : List Str}, l.Nodup → (∀ x ∈ l, x ∈ m) → m.length ≤ l.length → l.Perm m
  | [], m, _, _, hl => by
    rw [List.eq_nil_of_length_eq_zero (l := m) (by simpa using hl)]
  | a :: l, m, hn, hs, hl => by
    obtain ⟨h1, h2⟩ := List.nodup_cons.mp hn
    have ha := hs a (List.mem_cons_self ..)
    have p := List.perm_cons_erase ha
    have e := p.length_eq
    rw [List.length_cons] at e hl
    exact ((nodup_perm (m := m.erase a) h2 (fun x hx => (List.mem_erase_of_ne (fun (e : x = a) => h1 (e ▸ hx))).mpr (hs x (List.mem_cons_of_mem _ hx))) (by omega)).cons a).trans p.symm
theorem tw_take {α : Type} (p : α → Bool) : ∀ l : List α, l.take (l.takeWhile p).length = l.takeWhile p
  | [] => rfl
  | a :: l => by
    rw [List.takeWhile_cons]
    cases p a with
    | false => rfl
    | true => 
      show (a :: l).take ((l.takeWhile p).length + 1) = a :: l.takeWhile p
      rw [List.take_succ_cons, tw_take p l]
theorem tw_ge {α : Type} (p : α → Bool) : ∀ (l : List α) (n : Nat), n ≤ l.length → (∀ x ∈ l.take n, p x = true) → n ≤ (l.takeWhile p).length
  | _, 0, _, _ => Nat.zero_le _
  | [], n + 1, h, _ => absurd h (by simp)
  | a :: l, n + 1, h, hp => by
    rw [List.takeWhile_cons, hp a (by rw [List.take_succ_cons]; exact List.mem_cons_self ..)]
    have := tw_ge p l n (by simpa using h) fun x hx => hp x (by rw [List.take_succ_cons]; exact List.mem_cons_of_mem _ hx)
    show n + 1 ≤ (l.takeWhile p).length + 1
    omega
theorem tw_mem {α : Type} {p : α → Bool} : ∀ {l : List α} {x : α}, x ∈ l.takeWhile p → p x = true
  | [], x, h => by cases h
  | a :: l, x, h => by
    rw [List.takeWhile_cons] at h
    cases q : p a with
    | false =>
      rw [q] at h
      cases h
    | true =>
      rw [q] at h
      rcases List.mem_cons.mp h with rfl | h
      · exact q
      · exact tw_mem h
section
variable {ρ as : List Sl} {P : W → List Sl → Prop} {z : Str} {fx cs : List Str} {sp : Option Str}
theorem serv_perm (hc : cs.Nodup) (hf : fx.Nodup) : sortS (cs.take fx.length) = sortS fx ↔ cnt cs fx = fx.length := by
  rw [sortS_eq]
  have hw : ∀ x ∈ cs.takeWhile (fun z => decide (z ∈ fx)), x ∈ fx := fun x hx => of_decide_eq_true (tw_mem (p := fun z => decide (z ∈ fx)) hx)
  have hwn : (cs.takeWhile (fun z => decide (z ∈ fx))).Nodup := hc.sublist (List.takeWhile_sublist _)
  constructor
  · intro h
    have h1 : fx.length ≤ cs.length := by
      have := h.length_eq
      rw [List.length_take] at this
      omega
    have h2 := tw_ge (fun z => decide (z ∈ fx)) cs fx.length h1 fun x hx => decide_eq_true (h.mem_iff.mp hx)
    have h3 := nodup_len hwn hw
    unfold cnt
    omega
  · intro h
    have e : cs.take fx.length = cs.takeWhile (fun z => decide (z ∈ fx)) := by
      rw [← h]
      exact tw_take _ cs
    rw [e]
    exact nodup_perm hwn hw (by unfold cnt at h; omega)
theorem lserves_ok (h : OrOk cs) (k : KnOk cs fx sp) (p : P (.cl (.bl (servB cs fx sp))) [.cl (.lst (LS cs)), .cl (.lst (LS fx)), .cl (spD sp)]) : okF (m_l_law_serves [.cl (.lst (LS cs)), .cl (.lst (LS fx)), .cl (spD sp)]) P := by
  unfold m_l_law_serves
  refine okF_fn rfl ?_
  show okS (b_l_law_serves [.cl (.lst (LS cs)), .cl (.lst (LS fx)), .cl (spD sp), .un]) _ _ _
  unfold b_l_law_serves
  have hl : (LS fx).length = fx.length := List.length_map ..
  have h2 := h.l2
  have h3 := k.sh.len
  have ha : Ascs cs := fun x hx => (h.nm x hx).asc
  have hf : Ascs fx := fun x hx => (k.sh.nm x hx).asc
  refine okS_seq (okS_asg (okE_op (okE_cb (okE_cons (okE_sl (okE_var rfl (okE_nopart (okE_part (okE_cb (okE_cons (okE_var rfl (okE_nil (okW_eq rfl (w_lenL ⟨_, rfl, okW_eq rfl (w_sl ?_)⟩))))))))))))))
  rw [cut_take, hl, ← List.map_take]
  refine okE_nil (okW_eq rfl (w_srt (by rw [List.length_take]; omega) (okE_cb (okE_cons (okE_var rfl (okE_nil (okW_eq rfl (w_srt (by omega) ?_))))))))
  refine okW_eq rfl (okW_eq rfl (w_eq (dEqB_L (fun x hx => ha x (List.mem_of_mem_take (sortS_mem.mp hx))) (fun x hx => hf x (sortS_mem.mp hx))) (okG_setC rfl ?_)))
  dsimp only [List.set]
  have e : decide (sortS (cs.take fx.length) = sortS fx) = decide (cnt cs fx = fx.length) := by
    rw [Bool.eq_iff_iff, decide_eq_true_eq, decide_eq_true_eq]
    exact serv_perm h.nd k.sh.nd
  rw [e]
  refine okS_ret (okE_andV (okE_var rfl ⟨_, rfl, fun q => ?_, fun q => ?_⟩))
  · have q2 := of_decide_eq_true q
    unfold servB at p
    rw [q, Bool.true_and] at p
    cases sp with
    | none =>
      refine okE_orV (okE_eq (w := .cl (.bl true)) rfl ⟨true, rfl, (fun q => by cases q), fun _ => ?_⟩)
      walk_at "p"
      exact p
    | some z =>
      refine okE_orV (okE_eq (w := .cl (.bl false)) rfl ⟨false, rfl, fun _ => ?_, (fun q => by cases q)⟩)
      refine okE_op (okE_sl (okE_var rfl (okE_part (okE_cb (okE_cons (okE_var rfl (okE_nil (okW_eq rfl (w_lenL ⟨_, rfl, ?_⟩)))))))))
      refine okE_part (okE_op ?_)
      walk_at "p"
      refine ⟨_, rfl, okW_eq rfl (w_sl ?_)⟩
      rw [hl, show ((fx.length : Nat) : Int) + 1 = ((fx.length + 1 : Nat) : Int) from rfl, cut_mid, ← List.map_drop, ← List.map_take, Nat.add_sub_cancel_left]
      refine okE_lst (okE_cons (okE_var rfl (okE_nil (w_fz1 ⟨Nat.le_of_ble_eq_true rfl, ?_⟩))))
      have ha : Ascs ((cs.drop fx.length).take 1) := fun x hx => (h.nm x (List.mem_of_mem_drop (List.mem_of_mem_take hx))).asc
      have hb : Ascs [z] := fun x hx => by
        rw [List.mem_singleton.mp hx]
        exact (k.sh.sp z rfl).1.asc
      refine okW_eq rfl (okW_eq rfl (w_eq (dEqB_L (ws := [z]) ha hb) ?_))
      walk_at "p"
      have e5 : nextB cs fx (some z) = decide ((cs.drop fx.length).take 1 = [z]) := by
        show decide ((cs.drop (cnt cs fx)).take 1 = [z]) = _
        rw [q2]
      rw [e5] at p
      exact p
  · unfold servB at p
    rw [q, Bool.false_and] at p
    walk_at "p"
    exact p
end
end K12

/-! the plain law of k12: a shape's text -/
namespace K12
open PySem PySem.Spec PyProof.Rows L2 SL PM
local macro_rules | `(tactic| walk_at "p1") => `(tactic| first
  | with_reducible refine PM.okS_seq ?_ | with_reducible refine PM.okS_next ?_ | with_reducible refine PM.okS_asg ?_ | with_reducible refine PM.okS_ret ?_ | with_reducible refine PM.okS_drop ?_ | with_reducible refine PM.okS_aug ?_ | with_reducible refine PM.okS_cnt ?_
  | with_reducible refine PM.okE_op ?_ | with_reducible refine PM.okE_cb ?_ | with_reducible refine PM.okE_cons ?_ | with_reducible refine PM.okE_nil ?_ | with_reducible refine PM.okB_not ?_ | with_reducible refine PM.okE_c ?_
  | ((with_reducible refine' PM.okE_var ?hv ?_); (case hv => rfl)) | ((with_reducible refine' PM.okE_frv ?hv ?_); (case hv => rfl)) | with_reducible refine PM.okE_frc ?_ | with_reducible refine PM.okE_fr ?_
  | with_reducible refine PM.w_fz1 ?_ | with_reducible refine PM.w_fz2 ?_ | with_reducible refine PM.w_fz3 ?_
  | ((with_reducible refine' PM.okW_deref ?hv ?_); (case hv => rfl)) | ((with_reducible refine' PM.okW_derefs ?hv ?_); (case hv => rfl)) | ((with_reducible refine' PM.okW_fzs ?hv ?_); (case hv => rfl)) | ((with_reducible refine' PM.okW_fz ?hv ?_); (case hv => rfl))
  | with_reducible refine PM.w_add ?_ | with_reducible refine PM.w_sub ?_ | with_reducible refine PM.w_lt ?_ | with_reducible refine PM.w_le ?_ | with_reducible refine PM.w_gt ?_ | with_reducible refine PM.w_ge ?_ | with_reducible refine PM.w_addI ?_
  | with_reducible refine PM.w_mod (by omega) ?_ | with_reducible refine PM.w_div (by omega) (by rw [PM.big_eq]; omega) ?_ | with_reducible refine PM.w_mul (by rw [PM.big_eq]; omega) (by rw [PM.big_eq]; omega) (by rw [PM.big_eq]; omega) (by rw [PM.big_eq]; omega) ?_ | with_reducible refine PM.w_sq (by omega) (by omega) ?_
  | with_reducible refine PM.w_max2 ?_ | with_reducible refine PM.w_min2 ?_ | with_reducible refine PM.w_lenL ?_ | with_reducible refine PM.w_lenT ?_ | with_reducible refine PM.w_lenC ?_ | with_reducible refine PM.w_listL ?_ | with_reducible refine PM.w_listT ?_
  | ((with_reducible refine PM.okG_setC rfl ?_); (try dsimp only [List.set])) | ((with_reducible refine PM.okG_setCf rfl ?_); (try dsimp only [List.set])) | ((with_reducible refine PM.okG_setO rfl ?_); (try dsimp only [List.set])) | ((with_reducible refine PM.okG_setOc rfl ?_); (try dsimp only [List.set]))
  | ((with_reducible refine' PM.okW_ix ?hv ?_); (case hv => rfl))
  | ((with_reducible refine' PM.okW_ret ?hv ?_); (case hv => rfl)) | ((with_reducible refine' PM.okW_outs ?hv ?_); (case hv => rfl))
  | ((with_reducible refine' PM.okB_test ⟨_, ?hv, ?_⟩); (case hv => rfl)))
local macro_rules | `(tactic| walk_at "p") => `(tactic| repeat walk_at "p1")
theorem joinL_props {sep : List Nat} (h1 : sep.length = 1) (h2 : ∀ c ∈ sep, c < 128) : ∀ ls : List (List Nat), (∀ l ∈ ls, l.length ≤ 8 ∧ ∀ c ∈ l, c < 128) → (TL.joinL sep ls).length ≤ 9 * ls.length ∧ ∀ c ∈ TL.joinL sep ls, c < 128
  | [], _ => ⟨Nat.zero_le _, fun c h => by cases h⟩
  | [p], h => by
    have hp := h p (List.mem_cons_self ..)
    refine ⟨?_, hp.2⟩
    show p.length ≤ 9 * 1
    omega
  | p :: q :: r, h => by
    have hp := h p (List.mem_cons_self ..)
    obtain ⟨i1, i2⟩ := joinL_props h1 h2 (q :: r) fun l hl => h l (List.mem_cons_of_mem _ hl)
    simp only [TL.joinL, List.length_append, List.length_cons] at i1 i2 ⊢
    refine ⟨by omega, fun c hc => ?_⟩
    rcases List.mem_append.mp hc with hc | hc
    · exact hp.2 c hc
    · rcases List.mem_append.mp hc with hc | hc
      · exact h2 c hc
      · exact i2 c hc
theorem join_plus {zs : List Str} (h : ∀ z ∈ zs, Nm z) : (Txt.join "+" zs).length ≤ 9 * zs.length ∧ Asc (Txt.join "+" zs) := by
  have e := TL.tl_join "+" zs
  have e2 : TL.tl ("+" : Str) = [43] := by decide +kernel
  rw [e2] at e
  have p := joinL_props (sep := [43]) rfl (by decide) (zs.map TL.tl) fun l hl => by
    obtain ⟨z, hz, rfl⟩ := List.mem_map.mp hl
    exact ⟨(h z hz).2.1, (h z hz).asc⟩
  rw [List.length_map] at p
  rw [← e] at p
  rw [TL.join_eq, SL.len_str]
  exact p
section
variable {ρ as : List Sl} {P : W → List Sl → Prop} {z : Str} {fx cs : List Str} {sp : Option Str}
theorem w_joinP {zs : List Str} {Q : W → Prop} (h : ∀ z ∈ zs, Nm z) (hl : zs.length ≤ 5) (q : Q (.cl (.str (Txt.join "+" zs)))) : okW (fJoin "+" [.lst (LS zs)]) Q := by
  refine ⟨_, ?_, q⟩
  show ((strsOf (LS zs)).bind fun zs => if (zs.map (·.length)).sum + zs.length * (("+" : Str).length) ≤ 16777216 then some (W.cl (.str (Txt.join "+" zs))) else none) = _
  rw [strsOf_map]
  show (if (zs.map (·.length)).sum + zs.length * (("+" : Str).length) ≤ 16777216 then some (W.cl (.str (Txt.join "+" zs))) else none) = _
  have e : (zs.map (·.length)).sum ≤ 8 * zs.length := by
    clear q hl
    induction zs with
    | nil => exact Nat.le_refl _
    | cons z zs ih =>
      rw [List.map_cons, List.sum_cons, List.length_cons]
      have := ih fun x hx => h x (List.mem_cons_of_mem _ hx)
      have h8 := (h z (List.mem_cons_self ..)).2.1
      rw [← SL.len_str] at h8
      omega
  have e2 : (("+" : Str).length) = 1 := by decide +kernel
  rw [if_pos (by rw [e2]; omega)]
theorem okE_fmt {a : Mo W} (h : okE (a ρ) fun w ρ => ∃ z : Str, deref ρ w = some (.str z) ∧ z.length ≤ 100000 ∧ P (.cl (.str z)) ρ) : okE (mFmt a ρ) P := okE_bind (h.mono fun w ρ h => by
  obtain ⟨z, e, hl, p⟩ := h
  rw [e]
  show okE (if z.length ≤ 100000 then some (.ok (.cl (.str z)) ρ) else none) P
  rw [if_pos hl]
  exact okE_some p)
theorem okE_js {m : Mo W} {ms : List (Mo W)} {acc : Str} (h : okE (m ρ) fun w ρ => ∃ y : Str, deref ρ w = some (.str y) ∧ (acc ++ y).length ≤ 100000 ∧ okE (mJs ms (acc ++ y) ρ) P) : okE (mJs (m :: ms) acc ρ) P := okE_bind (h.mono fun w ρ h => by
  obtain ⟨y, e, hl, p⟩ := h
  rw [e]
  show okE (if (acc ++ y).length ≤ 100000 then mJs ms (acc ++ y) ρ else none) P
  rw [if_pos hl]
  exact p)
theorem okE_jn {acc : Str} (h : P (.cl (.str acc)) ρ) : okE (mJs [] acc ρ) P := okE_some h
theorem str_ok (h : ShOk fx sp) : ∃ z, Asc z ∧ okF (m_Shape_D_str_D [.cl (shD fx sp)]) fun w o => w = .cl (.str z) ∧ o.length = 1 := by
  have h5 := h.len
  have hx : Ascs (sortS fx) := fun z hz => (h.nm z (sortS_mem.mp hz)).asc
  have hl := sortS_len fx
  have hn : ∀ z ∈ sortS fx, Nm z := fun z hz => h.nm z (sortS_mem.mp hz)
  obtain ⟨j1, j2⟩ := join_plus hn
  let hd : Str := if sortS fx = [] then "-" else Txt.join "+" (sortS fx)
  let tl : Str := match sp with
    | none => ""
    | some z => (Str.empty ++ ":") ++ z
  have d1 : ("-" : Str).length = 1 := by decide +kernel
  have d2 : (":" : Str).length = 1 := by decide +kernel
  have d3 : ("" : Str).length = 0 := by decide +kernel
  have d4 : Str.empty.length = 0 := rfl
  have a1 : Asc "-" := by unfold Asc; decide +kernel
  have a2 : Asc ":" := by unfold Asc; decide +kernel
  have a3 : Asc "" := by unfold Asc; decide +kernel
  have a4 : Asc Str.empty := by unfold Asc; decide +kernel
  have hdl : hd.length ≤ 45 ∧ Asc hd := by
    show (if sortS fx = [] then ("-" : Str) else Txt.join "+" (sortS fx)).length ≤ 45 ∧ Asc (if sortS fx = [] then ("-" : Str) else Txt.join "+" (sortS fx))
    split
    · exact ⟨by omega, a1⟩
    · exact ⟨by omega, j2⟩
  have tll : tl.length ≤ 9 ∧ Asc tl := by
    cases sp with
    | none => exact ⟨by show ("" : Str).length ≤ 9; omega, a3⟩
    | some z =>
      have hz := (h.sp z rfl).1
      have h8 := hz.2.1
      rw [← SL.len_str] at h8
      exact ⟨by show ((Str.empty ++ ":") ++ z).length ≤ 9; rw [SL.len_add, SL.len_add]; omega, (a4.add a2).add hz.asc⟩
  refine ⟨(Str.empty ++ hd) ++ tl, (a4.add hdl.2).add tll.2, ?_⟩
  unfold m_Shape_D_str_D
  refine okF_fn rfl ?_
  show okS (b_Shape_D_str_D [.cl (shD fx sp), .un, .un]) _ _ _
  unfold b_Shape_D_str_D
  refine okS_seq (okS_asg (okE.mono (P := fun w ρ' => w = W.cl (.str hd) ∧ ρ' = [.cl (shD fx sp), .un, .un]) ?_ fun w ρ hw => ?_))
  · refine okE_if (okB_test (okE_op (okE_fld (okE_var rfl ⟨_, _, rfl, sh_fixed, okE_eq (w := .fr (LS [])) rfl (okW_eq rfl (okW_eq rfl (w_ne (dEqB_L (ws := []) hx (fun z hz => by cases hz)) ⟨_, rfl, fun q => ?_, fun q => ?_⟩)))⟩))))
    · have q : sortS fx ≠ [] := by simpa using q
      refine okE_bs (okE_c ⟨_, rfl, okE_cons (okE_fld (okE_var rfl ⟨_, _, rfl, sh_fixed, okE_nil (okW_eq rfl (w_joinP hn (by omega) ⟨?_, rfl⟩))⟩))⟩)
      show W.cl (.str (Txt.join "+" (sortS fx))) = W.cl (.str (if sortS fx = [] then ("-" : Str) else Txt.join "+" (sortS fx)))
      rw [if_neg q]
    · have q : sortS fx = [] := by simpa using q
      refine okE_c ⟨?_, rfl⟩
      show W.cl (.str ("-" : Str)) = W.cl (.str (if sortS fx = [] then ("-" : Str) else Txt.join "+" (sortS fx)))
      rw [if_pos q]
  obtain ⟨rfl, rfl⟩ := hw
  refine okG_setC rfl ?_
  dsimp only [List.set]
  have fin : okS (sRet (mJs [(mFmt (mVar 1)), (mFmt (mVar 2))] Str.empty) [.cl (shD fx sp), .cl (.str hd), .cl (.str tl)]) (fun ρ => okW (outsOf [.cl (shD fx sp)] ρ) fun o => W.cl .non = .cl (.str ((Str.empty ++ hd) ++ tl)) ∧ o.length = 1) (fun w ρ => okW (retW w ρ) fun w => okW (outsOf [.cl (shD fx sp)] ρ) fun o => w = .cl (.str ((Str.empty ++ hd) ++ tl)) ∧ o.length = 1) (fun _ _ => False) := by
    refine okS_ret (okE_js (okE_fmt (okE_var rfl ⟨_, rfl, by omega, _, rfl, by rw [SL.len_add]; omega, okE_js (okE_fmt (okE_var rfl ⟨_, rfl, by omega, _, rfl, by rw [SL.len_add, SL.len_add]; omega, okE_jn ?_⟩))⟩)))
    exact ⟨_, rfl, _, rfl, rfl, rfl⟩
  refine okS_seq (okS_asg (okE_if (okB_test (okE_op (okE_fld (okE_var rfl ⟨_, _, rfl, sh_span, okE_c (okW_eq rfl (okW_eq rfl ?_))⟩))))))
  cases sp with
  | none =>
    refine okW_eq (w := .cl (.bl true)) rfl ⟨true, rfl, fun _ => okE_c (okG_setC rfl ?_), (fun q => by cases q)⟩
    exact fin
  | some z =>
    have hz := (h.sp z rfl).1
    have h8 := hz.2.1
    rw [← SL.len_str] at h8
    refine okW_eq (w := .cl (.bl false)) rfl ⟨false, rfl, (fun q => by cases q), fun _ => ?_⟩
    refine okE_js (okE_c ⟨_, rfl, by rw [SL.len_add]; omega, okE_js (okE_fmt (okE_fld (okE_var rfl ⟨_, _, rfl, sh_span, _, rfl, by omega, _, rfl, by rw [SL.len_add, SL.len_add]; omega, okE_jn (okG_setC rfl ?_)⟩)))⟩)
    exact fin
end
end K12

/-! the plain law of k12: one turn over the shapes -/
namespace K12
open PySem PySem.Spec PyProof.Rows L2 SL PM
local macro_rules | `(tactic| walk_at "p1") => `(tactic| first
  | with_reducible refine PM.okS_seq ?_ | with_reducible refine PM.okS_next ?_ | with_reducible refine PM.okS_asg ?_ | with_reducible refine PM.okS_ret ?_ | with_reducible refine PM.okS_drop ?_ | with_reducible refine PM.okS_aug ?_ | with_reducible refine PM.okS_cnt ?_
  | with_reducible refine PM.okE_op ?_ | with_reducible refine PM.okE_cb ?_ | with_reducible refine PM.okE_cons ?_ | with_reducible refine PM.okE_nil ?_ | with_reducible refine PM.okB_not ?_ | with_reducible refine PM.okE_c ?_
  | ((with_reducible refine' PM.okE_var ?hv ?_); (case hv => rfl)) | ((with_reducible refine' PM.okE_frv ?hv ?_); (case hv => rfl)) | with_reducible refine PM.okE_frc ?_ | with_reducible refine PM.okE_fr ?_
  | with_reducible refine PM.w_fz1 ?_ | with_reducible refine PM.w_fz2 ?_ | with_reducible refine PM.w_fz3 ?_
  | ((with_reducible refine' PM.okW_deref ?hv ?_); (case hv => rfl)) | ((with_reducible refine' PM.okW_derefs ?hv ?_); (case hv => rfl)) | ((with_reducible refine' PM.okW_fzs ?hv ?_); (case hv => rfl)) | ((with_reducible refine' PM.okW_fz ?hv ?_); (case hv => rfl))
  | with_reducible refine PM.w_add ?_ | with_reducible refine PM.w_sub ?_ | with_reducible refine PM.w_lt ?_ | with_reducible refine PM.w_le ?_ | with_reducible refine PM.w_gt ?_ | with_reducible refine PM.w_ge ?_ | with_reducible refine PM.w_addI ?_
  | with_reducible refine PM.w_mod (by omega) ?_ | with_reducible refine PM.w_div (by omega) (by rw [PM.big_eq]; omega) ?_ | with_reducible refine PM.w_mul (by rw [PM.big_eq]; omega) (by rw [PM.big_eq]; omega) (by rw [PM.big_eq]; omega) (by rw [PM.big_eq]; omega) ?_ | with_reducible refine PM.w_sq (by omega) (by omega) ?_
  | with_reducible refine PM.w_max2 ?_ | with_reducible refine PM.w_min2 ?_ | with_reducible refine PM.w_lenL ?_ | with_reducible refine PM.w_lenT ?_ | with_reducible refine PM.w_lenC ?_ | with_reducible refine PM.w_listL ?_ | with_reducible refine PM.w_listT ?_
  | ((with_reducible refine PM.okG_setC rfl ?_); (try dsimp only [List.set])) | ((with_reducible refine PM.okG_setCf rfl ?_); (try dsimp only [List.set])) | ((with_reducible refine PM.okG_setO rfl ?_); (try dsimp only [List.set])) | ((with_reducible refine PM.okG_setOc rfl ?_); (try dsimp only [List.set]))
  | ((with_reducible refine' PM.okW_ix ?hv ?_); (case hv => rfl))
  | ((with_reducible refine' PM.okW_ret ?hv ?_); (case hv => rfl)) | ((with_reducible refine' PM.okW_outs ?hv ?_); (case hv => rfl))
  | ((with_reducible refine' PM.okB_test ⟨_, ?hv, ?_⟩); (case hv => rfl)))
local macro_rules | `(tactic| walk_at "p") => `(tactic| repeat walk_at "p1")
theorem rep1 : ∀ c < 6, ∀ b : Bool, (showsB (.tuple [.int (c : Nat), .bool b]) && SeqAt.shaped (.str (PyData.tuple [.int (c : Nat), .bool b]).shown)) = true := by decide +kernel
theorem rep2 : ∀ b : Bool, (showsB (.bool b) && SeqAt.shaped (.str (PyData.bool b).shown)) = true := by decide +kernel
theorem w_repr {d : D} {x : PyData} {Q : W → Prop} (h : pd d = some x) (h2 : showsB x = true) (q : Q (.cl (.str x.shown))) : okW (dRepr [d]) Q := by
  refine ⟨_, ?_, q⟩
  show ((pd d).bind fun x => if showsB x = true then some (W.cl (.str x.shown)) else none) = _
  rw [h]
  show (if showsB x = true then some (W.cl (.str x.shown)) else none) = _
  rw [if_pos h2]
theorem dEqB_same {z : Str} (h : SeqAt.shaped (.str z) = true) : dEqB (.str z) (.str z) = some true := by
  show (if SeqAt.shaped (.str z) = true ∧ SeqAt.shaped (.str z) = true then some (PyData.eqv (.str z) (.str z)) else none) = _
  rw [if_pos ⟨h, h⟩, PyData.eqv]
  simp
def dr (ss : List Sh) : List D := ss.map fun s => .tup [.lst (LS s.1), spD s.2]
def body1 : MS := (sSeq (sIf (mTest (mOp dNe (mCB dRepr (mCons (mMeth "Order" "reach" [false, false] m_Order_reach (mFr (mVar 8)) (mCons (mFr (mVar 13)) mNil)) mNil)) (mCB dRepr (mCons (callN [false, false, false] m_l_law_reach (mCons (mFr (mVar 7)) (mCons (mFr (mVar 11)) (mCons (mFr (mVar 12)) mNil)))) mNil)))) (sRet (mC (.bl false))) sNext)
    (sSeq (sAsg (callN [false, false, false] m_l_law_serves (mCons (mFr (mVar 7)) (mCons (mFr (mVar 11)) (mCons (mFr (mVar 12)) mNil)))) (gSetC 15))
    (sSeq (sIf (mTest (mOp dNe (mCB dRepr (mCons (mMeth "Order" "serves" [false, false] m_Order_serves (mFr (mVar 8)) (mCons (mFr (mVar 13)) mNil)) mNil)) (mCB dRepr (mCons (mVar 15) mNil)))) (sRet (mC (.bl false))) sNext)
    (sAsg (mOp dAdd (mVar 10) (mOp dMul (mLst (mCons (mVar 13) mNil)) (mCB dInt (mCons (mVar 15) mNil)))) (gSetC 10)))))
section
variable {N : List Sl → Prop} {T : W → List Sl → Prop} {L : Bool → List Sl → Prop} {cs : List Str} {a0 a1 a2 a3 a4 a5 a6 a9 a14 a16 a17 s11 s12 s13 s15 : Sl}
theorem body1_ok {s : Sh} {du : List Sh} (h : OrOk cs) (k : KnOk cs s.1 s.2) (hd : du.length ≤ 12) (f15 : free s15 = true)
    (q : N [a0, a1, a2, a3, a4, a5, a6, .cl (.lst (LS cs)), .cl (ordD cs), a9, .cl (.lst (shL (du ++ if servB cs s.1 s.2 = true then [s] else []))), .cl (.lst (LS s.1)), .cl (spD s.2), .cl (shD s.1 s.2), a14, .cl (.bl (servB cs s.1 s.2)), a16, a17]) :
    okS (body1 [a0, a1, a2, a3, a4, a5, a6, .cl (.lst (LS cs)), .cl (ordD cs), a9, .cl (.lst (shL du)), .cl (.lst (LS s.1)), .cl (spD s.2), .cl (shD s.1 s.2), a14, s15, a16, a17]) N T L := by
  unfold body1
  have hc : cnt cs s.1 < 6 := by
    have := cnt_le cs s.1
    have := h.l2
    omega
  have hs : ∀ z, s.2 = some z → Asc z := fun z e => (k.sh.sp z e).1.asc
  have r1 := rep1 (cnt cs s.1) hc (nextB cs s.1 s.2)
  have r2 := rep2 (servB cs s.1 s.2)
  rw [Bool.and_eq_true] at r1 r2
  have frs : mFr (mVar 12) [a0, a1, a2, a3, a4, a5, a6, .cl (.lst (LS cs)), .cl (ordD cs), a9, .cl (.lst (shL du)), .cl (.lst (LS s.1)), .cl (spD s.2), .cl (shD s.1 s.2), a14, s15, a16, a17] = some (.ok (.cl (spD s.2)) [a0, a1, a2, a3, a4, a5, a6, .cl (.lst (LS cs)), .cl (ordD cs), a9, .cl (.lst (shL du)), .cl (.lst (LS s.1)), .cl (spD s.2), .cl (shD s.1 s.2), a14, s15, a16, a17]) := rfl
  refine okS_seq (okS_no (okB_test (okE_op (okE_cb (okE_cons (okE_meth (okE_frv rfl ⟨_, rfl, rfl, okE_cons (okE_frv rfl (okE_nil (okT2 (reach_ok h k ⟨rfl, okE_nil (okW_eq rfl (w_repr (x := .tuple [.int (cnt cs s.1), .bool (nextB cs s.1 s.2)]) rfl r1.1 ?_))⟩))))⟩)))))))
  refine okE_cb (okE_cons (okE_call3 (okE_cons (okE_frv rfl (okE_cons (okE_frv rfl (okE_cons (okE_frv rfl (okE_nil ⟨_, _, _, rfl, lreach_ok h hs ⟨rfl, okE_nil (okW_eq rfl (w_repr (x := .tuple [.int (cnt cs s.1), .bool (nextB cs s.1 s.2)]) rfl r1.1 ?_))⟩⟩)))))))))
  refine okW_eq rfl (okW_eq rfl (w_ne (dEqB_same r1.2) ⟨_, rfl, rfl, okS_next ?_⟩))
  refine okS_seq (okS_asg (okE_call3 (okE_cons (okE_frv rfl (okE_cons (okE_frv rfl (okE_cons (okE_frv rfl (okE_nil ⟨_, _, _, rfl, lserves_ok h k ⟨rfl, okG_setC (congrArg some f15) ?_⟩⟩)))))))))
  dsimp only [List.set]
  refine okS_seq (okS_no (okB_test (okE_op (okE_cb (okE_cons (okE_meth (okE_frv rfl ⟨_, rfl, rfl, okE_cons (okE_frv rfl (okE_nil (okT2 (serves_ok h k ⟨rfl, okE_nil (okW_eq rfl (w_repr (x := .bool (servB cs s.1 s.2)) rfl r2.1 ?_))⟩))))⟩)))))))
  refine okE_cb (okE_cons (okE_var rfl (okE_nil (okW_eq rfl (w_repr (x := .bool (servB cs s.1 s.2)) rfl r2.1 ?_)))))
  refine okW_eq rfl (okW_eq rfl (w_ne (dEqB_same r2.2) ⟨_, rfl, rfl, okS_next ?_⟩))
  refine okS_asg (okE_op (okE_var rfl (okE_op (okE_lst (okE_cons (okE_var rfl (okE_nil (w_fz1 ⟨Nat.le_of_ble_eq_true rfl, okE_cb (okE_cons (okE_var rfl (okE_nil (okW_eq rfl ?_))))⟩))))))))
  have hl : (shL du).length = du.length := List.length_map ..
  cases hb : servB cs s.1 s.2 with
  | true =>
    rw [hb] at q
    refine okW_eq (w := .cl (.int 1)) rfl (okW_eq rfl (okW_eq rfl (okW_eq (w := .fr [shD s.1 s.2]) rfl (okW_eq rfl (okW_eq rfl (okW_eq (w := .fr (shL du ++ [shD s.1 s.2])) ?_ (okG_setCf rfl ?_)))))))
    · show (if (shL du).length + 1 ≤ 100000 then some (W.fr (shL du ++ [shD s.1 s.2])) else none) = _
      rw [if_pos (by omega)]
    · dsimp only [List.set]
      have e : shL (du ++ if true = true then [s] else []) = shL du ++ [shD s.1 s.2] := List.map_append ..
      rw [e] at q
      exact q
  | false =>
    rw [hb] at q
    refine okW_eq (w := .cl (.int 0)) rfl (okW_eq rfl (okW_eq rfl (okW_eq (w := .fr []) rfl (okW_eq rfl (okW_eq rfl (okW_eq (w := .fr (shL du ++ [])) ?_ (okG_setCf rfl ?_)))))))
    · show (if (shL du).length + 0 ≤ 100000 then some (W.fr (shL du ++ [])) else none) = _
      rw [if_pos (by omega)]
    · dsimp only [List.set]
      have e : shL (du ++ if false = true then [s] else []) = shL du ++ [] := List.map_append ..
      rw [e] at q
      exact q
def sv (cs : List Str) (s : Sh) : Bool := servB cs s.1 s.2
theorem loop1_ok {ss : List Sh} (h : OrOk cs) (k : ∀ s ∈ ss, KnOk cs s.1 s.2) (h12 : ss.length ≤ 12) (f11 : free s11 = true) (f12 : free s12 = true) (f13 : free s13 = true) (f15 : free s15 = true)
    (q : ∀ s11 s12 s13 s15, free s11 = true → free s12 = true → free s13 = true → free s15 = true → N [a0, a1, a2, a3, a4, a5, a6, .cl (.lst (LS cs)), .cl (ordD cs), a9, .cl (.lst (shL (ss.filter (sv cs)))), s11, s12, s13, a14, s15, a16, a17]) :
    okS (loopS (gTupM 2 (gsCons (gTupM 2 (gsCons (gSetC 11) (gsCons (gSetC 12) gsNil))) (gsCons (gSetC 13) gsNil))) body1 ((dr ss).zipWith (fun d e => .tup [d, e]) (shL ss)) [a0, a1, a2, a3, a4, a5, a6, .cl (.lst (LS cs)), .cl (ordD cs), a9, .cl (.lst (shL [])), s11, s12, s13, a14, s15, a16, a17]) N T L := by
  have hl : ((dr ss).zipWith (fun d e => D.tup [d, e]) (shL ss)).length = ss.length := by
    rw [List.length_zipWith]
    unfold dr
    rw [List.length_map, List.length_map, Nat.min_self]
  refine okS_loop (fun j ρ => ∃ s11 s12 s13 s15, free s11 = true ∧ free s12 = true ∧ free s13 = true ∧ free s15 = true ∧ ρ = [a0, a1, a2, a3, a4, a5, a6, .cl (.lst (LS cs)), .cl (ordD cs), a9, .cl (.lst (shL ((ss.take j).filter (sv cs)))), s11, s12, s13, a14, s15, a16, a17]) _ 0 ⟨_, _, _, _, f11, f12, f13, f15, rfl⟩ ?_ ?_
  · rintro j d ρ hj ⟨s11, s12, s13, s15, f11, f12, f13, f15, rfl⟩
    obtain ⟨x, y, h1, h2, rfl⟩ := zip_at hj
    obtain ⟨s, hs, rfl⟩ := sh_at h2
    have hx : x = .tup [.lst (LS s.1), spD s.2] := by
      unfold dr at h1
      rw [List.getElem?_map, hs] at h1
      exact (Option.some.inj h1).symm
    subst hx
    rw [Nat.zero_add]
    obtain ⟨hj2, e⟩ := List.getElem?_eq_some_iff.mp hs
    have e2 : ss.take (j + 1) = ss.take j ++ [s] := by rw [List.take_succ_eq_append_getElem hj2, e]
    refine okG_tup2 (okG_tup2 (okG_setC (congrArg some f11) ?_))
    dsimp only [List.set]
    refine okG_setC (congrArg some f12) ?_
    dsimp only [List.set]
    refine okG_setC (congrArg some f13) ?_
    dsimp only [List.set]
    have hlen : ((ss.take j).filter (sv cs)).length ≤ 12 := Nat.le_trans (List.length_filter_le ..) (by rw [List.length_take]; omega)
    refine body1_ok h (k s (List.mem_of_getElem? hs)) hlen f15 ⟨.cl (.lst (LS s.1)), .cl (spD s.2), .cl (shD s.1 s.2), .cl (.bl (servB cs s.1 s.2)), rfl, rfl, rfl, rfl, ?_⟩
    rw [e2, List.filter_append, List.filter_cons]
    rfl
  · rintro ρ ⟨s11, s12, s13, s15, f11, f12, f13, f15, rfl⟩
    rw [hl, Nat.zero_add, List.take_of_length_le (Nat.le_refl _)]
    exact q _ _ _ _ f11 f12 f13 f15
end
end K12

/-! the plain law of k12: what is told of the shapes served -/
namespace K12
open PySem PySem.Spec PyProof.Rows L2 SL PM
local macro_rules | `(tactic| walk_at "p1") => `(tactic| first
  | with_reducible refine PM.okS_seq ?_ | with_reducible refine PM.okS_next ?_ | with_reducible refine PM.okS_asg ?_ | with_reducible refine PM.okS_ret ?_ | with_reducible refine PM.okS_drop ?_ | with_reducible refine PM.okS_aug ?_ | with_reducible refine PM.okS_cnt ?_
  | with_reducible refine PM.okE_op ?_ | with_reducible refine PM.okE_cb ?_ | with_reducible refine PM.okE_cons ?_ | with_reducible refine PM.okE_nil ?_ | with_reducible refine PM.okB_not ?_ | with_reducible refine PM.okE_c ?_
  | ((with_reducible refine' PM.okE_var ?hv ?_); (case hv => rfl)) | ((with_reducible refine' PM.okE_frv ?hv ?_); (case hv => rfl)) | with_reducible refine PM.okE_frc ?_ | with_reducible refine PM.okE_fr ?_
  | with_reducible refine PM.w_fz1 ?_ | with_reducible refine PM.w_fz2 ?_ | with_reducible refine PM.w_fz3 ?_
  | ((with_reducible refine' PM.okW_deref ?hv ?_); (case hv => rfl)) | ((with_reducible refine' PM.okW_derefs ?hv ?_); (case hv => rfl)) | ((with_reducible refine' PM.okW_fzs ?hv ?_); (case hv => rfl)) | ((with_reducible refine' PM.okW_fz ?hv ?_); (case hv => rfl))
  | with_reducible refine PM.w_add ?_ | with_reducible refine PM.w_sub ?_ | with_reducible refine PM.w_lt ?_ | with_reducible refine PM.w_le ?_ | with_reducible refine PM.w_gt ?_ | with_reducible refine PM.w_ge ?_ | with_reducible refine PM.w_addI ?_
  | with_reducible refine PM.w_mod (by omega) ?_ | with_reducible refine PM.w_div (by omega) (by rw [PM.big_eq]; omega) ?_ | with_reducible refine PM.w_mul (by rw [PM.big_eq]; omega) (by rw [PM.big_eq]; omega) (by rw [PM.big_eq]; omega) (by rw [PM.big_eq]; omega) ?_ | with_reducible refine PM.w_sq (by omega) (by omega) ?_
  | with_reducible refine PM.w_max2 ?_ | with_reducible refine PM.w_min2 ?_ | with_reducible refine PM.w_lenL ?_ | with_reducible refine PM.w_lenT ?_ | with_reducible refine PM.w_lenC ?_ | with_reducible refine PM.w_listL ?_ | with_reducible refine PM.w_listT ?_
  | ((with_reducible refine PM.okG_setC rfl ?_); (try dsimp only [List.set])) | ((with_reducible refine PM.okG_setCf rfl ?_); (try dsimp only [List.set])) | ((with_reducible refine PM.okG_setO rfl ?_); (try dsimp only [List.set])) | ((with_reducible refine PM.okG_setOc rfl ?_); (try dsimp only [List.set]))
  | ((with_reducible refine' PM.okW_ix ?hv ?_); (case hv => rfl))
  | ((with_reducible refine' PM.okW_ret ?hv ?_); (case hv => rfl)) | ((with_reducible refine' PM.okW_outs ?hv ?_); (case hv => rfl))
  | ((with_reducible refine' PM.okB_test ⟨_, ?hv, ?_⟩); (case hv => rfl)))
local macro_rules | `(tactic| walk_at "p") => `(tactic| repeat walk_at "p1")
noncomputable def tx (s : Sh) : Str := open Classical in if h : ShOk s.1 s.2 then Classical.choose (str_ok h) else Str.empty
theorem tx_ok {s : Sh} (h : ShOk s.1 s.2) : Asc (tx s) ∧ okF (m_Shape_D_str_D [.cl (shD s.1 s.2)]) fun w o => w = .cl (.str (tx s)) ∧ o.length = 1 := by
  have e : tx s = Classical.choose (str_ok h) := by
    unfold tx
    rw [dif_pos h]
  rw [e]
  exact Classical.choose_spec (str_ok h)
section
variable {N : List Sl → Prop} {T : W → List Sl → Prop} {L : Bool → List Sl → Prop} {a0 a1 a2 a3 a4 a5 a6 a7 a8 a9 a10 a11 a12 a14 a15 a16 a17 : Sl}
theorem told_ok {fs : List Sh} {P : List D → List Sl → Prop} (h : ∀ s ∈ fs, ShOk s.1 s.2)
    (q : P (LS (fs.map tx)) [a0, a1, a2, a3, a4, a5, a6, a7, a8, a9, a10, a11, a12, .un, a14, a15, a16, a17]) :
    okE (loopC (gSetC 13) mYes (mStrO "Shape" m_Shape_D_str_D (mCons (mVar 13) mNil)) [13] (shL fs) [a0, a1, a2, a3, a4, a5, a6, a7, a8, a9, a10, a11, a12, .un, a14, a15, a16, a17] []) P := by
  have hl : (shL fs).length = fs.length := List.length_map ..
  refine okE_loopC (fun j ρ acc => ρ = [a0, a1, a2, a3, a4, a5, a6, a7, a8, a9, a10, a11, a12, .un, a14, a15, a16, a17] ∧ acc = LS ((fs.take j).map tx)) _ 0 ⟨rfl, rfl⟩ ?_ ?_
  · rintro j d ρ acc hj ⟨rfl, rfl⟩
    obtain ⟨s, hs, rfl⟩ := sh_at hj
    rw [Nat.zero_add]
    obtain ⟨hj2, e⟩ := List.getElem?_eq_some_iff.mp hs
    have e2 : fs.take (j + 1) = fs.take j ++ [s] := by rw [List.take_succ_eq_append_getElem hj2, e]
    refine okG_setC rfl ?_
    dsimp only [List.set]
    refine okE_eq rfl ⟨fun _ => ?_, (fun q => by cases q)⟩
    obtain ⟨t1, t2⟩ := tx_ok (h s (List.mem_of_getElem? hs))
    refine okE_strO (z := tx s) (okE_cons (okE_var rfl (okE_nil ⟨_, rfl, rfl, t2.mono fun w o hw => ⟨hw.1, hw.2, ?_⟩⟩)))
    refine okW_eq rfl (okG_eq rfl ⟨rfl, ?_⟩)
    rw [e2, List.map_append]
    show LS ((fs.take j).map tx) ++ [D.str (tx s)] = ((fs.take j).map tx ++ [tx s]).map D.str
    rw [List.map_append]
    rfl
  · rintro ρ acc ⟨rfl, rfl⟩
    rw [hl, Nat.zero_add, List.take_of_length_le (Nat.le_refl _)]
    exact q
theorem okG_wipe1 {ρ : List Sl} {k : Nat} (h : (ρ[k]?.map free) = some true) (q : N (ρ.set k .un)) : okG (wipeS [k] ρ) N := by
  refine ⟨_, ?_, q⟩
  show setF k .un ρ = _
  unfold setF
  cases e : ρ[k]? with
  | none => rw [e] at h; cases h
  | some t =>
    rw [e] at h
    have h : some (free t) = some true := h
    have h := Option.some.inj h
    show (if free t = true then some (ρ.set k .un) else none) = _
    rw [if_pos h]
def body2 : MS := (sSeq (sAsg (callN [false, false] m_served_shapes (mCons (mFr (mVar 8)) (mCons (mFr (mVar 14)) mNil))) (gSet 16))
    (sSeq (sFg [13] (sAsg (mLc (mIU (mVar 16)) (gSetC 13) mYes (mStrO "Shape" m_Shape_D_str_D (mCons (mVar 13) mNil)) [13]) (gSetC 17)))
    (sSeq (sFg [13] (sIf (mOr (mNot (mTru (mCB (dIsi (.ty "list") [(.b "NoneType", false), (.b "bool", false), (.b "int", false), (.b "str", false), (.b "list", true), (.b "tuple", false), (.b "dict", false), (.own "Shape", false), (.own "Order", false)]) (mCons (mVar 16) (mCons (mC (.ty "list")) mNil))))) (mTest (mOp dNe (mVar 17) (mLc (mIU (mVar 10)) (gSetC 13) mYes (mStrO "Shape" m_Shape_D_str_D (mCons (mVar 13) mNil)) [13])))) (sRet (mC (.bl false))) sNext))
    (sDrop (mMut fAppend 16 (mCons (mC .non) mNil))))))
theorem served_sv {P : W → List Sl → Prop} {ss : List Sh} {cs : List Str} {d : D} (hd : d = .lst (shL ss) ∨ d = .tup (shL ss)) (h12 : ss.length ≤ 12) (h : OrOk cs) (k : ∀ s ∈ ss, KnOk cs s.1 s.2) (p : P (.fr (shL (ss.filter (sv cs)))) [.cl (ordD cs), .cl d]) : okF (m_served_shapes [.cl (ordD cs), .cl d]) P := served_ok hd h12 h k p
theorem body2_ok {ss : List Sh} {cs : List Str} {d : D} {s13 s16 s17 : Sl} (hd : d = .lst (shL ss) ∨ d = .tup (shL ss)) (h12 : ss.length ≤ 12) (h : OrOk cs) (k : ∀ s ∈ ss, KnOk cs s.1 s.2) (f13 : free s13 = true) (f16 : free s16 = true) (f17 : free s17 = true)
    (q : ∀ x y, N [a0, a1, a2, a3, a4, a5, a6, a7, .cl (ordD cs), a9, .cl (.lst (shL (ss.filter (sv cs)))), a11, a12, .un, .cl d, a15, .ow x, .cl y]) :
    okS (body2 [a0, a1, a2, a3, a4, a5, a6, a7, .cl (ordD cs), a9, .cl (.lst (shL (ss.filter (sv cs)))), a11, a12, s13, .cl d, a15, s16, s17]) N T L := by
  unfold body2
  have hs : ∀ s ∈ ss.filter (sv cs), ShOk s.1 s.2 := fun s hs => (k s (List.mem_filter.mp hs).1).sh
  have hlen : (shL (ss.filter (sv cs))).length ≤ 12 := by
    rw [List.length_map]
    exact Nat.le_trans (List.length_filter_le ..) h12
  have ha : Ascs ((ss.filter (sv cs)).map tx) := fun z hz => by
    obtain ⟨s, hs2, rfl⟩ := List.mem_map.mp hz
    exact (tx_ok (hs s hs2)).1
  refine okS_seq (okS_asg (okE_call2 (okE_cons (okE_frv rfl (okE_cons (okE_frv rfl (okE_nil ⟨_, _, rfl, served_sv hd h12 h k ⟨rfl, okG_setO (congrArg some f16) ?_⟩⟩)))))))
  dsimp only [List.set]
  refine okS_seq (okS_fg (okG_wipe1 (congrArg some f13) ?_))
  dsimp only [List.set]
  refine okS_asg (okE_lc (okE_iu (okE_var rfl (okW_eq rfl (okW_eq rfl (okW_eq rfl ⟨by omega, rfl, ?_⟩))))))
  dsimp only [List.set]
  refine told_ok hs (okG_eq rfl ?_)
  dsimp only [List.set]
  refine okG_setCf (congrArg some f17) ?_
  dsimp only [List.set]
  refine okS_seq (okS_fg (okG_wipe1 rfl ?_))
  dsimp only [List.set]
  refine okS_no (okB_or (okB_not (okB_tru (okE_eq (w := .cl (.bl true)) rfl ⟨_, true, rfl, rfl, (fun q => by cases q), fun _ => ?_⟩))))
  refine okB_test (okE_op (okE_var rfl (okE_lc (okE_iu (okE_var rfl (okW_eq rfl (okW_eq rfl (okW_eq rfl ⟨by omega, rfl, ?_⟩))))))))
  refine told_ok hs (okG_eq rfl ?_)
  refine okW_eq rfl (okW_eq rfl (w_ne (dEqB_L ha ha) ⟨_, rfl, ?_, okS_next ?_⟩))
  · rw [decide_eq_true rfl]
    rfl
  refine okS_drop (okE_mut rfl (okE_cons (okE_c (okE_nil ?_))))
  refine w_fz1 ⟨_, _, rfl, rfl, okW_eq (w := (.non, shL (ss.filter (sv cs)) ++ [.non])) ?_ (q _ _)⟩
  show (if (shL (ss.filter (sv cs))).length < 100000 then some (D.non, shL (ss.filter (sv cs)) ++ [.non]) else none) = _
  rw [if_pos (by omega)]
end
end K12

/-! the plain law of k12: one turn -/
namespace K12
open PySem PySem.Spec PyProof.Rows L2 SL PM
local macro_rules | `(tactic| walk_at "p1") => `(tactic| first
  | with_reducible refine PM.okS_seq ?_ | with_reducible refine PM.okS_next ?_ | with_reducible refine PM.okS_asg ?_ | with_reducible refine PM.okS_ret ?_ | with_reducible refine PM.okS_drop ?_ | with_reducible refine PM.okS_aug ?_ | with_reducible refine PM.okS_cnt ?_
  | with_reducible refine PM.okE_op ?_ | with_reducible refine PM.okE_cb ?_ | with_reducible refine PM.okE_cons ?_ | with_reducible refine PM.okE_nil ?_ | with_reducible refine PM.okB_not ?_ | with_reducible refine PM.okE_c ?_
  | ((with_reducible refine' PM.okE_var ?hv ?_); (case hv => rfl)) | ((with_reducible refine' PM.okE_frv ?hv ?_); (case hv => rfl)) | with_reducible refine PM.okE_frc ?_ | with_reducible refine PM.okE_fr ?_
  | with_reducible refine PM.w_fz1 ?_ | with_reducible refine PM.w_fz2 ?_ | with_reducible refine PM.w_fz3 ?_
  | ((with_reducible refine' PM.okW_deref ?hv ?_); (case hv => rfl)) | ((with_reducible refine' PM.okW_derefs ?hv ?_); (case hv => rfl)) | ((with_reducible refine' PM.okW_fzs ?hv ?_); (case hv => rfl)) | ((with_reducible refine' PM.okW_fz ?hv ?_); (case hv => rfl))
  | with_reducible refine PM.w_add ?_ | with_reducible refine PM.w_sub ?_ | with_reducible refine PM.w_lt ?_ | with_reducible refine PM.w_le ?_ | with_reducible refine PM.w_gt ?_ | with_reducible refine PM.w_ge ?_ | with_reducible refine PM.w_addI ?_
  | with_reducible refine PM.w_mod (by omega) ?_ | with_reducible refine PM.w_div (by omega) (by rw [PM.big_eq]; omega) ?_ | with_reducible refine PM.w_mul (by rw [PM.big_eq]; omega) (by rw [PM.big_eq]; omega) (by rw [PM.big_eq]; omega) (by rw [PM.big_eq]; omega) ?_ | with_reducible refine PM.w_sq (by omega) (by omega) ?_
  | with_reducible refine PM.w_max2 ?_ | with_reducible refine PM.w_min2 ?_ | with_reducible refine PM.w_lenL ?_ | with_reducible refine PM.w_lenT ?_ | with_reducible refine PM.w_lenC ?_ | with_reducible refine PM.w_listL ?_ | with_reducible refine PM.w_listT ?_
  | ((with_reducible refine PM.okG_setC rfl ?_); (try dsimp only [List.set])) | ((with_reducible refine PM.okG_setCf rfl ?_); (try dsimp only [List.set])) | ((with_reducible refine PM.okG_setO rfl ?_); (try dsimp only [List.set])) | ((with_reducible refine PM.okG_setOc rfl ?_); (try dsimp only [List.set]))
  | ((with_reducible refine' PM.okW_ix ?hv ?_); (case hv => rfl))
  | ((with_reducible refine' PM.okW_ret ?hv ?_); (case hv => rfl)) | ((with_reducible refine' PM.okW_outs ?hv ?_); (case hv => rfl))
  | ((with_reducible refine' PM.okB_test ⟨_, ?hv, ?_⟩); (case hv => rfl)))
local macro_rules | `(tactic| walk_at "p") => `(tactic| repeat walk_at "p1")
def body3 : MS := (sSeq (sAsg (callN [true, false] m_l_law_mixed (mCons (mVar 2) (mCons (mFr (mVar 3)) mNil))) (gSetC 7))
    (sSeq (sPar false false 8 9 (mCons (mMake "Order" [false] m_Order_D_init_D [] (mCons (mFr (mVar 7)) mNil)) (mCons (mCB dList (mCons (mVar 5) mNil)) mNil)))
    (sSeq (sAsg (mLst mNil) (gSetC 10))
    (sSeq (sFor (mZip (mCons (mVar 4) (mCons (mVar 5) mNil))) (gTupM 2 (gsCons (gTupM 2 (gsCons (gSetC 11) (gsCons (gSetC 12) gsNil))) (gsCons (gSetC 13) gsNil))) body1)
    (sSeq (sFor (mIU (mTup (mCons (mVar 5) (mCons (mCB dTuple (mCons (mVar 5) mNil)) mNil)))) (gSetC 14) body2)
    (sIf (mOr (mTest (mOp (dNeL "Shape" m_Shape_D_eq_D) (mVar 5) (mVar 9))) (mTest (mOp dNe (mMeth "Order" "columns" [false] m_Order_columns (mFr (mVar 8)) mNil) (mVar 7)))) (sRet (mC (.bl false))) sNext))))))
section
variable {N : List Sl → Prop} {T : W → List Sl → Prop} {L : Bool → List Sl → Prop} {a0 a1 a6 s7 s8 s9 s10 s11 s12 s13 s14 s15 s16 s17 : Sl}
theorem eqAll_ok : ∀ {ss : List Sh}, (∀ s ∈ ss, ShOk s.1 s.2) → eqAllM "Shape" m_Shape_D_eq_D (shL ss) (shL ss) = true
  | [], _ => rfl
  | s :: ss, h => by
    have ih := eqAll_ok (ss := ss) fun x hx => h x (List.mem_cons_of_mem _ hx)
    obtain ⟨w, o, e, rfl⟩ := sheq_ok (h s (List.mem_cons_self ..))
    show ((insOf "Shape" (shD s.1 s.2).u).isSome && ((insOf "Shape" (shD s.1 s.2).u).isSome && ((match m_Shape_D_eq_D [.cl (shD s.1 s.2), .cl (shD s.1 s.2)] with
      | some (.rt (.cl (.bl true)) _) => true
      | _ => false) && eqAllM "Shape" m_Shape_D_eq_D (shL ss) (shL ss)))) = true
    rw [e, ih]
    have : insOf "Shape" (shD s.1 s.2).u = some [(("fixed_columns" : Str), .lst (LS (sortS s.1))), (("span_column" : Str), spD s.2)] := insOf_eq
    rw [this]
    rfl
theorem body3_ok {ss : List Sh} {cs : List Str} {n : Nat} {bx : List D} (h12 : ss.length ≤ 12) (h : OrOk cs) (k : ∀ s ∈ ss, KnOk cs s.1 s.2) (hb : BoxL n bx) (hn : n ≤ 80000000) (fr : [s7, s8, s9, s10, s11, s12, s13, s14, s15, s16, s17].all free = true)
    (q : ∀ bx' s7 s8 s9 s10 s11 s12 s13 s14 s15 s16 s17, BoxL (n + 5) bx' → [s7, s8, s9, s10, s11, s12, s13, s14, s15, s16, s17].all free = true → N [a0, a1, .ow bx', .cl (.lst (LS cs)), .cl (.lst (dr ss)), .cl (.lst (shL ss)), a6, s7, s8, s9, s10, s11, s12, s13, s14, s15, s16, s17]) :
    okS (body3 [a0, a1, .ow bx, .cl (.lst (LS cs)), .cl (.lst (dr ss)), .cl (.lst (shL ss)), a6, s7, s8, s9, s10, s11, s12, s13, s14, s15, s16, s17]) N T L := by
  unfold body3
  simp only [List.all_cons, List.all_nil, Bool.and_true, Bool.and_eq_true] at fr
  obtain ⟨f7, f8, f9, f10, f11, f12, f13, f14, f15, f16, f17⟩ := fr
  have hl : (LS cs).length = cs.length := List.length_map ..
  have h5 := h.l2
  refine okS_seq (okS_asg (okE_mixed (A := 6029) (B := 41) (xs := LS cs) rfl (by decide) (by decide) (by decide) (by decide) rfl rfl hb (by omega) (okE_eq rfl ⟨rfl, rfl⟩) (by omega) fun ys d1 hp hb => ?_))
  dsimp only [List.set, slPut]
  obtain ⟨zs, e, hq⟩ := perm_strs hp
  subst e
  clear hp
  refine okG_setCf (congrArg some f7) ?_
  dsimp only [List.set]
  have hz : OrOk zs := ⟨by have := hq.length_eq; have := h.l1; omega, by have := hq.length_eq; omega, hq.nodup_iff.mpr h.nd, fun z hz => h.nm z (hq.mem_iff.mp hz)⟩
  have kz : ∀ s ∈ ss, KnOk zs s.1 s.2 := fun s hs => ⟨(k s hs).sh, fun z hz => hq.mem_iff.mpr ((k s hs).fx z hz), fun z e => hq.mem_iff.mpr ((k s hs).sp z e)⟩
  obtain ⟨w, o, e, hw⟩ := order_ok (P := fun w o => w = .cl .non ∧ o = [.io (ordD zs), .cl (.lst (LS zs))]) hz ⟨rfl, rfl⟩
  obtain ⟨rfl, rfl⟩ := hw
  refine okS_seq (okS_par (okE_cons (okE_make (okE_cons (okE_frv rfl (okE_nil ⟨rfl, okW_eq rfl ⟨_, _, e, okG_eq rfl ?_⟩⟩))))))
  walk_at "p"
  refine ⟨_, _, rfl, okW_eq rfl (okG_setC (congrArg some f8) ?_)⟩
  dsimp only [List.set]
  refine okG_setCf (congrArg some f9) ?_
  dsimp only [List.set]
  refine okS_seq (okS_asg (okE_eq (w := .fr []) rfl (okG_setCf (congrArg some f10) ?_)))
  dsimp only [List.set]
  have hdl : (dr ss).length = ss.length := by unfold dr; rw [List.length_map]
  refine okS_seq (okS_for (okE_zip (okE_cons (okE_var rfl (okE_cons (okE_var rfl (okE_nil (w_fz2 ⟨_, _, rfl, by omega, ?_⟩))))))))
  refine loop1_ok hz kz h12 f11 f12 f13 f15 fun s11 s12 s13 s15 f11 f12 f13 f15 => okG_eq rfl ?_
  refine okS_seq (okS_for (okE_iu (okE_tup (okE_cons (okE_var rfl (okE_cons (okE_cb (okE_cons (okE_var rfl (okE_nil (okW_eq rfl (okW_eq (w := .cl (.tup (shL ss))) rfl (okE_nil (w_fz2 ⟨Nat.le_of_ble_eq_true rfl, okW_eq rfl (okW_eq rfl (okW_eq rfl ⟨Nat.le_of_ble_eq_true rfl, ?_⟩))⟩))))))))))))))
  refine okS_loop (fun j ρ => ∃ s13 s14 s16 s17, free s13 = true ∧ free s14 = true ∧ free s16 = true ∧ free s17 = true ∧ ρ = [a0, a1, .ow d1, .cl (.lst (LS cs)), .cl (.lst (dr ss)), .cl (.lst (shL ss)), a6, .cl (.lst (LS zs)), .cl (ordD zs), .cl (.lst (shL ss)), .cl (.lst (shL (ss.filter (sv zs)))), s11, s12, s13, s14, s15, s16, s17]) _ 0 ⟨_, _, _, _, f13, f14, f16, f17, rfl⟩ ?_ ?_
  · rintro j d ρ hj ⟨s13, s14, s16, s17, f13, f14, f16, f17, rfl⟩
    have hd : d = .lst (shL ss) ∨ d = .tup (shL ss) := by
      match j, hj with
      | 0, hj => exact .inl (Option.some.inj hj).symm
      | 1, hj => exact .inr (Option.some.inj hj).symm
    refine okG_setC (congrArg some f14) ?_
    dsimp only [List.set]
    exact body2_ok hd h12 hz kz f13 f16 f17 fun x y => ⟨_, _, _, _, rfl, rfl, rfl, rfl, rfl⟩
  rintro ρ ⟨s13, s14, s16, s17, f13, f14, f16, f17, rfl⟩
  refine okG_eq rfl ?_
  have ha : Ascs zs := fun z hx => (hz.nm z hx).asc
  refine okS_no (okB_or (okB_test (okE_op (okE_var rfl (okE_var rfl (okW_eq rfl (okW_eq rfl (okW_eq (w := .cl (.bl false)) ?_ ⟨false, rfl, (fun q => by cases q), fun _ => ?_⟩))))))))
  · show (if eqAllM "Shape" m_Shape_D_eq_D (shL ss) (shL ss) = true then some (W.cl (.bl false)) else none) = _
    rw [if_pos (eqAll_ok fun s hs => (k s hs).sh)]
  refine okB_test (okE_op (okE_meth (okE_frv rfl ⟨_, rfl, rfl, okE_nil (okT1 (ocols_ok ⟨rfl, okE_var rfl (okW_eq rfl (okW_eq rfl (w_ne (dEqB_L ha ha) ⟨_, rfl, ?_, okS_next ?_⟩)))⟩))⟩)))
  · rw [decide_eq_true rfl]
    rfl
  refine q d1 _ _ _ _ _ _ _ _ _ _ _ (hb.mono (by omega)) ?_
  rw [List.all_eq_true]
  intro x hx
  simp only [List.mem_cons, List.not_mem_nil, or_false] at hx
  rcases hx with rfl | rfl | rfl | rfl | rfl | rfl | rfl | rfl | rfl | rfl | rfl <;> first | rfl | assumption
end
end K12

/-! the plain law of k12: what is drawn for one cell -/
namespace K12
open PySem PySem.Spec PyProof.Rows L2 SL PM
local macro_rules | `(tactic| walk_at "p1") => `(tactic| first
  | with_reducible refine PM.okS_seq ?_ | with_reducible refine PM.okS_next ?_ | with_reducible refine PM.okS_asg ?_ | with_reducible refine PM.okS_ret ?_ | with_reducible refine PM.okS_drop ?_ | with_reducible refine PM.okS_aug ?_ | with_reducible refine PM.okS_cnt ?_
  | with_reducible refine PM.okE_op ?_ | with_reducible refine PM.okE_cb ?_ | with_reducible refine PM.okE_cons ?_ | with_reducible refine PM.okE_nil ?_ | with_reducible refine PM.okB_not ?_ | with_reducible refine PM.okE_c ?_
  | ((with_reducible refine' PM.okE_var ?hv ?_); (case hv => rfl)) | ((with_reducible refine' PM.okE_frv ?hv ?_); (case hv => rfl)) | with_reducible refine PM.okE_frc ?_ | with_reducible refine PM.okE_fr ?_
  | with_reducible refine PM.w_fz1 ?_ | with_reducible refine PM.w_fz2 ?_ | with_reducible refine PM.w_fz3 ?_
  | ((with_reducible refine' PM.okW_deref ?hv ?_); (case hv => rfl)) | ((with_reducible refine' PM.okW_derefs ?hv ?_); (case hv => rfl)) | ((with_reducible refine' PM.okW_fzs ?hv ?_); (case hv => rfl)) | ((with_reducible refine' PM.okW_fz ?hv ?_); (case hv => rfl))
  | with_reducible refine PM.w_add ?_ | with_reducible refine PM.w_sub ?_ | with_reducible refine PM.w_lt ?_ | with_reducible refine PM.w_le ?_ | with_reducible refine PM.w_gt ?_ | with_reducible refine PM.w_ge ?_ | with_reducible refine PM.w_addI ?_
  | with_reducible refine PM.w_mod (by omega) ?_ | with_reducible refine PM.w_div (by omega) (by rw [PM.big_eq]; omega) ?_ | with_reducible refine PM.w_mul (by rw [PM.big_eq]; omega) (by rw [PM.big_eq]; omega) (by rw [PM.big_eq]; omega) (by rw [PM.big_eq]; omega) ?_ | with_reducible refine PM.w_sq (by omega) (by omega) ?_
  | with_reducible refine PM.w_max2 ?_ | with_reducible refine PM.w_min2 ?_ | with_reducible refine PM.w_lenL ?_ | with_reducible refine PM.w_lenT ?_ | with_reducible refine PM.w_lenC ?_ | with_reducible refine PM.w_listL ?_ | with_reducible refine PM.w_listT ?_
  | ((with_reducible refine PM.okG_setC rfl ?_); (try dsimp only [List.set])) | ((with_reducible refine PM.okG_setCf rfl ?_); (try dsimp only [List.set])) | ((with_reducible refine PM.okG_setO rfl ?_); (try dsimp only [List.set])) | ((with_reducible refine PM.okG_setOc rfl ?_); (try dsimp only [List.set]))
  | ((with_reducible refine' PM.okW_ix ?hv ?_); (case hv => rfl))
  | ((with_reducible refine' PM.okW_ret ?hv ?_); (case hv => rfl)) | ((with_reducible refine' PM.okW_outs ?hv ?_); (case hv => rfl))
  | ((with_reducible refine' PM.okB_test ⟨_, ?hv, ?_⟩); (case hv => rfl)))
local macro_rules | `(tactic| walk_at "p") => `(tactic| repeat walk_at "p1")
theorem take_is : m_l_law_take = fnM 2 3 (takeM 6029 41) := rfl
theorem mixed_is : m_l_law_mixed = fnM 2 2 (mixedM (fnM 2 3 (takeM 6029 41))) := rfl
theorem columns_is : m_l_law_columns = fnM 2 8 (columnsM (fnM 2 3 (takeM 6029 41)) (fnM 2 2 (mixedM (fnM 2 3 (takeM 6029 41))))) := rfl
theorem drawn_is : m_l_law_drawn_shape = fnM 2 4 (drawnM (fnM 2 3 (takeM 6029 41)) (fnM 2 2 (mixedM (fnM 2 3 (takeM 6029 41))))) := rfl
theorem box_is : m_l_law_box = fnM 1 0 boxM := rfl
theorem cell_is : m_l_law_cell = fnM 2 0 (cellM 6029 41) := rfl
section
variable {N : List Sl → Prop} {T : W → List Sl → Prop} {L : Bool → List Sl → Prop} {ρ : List Sl} {P : W → List Sl → Prop}
/-- from what is drawn to a shape that is known -/
theorem drawn_sh {cs fx : List Str} {sp : Option Str} (h : OrOk cs) (d : Drawn cs fx sp) : KnOk cs fx sp := by
  have hl : fx.length ≤ cs.length := nodup_len d.nd d.sub
  refine ⟨⟨by have := h.l2; omega, d.nd, fun z hz => h.nm z (d.sub z hz), fun z e => ?_⟩, d.sub, fun z e => (d.sp z e).1⟩
  obtain ⟨h1, h2⟩ := d.sp z e
  refine ⟨h.nm z h1, h2, ?_⟩
  have := nodup_len (l := z :: fx) (m := cs) (List.nodup_cons.mpr ⟨h2, d.nd⟩) fun x hx => by
    rcases List.mem_cons.mp hx with rfl | hx
    · exact h1
    · exact d.sub x hx
  have h5 := h.l2
  rw [List.length_cons] at this
  omega
theorem cols_or {m : Nat} {ls : List (List Nat)} (h : Cols m ls) (h1 : 1 ≤ m) (h2 : m ≤ 5) : OrOk (ls.map S) := by
  obtain ⟨c1, c2, c3⟩ := h
  refine ⟨by rw [List.length_map]; omega, by rw [List.length_map]; omega, ?_, ?_⟩
  · unfold List.Nodup at c2 ⊢
    rw [List.pairwise_map]
    exact c2.imp fun h e => h (S_inj e)
  · intro z hz
    obtain ⟨l, hl, rfl⟩ := List.mem_map.mp hz
    exact c3 l hl
end
end K12

/-! the plain law of k12: one cell -/
namespace K12
open PySem PySem.Spec PyProof.Rows L2 SL PM
local macro_rules | `(tactic| walk_at "p1") => `(tactic| first
  | with_reducible refine PM.okS_seq ?_ | with_reducible refine PM.okS_next ?_ | with_reducible refine PM.okS_asg ?_ | with_reducible refine PM.okS_ret ?_ | with_reducible refine PM.okS_drop ?_ | with_reducible refine PM.okS_aug ?_ | with_reducible refine PM.okS_cnt ?_
  | with_reducible refine PM.okE_op ?_ | with_reducible refine PM.okE_cb ?_ | with_reducible refine PM.okE_cons ?_ | with_reducible refine PM.okE_nil ?_ | with_reducible refine PM.okB_not ?_ | with_reducible refine PM.okE_c ?_
  | ((with_reducible refine' PM.okE_var ?hv ?_); (case hv => rfl)) | ((with_reducible refine' PM.okE_frv ?hv ?_); (case hv => rfl)) | with_reducible refine PM.okE_frc ?_ | with_reducible refine PM.okE_fr ?_
  | with_reducible refine PM.w_fz1 ?_ | with_reducible refine PM.w_fz2 ?_ | with_reducible refine PM.w_fz3 ?_
  | ((with_reducible refine' PM.okW_deref ?hv ?_); (case hv => rfl)) | ((with_reducible refine' PM.okW_derefs ?hv ?_); (case hv => rfl)) | ((with_reducible refine' PM.okW_fzs ?hv ?_); (case hv => rfl)) | ((with_reducible refine' PM.okW_fz ?hv ?_); (case hv => rfl))
  | with_reducible refine PM.w_add ?_ | with_reducible refine PM.w_sub ?_ | with_reducible refine PM.w_lt ?_ | with_reducible refine PM.w_le ?_ | with_reducible refine PM.w_gt ?_ | with_reducible refine PM.w_ge ?_ | with_reducible refine PM.w_addI ?_
  | with_reducible refine PM.w_mod (by omega) ?_ | with_reducible refine PM.w_div (by omega) (by rw [PM.big_eq]; omega) ?_ | with_reducible refine PM.w_mul (by rw [PM.big_eq]; omega) (by rw [PM.big_eq]; omega) (by rw [PM.big_eq]; omega) (by rw [PM.big_eq]; omega) ?_ | with_reducible refine PM.w_sq (by omega) (by omega) ?_
  | with_reducible refine PM.w_max2 ?_ | with_reducible refine PM.w_min2 ?_ | with_reducible refine PM.w_lenL ?_ | with_reducible refine PM.w_lenT ?_ | with_reducible refine PM.w_lenC ?_ | with_reducible refine PM.w_listL ?_ | with_reducible refine PM.w_listT ?_
  | ((with_reducible refine PM.okG_setC rfl ?_); (try dsimp only [List.set])) | ((with_reducible refine PM.okG_setCf rfl ?_); (try dsimp only [List.set])) | ((with_reducible refine PM.okG_setO rfl ?_); (try dsimp only [List.set])) | ((with_reducible refine PM.okG_setOc rfl ?_); (try dsimp only [List.set]))
  | ((with_reducible refine' PM.okW_ix ?hv ?_); (case hv => rfl))
  | ((with_reducible refine' PM.okW_ret ?hv ?_); (case hv => rfl)) | ((with_reducible refine' PM.okW_outs ?hv ?_); (case hv => rfl))
  | ((with_reducible refine' PM.okB_test ⟨_, ?hv, ?_⟩); (case hv => rfl)))
local macro_rules | `(tactic| walk_at "p") => `(tactic| repeat walk_at "p1")
def body4 : MS := (sSeq (sAsg (callN [false] m_l_law_box (mCons (mFr (callN [false, false] m_l_law_cell (mCons (mFr (mVar 0)) (mCons (mFr (mVar 1)) mNil)))) mNil)) (gSet 2))
    (sSeq (sAsg (callN [true, false] m_l_law_columns (mCons (mVar 2) (mCons (mFr (mOp dAdd (mC (.int 1)) (callN [true, false] m_l_law_take (mCons (mVar 2) (mCons (mFr (mC (.int 5))) mNil))))) mNil))) (gSetC 3))
    (sSeq (sFg [6] (sAsg (mLc (mRng1 (mCons (callN [true, false] m_l_law_take (mCons (mVar 2) (mCons (mFr (mC (.int 13))) mNil))) mNil)) (gSetC 6) mYes (callN [true, false] m_l_law_drawn_shape (mCons (mVar 2) (mCons (mFr (mVar 3)) mNil))) [6]) (gSetC 4)))
    (sSeq (sAsg (mSl (mOp dAdd (mVar 4) (mSl (mVar 4) mNoPart (mPart (callN [true, false] m_l_law_take (mCons (mVar 2) (mCons (mFr (mC (.int 2))) mNil)))))) mNoPart (mPart (mC (.int 12)))) (gSetC 4))
    (sSeq (sFg [11, 12] (sAsg (mLc (mIU (mVar 4)) (gTupM 2 (gsCons (gSetC 11) (gsCons (gSetC 12) gsNil))) mYes (mMake "Shape" [false, false] m_Shape_D_init_D [] (mCons (mFr (mVar 11)) (mCons (mFr (mVar 12)) mNil))) [11, 12]) (gSetC 5)))
    (sFor (mRng1 (mCons (mC (.int 5)) mNil)) (gSetC 6) body3))))))
theorem law_is : b_law = (sSeq (sFor (mRng1 (mCons (mCB dMax2 (mCons (mC (.int 2)) (mCons (mCB dMin2 (mCons (mCB dLen (mCons (mVar 0) mNil)) (mCons (mC (.int 8)) mNil))) mNil))) mNil)) (gSetC 1) body4)
    (sRet (mOp dEq (callN [false, false] m_served_shapes (mCons (mFr (mMake "Order" [false] m_Order_D_init_D [] (mCons (mFr (mLst (mCons (mC (.str "a")) mNil))) mNil))) (mCons (mFr (mLst mNil)) mNil))) (mLst mNil)))) := rfl
section
variable {N : List Sl → Prop} {T : W → List Sl → Prop} {L : Bool → List Sl → Prop} {s2 s3 s4 s5 s6 s7 s8 s9 s10 s11 s12 s13 s14 s15 s16 s17 : Sl}
theorem w_addDr {xs ys : List Sh} {Q : W → Prop} (h : xs.length + ys.length ≤ 100000) (q : Q (.fr (dr (xs ++ ys)))) : okW (dAdd (.lst (dr xs)) (.lst (dr ys))) Q := by
  refine ⟨_, ?_, q⟩
  have h1 : ∀ zs : List Sh, (dr zs).length = zs.length := fun zs => List.length_map ..
  show (if (dr xs).length + (dr ys).length ≤ 100000 then some (W.fr (dr xs ++ dr ys)) else none) = _
  rw [h1, h1, if_pos h]
  have : dr (xs ++ ys) = dr xs ++ dr ys := List.map_append ..
  rw [this]
theorem okG_wipe2 {ρ : List Sl} {i j : Nat} (h1 : (ρ[j]?.map free) = some true) (h2 : ((ρ.set j .un)[i]?.map free) = some true) (q : N ((ρ.set j .un).set i .un)) : okG (wipeS [i, j] ρ) N := by
  obtain ⟨ρ1, e1, rfl⟩ := okG_wipe1 (N := fun ρ1 => ρ1 = ρ.set j .un) h1 rfl
  obtain ⟨ρ2, e2, rfl⟩ := okG_wipe1 (N := fun ρ2 => ρ2 = (ρ.set j .un).set i .un) h2 rfl
  refine ⟨_, ?_, q⟩
  show (wipeS [j] ρ).bind (fun ρ => setF i .un ρ) = _
  rw [e1]
  exact e2
theorem dr_at {ss : List Sh} {j : Nat} {d : D} (h : (dr ss)[j]? = some d) : ∃ s, ss[j]? = some s ∧ d = .tup [.lst (LS s.1), spD s.2] := by
  unfold dr at h
  rw [List.getElem?_map] at h
  cases e : ss[j]? with
  | none => rw [e] at h; cases h
  | some z =>
    rw [e] at h
    cases h
    exact ⟨z, rfl, rfl⟩
theorem body4_ok {ns : List Int} {c : Nat} (hc : c < 100) (fr : [s2, s3, s4, s5, s6, s7, s8, s9, s10, s11, s12, s13, s14, s15, s16, s17].all free = true)
    (q : ∀ s2 s3 s4 s5 s6 s7 s8 s9 s10 s11 s12 s13 s14 s15 s16 s17, [s2, s3, s4, s5, s6, s7, s8, s9, s10, s11, s12, s13, s14, s15, s16, s17].all free = true → N [.cl (.scr ns), .cl (.int c), s2, s3, s4, s5, s6, s7, s8, s9, s10, s11, s12, s13, s14, s15, s16, s17]) :
    okS (body4 [.cl (.scr ns), .cl (.int c), s2, s3, s4, s5, s6, s7, s8, s9, s10, s11, s12, s13, s14, s15, s16, s17]) N T L := by
  unfold body4
  simp only [List.all_cons, List.all_nil, Bool.and_true, Bool.and_eq_true] at fr
  obtain ⟨f2, f3, f4, f5, f6, f7, f8, f9, f10, f11, f12, f13, f14, f15, f16, f17⟩ := fr
  refine okS_seq (okS_asg (okE_call1 (okE_cons (okE_fr (okE_call2 (okE_cons (okE_frv rfl (okE_cons (okE_frv rfl (okE_nil ⟨_, _, rfl, cell_ok (A := 6029) (B := 41) (by omega) (by decide) (by decide) fun v => ⟨rfl, okE_nil ⟨_, rfl, box_ok fun bx hb => ⟨rfl, okG_setO (congrArg some f2) ?_⟩⟩⟩⟩))))))))))
  dsimp only [List.set]
  refine okS_seq (okS_asg (okE_call (okE_cons (okE_var rfl (okE_cons (okE_fr (okE_op (okE_c (okE_take (A := 6029) (B := 41) (m := 5) rfl (by decide) (by decide) (by decide) (by decide) rfl rfl hb (by omega) (okE_eq rfl ⟨rfl, rfl⟩) (by omega) (by omega) fun m d2 m0 m1 hb => ?_)))))))))
  dsimp only [List.set, slPut]
  obtain ⟨m, rfl⟩ := Int.eq_ofNat_of_zero_le m0
  refine okW_eq rfl (okW_eq rfl (w_add (okE_nil ⟨rfl, okW_eq rfl ?_⟩)))
  rw [show (1 : Int) + (m : Int) = ((m + 1 : Nat) : Int) by omega, columns_is]
  refine columns_ok (m := m + 1) (by decide) (by decide) (by decide) (by decide) hb (by omega) (by omega) fun ls d3 hcol hb => okG_eq rfl (okG_setCf (congrArg some f3) ?_)
  have ho := cols_or hcol (by omega) (by omega)
  generalize ls.map S = cs at ho ⊢
  have hl : (LS cs).length = cs.length := List.length_map ..
  have h5 := ho.l2
  dsimp only [List.set]
  refine okS_seq (okS_fg (okG_wipe1 (congrArg some f6) ?_))
  dsimp only [List.set]
  refine okS_asg (okE_lc (okE_rng1 (okE_cons (okE_take (A := 6029) (B := 41) (m := 13) rfl (by decide) (by decide) (by decide) (by decide) rfl rfl hb (by omega) (okE_eq rfl ⟨rfl, rfl⟩) (by omega) (by omega) fun t d4 t0 t1 hb => ?_))))
  dsimp only [List.set, slPut]
  obtain ⟨t, rfl⟩ := Int.eq_ofNat_of_zero_le t0
  refine okE_nil (okW_eq rfl ⟨_, rfl, by omega, by omega, rfl, ?_⟩)
  have ha : Ascs cs := fun z hz => (ho.nm z hz).asc
  refine okE_loopC (fun j ρ acc => ∃ d' ss, ρ = [.cl (.scr ns), .cl (.int c), .ow d', .cl (.lst (LS cs)), s4, s5, .un, s7, s8, s9, s10, s11, s12, s13, s14, s15, s16, s17] ∧ acc = dr ss ∧ ss.length = j ∧ (∀ s ∈ ss, KnOk cs s.1 s.2) ∧ BoxL (100 + 20 * j) d') _ 0 ⟨d4, [], rfl, rfl, rfl, (fun s hs => by cases hs), hb.mono (by omega)⟩ ?_ ?_
  · rintro j d ρ acc hj ⟨d', ss, rfl, rfl, hj1, hk, hb⟩
    have hj2 := (List.getElem?_eq_some_iff.mp hj).1
    rw [List.length_map, List.length_range] at hj2
    refine okG_setC rfl ?_
    dsimp only [List.set]
    refine okE_eq rfl ⟨fun _ => ?_, (fun q => by cases q)⟩
    rw [drawn_is]
    refine okE_call (okE_cons (okE_var rfl (okE_cons (okE_frv rfl (okE_nil ⟨rfl, okW_eq rfl (drawn_ok (by decide) (by decide) (by decide) (by decide) hb (by omega) ho.nd ho.l2 ha fun fx sp d5 hd hb => okG_eq rfl ?_)⟩)))))
    dsimp only [List.set]
    refine okW_eq rfl (okG_eq rfl ⟨d5, ss ++ [(fx, sp)], rfl, ?_, ?_, ?_, hb.mono (by omega)⟩)
    · unfold dr
      rw [List.map_append]
      rfl
    · rw [List.length_append, hj1]
      rfl
    · intro s hs
      rcases List.mem_append.mp hs with hs | hs
      · exact hk s hs
      · rw [List.mem_singleton.mp hs]
        exact drawn_sh ho hd
  rintro ρ acc ⟨d5, ss, rfl, rfl, hj1, hk, hb⟩
  rw [List.length_map, List.length_range] at hj1 hb
  refine okG_eq rfl (okG_setCf (congrArg some f4) ?_)
  dsimp only [List.set]
  have hj1 : ss.length ≤ 12 := by omega
  refine okS_seq (okS_asg (okE_sl (okE_op (okE_var rfl (okE_sl (okE_var rfl (okE_nopart (okE_part (okE_take (A := 6029) (B := 41) (m := 2) rfl (by decide) (by decide) (by decide) (by decide) rfl rfl hb (by omega) (okE_eq rfl ⟨rfl, rfl⟩) (by omega) (by omega) fun u d6 u0 u1 hb => ?_)))))))))
  dsimp only [List.set, slPut]
  obtain ⟨u, rfl⟩ := Int.eq_ofNat_of_zero_le u0
  refine ⟨_, rfl, okW_eq rfl (w_sl ?_)⟩
  rw [cut_take]
  have e1 : (dr ss).take u = dr (ss.take u) := List.map_take.symm
  rw [e1]
  refine okW_eq rfl (okW_eq rfl (w_addDr (by rw [List.length_take]; omega) ?_))
  refine okE_nopart (okE_part (okE_c ⟨_, rfl, okW_eq rfl (w_sl ?_)⟩))
  rw [show (12 : Int) = ((12 : Nat) : Int) from rfl, cut_take]
  have e2 : (dr (ss ++ ss.take u)).take 12 = dr ((ss ++ ss.take u).take 12) := List.map_take.symm
  rw [e2]
  have hk2 : ∀ s ∈ (ss ++ ss.take u).take 12, KnOk cs s.1 s.2 := fun s hs => by
    rcases List.mem_append.mp (List.mem_of_mem_take hs) with hs | hs
    · exact hk s hs
    · exact hk s (List.mem_of_mem_take hs)
  have hl2 : ((ss ++ ss.take u).take 12).length ≤ 12 := by rw [List.length_take]; omega
  generalize (ss ++ ss.take u).take 12 = ts at hk2 hl2 ⊢
  clear hk hj1
  refine okG_setCf rfl ?_
  dsimp only [List.set]
  refine okS_seq (okS_fg (okG_wipe2 (congrArg some f12) (congrArg some f11) ?_))
  dsimp only [List.set]
  have hdl : (dr ts).length = ts.length := List.length_map ..
  refine okS_asg (okE_lc (okE_iu (okE_var rfl (okW_eq rfl (okW_eq rfl (okW_eq rfl ⟨by omega, rfl, ?_⟩))))))
  refine okE_loopC (fun j ρ acc => ρ = [.cl (.scr ns), .cl (.int c), .ow d6, .cl (.lst (LS cs)), .cl (.lst (dr ts)), s5, .un, s7, s8, s9, s10, .un, .un, s13, s14, s15, s16, s17] ∧ acc = shL (ts.take j)) _ 0 ⟨rfl, rfl⟩ ?_ ?_
  · rintro j d ρ acc hj ⟨rfl, rfl⟩
    obtain ⟨s, hs, rfl⟩ := dr_at hj
    rw [Nat.zero_add]
    obtain ⟨hj2, e⟩ := List.getElem?_eq_some_iff.mp hs
    have e2 : ts.take (j + 1) = ts.take j ++ [s] := by rw [List.take_succ_eq_append_getElem hj2, e]
    refine okG_tup2 (okG_setC rfl ?_)
    dsimp only [List.set]
    refine okG_setC rfl ?_
    dsimp only [List.set]
    refine okE_eq rfl ⟨fun _ => ?_, (fun q => by cases q)⟩
    obtain ⟨w, o, e3, hw⟩ := shape_ok (P := fun w o => w = .cl .non ∧ o = [.io (shD s.1 s.2), .cl (.lst (LS s.1)), .cl (spD s.2)]) (hk2 s (List.mem_of_getElem? hs)).sh ⟨rfl, rfl⟩
    obtain ⟨rfl, rfl⟩ := hw
    refine okE_make (okE_cons (okE_frv rfl (okE_cons (okE_frv rfl (okE_nil ⟨rfl, okW_eq rfl ⟨_, _, e3, okG_eq rfl ?_⟩⟩)))))
    refine okW_eq rfl (okG_eq rfl ⟨rfl, ?_⟩)
    rw [e2]
    have e4 : shL (ts.take j ++ [s]) = shL (ts.take j) ++ [shD s.1 s.2] := List.map_append ..
    rw [e4]
    rfl
  rintro ρ acc ⟨rfl, rfl⟩
  rw [hdl, Nat.zero_add, List.take_of_length_le (Nat.le_refl _)]
  refine okG_eq rfl (okG_setCf (congrArg some f5) ?_)
  dsimp only [List.set]
  refine okS_for (okE_rng1 (okE_cons (okE_c (okE_nil (okW_eq rfl ⟨5, rfl, by omega, by omega, ?_⟩)))))
  refine okS_loop (fun j ρ => ∃ bx s6 s7 s8 s9 s10 s11 s12 s13 s14 s15 s16 s17, BoxL (1000 + 5 * j) bx ∧ free s6 = true ∧ [s7, s8, s9, s10, s11, s12, s13, s14, s15, s16, s17].all free = true ∧ ρ = [.cl (.scr ns), .cl (.int c), .ow bx, .cl (.lst (LS cs)), .cl (.lst (dr ts)), .cl (.lst (shL ts)), s6, s7, s8, s9, s10, s11, s12, s13, s14, s15, s16, s17]) _ 0 ⟨d6, _, _, _, _, _, _, _, _, _, _, _, _, hb.mono (by omega), rfl, ?_, rfl⟩ ?_ ?_
  · rw [List.all_eq_true]
    intro x hx
    simp only [List.mem_cons, List.not_mem_nil, or_false] at hx
    rcases hx with rfl | rfl | rfl | rfl | rfl | rfl | rfl | rfl | rfl | rfl | rfl <;> first | rfl | assumption
  · rintro j d ρ hj ⟨bx, s6, s7, s8, s9, s10, s11, s12, s13, s14, s15, s16, s17, hb, f6, fr, rfl⟩
    have hj2 := (List.getElem?_eq_some_iff.mp hj).1
    rw [List.length_map, List.length_range] at hj2
    have hj3 : j < 5 := hj2
    obtain ⟨i, hi, rfl⟩ := List.mem_map.mp (List.mem_of_getElem? hj)
    refine okG_setC (congrArg some f6) ?_
    dsimp only [List.set]
    exact body3_ok hl2 ho hk2 hb (by omega) fr fun bx' s7 s8 s9 s10 s11 s12 s13 s14 s15 s16 s17 hb fr => ⟨bx', _, _, _, _, _, _, _, _, _, _, _, _, hb.mono (by omega), rfl, fr, rfl⟩
  · rintro ρ ⟨bx, s6, s7, s8, s9, s10, s11, s12, s13, s14, s15, s16, s17, hb, f6, fr, rfl⟩
    refine okG_eq rfl (q _ _ _ _ _ _ _ _ _ _ _ _ _ _ _ _ ?_)
    simp only [List.all_cons, List.all_nil, Bool.and_true, Bool.and_eq_true] at fr
    obtain ⟨f7, f8, f9, f10, f11, f12, f13, f14, f15, f16, f17⟩ := fr
    rw [List.all_eq_true]
    intro x hx
    simp only [List.mem_cons, List.not_mem_nil, or_false] at hx
    rcases hx with rfl | rfl | rfl | rfl | rfl | rfl | rfl | rfl | rfl | rfl | rfl | rfl | rfl | rfl | rfl | rfl <;> first | rfl | assumption
end
end K12

/-! the plain law of k12 -/
namespace K12
open PySem PySem.Spec PyProof.Rows L2 SL PM
local macro_rules | `(tactic| walk_at "p1") => `(tactic| first
  | with_reducible refine PM.okS_seq ?_ | with_reducible refine PM.okS_next ?_ | with_reducible refine PM.okS_asg ?_ | with_reducible refine PM.okS_ret ?_ | with_reducible refine PM.okS_drop ?_ | with_reducible refine PM.okS_aug ?_ | with_reducible refine PM.okS_cnt ?_
  | with_reducible refine PM.okE_op ?_ | with_reducible refine PM.okE_cb ?_ | with_reducible refine PM.okE_cons ?_ | with_reducible refine PM.okE_nil ?_ | with_reducible refine PM.okB_not ?_ | with_reducible refine PM.okE_c ?_
  | ((with_reducible refine' PM.okE_var ?hv ?_); (case hv => rfl)) | ((with_reducible refine' PM.okE_frv ?hv ?_); (case hv => rfl)) | with_reducible refine PM.okE_frc ?_ | with_reducible refine PM.okE_fr ?_
  | with_reducible refine PM.w_fz1 ?_ | with_reducible refine PM.w_fz2 ?_ | with_reducible refine PM.w_fz3 ?_
  | ((with_reducible refine' PM.okW_deref ?hv ?_); (case hv => rfl)) | ((with_reducible refine' PM.okW_derefs ?hv ?_); (case hv => rfl)) | ((with_reducible refine' PM.okW_fzs ?hv ?_); (case hv => rfl)) | ((with_reducible refine' PM.okW_fz ?hv ?_); (case hv => rfl))
  | with_reducible refine PM.w_add ?_ | with_reducible refine PM.w_sub ?_ | with_reducible refine PM.w_lt ?_ | with_reducible refine PM.w_le ?_ | with_reducible refine PM.w_gt ?_ | with_reducible refine PM.w_ge ?_ | with_reducible refine PM.w_addI ?_
  | with_reducible refine PM.w_mod (by omega) ?_ | with_reducible refine PM.w_div (by omega) (by rw [PM.big_eq]; omega) ?_ | with_reducible refine PM.w_mul (by rw [PM.big_eq]; omega) (by rw [PM.big_eq]; omega) (by rw [PM.big_eq]; omega) (by rw [PM.big_eq]; omega) ?_ | with_reducible refine PM.w_sq (by omega) (by omega) ?_
  | with_reducible refine PM.w_max2 ?_ | with_reducible refine PM.w_min2 ?_ | with_reducible refine PM.w_lenL ?_ | with_reducible refine PM.w_lenT ?_ | with_reducible refine PM.w_lenC ?_ | with_reducible refine PM.w_listL ?_ | with_reducible refine PM.w_listT ?_
  | ((with_reducible refine PM.okG_setC rfl ?_); (try dsimp only [List.set])) | ((with_reducible refine PM.okG_setCf rfl ?_); (try dsimp only [List.set])) | ((with_reducible refine PM.okG_setO rfl ?_); (try dsimp only [List.set])) | ((with_reducible refine PM.okG_setOc rfl ?_); (try dsimp only [List.set]))
  | ((with_reducible refine' PM.okW_ix ?hv ?_); (case hv => rfl))
  | ((with_reducible refine' PM.okW_ret ?hv ?_); (case hv => rfl)) | ((with_reducible refine' PM.okW_outs ?hv ?_); (case hv => rfl))
  | ((with_reducible refine' PM.okB_test ⟨_, ?hv, ?_⟩); (case hv => rfl)))
local macro_rules | `(tactic| walk_at "p") => `(tactic| repeat walk_at "p1")
theorem law_f (ns : List Int) : okF (m_law [.cl (.scr ns)]) fun w o => w = .cl (.bl true) := by
  unfold m_law
  refine okF_fn rfl ?_
  show okS (b_law [.cl (.scr ns), .un, .un, .un, .un, .un, .un, .un, .un, .un, .un, .un, .un, .un, .un, .un, .un, .un]) _ _ _
  rw [law_is]
  refine okS_seq (okS_for (okE_rng1 ?_))
  walk_at "p"
  have hn : (if (if (8 : Int) < (ns.length : Int) then 8 else (ns.length : Int)) > 2 then (if (8 : Int) < (ns.length : Int) then 8 else (ns.length : Int)) else 2) ≤ 8 ∧ 0 ≤ (if (if (8 : Int) < (ns.length : Int) then 8 else (ns.length : Int)) > 2 then (if (8 : Int) < (ns.length : Int) then 8 else (ns.length : Int)) else 2) := by
    split <;> split <;> omega
  refine ⟨_, rfl, by omega, by omega, ?_⟩
  generalize (if (if (8 : Int) < (ns.length : Int) then 8 else (ns.length : Int)) > 2 then (if (8 : Int) < (ns.length : Int) then 8 else (ns.length : Int)) else 2) = n at hn ⊢
  refine okS_loop (fun j ρ => ∃ s1 s2 s3 s4 s5 s6 s7 s8 s9 s10 s11 s12 s13 s14 s15 s16 s17, free s1 = true ∧ [s2, s3, s4, s5, s6, s7, s8, s9, s10, s11, s12, s13, s14, s15, s16, s17].all free = true ∧ ρ = [.cl (.scr ns), s1, s2, s3, s4, s5, s6, s7, s8, s9, s10, s11, s12, s13, s14, s15, s16, s17]) _ 0 ⟨_, _, _, _, _, _, _, _, _, _, _, _, _, _, _, _, _, rfl, rfl, rfl⟩ ?_ ?_
  · rintro j d ρ hj ⟨s1, s2, s3, s4, s5, s6, s7, s8, s9, s10, s11, s12, s13, s14, s15, s16, s17, f1, fr, rfl⟩
    obtain ⟨i, hi, rfl⟩ := List.mem_map.mp (List.mem_of_getElem? hj)
    have hi2 := List.mem_range.mp hi
    refine okG_setC (congrArg some f1) ?_
    dsimp only [List.set]
    exact body4_ok (by omega) fr fun s2 s3 s4 s5 s6 s7 s8 s9 s10 s11 s12 s13 s14 s15 s16 s17 fr => ⟨_, _, _, _, _, _, _, _, _, _, _, _, _, _, _, _, _, rfl, fr, rfl⟩
  · rintro ρ ⟨s1, s2, s3, s4, s5, s6, s7, s8, s9, s10, s11, s12, s13, s14, s15, s16, s17, f1, fr, rfl⟩
    refine okG_eq rfl ?_
    have ha : Nm "a" := by unfold Nm NmL; decide +kernel
    have ho : OrOk ["a"] := ⟨by simp, by simp, by simp, fun z hz => by
      rw [List.mem_singleton.mp hz]
      exact ha⟩
    obtain ⟨w, o, e, hw⟩ := order_ok (P := fun w o => w = .cl .non ∧ o = [.io (ordD ["a"]), .cl (.lst (LS ["a"]))]) ho ⟨rfl, rfl⟩
    obtain ⟨rfl, rfl⟩ := hw
    refine okS_ret (okE_op (okE_call2 (okE_cons (okE_fr (okE_make (okE_cons (okE_fr (okE_eq (w := .fr (LS ["a"])) rfl (okE_nil ⟨rfl, okW_eq rfl ⟨_, _, e, okG_eq rfl ?_⟩⟩)))))))))
    refine okE_cons (okE_fr (okE_eq (w := .fr (shL [])) rfl (okE_nil ⟨_, _, rfl, served_sv (ss := []) (.inl rfl) (by simp) ho (fun s hs => by cases hs) ⟨rfl, ?_⟩⟩)))
    refine okE_eq (w := .fr (LS [])) rfl (okW_eq rfl (okW_eq rfl (w_eq (dEqB_L (zs := []) (ws := []) (fun z hz => by cases hz) (fun z hz => by cases hz)) ?_)))
    walk_at "p"
    rfl
theorem law_ok (ns : List Int) (hl : ns.length ≤ 63) : ∃ o, m_law [.cl (.scr ns)] = some (.rt (.cl (.bl true)) o) := by
  obtain ⟨w, o, e, rfl⟩ := law_f ns
  exact ⟨o, e⟩
end K12

/-! the defs of searchorders_k12_shapes_served keep their plain runs -/
namespace K12
open PySem PySem.Spec PyProof.Rows L2 SL PM
structure KF (K : PySem.W.Frag) : Prop where
  k0 : Tab K (fun t => PySem.W.kitOne K t (cdV K (.ty "str"))) [(.b "NoneType", false), (.b "bool", false), (.b "int", false), (.b "str", true), (.b "list", false), (.b "tuple", false), (.b "dict", false), (.own "Shape", false), (.own "Order", false)]
  k1 : Tab K (fun t => PySem.W.kitAny K t (([.ty "list", .ty "tuple"] : List Cd).map (cdV K))) [(.b "NoneType", false), (.b "bool", false), (.b "int", false), (.b "str", false), (.b "list", true), (.b "tuple", true), (.b "dict", false), (.own "Shape", false), (.own "Order", false)]
  k2 : OwnK K "Shape"
  k3 : NoAttr K (He.ga K "Shape") "span_column"
  k4 : NoAttr K (He.ga K "Shape") "fixed_columns"
  k5 : Tab K (fun t => PySem.W.kitOne K t (cdV K (.own "Shape"))) [(.b "NoneType", false), (.b "bool", false), (.b "int", false), (.b "str", false), (.b "list", false), (.b "tuple", false), (.b "dict", false), (.own "Shape", true), (.own "Order", false)]
  k6 : OwnK K "Order"
  k7 : NoAttr K (He.ga K "Order") "own_columns"
  k8 : Tab K (fun t => PySem.W.kitOne K t (cdV K (.own "Order"))) [(.b "NoneType", false), (.b "bool", false), (.b "int", false), (.b "str", false), (.b "list", false), (.b "tuple", false), (.b "dict", false), (.own "Shape", false), (.own "Order", true)]
  k9 : Tab K (fun t => PySem.W.kitOne K t (cdV K (.ty "list"))) [(.b "NoneType", false), (.b "bool", false), (.b "int", false), (.b "str", false), (.b "list", true), (.b "tuple", false), (.b "dict", false), (.own "Shape", false), (.own "Order", false)]
abbrev sp_is_name (K : PySem.W.Frag) : Sp := spM K m_is_name
def t_is_name (K : PySem.W.Frag) : TS := (tSeq (tIfS (tOr (tNot (tTruK K (tCB (vIsi K) (tCons (tVar 0) (tCons (tC (.ty "str")) tNil))))) (tNot (tTest (tChain (uLt K) uLe (tC (.int 0)) (tCB (uLen K) (tCons (tVar 0) tNil)) (tC (.int (8))))))) (tRet (tC (.bl false))) tNext)
    (tRet (tCB (rAllL K) (tCons (tLc (iU K (tVar 0)) (gName 1) tYes (tOp (uIn K) (tVar 1) (tC (.str "abcdefghijklmnopqrstuvwxyz"))) [1]) tNil))))
theorem si_is_name {K : PySem.W.Frag} {WW : WX} (kf : KF K) : SimS K WW (t_is_name K) b_is_name := (sim_seq (sim_ifs (sim_or (sim_not (sim_tru (sim_cb (o_isi kf.k0) (sim_cons sim_var (sim_cons (sim_c fun _ _ => .ty _) sim_nil))))) (sim_not (sim_test (sim_chain o_lt o_le (sim_c fun _ _ => .int _) (sim_cb o_len (sim_cons sim_var sim_nil)) (sim_c fun _ _ => .int _))))) (sim_ret (sim_c fun _ _ => .bl _)) sim_next)
    (sim_ret (sim_cb o_all (sim_cons (sim_lc (sim_iU sim_var) sim_gnameC (by decide) (ok_name (by decide)) sim_yes (sim_op o_in sim_var (sim_c fun _ _ => .str _))) sim_nil))))
theorem len_is_name {K : PySem.W.Frag} {vs : List V} {H : Hp} {Q : VK} {E : XK} (h : sp_is_name K vs H Q E) : vs.length = ["value"].length := len_spM (ps := ["value"]) (fun _ _ h => len_fnM h) h
theorem pure_is_name {K : PySem.W.Frag} (kf : KF K) (vs : List V) (H : Hp) (Q : VK) (E : XK) (h : sp_is_name K vs H Q E) : t_is_name K { nx := fun _ H' => Q .non H', rt := Q } (L2.start ["value", "letter"] vs) H := pure_fnM (n := 1) (k := 1) rfl (si_is_name kf) h
abbrev sp_is_list (K : PySem.W.Frag) : Sp := spM K m_is_list
def t_is_list (K : PySem.W.Frag) : TS := (tRet (tCB (vIsi K) (tCons (tVar 0) (tCons (tTup (tCons (tC (.ty "list")) (tCons (tC (.ty "tuple")) tNil))) tNil))))
theorem si_is_list {K : PySem.W.Frag} {WW : WX} (kf : KF K) : SimS K WW (t_is_list K) b_is_list := (sim_ret (sim_cb (o_isiT kf.k1) (sim_cons sim_var (sim_cons (sim_tup (sim_cons (sim_c fun _ _ => .ty _) (sim_cons (sim_c fun _ _ => .ty _) sim_nil))) sim_nil))))
theorem len_is_list {K : PySem.W.Frag} {vs : List V} {H : Hp} {Q : VK} {E : XK} (h : sp_is_list K vs H Q E) : vs.length = ["value"].length := len_spM (ps := ["value"]) (fun _ _ h => len_fnM h) h
theorem pure_is_list {K : PySem.W.Frag} (kf : KF K) (vs : List V) (H : Hp) (Q : VK) (E : XK) (h : sp_is_list K vs H Q E) : t_is_list K { nx := fun _ H' => Q .non H', rt := Q } (L2.start ["value"] vs) H := pure_fnM (n := 1) (k := 0) rfl (si_is_list kf) h
abbrev sp_Shape_D_init_D (K : PySem.W.Frag) : Sp := spM K m_Shape_D_init_D
def t_Shape_D_init_D (K : PySem.W.Frag) : TS := (tSeq (tIfS (tOr (tNot (tTruK K (tCall (sp_is_list K) [] E0 (tCons (tVar 1) tNil)))) (tTest (tOp SL.rGt (tCB (uLen K) (tCons (tVar 1) tNil)) (tC (.int (5)))))) tNever tNext)
    (tSeq (tFor (iEnum K (tCons (tVar 1) tNil)) (gTup K 2 (gCons (gName 3) (gCons (gName 4) gNil))) (tSeq (tIfS (tNot (tTruK K (tCall (sp_is_name K) [] E0 (tCons (tVar 4) tNil)))) tNever tNext)
    (tIfS (tTest (tOp (uIn K) (tVar 4) (tSl (uSl K) (tVar 1) tNoPart (tPart (tVar 3))))) tNever tNext)))
    (tSeq (tIfS (tAnd (tTest (tOp uIsnt (tVar 2) (tC .non))) (tNot (tTruK K (tCall (sp_is_name K) [] E0 (tCons (tVar 2) tNil))))) tNever tNext)
    (tSeq (tIfS (tTest (tOp (uIn K) (tVar 2) (tVar 1))) tNever tNext)
    (tSeq (tIfS (tAnd (tTest (tOp uIsnt (tVar 2) (tC .non))) (tTest (tOp (uEq K) (tCB (uLen K) (tCons (tVar 1) tNil)) (tC (.int (5)))))) tNever tNext)
    (tSeq (sFld K (tVar 0) (tCB (rSrt K) (tCons (tVar 1) tNil)) "fixed_columns")
    (sFld K (tVar 0) (tVar 2) "span_column")))))))
theorem si_Shape_D_init_D {K : PySem.W.Frag} {WW : WX} (kf : KF K) : SimS K WW (t_Shape_D_init_D K) b_Shape_D_init_D := (sim_seq (sim_ifs (sim_or (sim_not (sim_tru (sim_call (sim_cons (sim_fr sim_var) sim_nil)))) (sim_test (sim_op o_gt (sim_cb o_len (sim_cons sim_var sim_nil)) (sim_c fun _ _ => .int _)))) sim_never sim_next)
    (sim_seq (sim_for (sim_enum (sim_cons sim_var sim_nil)) (sim_gtup (sim_gcons sim_gnameC (sim_gcons sim_gnameC sim_gnil))) (sim_seq (sim_ifs (sim_not (sim_tru (sim_call (sim_cons (sim_fr sim_var) sim_nil)))) sim_never sim_next)
    (sim_ifs (sim_test (sim_op o_in sim_var (sim_sl sim_var sim_nopart (sim_part sim_var)))) sim_never sim_next)))
    (sim_seq (sim_ifs (sim_and (sim_test (sim_op o_isnt sim_var (sim_c fun _ _ => .non))) (sim_not (sim_tru (sim_call (sim_cons (sim_fr sim_var) sim_nil))))) sim_never sim_next)
    (sim_seq (sim_ifs (sim_test (sim_op o_in sim_var sim_var)) sim_never sim_next)
    (sim_seq (sim_ifs (sim_and (sim_test (sim_op o_isnt sim_var (sim_c fun _ _ => .non))) (sim_test (sim_op o_eq (sim_cb o_len (sim_cons sim_var sim_nil)) (sim_c fun _ _ => .int _)))) sim_never sim_next)
    (sim_seq (sim_sfld kf.k2.cls kf.k4 (sim_cb o_srt (sim_cons sim_var sim_nil)))
    (sim_sfld kf.k2.cls kf.k3 sim_var)))))))
theorem len_Shape_D_init_D {K : PySem.W.Frag} {vs : List V} {H : Hp} {Q : VK} {E : XK} (h : sp_Shape_D_init_D K vs H Q E) : vs.length = ["self", "fixed", "span"].length := len_spM (ps := ["self", "fixed", "span"]) (fun _ _ h => len_fnM h) h
theorem pure_Shape_D_init_D {K : PySem.W.Frag} (kf : KF K) (vs : List V) (H : Hp) (Q : VK) (E : XK) (h : sp_Shape_D_init_D K vs H Q E) : t_Shape_D_init_D K { nx := fun _ H' => Q .non H', rt := Q } (L2.start ["self", "fixed", "span", "at", "column"] vs) H := pure_fnM (n := 3) (k := 2) rfl (si_Shape_D_init_D kf) h
abbrev sp_Shape_span (K : PySem.W.Frag) : Sp := spM K m_Shape_span
def t_Shape_span (K : PySem.W.Frag) : TS := (tRet (tFld K (tVar 0) "span_column"))
theorem si_Shape_span {K : PySem.W.Frag} {WW : WX} (kf : KF K) : SimS K WW (t_Shape_span K) b_Shape_span := (sim_ret (sim_fld kf.k2.cls kf.k3 sim_var))
theorem len_Shape_span {K : PySem.W.Frag} {vs : List V} {H : Hp} {Q : VK} {E : XK} (h : sp_Shape_span K vs H Q E) : vs.length = ["self"].length := len_spM (ps := ["self"]) (fun _ _ h => len_fnM h) h
theorem pure_Shape_span {K : PySem.W.Frag} (kf : KF K) (vs : List V) (H : Hp) (Q : VK) (E : XK) (h : sp_Shape_span K vs H Q E) : t_Shape_span K { nx := fun _ H' => Q .non H', rt := Q } (L2.start ["self"] vs) H := pure_fnM (n := 1) (k := 0) rfl (si_Shape_span kf) h
abbrev sp_Shape_fixed (K : PySem.W.Frag) : Sp := spM K m_Shape_fixed
def t_Shape_fixed (K : PySem.W.Frag) : TS := (tRet (tCB (uList K) (tCons (tFld K (tVar 0) "fixed_columns") tNil)))
theorem si_Shape_fixed {K : PySem.W.Frag} {WW : WX} (kf : KF K) : SimS K WW (t_Shape_fixed K) b_Shape_fixed := (sim_ret (sim_cb o_list (sim_cons (sim_fld kf.k2.cls kf.k4 sim_var) sim_nil)))
theorem len_Shape_fixed {K : PySem.W.Frag} {vs : List V} {H : Hp} {Q : VK} {E : XK} (h : sp_Shape_fixed K vs H Q E) : vs.length = ["self"].length := len_spM (ps := ["self"]) (fun _ _ h => len_fnM h) h
theorem pure_Shape_fixed {K : PySem.W.Frag} (kf : KF K) (vs : List V) (H : Hp) (Q : VK) (E : XK) (h : sp_Shape_fixed K vs H Q E) : t_Shape_fixed K { nx := fun _ H' => Q .non H', rt := Q } (L2.start ["self"] vs) H := pure_fnM (n := 1) (k := 0) rfl (si_Shape_fixed kf) h
abbrev sp_Shape_columns (K : PySem.W.Frag) : Sp := spM K m_Shape_columns
def t_Shape_columns (K : PySem.W.Frag) : TS := (tRet (tCB (rSrt K) (tCons (tOp (uAdd K) (tFld K (tVar 0) "fixed_columns") (tIf (tTest (tOp uIs (tFld K (tVar 0) "span_column") (tC .non))) (tLst tNil) (tLst (tCons (tFld K (tVar 0) "span_column") tNil)))) tNil)))
theorem si_Shape_columns {K : PySem.W.Frag} {WW : WX} (kf : KF K) : SimS K WW (t_Shape_columns K) b_Shape_columns := (sim_ret (sim_cb o_srt (sim_cons (sim_op o_add (sim_fld kf.k2.cls kf.k4 sim_var) (sim_if (sim_test (sim_op o_is (sim_fld kf.k2.cls kf.k3 sim_var) (sim_c fun _ _ => .non))) (sim_lst sim_nil) (sim_lst (sim_cons (sim_fld kf.k2.cls kf.k3 sim_var) sim_nil)))) sim_nil)))
theorem len_Shape_columns {K : PySem.W.Frag} {vs : List V} {H : Hp} {Q : VK} {E : XK} (h : sp_Shape_columns K vs H Q E) : vs.length = ["self"].length := len_spM (ps := ["self"]) (fun _ _ h => len_fnM h) h
theorem pure_Shape_columns {K : PySem.W.Frag} (kf : KF K) (vs : List V) (H : Hp) (Q : VK) (E : XK) (h : sp_Shape_columns K vs H Q E) : t_Shape_columns K { nx := fun _ H' => Q .non H', rt := Q } (L2.start ["self"] vs) H := pure_fnM (n := 1) (k := 0) rfl (si_Shape_columns kf) h
abbrev sp_Shape_D_eq_D (K : PySem.W.Frag) : Sp := spM K m_Shape_D_eq_D
def t_Shape_D_eq_D (K : PySem.W.Frag) : TS := (tSeq (tIfS (tNot (tTruK K (tCB (vIsi K) (tCons (tVar 1) (tCons (tC (.ref (He.ga K "Shape"))) tNil))))) (tRet (tC (.bl false))) tNext)
    (tRet (tAndV (tOp (uEq K) (tFld K (tVar 0) "fixed_columns") (tFld K (tVar 1) "fixed_columns")) (tOp (uEq K) (tFld K (tVar 0) "span_column") (tFld K (tVar 1) "span_column")))))
theorem si_Shape_D_eq_D {K : PySem.W.Frag} {WW : WX} (kf : KF K) : SimS K WW (t_Shape_D_eq_D K) b_Shape_D_eq_D := (sim_seq (sim_ifs (sim_not (sim_tru (sim_cb (o_isi kf.k5) (sim_cons sim_var (sim_cons (sim_c fun _ _ => .glo _) sim_nil))))) (sim_ret (sim_c fun _ _ => .bl _)) sim_next)
    (sim_ret (sim_andV (sim_op o_eq (sim_fld kf.k2.cls kf.k4 sim_var) (sim_fld kf.k2.cls kf.k4 sim_var)) (sim_op o_eq (sim_fld kf.k2.cls kf.k3 sim_var) (sim_fld kf.k2.cls kf.k3 sim_var)))))
theorem len_Shape_D_eq_D {K : PySem.W.Frag} {vs : List V} {H : Hp} {Q : VK} {E : XK} (h : sp_Shape_D_eq_D K vs H Q E) : vs.length = ["self", "other"].length := len_spM (ps := ["self", "other"]) (fun _ _ h => len_fnM h) h
theorem pure_Shape_D_eq_D {K : PySem.W.Frag} (kf : KF K) (vs : List V) (H : Hp) (Q : VK) (E : XK) (h : sp_Shape_D_eq_D K vs H Q E) : t_Shape_D_eq_D K { nx := fun _ H' => Q .non H', rt := Q } (L2.start ["self", "other"] vs) H := pure_fnM (n := 2) (k := 0) rfl (si_Shape_D_eq_D kf) h
abbrev sp_Shape_D_str_D (K : PySem.W.Frag) : Sp := spM K m_Shape_D_str_D
def t_Shape_D_str_D (K : PySem.W.Frag) : TS := (tSeq (tAsg (tIf (tTest (tOp (uNe K) (tFld K (tVar 0) "fixed_columns") (tLst tNil))) (tBM K "str" (rJoin K) (tC (.str "+")) (tCons (tFld K (tVar 0) "fixed_columns") tNil)) (tC (.str "-"))) (gName 1))
    (tSeq (tAsg (tIf (tTest (tOp uIs (tFld K (tVar 0) "span_column") (tC .non))) (tC (.str "")) (fun σ H Q => tJs [(tC (.str ":")), (tFmt (tFld K (tVar 0) "span_column"))] Str.empty σ H fun out H1 => Q (.str out) H1)) (gName 2))
    (tRet (fun σ H Q => tJs [(tFmt (tVar 1)), (tFmt (tVar 2))] Str.empty σ H fun out H1 => Q (.str out) H1))))
theorem si_Shape_D_str_D {K : PySem.W.Frag} {WW : WX} (kf : KF K) : SimS K WW (t_Shape_D_str_D K) b_Shape_D_str_D := (sim_seq (sim_asg (sim_if (sim_test (sim_op o_ne (sim_fld kf.k2.cls kf.k4 sim_var) (sim_lst sim_nil))) (sim_bs rfl o_join (sim_c fun _ _ => .str _) (sim_cons (sim_fld kf.k2.cls kf.k4 sim_var) sim_nil)) (sim_c fun _ _ => .str _)) sim_gnameC)
    (sim_seq (sim_asg (sim_if (sim_test (sim_op o_is (sim_fld kf.k2.cls kf.k3 sim_var) (sim_c fun _ _ => .non))) (sim_c fun _ _ => .str _) (sim_js (.cons (sim_c fun _ _ => .str _) (.cons (sim_fmt (sim_fld kf.k2.cls kf.k3 sim_var)) .nil)) Str.empty)) sim_gnameC)
    (sim_ret (sim_js (.cons (sim_fmt sim_var) (.cons (sim_fmt sim_var) .nil)) Str.empty))))
theorem len_Shape_D_str_D {K : PySem.W.Frag} {vs : List V} {H : Hp} {Q : VK} {E : XK} (h : sp_Shape_D_str_D K vs H Q E) : vs.length = ["self"].length := len_spM (ps := ["self"]) (fun _ _ h => len_fnM h) h
theorem pure_Shape_D_str_D {K : PySem.W.Frag} (kf : KF K) (vs : List V) (H : Hp) (Q : VK) (E : XK) (h : sp_Shape_D_str_D K vs H Q E) : t_Shape_D_str_D K { nx := fun _ H' => Q .non H', rt := Q } (L2.start ["self", "head", "tail"] vs) H := pure_fnM (n := 1) (k := 2) rfl (si_Shape_D_str_D kf) h
abbrev sp_checked_columns (K : PySem.W.Frag) : Sp := spM K m_checked_columns
def t_checked_columns (K : PySem.W.Frag) : TS := (tSeq (tIfS (tOr (tNot (tTruK K (tCall (sp_is_list K) [] E0 (tCons (tVar 0) tNil)))) (tNot (tTest (tChain uLe uLe (tC (.int 1)) (tCB (uLen K) (tCons (tVar 0) tNil)) (tC (.int (5))))))) tNever tNext)
    (tSeq (tAsg (tLst tNil) (gName 1))
    (tSeq (tFor (iU K (tVar 0)) (gName 2) (tSeq (tIfS (tNot (tTruK K (tCall (sp_is_name K) [] E0 (tCons (tVar 2) tNil)))) tNever tNext)
    (tSeq (tIfS (tTest (tOp (uIn K) (tVar 2) (tVar 1))) tNever tNext)
    (tDrop (tBM K "list" rAppend (tVar 1) (tCons (tVar 2) tNil))))))
    (tRet (tVar 1)))))
theorem si_checked_columns {K : PySem.W.Frag} {WW : WX} (kf : KF K) : SimS K WW (t_checked_columns K) b_checked_columns := (sim_seq (sim_ifs (sim_or (sim_not (sim_tru (sim_call (sim_cons (sim_fr sim_var) sim_nil)))) (sim_not (sim_test (sim_chain o_le o_le (sim_c fun _ _ => .int _) (sim_cb o_len (sim_cons sim_var sim_nil)) (sim_c fun _ _ => .int _))))) sim_never sim_next)
    (sim_seq (sim_asg (sim_lst sim_nil) sim_gname)
    (sim_seq (sim_for (sim_iU sim_var) sim_gnameC (sim_seq (sim_ifs (sim_not (sim_tru (sim_call (sim_cons (sim_fr sim_var) sim_nil)))) sim_never sim_next)
    (sim_seq (sim_ifs (sim_test (sim_op o_in sim_var sim_var)) sim_never sim_next)
    (sim_drop (sim_mut rfl mu_append (sim_cons sim_var sim_nil))))))
    (sim_ret sim_var))))
theorem len_checked_columns {K : PySem.W.Frag} {vs : List V} {H : Hp} {Q : VK} {E : XK} (h : sp_checked_columns K vs H Q E) : vs.length = ["columns"].length := len_spM (ps := ["columns"]) (fun _ _ h => len_fnM h) h
theorem pure_checked_columns {K : PySem.W.Frag} (kf : KF K) (vs : List V) (H : Hp) (Q : VK) (E : XK) (h : sp_checked_columns K vs H Q E) : t_checked_columns K { nx := fun _ H' => Q .non H', rt := Q } (L2.start ["columns", "found", "name"] vs) H := pure_fnM (n := 1) (k := 2) rfl (si_checked_columns kf) h
abbrev sp_need_known (K : PySem.W.Frag) : Sp := spM K m_need_known
def t_need_known (K : PySem.W.Frag) : TS := (tSeq (tIfS (tNot (tTruK K (tCB (vIsi K) (tCons (tVar 1) (tCons (tC (.ref (He.ga K "Shape"))) tNil))))) tNever tNext)
    (tFor (iU K (tMeth (He.ga K "Shape") "columns" (sp_Shape_columns K) [] E0 (tVar 1) tNil)) (gName 2) (tIfS (tTest (tOp (uNi K) (tVar 2) (tVar 0))) tNever tNext)))
theorem si_need_known {K : PySem.W.Frag} {WW : WX} (kf : KF K) : SimS K WW (t_need_known K) b_need_known := (sim_seq (sim_ifs (sim_not (sim_tru (sim_cb (o_isi kf.k5) (sim_cons sim_var (sim_cons (sim_c fun _ _ => .glo _) sim_nil))))) sim_never sim_next)
    (sim_for (sim_iU (sim_meth (sim_fr sim_var) sim_nil)) sim_gnameC (sim_ifs (sim_test (sim_op o_ni sim_var sim_var)) sim_never sim_next)))
theorem len_need_known {K : PySem.W.Frag} {vs : List V} {H : Hp} {Q : VK} {E : XK} (h : sp_need_known K vs H Q E) : vs.length = ["columns", "shape"].length := len_spM (ps := ["columns", "shape"]) (fun _ _ h => len_fnM h) h
theorem pure_need_known {K : PySem.W.Frag} (kf : KF K) (vs : List V) (H : Hp) (Q : VK) (E : XK) (h : sp_need_known K vs H Q E) : t_need_known K { nx := fun _ H' => Q .non H', rt := Q } (L2.start ["columns", "shape", "column"] vs) H := pure_fnM (n := 2) (k := 1) rfl (si_need_known kf) h
abbrev sp_need_all_known (K : PySem.W.Frag) : Sp := spM K m_need_all_known
def t_need_all_known (K : PySem.W.Frag) : TS := (tSeq (tIfS (tOr (tNot (tTruK K (tCall (sp_is_list K) [] E0 (tCons (tVar 1) tNil)))) (tTest (tOp SL.rGt (tCB (uLen K) (tCons (tVar 1) tNil)) (tC (.int (12)))))) tNever tNext)
    (tFor (iU K (tVar 1)) (gName 2) (tDrop (tCall (sp_need_known K) [] E0 (tCons (tVar 0) (tCons (tVar 2) tNil))))))
theorem si_need_all_known {K : PySem.W.Frag} {WW : WX} (kf : KF K) : SimS K WW (t_need_all_known K) b_need_all_known := (sim_seq (sim_ifs (sim_or (sim_not (sim_tru (sim_call (sim_cons (sim_fr sim_var) sim_nil)))) (sim_test (sim_op o_gt (sim_cb o_len (sim_cons sim_var sim_nil)) (sim_c fun _ _ => .int _)))) sim_never sim_next)
    (sim_for (sim_iU sim_var) sim_gnameC (sim_drop (sim_call (sim_cons (sim_fr sim_var) (sim_cons (sim_fr sim_var) sim_nil))))))
theorem len_need_all_known {K : PySem.W.Frag} {vs : List V} {H : Hp} {Q : VK} {E : XK} (h : sp_need_all_known K vs H Q E) : vs.length = ["columns", "shapes"].length := len_spM (ps := ["columns", "shapes"]) (fun _ _ h => len_fnM h) h
theorem pure_need_all_known {K : PySem.W.Frag} (kf : KF K) (vs : List V) (H : Hp) (Q : VK) (E : XK) (h : sp_need_all_known K vs H Q E) : t_need_all_known K { nx := fun _ H' => Q .non H', rt := Q } (L2.start ["columns", "shapes", "shape"] vs) H := pure_fnM (n := 2) (k := 1) rfl (si_need_all_known kf) h
abbrev sp_Order_D_init_D (K : PySem.W.Frag) : Sp := spM K m_Order_D_init_D
def t_Order_D_init_D (K : PySem.W.Frag) : TS := (sFld K (tVar 0) (tCall (sp_checked_columns K) [] E0 (tCons (tVar 1) tNil)) "own_columns")
theorem si_Order_D_init_D {K : PySem.W.Frag} {WW : WX} (kf : KF K) : SimS K WW (t_Order_D_init_D K) b_Order_D_init_D := (sim_sfld kf.k6.cls kf.k7 (sim_call (sim_cons (sim_fr sim_var) sim_nil)))
theorem len_Order_D_init_D {K : PySem.W.Frag} {vs : List V} {H : Hp} {Q : VK} {E : XK} (h : sp_Order_D_init_D K vs H Q E) : vs.length = ["self", "columns"].length := len_spM (ps := ["self", "columns"]) (fun _ _ h => len_fnM h) h
theorem pure_Order_D_init_D {K : PySem.W.Frag} (kf : KF K) (vs : List V) (H : Hp) (Q : VK) (E : XK) (h : sp_Order_D_init_D K vs H Q E) : t_Order_D_init_D K { nx := fun _ H' => Q .non H', rt := Q } (L2.start ["self", "columns"] vs) H := pure_fnM (n := 2) (k := 0) rfl (si_Order_D_init_D kf) h
abbrev sp_Order_columns (K : PySem.W.Frag) : Sp := spM K m_Order_columns
def t_Order_columns (K : PySem.W.Frag) : TS := (tRet (tCB (uList K) (tCons (tFld K (tVar 0) "own_columns") tNil)))
theorem si_Order_columns {K : PySem.W.Frag} {WW : WX} (kf : KF K) : SimS K WW (t_Order_columns K) b_Order_columns := (sim_ret (sim_cb o_list (sim_cons (sim_fld kf.k6.cls kf.k7 sim_var) sim_nil)))
theorem len_Order_columns {K : PySem.W.Frag} {vs : List V} {H : Hp} {Q : VK} {E : XK} (h : sp_Order_columns K vs H Q E) : vs.length = ["self"].length := len_spM (ps := ["self"]) (fun _ _ h => len_fnM h) h
theorem pure_Order_columns {K : PySem.W.Frag} (kf : KF K) (vs : List V) (H : Hp) (Q : VK) (E : XK) (h : sp_Order_columns K vs H Q E) : t_Order_columns K { nx := fun _ H' => Q .non H', rt := Q } (L2.start ["self"] vs) H := pure_fnM (n := 1) (k := 0) rfl (si_Order_columns kf) h
abbrev sp_Order_reach (K : PySem.W.Frag) : Sp := spM K m_Order_reach
def t_Order_reach (K : PySem.W.Frag) : TS := (tSeq (tDrop (tCall (sp_need_known K) [] E0 (tCons (tFld K (tVar 0) "own_columns") (tCons (tVar 1) tNil))))
    (tSeq (tPar 2 3 (tCons (tMeth (He.ga K "Shape") "fixed" (sp_Shape_fixed K) [] E0 (tVar 1) tNil) (tCons (tC (.int 0)) tNil)))
    (tSeq (tWhile (tAnd (tTest (tOp (uLt K) (tVar 3) (tCB (uLen K) (tCons (tFld K (tVar 0) "own_columns") tNil)))) (tTest (tOp (uIn K) (tOp (uIx K) (tFld K (tVar 0) "own_columns") (tVar 3)) (tVar 2)))) (tAug 3 (tC (.int 1)) (ipI fun i j => i + j)))
    (tSeq (tAsg (tAndV (tOp uIsnt (tProp (He.ga K "Shape") (sp_Shape_span K) [] E0 (tVar 1)) (tC .non)) (tOp (uEq K) (tSl (uSl K) (tFld K (tVar 0) "own_columns") (tPart (tVar 3)) (tPart (tOp (uAdd K) (tVar 3) (tC (.int 1))))) (tLst (tCons (tProp (He.ga K "Shape") (sp_Shape_span K) [] E0 (tVar 1)) tNil)))) (gName 4))
    (tRet (tTup (tCons (tVar 3) (tCons (tVar 4) tNil))))))))
theorem si_Order_reach {K : PySem.W.Frag} {WW : WX} (kf : KF K) : SimS K WW (t_Order_reach K) b_Order_reach := (sim_seq (sim_drop (sim_call (sim_cons (sim_fr (sim_fld kf.k6.cls kf.k7 sim_var)) (sim_cons (sim_fr sim_var) sim_nil))))
    (sim_seq (sim_par (sim_cons (sim_meth (sim_fr sim_var) sim_nil) (sim_cons (sim_c fun _ _ => .int _) sim_nil)))
    (sim_seq (sim_while (sim_and (sim_test (sim_op o_lt sim_var (sim_cb o_len (sim_cons (sim_fld kf.k6.cls kf.k7 sim_var) sim_nil)))) (sim_test (sim_op o_in (sim_op o_ix (sim_fld kf.k6.cls kf.k7 sim_var) sim_var) sim_var))) (sim_aug o_ipadd (sim_c fun _ _ => .int _)) _)
    (sim_seq (sim_asg (sim_andV (sim_op o_isnt (sim_prop (sim_fr sim_var)) (sim_c fun _ _ => .non)) (sim_op o_eq (sim_sl (sim_fld kf.k6.cls kf.k7 sim_var) (sim_part sim_var) (sim_part (sim_op o_add sim_var (sim_c fun _ _ => .int _)))) (sim_lst (sim_cons (sim_prop (sim_fr sim_var)) sim_nil)))) sim_gnameC)
    (sim_ret (sim_tup (sim_cons sim_var (sim_cons sim_var sim_nil))))))))
theorem len_Order_reach {K : PySem.W.Frag} {vs : List V} {H : Hp} {Q : VK} {E : XK} (h : sp_Order_reach K vs H Q E) : vs.length = ["self", "shape"].length := len_spM (ps := ["self", "shape"]) (fun _ _ h => len_fnM h) h
theorem pure_Order_reach {K : PySem.W.Frag} (kf : KF K) (vs : List V) (H : Hp) (Q : VK) (E : XK) (h : sp_Order_reach K vs H Q E) : t_Order_reach K { nx := fun _ H' => Q .non H', rt := Q } (L2.start ["self", "shape", "fixed", "count", "is_next"] vs) H := pure_fnM (n := 2) (k := 3) rfl (si_Order_reach kf) h
abbrev sp_Order_serves (K : PySem.W.Frag) : Sp := spM K m_Order_serves
def t_Order_serves (K : PySem.W.Frag) : TS := (tSeq (tAsg (tMeth (He.ga K "Order") "reach" (sp_Order_reach K) [] E0 (tVar 0) (tCons (tVar 1) tNil)) (gTup K 2 (gCons (gName 2) (gCons (gName 3) gNil))))
    (tRet (tAndV (tOp (uEq K) (tVar 2) (tCB (uLen K) (tCons (tMeth (He.ga K "Shape") "fixed" (sp_Shape_fixed K) [] E0 (tVar 1) tNil) tNil))) (tOrV (tOp uIs (tProp (He.ga K "Shape") (sp_Shape_span K) [] E0 (tVar 1)) (tC .non)) (tVar 3)))))
theorem si_Order_serves {K : PySem.W.Frag} {WW : WX} (kf : KF K) : SimS K WW (t_Order_serves K) b_Order_serves := (sim_seq (sim_asg (sim_meth (sim_fr sim_var) (sim_cons (sim_fr sim_var) sim_nil)) (sim_gtup (sim_gcons sim_gnameC (sim_gcons sim_gnameC sim_gnil))))
    (sim_ret (sim_andV (sim_op o_eq sim_var (sim_cb o_len (sim_cons (sim_meth (sim_fr sim_var) sim_nil) sim_nil))) (sim_orV (sim_op o_is (sim_prop (sim_fr sim_var)) (sim_c fun _ _ => .non)) sim_var))))
theorem len_Order_serves {K : PySem.W.Frag} {vs : List V} {H : Hp} {Q : VK} {E : XK} (h : sp_Order_serves K vs H Q E) : vs.length = ["self", "shape"].length := len_spM (ps := ["self", "shape"]) (fun _ _ h => len_fnM h) h
theorem pure_Order_serves {K : PySem.W.Frag} (kf : KF K) (vs : List V) (H : Hp) (Q : VK) (E : XK) (h : sp_Order_serves K vs H Q E) : t_Order_serves K { nx := fun _ H' => Q .non H', rt := Q } (L2.start ["self", "shape", "count", "is_next"] vs) H := pure_fnM (n := 2) (k := 2) rfl (si_Order_serves kf) h
abbrev sp_need_order (K : PySem.W.Frag) : Sp := spM K m_need_order
def t_need_order (K : PySem.W.Frag) : TS := (tIfS (tNot (tTruK K (tCB (vIsi K) (tCons (tVar 0) (tCons (tC (.ref (He.ga K "Order"))) tNil))))) tNever tNext)
theorem si_need_order {K : PySem.W.Frag} {WW : WX} (kf : KF K) : SimS K WW (t_need_order K) b_need_order := (sim_ifs (sim_not (sim_tru (sim_cb (o_isi kf.k8) (sim_cons sim_var (sim_cons (sim_c fun _ _ => .glo _) sim_nil))))) sim_never sim_next)
theorem len_need_order {K : PySem.W.Frag} {vs : List V} {H : Hp} {Q : VK} {E : XK} (h : sp_need_order K vs H Q E) : vs.length = ["value"].length := len_spM (ps := ["value"]) (fun _ _ h => len_fnM h) h
theorem pure_need_order {K : PySem.W.Frag} (kf : KF K) (vs : List V) (H : Hp) (Q : VK) (E : XK) (h : sp_need_order K vs H Q E) : t_need_order K { nx := fun _ H' => Q .non H', rt := Q } (L2.start ["value"] vs) H := pure_fnM (n := 1) (k := 0) rfl (si_need_order kf) h
abbrev sp_served_shapes (K : PySem.W.Frag) : Sp := spM K m_served_shapes
def t_served_shapes (K : PySem.W.Frag) : TS := (tSeq (tDrop (tCall (sp_need_order K) [] E0 (tCons (tVar 0) tNil)))
    (tSeq (tDrop (tCall (sp_need_all_known K) [] E0 (tCons (tMeth (He.ga K "Order") "columns" (sp_Order_columns K) [] E0 (tVar 0) tNil) (tCons (tVar 1) tNil))))
    (tRet (tLc (iU K (tVar 1)) (gName 2) (tTruK K (tMeth (He.ga K "Order") "serves" (sp_Order_serves K) [] E0 (tVar 0) (tCons (tVar 2) tNil))) (tVar 2) [2]))))
theorem si_served_shapes {K : PySem.W.Frag} {WW : WX} (kf : KF K) : SimS K WW (t_served_shapes K) b_served_shapes := (sim_seq (sim_drop (sim_call (sim_cons (sim_fr sim_var) sim_nil)))
    (sim_seq (sim_drop (sim_call (sim_cons (sim_fr (sim_meth (sim_fr sim_var) sim_nil)) (sim_cons (sim_fr sim_var) sim_nil))))
    (sim_ret (sim_lc (sim_iU sim_var) sim_gnameC (by decide) (ok_name (by decide)) (sim_tru (sim_meth (sim_fr sim_var) (sim_cons (sim_fr sim_var) sim_nil))) sim_var))))
theorem len_served_shapes {K : PySem.W.Frag} {vs : List V} {H : Hp} {Q : VK} {E : XK} (h : sp_served_shapes K vs H Q E) : vs.length = ["order", "shapes"].length := len_spM (ps := ["order", "shapes"]) (fun _ _ h => len_fnM h) h
theorem pure_served_shapes {K : PySem.W.Frag} (kf : KF K) (vs : List V) (H : Hp) (Q : VK) (E : XK) (h : sp_served_shapes K vs H Q E) : t_served_shapes K { nx := fun _ H' => Q .non H', rt := Q } (L2.start ["order", "shapes", "shape"] vs) H := pure_fnM (n := 2) (k := 1) rfl (si_served_shapes kf) h
abbrev sp_l_law_cell (K : PySem.W.Frag) : Sp := spM K m_l_law_cell
def t_l_law_cell (K : PySem.W.Frag) : TS := (tSeq (tIfS (tTest (tOp (uLt K) (tVar 1) (tCB (uLen K) (tCons (tVar 0) tNil)))) (tRet (tOp (uIx K) (tVar 0) (tVar 1))) tNext)
    (tRet (tOp (uAdd K) (tOp (uMul K) (tC (.int 6029)) (tVar 1)) (tC (.int 41)))))
theorem si_l_law_cell {K : PySem.W.Frag} {WW : WX} (kf : KF K) : SimS K WW (t_l_law_cell K) b_l_law_cell := (sim_seq (sim_ifs (sim_test (sim_op o_lt sim_var (sim_cb o_len (sim_cons sim_var sim_nil)))) (sim_ret (sim_op o_ix sim_var sim_var)) sim_next)
    (sim_ret (sim_op o_add (sim_op o_mul (sim_c fun _ _ => .int _) sim_var) (sim_c fun _ _ => .int _))))
theorem len_l_law_cell {K : PySem.W.Frag} {vs : List V} {H : Hp} {Q : VK} {E : XK} (h : sp_l_law_cell K vs H Q E) : vs.length = ["_law_script", "_law_k"].length := len_spM (ps := ["_law_script", "_law_k"]) (fun _ _ h => len_fnM h) h
theorem pure_l_law_cell {K : PySem.W.Frag} (kf : KF K) (vs : List V) (H : Hp) (Q : VK) (E : XK) (h : sp_l_law_cell K vs H Q E) : t_l_law_cell K { nx := fun _ H' => Q .non H', rt := Q } (L2.start ["_law_script", "_law_k"] vs) H := pure_fnM (n := 2) (k := 0) rfl (si_l_law_cell kf) h
abbrev sp_l_law_box (K : PySem.W.Frag) : Sp := spM K m_l_law_box
def t_l_law_box (K : PySem.W.Frag) : TS := (tRet (tLst (tCons (tCB rMax2 (tCons (tC (.int 0)) (tCons (tOp SL.rSub (tVar 0) (tOp SL.rPow (tC (.int 10)) (tC (.int 18)))) tNil))) (tCons (tOp SL.rMod (tVar 0) (tC (.int 2147483629))) (tCons (tC (.int 0)) tNil)))))
theorem si_l_law_box {K : PySem.W.Frag} {WW : WX} (kf : KF K) : SimS K WW (t_l_law_box K) b_l_law_box := (sim_ret (sim_lst (sim_cons (sim_cb o_max2 (sim_cons (sim_c fun _ _ => .int _) (sim_cons (sim_op o_sub sim_var (sim_op o_pow (sim_c fun _ _ => .int _) (sim_c fun _ _ => .int _))) sim_nil))) (sim_cons (sim_op o_mod sim_var (sim_c fun _ _ => .int _)) (sim_cons (sim_c fun _ _ => .int _) sim_nil)))))
theorem len_l_law_box {K : PySem.W.Frag} {vs : List V} {H : Hp} {Q : VK} {E : XK} (h : sp_l_law_box K vs H Q E) : vs.length = ["_law_cell_here"].length := len_spM (ps := ["_law_cell_here"]) (fun _ _ h => len_fnM h) h
theorem pure_l_law_box {K : PySem.W.Frag} (kf : KF K) (vs : List V) (H : Hp) (Q : VK) (E : XK) (h : sp_l_law_box K vs H Q E) : t_l_law_box K { nx := fun _ H' => Q .non H', rt := Q } (L2.start ["_law_cell_here"] vs) H := pure_fnM (n := 1) (k := 0) rfl (si_l_law_box kf) h
abbrev sp_l_law_take (K : PySem.W.Frag) : Sp := spM K m_l_law_take
def t_l_law_take (K : PySem.W.Frag) : TS := (tSeq (tIfS (tTest (tOp SL.rGt (tOp (uIx K) (tVar 0) (tC (.int 0))) (tC (.int 0)))) (tSeq (tAsg (tOp SL.rMod (tOp (uIx K) (tVar 0) (tC (.int 0))) (tVar 1)) (gName 4))
    (tSeq (tAsg (tOp SL.rDiv (tOp (uIx K) (tVar 0) (tC (.int 0))) (tVar 1)) (gSub (tVar 0) (tC (.int 0)) rSetL))
    (tRet (tVar 4)))) tNext)
    (tSeq (tAsg (tOp (uAdd K) (tOp (uIx K) (tVar 0) (tC (.int 2))) (tC (.int 1))) (gSub (tVar 0) (tC (.int 2)) rSetL))
    (tSeq (tAsg (tOp SL.rMod (tOp (uAdd K) (tOp (uAdd K) (tOp (uMul K) (tOp (uIx K) (tVar 0) (tC (.int 1))) (tC (.int 48271))) (tOp (uMul K) (tC (.int 6029)) (tOp (uIx K) (tVar 0) (tC (.int 2))))) (tC (.int 41))) (tC (.int 2147483647))) (gName 2))
    (tSeq (tAsg (tOp SL.rMod (tOp SL.rPow (tOp (uAdd K) (tVar 2) (tOp (uMul K) (tC (.int 15485863)) (tOp (uIx K) (tVar 0) (tC (.int 2))))) (tC (.int 2))) (tC (.int 2147483629))) (gName 3))
    (tRet (tOp SL.rMod (tOp (uAdd K) (tOp SL.rDiv (tOp SL.rMod (tOp SL.rPow (tVar 3) (tC (.int 2))) (tC (.int 2147483587))) (tC (.int 16))) (tOp SL.rDiv (tVar 2) (tC (.int 64)))) (tVar 1)))))))
theorem si_l_law_take {K : PySem.W.Frag} {WW : WX} (kf : KF K) : SimS K WW (t_l_law_take K) b_l_law_take := (sim_seq (sim_ifs (sim_test (sim_op o_gt (sim_op o_ix sim_var (sim_c fun _ _ => .int _)) (sim_c fun _ _ => .int _))) (sim_seq (sim_asg (sim_op o_mod (sim_op o_ix sim_var (sim_c fun _ _ => .int _)) sim_var) sim_gnameC)
    (sim_seq (sim_asg (sim_op o_div (sim_op o_ix sim_var (sim_c fun _ _ => .int _)) sim_var) (sim_gsub (sim_c fun _ _ => .int _)))
    (sim_ret sim_var))) sim_next)
    (sim_seq (sim_asg (sim_op o_add (sim_op o_ix sim_var (sim_c fun _ _ => .int _)) (sim_c fun _ _ => .int _)) (sim_gsub (sim_c fun _ _ => .int _)))
    (sim_seq (sim_asg (sim_op o_mod (sim_op o_add (sim_op o_add (sim_op o_mul (sim_op o_ix sim_var (sim_c fun _ _ => .int _)) (sim_c fun _ _ => .int _)) (sim_op o_mul (sim_c fun _ _ => .int _) (sim_op o_ix sim_var (sim_c fun _ _ => .int _)))) (sim_c fun _ _ => .int _)) (sim_c fun _ _ => .int _)) sim_gnameC)
    (sim_seq (sim_asg (sim_op o_mod (sim_op o_pow (sim_op o_add sim_var (sim_op o_mul (sim_c fun _ _ => .int _) (sim_op o_ix sim_var (sim_c fun _ _ => .int _)))) (sim_c fun _ _ => .int _)) (sim_c fun _ _ => .int _)) sim_gnameC)
    (sim_ret (sim_op o_mod (sim_op o_add (sim_op o_div (sim_op o_mod (sim_op o_pow sim_var (sim_c fun _ _ => .int _)) (sim_c fun _ _ => .int _)) (sim_c fun _ _ => .int _)) (sim_op o_div sim_var (sim_c fun _ _ => .int _))) sim_var))))))
theorem len_l_law_take {K : PySem.W.Frag} {vs : List V} {H : Hp} {Q : VK} {E : XK} (h : sp_l_law_take K vs H Q E) : vs.length = ["_law_box_here", "_law_many"].length := len_spM (ps := ["_law_box_here", "_law_many"]) (fun _ _ h => len_fnM h) h
theorem pure_l_law_take {K : PySem.W.Frag} (kf : KF K) (vs : List V) (H : Hp) (Q : VK) (E : XK) (h : sp_l_law_take K vs H Q E) : t_l_law_take K { nx := fun _ H' => Q .non H', rt := Q } (L2.start ["_law_box_here", "_law_many", "_law_front", "_law_back", "_law_digit"] vs) H := pure_fnM (n := 2) (k := 3) rfl (si_l_law_take kf) h
abbrev sp_l_law_mixed (K : PySem.W.Frag) : Sp := spM K m_l_law_mixed
def t_l_law_mixed (K : PySem.W.Frag) : TS := (tSeq (tAsg (tCB (uList K) (tCons (tVar 1) tNil)) (gName 2))
    (tRet (tLc (iRng1 (tCons (tCB (uLen K) (tCons (tVar 1) tNil)) tNil)) (gName 3) tYes (tBM K "list" rPopAt (tVar 2) (tCons (tCall (sp_l_law_take K) [] E0 (tCons (tVar 0) (tCons (tCB (uLen K) (tCons (tVar 2) tNil)) tNil))) tNil)) [3])))
theorem si_l_law_mixed {K : PySem.W.Frag} {WW : WX} (kf : KF K) : SimS K WW (t_l_law_mixed K) b_l_law_mixed := (sim_seq (sim_asg (sim_cb o_list (sim_cons sim_var sim_nil)) sim_gname)
    (sim_ret (sim_lc (sim_rng1 (sim_cons (sim_cb o_len (sim_cons sim_var sim_nil)) sim_nil)) sim_gnameC (by decide) (ok_name (by decide)) sim_yes (sim_mut rfl mu_popAt (sim_cons (sim_call (sim_cons sim_var (sim_cons (sim_fr (sim_cb o_len (sim_cons sim_var sim_nil))) sim_nil))) sim_nil)))))
theorem len_l_law_mixed {K : PySem.W.Frag} {vs : List V} {H : Hp} {Q : VK} {E : XK} (h : sp_l_law_mixed K vs H Q E) : vs.length = ["_law_box_here", "_law_some"].length := len_spM (ps := ["_law_box_here", "_law_some"]) (fun _ _ h => len_fnM h) h
theorem pure_l_law_mixed {K : PySem.W.Frag} (kf : KF K) (vs : List V) (H : Hp) (Q : VK) (E : XK) (h : sp_l_law_mixed K vs H Q E) : t_l_law_mixed K { nx := fun _ H' => Q .non H', rt := Q } (L2.start ["_law_box_here", "_law_some", "_law_left", "_law_k"] vs) H := pure_fnM (n := 2) (k := 2) rfl (si_l_law_mixed kf) h
abbrev sp_l_law_columns (K : PySem.W.Frag) : Sp := spM K m_l_law_columns
def t_l_law_columns (K : PySem.W.Frag) : TS := (tSeq (tAsg (tC (.str "abcdefghijklmnopqrstuvwxyz")) (gName 2))
    (tSeq (tAsg (tTup (tCons (tCall (sp_l_law_take K) [] E0 (tCons (tVar 0) (tCons (tC (.int 4)) tNil))) (tCons (tCall (sp_l_law_take K) [] E0 (tCons (tVar 0) (tCons (tC (.int 26)) tNil))) tNil))) (gTup K 2 (gCons (gName 3) (gCons (gName 4) gNil))))
    (tSeq (tAsg (tBM K "str" (rJoin K) (tC (.str "")) (tCons (tLc (iRng1 (tCons (tC (.int 8)) tNil)) (gName 9) tYes (tOp (uIx K) (tVar 2) (tCall (sp_l_law_take K) [] E0 (tCons (tVar 0) (tCons (tC (.int 26)) tNil)))) [9]) tNil)) (gName 5))
    (tSeq (tAsg (tCall (sp_l_law_take K) [] E0 (tCons (tVar 0) (tCons (tC (.int 8)) tNil))) (gName 6))
    (tSeq (tAsg (tLc (iRng1 (tCons (tVar 1) tNil)) (gName 9) tYes (tOp (uAdd K) (tOp (uAdd K) (tSl (uSl K) (tVar 5) tNoPart (tPart (tVar 6))) (tOp (uIx K) (tVar 2) (tOp SL.rMod (tOp (uAdd K) (tVar 4) (tOp (uMul K) (tC (.int 11)) (tVar 9))) (tC (.int 26))))) (tSl (uSl K) (tVar 5) (tPart (tOp (uAdd K) (tVar 6) (tC (.int 1)))) tNoPart)) [9]) (gName 7))
    (tSeq (tIfS (tTest (tOp (uEq K) (tVar 3) (tC (.int 0)))) (tAsg (tLc (iRng1 (tCons (tVar 1) tNil)) (gName 9) tYes (tOp (uIx K) (tVar 2) (tOp SL.rMod (tOp (uAdd K) (tVar 4) (tOp (uMul K) (tC (.int 3)) (tVar 9))) (tC (.int 26)))) [9]) (gName 7)) tNext)
    (tSeq (tIfS (tTest (tOp (uEq K) (tVar 3) (tC (.int 1)))) (tSeq (tAsg (tCall (sp_l_law_take K) [] E0 (tCons (tVar 0) (tCons (tC (.int 4)) tNil))) (gName 8))
    (tAsg (tLc (iRng1 (tCons (tVar 1) tNil)) (gName 9) tYes (tSl (uSl K) (tVar 5) tNoPart (tPart (tOp (uAdd K) (tOp (uAdd K) (tVar 8) (tVar 9)) (tC (.int 1))))) [9]) (gName 7))) tNext)
    (tSeq (tIfS (tTest (tOp (uEq K) (tVar 3) (tC (.int 2)))) (tAsg (tLc (iRng1 (tCons (tVar 1) tNil)) (gName 9) tYes (tOp (uAdd K) (tOp (uIx K) (tVar 2) (tOp SL.rMod (tOp (uAdd K) (tVar 4) (tOp (uMul K) (tC (.int 7)) (tVar 9))) (tC (.int 26)))) (tSl (uSl K) (tVar 5) tNoPart (tPart (tCall (sp_l_law_take K) [] E0 (tCons (tVar 0) (tCons (tC (.int 8)) tNil)))))) [9]) (gName 7)) tNext)
    (tRet (tCall (sp_l_law_mixed K) [] E0 (tCons (tVar 0) (tCons (tVar 7) tNil))))))))))))
theorem si_l_law_columns {K : PySem.W.Frag} {WW : WX} (kf : KF K) : SimS K WW (t_l_law_columns K) b_l_law_columns := (sim_seq (sim_asg (sim_c fun _ _ => .str _) sim_gnameC)
    (sim_seq (sim_asg (sim_tup (sim_cons (sim_call (sim_cons sim_var (sim_cons (sim_fr (sim_c fun _ _ => .int _)) sim_nil))) (sim_cons (sim_call (sim_cons sim_var (sim_cons (sim_fr (sim_c fun _ _ => .int _)) sim_nil))) sim_nil))) (sim_gtup (sim_gcons sim_gnameC (sim_gcons sim_gnameC sim_gnil))))
    (sim_seq (sim_asg (sim_bs rfl o_join (sim_c fun _ _ => .str _) (sim_cons (sim_lc (sim_rng1 (sim_cons (sim_c fun _ _ => .int _) sim_nil)) sim_gnameC (by decide) (ok_name (by decide)) sim_yes (sim_op o_ix sim_var (sim_call (sim_cons sim_var (sim_cons (sim_fr (sim_c fun _ _ => .int _)) sim_nil))))) sim_nil)) sim_gnameC)
    (sim_seq (sim_asg (sim_call (sim_cons sim_var (sim_cons (sim_fr (sim_c fun _ _ => .int _)) sim_nil))) sim_gnameC)
    (sim_seq (sim_asg (sim_lc (sim_rng1 (sim_cons sim_var sim_nil)) sim_gnameC (by decide) (ok_name (by decide)) sim_yes (sim_op o_add (sim_op o_add (sim_sl sim_var sim_nopart (sim_part sim_var)) (sim_op o_ix sim_var (sim_op o_mod (sim_op o_add sim_var (sim_op o_mul (sim_c fun _ _ => .int _) sim_var)) (sim_c fun _ _ => .int _)))) (sim_sl sim_var (sim_part (sim_op o_add sim_var (sim_c fun _ _ => .int _))) sim_nopart))) sim_gnameC)
    (sim_seq (sim_ifs (sim_test (sim_op o_eq sim_var (sim_c fun _ _ => .int _))) (sim_asg (sim_lc (sim_rng1 (sim_cons sim_var sim_nil)) sim_gnameC (by decide) (ok_name (by decide)) sim_yes (sim_op o_ix sim_var (sim_op o_mod (sim_op o_add sim_var (sim_op o_mul (sim_c fun _ _ => .int _) sim_var)) (sim_c fun _ _ => .int _)))) sim_gnameC) sim_next)
    (sim_seq (sim_ifs (sim_test (sim_op o_eq sim_var (sim_c fun _ _ => .int _))) (sim_seq (sim_asg (sim_call (sim_cons sim_var (sim_cons (sim_fr (sim_c fun _ _ => .int _)) sim_nil))) sim_gnameC)
    (sim_asg (sim_lc (sim_rng1 (sim_cons sim_var sim_nil)) sim_gnameC (by decide) (ok_name (by decide)) sim_yes (sim_sl sim_var sim_nopart (sim_part (sim_op o_add (sim_op o_add sim_var sim_var) (sim_c fun _ _ => .int _))))) sim_gnameC)) sim_next)
    (sim_seq (sim_ifs (sim_test (sim_op o_eq sim_var (sim_c fun _ _ => .int _))) (sim_asg (sim_lc (sim_rng1 (sim_cons sim_var sim_nil)) sim_gnameC (by decide) (ok_name (by decide)) sim_yes (sim_op o_add (sim_op o_ix sim_var (sim_op o_mod (sim_op o_add sim_var (sim_op o_mul (sim_c fun _ _ => .int _) sim_var)) (sim_c fun _ _ => .int _))) (sim_sl sim_var sim_nopart (sim_part (sim_call (sim_cons sim_var (sim_cons (sim_fr (sim_c fun _ _ => .int _)) sim_nil))))))) sim_gnameC) sim_next)
    (sim_ret (sim_call (sim_cons sim_var (sim_cons (sim_fr sim_var) sim_nil))))))))))))
theorem len_l_law_columns {K : PySem.W.Frag} {vs : List V} {H : Hp} {Q : VK} {E : XK} (h : sp_l_law_columns K vs H Q E) : vs.length = ["_law_box_here", "_law_many"].length := len_spM (ps := ["_law_box_here", "_law_many"]) (fun _ _ h => len_fnM h) h
theorem pure_l_law_columns {K : PySem.W.Frag} (kf : KF K) (vs : List V) (H : Hp) (Q : VK) (E : XK) (h : sp_l_law_columns K vs H Q E) : t_l_law_columns K { nx := fun _ H' => Q .non H', rt := Q } (L2.start ["_law_box_here", "_law_many", "_law_letters", "_law_way", "_law_first", "_law_stem", "_law_at", "_law_found", "_law_begin", "_law_k"] vs) H := pure_fnM (n := 2) (k := 8) rfl (si_l_law_columns kf) h
abbrev sp_l_law_drawn_shape (K : PySem.W.Frag) : Sp := spM K m_l_law_drawn_shape
def t_l_law_drawn_shape (K : PySem.W.Frag) : TS := (tSeq (tAsg (tLc (iU K (tCall (sp_l_law_mixed K) [] E0 (tCons (tVar 0) (tCons (tVar 1) tNil)))) (gName 5) (tTest (tOp (uEq K) (tCall (sp_l_law_take K) [] E0 (tCons (tVar 0) (tCons (tC (.int 2)) tNil))) (tC (.int 0)))) (tVar 5) [5]) (gName 2))
    (tSeq (tAsg (tLc (iU K (tVar 1)) (gName 5) (tTest (tOp (uNi K) (tVar 5) (tVar 2))) (tVar 5) [5]) (gName 3))
    (tSeq (tAsg (tIf (tAnd (tTest (tOp (uNe K) (tVar 3) (tLst tNil))) (tTest (tOp (uEq K) (tCall (sp_l_law_take K) [] E0 (tCons (tVar 0) (tCons (tC (.int 2)) tNil))) (tC (.int 0))))) (tOp (uIx K) (tVar 3) (tCall (sp_l_law_take K) [] E0 (tCons (tVar 0) (tCons (tCB (uLen K) (tCons (tVar 3) tNil)) tNil)))) (tC .non)) (gName 4))
    (tRet (tTup (tCons (tVar 2) (tCons (tVar 4) tNil)))))))
theorem si_l_law_drawn_shape {K : PySem.W.Frag} {WW : WX} (kf : KF K) : SimS K WW (t_l_law_drawn_shape K) b_l_law_drawn_shape := (sim_seq (sim_asg (sim_lc (sim_iU (sim_call (sim_cons sim_var (sim_cons (sim_fr sim_var) sim_nil)))) sim_gnameC (by decide) (ok_name (by decide)) (sim_test (sim_op o_eq (sim_call (sim_cons sim_var (sim_cons (sim_fr (sim_c fun _ _ => .int _)) sim_nil))) (sim_c fun _ _ => .int _))) sim_var) sim_gnameC)
    (sim_seq (sim_asg (sim_lc (sim_iU sim_var) sim_gnameC (by decide) (ok_name (by decide)) (sim_test (sim_op o_ni sim_var sim_var)) sim_var) sim_gnameC)
    (sim_seq (sim_asg (sim_if (sim_and (sim_test (sim_op o_ne sim_var (sim_lst sim_nil))) (sim_test (sim_op o_eq (sim_call (sim_cons sim_var (sim_cons (sim_fr (sim_c fun _ _ => .int _)) sim_nil))) (sim_c fun _ _ => .int _)))) (sim_op o_ix sim_var (sim_call (sim_cons sim_var (sim_cons (sim_fr (sim_cb o_len (sim_cons sim_var sim_nil))) sim_nil)))) (sim_c fun _ _ => .non)) sim_gnameC)
    (sim_ret (sim_tup (sim_cons sim_var (sim_cons sim_var sim_nil)))))))
theorem len_l_law_drawn_shape {K : PySem.W.Frag} {vs : List V} {H : Hp} {Q : VK} {E : XK} (h : sp_l_law_drawn_shape K vs H Q E) : vs.length = ["_law_box_here", "_law_columns_here"].length := len_spM (ps := ["_law_box_here", "_law_columns_here"]) (fun _ _ h => len_fnM h) h
theorem pure_l_law_drawn_shape {K : PySem.W.Frag} (kf : KF K) (vs : List V) (H : Hp) (Q : VK) (E : XK) (h : sp_l_law_drawn_shape K vs H Q E) : t_l_law_drawn_shape K { nx := fun _ H' => Q .non H', rt := Q } (L2.start ["_law_box_here", "_law_columns_here", "_law_fixed", "_law_rest", "_law_span", "_law_column"] vs) H := pure_fnM (n := 2) (k := 4) rfl (si_l_law_drawn_shape kf) h
abbrev sp_l_law_reach (K : PySem.W.Frag) : Sp := spM K m_l_law_reach
def t_l_law_reach (K : PySem.W.Frag) : TS := (tSeq (tAsg (tC (.int 0)) (gName 3))
    (tSeq (tFor (iU K (tVar 0)) (gName 4) (tSeq (tIfS (tTest (tOp (uNi K) (tVar 4) (tVar 1))) (tRet (tTup (tCons (tVar 3) (tCons (tOp (uEq K) (tVar 4) (tVar 2)) tNil)))) tNext)
    (tAsg (tOp (uAdd K) (tVar 3) (tC (.int 1))) (gName 3))))
    (tRet (tTup (tCons (tVar 3) (tCons (tC (.bl false)) tNil))))))
theorem si_l_law_reach {K : PySem.W.Frag} {WW : WX} (kf : KF K) : SimS K WW (t_l_law_reach K) b_l_law_reach := (sim_seq (sim_asg (sim_c fun _ _ => .int _) sim_gnameC)
    (sim_seq (sim_for (sim_iU sim_var) sim_gnameC (sim_seq (sim_ifs (sim_test (sim_op o_ni sim_var sim_var)) (sim_ret (sim_tup (sim_cons sim_var (sim_cons (sim_op o_eq sim_var sim_var) sim_nil)))) sim_next)
    (sim_asg (sim_op o_add sim_var (sim_c fun _ _ => .int _)) sim_gnameC)))
    (sim_ret (sim_tup (sim_cons sim_var (sim_cons (sim_c fun _ _ => .bl _) sim_nil))))))
theorem len_l_law_reach {K : PySem.W.Frag} {vs : List V} {H : Hp} {Q : VK} {E : XK} (h : sp_l_law_reach K vs H Q E) : vs.length = ["_law_columns_here", "_law_fixed", "_law_span"].length := len_spM (ps := ["_law_columns_here", "_law_fixed", "_law_span"]) (fun _ _ h => len_fnM h) h
theorem pure_l_law_reach {K : PySem.W.Frag} (kf : KF K) (vs : List V) (H : Hp) (Q : VK) (E : XK) (h : sp_l_law_reach K vs H Q E) : t_l_law_reach K { nx := fun _ H' => Q .non H', rt := Q } (L2.start ["_law_columns_here", "_law_fixed", "_law_span", "_law_count", "_law_column"] vs) H := pure_fnM (n := 3) (k := 2) rfl (si_l_law_reach kf) h
abbrev sp_l_law_serves (K : PySem.W.Frag) : Sp := spM K m_l_law_serves
def t_l_law_serves (K : PySem.W.Frag) : TS := (tSeq (tAsg (tOp (uEq K) (tCB (rSrt K) (tCons (tSl (uSl K) (tVar 0) tNoPart (tPart (tCB (uLen K) (tCons (tVar 1) tNil)))) tNil)) (tCB (rSrt K) (tCons (tVar 1) tNil))) (gName 3))
    (tRet (tAndV (tVar 3) (tOrV (tOp uIs (tVar 2) (tC .non)) (tOp (uEq K) (tSl (uSl K) (tVar 0) (tPart (tCB (uLen K) (tCons (tVar 1) tNil))) (tPart (tOp (uAdd K) (tCB (uLen K) (tCons (tVar 1) tNil)) (tC (.int 1))))) (tLst (tCons (tVar 2) tNil)))))))
theorem si_l_law_serves {K : PySem.W.Frag} {WW : WX} (kf : KF K) : SimS K WW (t_l_law_serves K) b_l_law_serves := (sim_seq (sim_asg (sim_op o_eq (sim_cb o_srt (sim_cons (sim_sl sim_var sim_nopart (sim_part (sim_cb o_len (sim_cons sim_var sim_nil)))) sim_nil)) (sim_cb o_srt (sim_cons sim_var sim_nil))) sim_gnameC)
    (sim_ret (sim_andV sim_var (sim_orV (sim_op o_is sim_var (sim_c fun _ _ => .non)) (sim_op o_eq (sim_sl sim_var (sim_part (sim_cb o_len (sim_cons sim_var sim_nil))) (sim_part (sim_op o_add (sim_cb o_len (sim_cons sim_var sim_nil)) (sim_c fun _ _ => .int _)))) (sim_lst (sim_cons sim_var sim_nil)))))))
theorem len_l_law_serves {K : PySem.W.Frag} {vs : List V} {H : Hp} {Q : VK} {E : XK} (h : sp_l_law_serves K vs H Q E) : vs.length = ["_law_columns_here", "_law_fixed", "_law_span"].length := len_spM (ps := ["_law_columns_here", "_law_fixed", "_law_span"]) (fun _ _ h => len_fnM h) h
theorem pure_l_law_serves {K : PySem.W.Frag} (kf : KF K) (vs : List V) (H : Hp) (Q : VK) (E : XK) (h : sp_l_law_serves K vs H Q E) : t_l_law_serves K { nx := fun _ H' => Q .non H', rt := Q } (L2.start ["_law_columns_here", "_law_fixed", "_law_span", "_law_begin"] vs) H := pure_fnM (n := 3) (k := 1) rfl (si_l_law_serves kf) h
abbrev sp_law (K : PySem.W.Frag) : Sp := spM K m_law
def t_law (K : PySem.W.Frag) : TS := (tSeq (tFor (iRng1 (tCons (tCB rMax2 (tCons (tC (.int 2)) (tCons (tCB rMin2 (tCons (tCB (uLen K) (tCons (tVar 0) tNil)) (tCons (tC (.int 8)) tNil))) tNil))) tNil)) (gName 1) (tSeq (tAsg (tCall (sp_l_law_box K) [] E0 (tCons (tCall (sp_l_law_cell K) [] E0 (tCons (tVar 0) (tCons (tVar 1) tNil))) tNil)) (gName 2))
    (tSeq (tAsg (tCall (sp_l_law_columns K) [] E0 (tCons (tVar 2) (tCons (tOp (uAdd K) (tC (.int 1)) (tCall (sp_l_law_take K) [] E0 (tCons (tVar 2) (tCons (tC (.int 5)) tNil)))) tNil))) (gName 3))
    (tSeq (tAsg (tLc (iRng1 (tCons (tCall (sp_l_law_take K) [] E0 (tCons (tVar 2) (tCons (tC (.int 13)) tNil))) tNil)) (gName 6) tYes (tCall (sp_l_law_drawn_shape K) [] E0 (tCons (tVar 2) (tCons (tVar 3) tNil))) [6]) (gName 4))
    (tSeq (tAsg (tSl (uSl K) (tOp (uAdd K) (tVar 4) (tSl (uSl K) (tVar 4) tNoPart (tPart (tCall (sp_l_law_take K) [] E0 (tCons (tVar 2) (tCons (tC (.int 2)) tNil)))))) tNoPart (tPart (tC (.int 12)))) (gName 4))
    (tSeq (tAsg (tLc (iU K (tVar 4)) (gTup K 2 (gCons (gName 11) (gCons (gName 12) gNil))) tYes (tMake (He.ga K "Shape") (sp_Shape_D_init_D K) [] E0 (tCons (tVar 11) (tCons (tVar 12) tNil))) [11, 12]) (gName 5))
    (tFor (iRng1 (tCons (tC (.int 5)) tNil)) (gName 6) (tSeq (tAsg (tCall (sp_l_law_mixed K) [] E0 (tCons (tVar 2) (tCons (tVar 3) tNil))) (gName 7))
    (tSeq (tPar 8 9 (tCons (tMake (He.ga K "Order") (sp_Order_D_init_D K) [] E0 (tCons (tVar 7) tNil)) (tCons (tCB (uList K) (tCons (tVar 5) tNil)) tNil)))
    (tSeq (tAsg (tLst tNil) (gName 10))
    (tSeq (tFor (iZip K (tCons (tVar 4) (tCons (tVar 5) tNil))) (gTup K 2 (gCons (gTup K 2 (gCons (gName 11) (gCons (gName 12) gNil))) (gCons (gName 13) gNil))) (tSeq (tIfS (tTest (tOp (uNe K) (tCB (uRepr K) (tCons (tMeth (He.ga K "Order") "reach" (sp_Order_reach K) [] E0 (tVar 8) (tCons (tVar 13) tNil)) tNil)) (tCB (uRepr K) (tCons (tCall (sp_l_law_reach K) [] E0 (tCons (tVar 7) (tCons (tVar 11) (tCons (tVar 12) tNil)))) tNil)))) (tRet (tC (.bl false))) tNext)
    (tSeq (tAsg (tCall (sp_l_law_serves K) [] E0 (tCons (tVar 7) (tCons (tVar 11) (tCons (tVar 12) tNil)))) (gName 15))
    (tSeq (tIfS (tTest (tOp (uNe K) (tCB (uRepr K) (tCons (tMeth (He.ga K "Order") "serves" (sp_Order_serves K) [] E0 (tVar 8) (tCons (tVar 13) tNil)) tNil)) (tCB (uRepr K) (tCons (tVar 15) tNil)))) (tRet (tC (.bl false))) tNext)
    (tAsg (tOp (uAdd K) (tVar 10) (tOp (uMul K) (tLst (tCons (tVar 13) tNil)) (tCB uInt (tCons (tVar 15) tNil)))) (gName 10))))))
    (tSeq (tFor (iU K (tTup (tCons (tVar 5) (tCons (tCB (uTuple K) (tCons (tVar 5) tNil)) tNil)))) (gName 14) (tSeq (tAsg (tCall (sp_served_shapes K) [] E0 (tCons (tVar 8) (tCons (tVar 14) tNil))) (gName 16))
    (tSeq (tAsg (tLc (iU K (tVar 16)) (gName 13) tYes (tCB (rStrO (He.ga K "Shape") (sp_Shape_D_str_D K) E0) (tCons (tVar 13) tNil)) [13]) (gName 17))
    (tSeq (tIfS (tOr (tNot (tTruK K (tCB (vIsi K) (tCons (tVar 16) (tCons (tC (.ty "list")) tNil))))) (tTest (tOp (uNe K) (tVar 17) (tLc (iU K (tVar 10)) (gName 13) tYes (tCB (rStrO (He.ga K "Shape") (sp_Shape_D_str_D K) E0) (tCons (tVar 13) tNil)) [13])))) (tRet (tC (.bl false))) tNext)
    (tDrop (tBM K "list" rAppend (tVar 16) (tCons (tC .non) tNil)))))))
    (tIfS (tOr (tTest (tOp (rNeG (DOwn K "Shape" m_Shape_D_eq_D)) (tVar 5) (tVar 9))) (tTest (tOp (uNe K) (tMeth (He.ga K "Order") "columns" (sp_Order_columns K) [] E0 (tVar 8) tNil) (tVar 7)))) (tRet (tC (.bl false))) tNext)))))))))))))
    (tRet (tOp (uEq K) (tCall (sp_served_shapes K) [] E0 (tCons (tMake (He.ga K "Order") (sp_Order_D_init_D K) [] E0 (tCons (tLst (tCons (tC (.str "a")) tNil)) tNil)) (tCons (tLst tNil) tNil))) (tLst tNil))))
theorem si_law {K : PySem.W.Frag} {WW : WX} (kf : KF K) : SimS K WW (t_law K) b_law := (sim_seq (sim_for (sim_rng1 (sim_cons (sim_cb o_max2 (sim_cons (sim_c fun _ _ => .int _) (sim_cons (sim_cb o_min2 (sim_cons (sim_cb o_len (sim_cons sim_var sim_nil)) (sim_cons (sim_c fun _ _ => .int _) sim_nil))) sim_nil))) sim_nil)) sim_gnameC (sim_seq (sim_asg (sim_call (sim_cons (sim_fr (sim_call (sim_cons (sim_fr sim_var) (sim_cons (sim_fr sim_var) sim_nil)))) sim_nil)) sim_gname)
    (sim_seq (sim_asg (sim_call (sim_cons sim_var (sim_cons (sim_fr (sim_op o_add (sim_c fun _ _ => .int _) (sim_call (sim_cons sim_var (sim_cons (sim_fr (sim_c fun _ _ => .int _)) sim_nil))))) sim_nil))) sim_gnameC)
    (sim_seq (sim_fg (sim_asg (sim_lc (sim_rng1 (sim_cons (sim_call (sim_cons sim_var (sim_cons (sim_fr (sim_c fun _ _ => .int _)) sim_nil))) sim_nil)) sim_gnameC (by decide) (ok_name (by decide)) sim_yes (sim_call (sim_cons sim_var (sim_cons (sim_fr sim_var) sim_nil)))) sim_gnameC))
    (sim_seq (sim_asg (sim_sl (sim_op o_add sim_var (sim_sl sim_var sim_nopart (sim_part (sim_call (sim_cons sim_var (sim_cons (sim_fr (sim_c fun _ _ => .int _)) sim_nil)))))) sim_nopart (sim_part (sim_c fun _ _ => .int _))) sim_gnameC)
    (sim_seq (sim_fg (sim_asg (sim_lc (sim_iU sim_var) (sim_gtup (sim_gcons sim_gnameC (sim_gcons sim_gnameC sim_gnil))) (by decide) (ok_tup (ok_cons (ok_name (by decide)) (ok_cons (ok_name (by decide)) ok_nil))) sim_yes (sim_make (fun _ _ => .nil) (sim_cons (sim_fr sim_var) (sim_cons (sim_fr sim_var) sim_nil)))) sim_gnameC))
    (sim_for (sim_rng1 (sim_cons (sim_c fun _ _ => .int _) sim_nil)) sim_gnameC (sim_seq (sim_asg (sim_call (sim_cons sim_var (sim_cons (sim_fr sim_var) sim_nil))) sim_gnameC)
    (sim_seq (sim_par (sim_cons (sim_make (fun _ _ => .nil) (sim_cons (sim_fr sim_var) sim_nil)) (sim_cons (sim_cb o_list (sim_cons sim_var sim_nil)) sim_nil)))
    (sim_seq (sim_asg (sim_lst sim_nil) sim_gnameC)
    (sim_seq (sim_for (sim_zip (sim_cons sim_var (sim_cons sim_var sim_nil))) (sim_gtup (sim_gcons (sim_gtup (sim_gcons sim_gnameC (sim_gcons sim_gnameC sim_gnil))) (sim_gcons sim_gnameC sim_gnil))) (sim_seq (sim_ifs (sim_test (sim_op o_ne (sim_cb o_repr (sim_cons (sim_meth (sim_fr sim_var) (sim_cons (sim_fr sim_var) sim_nil)) sim_nil)) (sim_cb o_repr (sim_cons (sim_call (sim_cons (sim_fr sim_var) (sim_cons (sim_fr sim_var) (sim_cons (sim_fr sim_var) sim_nil)))) sim_nil)))) (sim_ret (sim_c fun _ _ => .bl _)) sim_next)
    (sim_seq (sim_asg (sim_call (sim_cons (sim_fr sim_var) (sim_cons (sim_fr sim_var) (sim_cons (sim_fr sim_var) sim_nil)))) sim_gnameC)
    (sim_seq (sim_ifs (sim_test (sim_op o_ne (sim_cb o_repr (sim_cons (sim_meth (sim_fr sim_var) (sim_cons (sim_fr sim_var) sim_nil)) sim_nil)) (sim_cb o_repr (sim_cons sim_var sim_nil)))) (sim_ret (sim_c fun _ _ => .bl _)) sim_next)
    (sim_asg (sim_op o_add sim_var (sim_op o_mul (sim_lst (sim_cons sim_var sim_nil)) (sim_cb o_int (sim_cons sim_var sim_nil)))) sim_gnameC)))))
    (sim_seq (sim_for (sim_iU (sim_tup (sim_cons sim_var (sim_cons (sim_cb o_tuple (sim_cons sim_var sim_nil)) sim_nil)))) sim_gnameC (sim_seq (sim_asg (sim_call (sim_cons (sim_fr sim_var) (sim_cons (sim_fr sim_var) sim_nil))) sim_gname)
    (sim_seq (sim_fg (sim_asg (sim_lc (sim_iU sim_var) sim_gnameC (by decide) (ok_name (by decide)) sim_yes (sim_strO (sim_cons sim_var sim_nil))) sim_gnameC))
    (sim_seq (sim_fg (sim_ifs (sim_or (sim_not (sim_tru (sim_cb (o_isi kf.k9) (sim_cons sim_var (sim_cons (sim_c fun _ _ => .ty _) sim_nil))))) (sim_test (sim_op o_ne sim_var (sim_lc (sim_iU sim_var) sim_gnameC (by decide) (ok_name (by decide)) sim_yes (sim_strO (sim_cons sim_var sim_nil)))))) (sim_ret (sim_c fun _ _ => .bl _)) sim_next))
    (sim_drop (sim_mut rfl mu_append (sim_cons (sim_c fun _ _ => .non) sim_nil)))))))
    (sim_ifs (sim_or (sim_test (sim_op o_neL sim_var sim_var)) (sim_test (sim_op o_ne (sim_meth (sim_fr sim_var) sim_nil) sim_var))) (sim_ret (sim_c fun _ _ => .bl _)) sim_next)))))))))))))
    (sim_ret (sim_op o_eq (sim_call (sim_cons (sim_fr (sim_make (fun _ _ => .nil) (sim_cons (sim_fr (sim_lst (sim_cons (sim_c fun _ _ => .str _) sim_nil))) sim_nil))) (sim_cons (sim_fr (sim_lst sim_nil)) sim_nil))) (sim_lst sim_nil))))
theorem len_law {K : PySem.W.Frag} {vs : List V} {H : Hp} {Q : VK} {E : XK} (h : sp_law K vs H Q E) : vs.length = ["_law_script"].length := len_spM (ps := ["_law_script"]) (fun _ _ h => len_fnM h) h
theorem pure_law {K : PySem.W.Frag} (kf : KF K) (vs : List V) (H : Hp) (Q : VK) (E : XK) (h : sp_law K vs H Q E) : t_law K { nx := fun _ H' => Q .non H', rt := Q } (L2.start ["_law_script", "_law_k", "_law_box_here", "_law_columns_here", "_law_drawn", "_law_shapes", "_law_turn", "_law_line", "_law_order", "_law_kept", "_law_due", "_law_fixed", "_law_span", "_law_shape", "_law_given", "_law_good", "_law_found", "_law_told"] vs) H := pure_fnM (n := 1) (k := 17) rfl (si_law kf) h
end K12

/-! searchorders_k12_shapes_served: the defs and the end -/
namespace K12
open PySem PySem.Spec PySem.Calls PyProof PyProof.Rows L2 SL PM
def top (i : Nat) : Stmt := PySem.Challenge.pw_searchorders_k12_shapes_served.main.body.getD i (.Pass ⟨0, 0, 0, 0⟩)
abbrev s_is_name : Stmt := (top 15)
def d_is_name : He.DefD := ⟨("is_name", none), "is_name", "is_name", defArgs s_is_name, defBody s_is_name, defScope s_is_name, [], []⟩
abbrev s_is_list : Stmt := (top 16)
def d_is_list : He.DefD := ⟨("is_list", none), "is_list", "is_list", defArgs s_is_list, defBody s_is_list, defScope s_is_list, [], []⟩
abbrev s_Shape_D_init_D : Stmt := (inClass (top 20) 0)
def d_Shape_D_init_D : He.DefD := ⟨("Shape", some "__init__"), "__init__", "Shape.__init__", defArgs s_Shape_D_init_D, defBody s_Shape_D_init_D, defScope s_Shape_D_init_D, [.non], []⟩
abbrev s_Shape_span : Stmt := (inClass (top 20) 1)
def d_Shape_span : He.DefD := ⟨("Shape", some "span"), "span", "Shape.span", defArgs s_Shape_span, defBody s_Shape_span, defScope s_Shape_span, [], []⟩
abbrev s_Shape_fixed : Stmt := (inClass (top 20) 2)
def d_Shape_fixed : He.DefD := ⟨("Shape", some "fixed"), "fixed", "Shape.fixed", defArgs s_Shape_fixed, defBody s_Shape_fixed, defScope s_Shape_fixed, [], []⟩
abbrev s_Shape_columns : Stmt := (inClass (top 20) 3)
def d_Shape_columns : He.DefD := ⟨("Shape", some "columns"), "columns", "Shape.columns", defArgs s_Shape_columns, defBody s_Shape_columns, defScope s_Shape_columns, [], []⟩
abbrev s_Shape_D_eq_D : Stmt := (inClass (top 20) 7)
def d_Shape_D_eq_D : He.DefD := ⟨("Shape", some "__eq__"), "__eq__", "Shape.__eq__", defArgs s_Shape_D_eq_D, defBody s_Shape_D_eq_D, defScope s_Shape_D_eq_D, [], []⟩
abbrev s_Shape_D_str_D : Stmt := (inClass (top 20) 8)
def d_Shape_D_str_D : He.DefD := ⟨("Shape", some "__str__"), "__str__", "Shape.__str__", defArgs s_Shape_D_str_D, defBody s_Shape_D_str_D, defScope s_Shape_D_str_D, [], []⟩
abbrev s_checked_columns : Stmt := (top 24)
def d_checked_columns : He.DefD := ⟨("checked_columns", none), "checked_columns", "checked_columns", defArgs s_checked_columns, defBody s_checked_columns, defScope s_checked_columns, [], []⟩
abbrev s_need_known : Stmt := (top 25)
def d_need_known : He.DefD := ⟨("need_known", none), "need_known", "need_known", defArgs s_need_known, defBody s_need_known, defScope s_need_known, [], []⟩
abbrev s_need_all_known : Stmt := (top 26)
def d_need_all_known : He.DefD := ⟨("need_all_known", none), "need_all_known", "need_all_known", defArgs s_need_all_known, defBody s_need_all_known, defScope s_need_all_known, [], []⟩
abbrev s_Order_D_init_D : Stmt := (inClass (top 27) 0)
def d_Order_D_init_D : He.DefD := ⟨("Order", some "__init__"), "__init__", "Order.__init__", defArgs s_Order_D_init_D, defBody s_Order_D_init_D, defScope s_Order_D_init_D, [], []⟩
abbrev s_Order_columns : Stmt := (inClass (top 27) 1)
def d_Order_columns : He.DefD := ⟨("Order", some "columns"), "columns", "Order.columns", defArgs s_Order_columns, defBody s_Order_columns, defScope s_Order_columns, [], []⟩
abbrev s_Order_reach : Stmt := (inClass (top 27) 2)
def d_Order_reach : He.DefD := ⟨("Order", some "reach"), "reach", "Order.reach", defArgs s_Order_reach, defBody s_Order_reach, defScope s_Order_reach, [], []⟩
abbrev s_Order_serves : Stmt := (inClass (top 27) 3)
def d_Order_serves : He.DefD := ⟨("Order", some "serves"), "serves", "Order.serves", defArgs s_Order_serves, defBody s_Order_serves, defScope s_Order_serves, [], []⟩
abbrev s_need_order : Stmt := (top 28)
def d_need_order : He.DefD := ⟨("need_order", none), "need_order", "need_order", defArgs s_need_order, defBody s_need_order, defScope s_need_order, [], []⟩
abbrev s_served_shapes : Stmt := (top 29)
def d_served_shapes : He.DefD := ⟨("served_shapes", none), "served_shapes", "served_shapes", defArgs s_served_shapes, defBody s_served_shapes, defScope s_served_shapes, [], []⟩
abbrev s_l_law_cell : Stmt := (top 31)
def d_l_law_cell : He.DefD := ⟨("_law_cell", none), "_law_cell", "_law_cell", defArgs s_l_law_cell, defBody s_l_law_cell, defScope s_l_law_cell, [], []⟩
abbrev s_l_law_box : Stmt := (top 32)
def d_l_law_box : He.DefD := ⟨("_law_box", none), "_law_box", "_law_box", defArgs s_l_law_box, defBody s_l_law_box, defScope s_l_law_box, [], []⟩
abbrev s_l_law_take : Stmt := (top 33)
def d_l_law_take : He.DefD := ⟨("_law_take", none), "_law_take", "_law_take", defArgs s_l_law_take, defBody s_l_law_take, defScope s_l_law_take, [], []⟩
abbrev s_l_law_mixed : Stmt := (top 34)
def d_l_law_mixed : He.DefD := ⟨("_law_mixed", none), "_law_mixed", "_law_mixed", defArgs s_l_law_mixed, defBody s_l_law_mixed, defScope s_l_law_mixed, [], []⟩
abbrev s_l_law_columns : Stmt := (top 35)
def d_l_law_columns : He.DefD := ⟨("_law_columns", none), "_law_columns", "_law_columns", defArgs s_l_law_columns, defBody s_l_law_columns, defScope s_l_law_columns, [], []⟩
abbrev s_l_law_drawn_shape : Stmt := (top 36)
def d_l_law_drawn_shape : He.DefD := ⟨("_law_drawn_shape", none), "_law_drawn_shape", "_law_drawn_shape", defArgs s_l_law_drawn_shape, defBody s_l_law_drawn_shape, defScope s_l_law_drawn_shape, [], []⟩
abbrev s_l_law_reach : Stmt := (top 37)
def d_l_law_reach : He.DefD := ⟨("_law_reach", none), "_law_reach", "_law_reach", defArgs s_l_law_reach, defBody s_l_law_reach, defScope s_l_law_reach, [], []⟩
abbrev s_l_law_serves : Stmt := (top 38)
def d_l_law_serves : He.DefD := ⟨("_law_serves", none), "_law_serves", "_law_serves", defArgs s_l_law_serves, defBody s_l_law_serves, defScope s_l_law_serves, [], []⟩
abbrev s_law : Stmt := (top 39)
def d_law : He.DefD := ⟨("law", none), "law", "law", defArgs s_law, defBody s_law, defScope s_law, [], []⟩
abbrev Fun_is_name (K : PySem.W.Frag) (fd : FuncData) : Prop := FunD K d_is_name.name d_is_name.qual d_is_name.params d_is_name.body d_is_name.scope (d_is_name.dvs K) (d_is_name.kws K) (He.fAd K d_is_name.at_) fd
theorem bind_is_name {K : PySem.W.Frag} {fd : FuncData} (F : Fun_is_name K fd) : Binds K fd ["value"] [] := FunD.bindsN F fun _ _ _ _ _ _ us hl => match us, hl with | [_], _ => rfl
abbrev Fun_is_list (K : PySem.W.Frag) (fd : FuncData) : Prop := FunD K d_is_list.name d_is_list.qual d_is_list.params d_is_list.body d_is_list.scope (d_is_list.dvs K) (d_is_list.kws K) (He.fAd K d_is_list.at_) fd
theorem bind_is_list {K : PySem.W.Frag} {fd : FuncData} (F : Fun_is_list K fd) : Binds K fd ["value"] [] := FunD.bindsN F fun _ _ _ _ _ _ us hl => match us, hl with | [_], _ => rfl
abbrev Fun_Shape_D_init_D (K : PySem.W.Frag) (fd : FuncData) : Prop := FunD K d_Shape_D_init_D.name d_Shape_D_init_D.qual d_Shape_D_init_D.params d_Shape_D_init_D.body d_Shape_D_init_D.scope (d_Shape_D_init_D.dvs K) (d_Shape_D_init_D.kws K) (He.fAd K d_Shape_D_init_D.at_) fd
theorem bind_Shape_D_init_D {K : PySem.W.Frag} {fd : FuncData} (F : Fun_Shape_D_init_D K fd) : Binds K fd ["self", "fixed", "span"] [] := binds_all F (fun z => nomatch z) fun _ _ _ _ _ _ _ us its h1 h2 => match us, its, h1, h2 with | [x0, x1, x2], [y0], _, _ => ⟨_, rfl, rfl⟩
theorem bindD1_Shape_D_init_D {K : PySem.W.Frag} {fd : FuncData} (F : Fun_Shape_D_init_D K fd) : ∃ us, Vals [V.non] us ∧ Binds K fd ["self", "fixed", "span"] us := binds_fill F 2 0 (fun z => nomatch z) rfl rfl fun _ _ _ _ _ _ _ us its h1 h2 => match us, its, h1, h2 with | [x0, x1], [y0], _, _ => ⟨_, rfl, rfl⟩
abbrev Fun_Shape_span (K : PySem.W.Frag) (fd : FuncData) : Prop := FunD K d_Shape_span.name d_Shape_span.qual d_Shape_span.params d_Shape_span.body d_Shape_span.scope (d_Shape_span.dvs K) (d_Shape_span.kws K) (pgA K "Shape" "span") fd
theorem bind_Shape_span {K : PySem.W.Frag} {fd : FuncData} (F : Fun_Shape_span K fd) : Binds K fd ["self"] [] := FunD.bindsN F fun _ _ _ _ _ _ us hl => match us, hl with | [_], _ => rfl
abbrev Fun_Shape_fixed (K : PySem.W.Frag) (fd : FuncData) : Prop := FunD K d_Shape_fixed.name d_Shape_fixed.qual d_Shape_fixed.params d_Shape_fixed.body d_Shape_fixed.scope (d_Shape_fixed.dvs K) (d_Shape_fixed.kws K) (He.fAd K d_Shape_fixed.at_) fd
theorem bind_Shape_fixed {K : PySem.W.Frag} {fd : FuncData} (F : Fun_Shape_fixed K fd) : Binds K fd ["self"] [] := FunD.bindsN F fun _ _ _ _ _ _ us hl => match us, hl with | [_], _ => rfl
abbrev Fun_Shape_columns (K : PySem.W.Frag) (fd : FuncData) : Prop := FunD K d_Shape_columns.name d_Shape_columns.qual d_Shape_columns.params d_Shape_columns.body d_Shape_columns.scope (d_Shape_columns.dvs K) (d_Shape_columns.kws K) (He.fAd K d_Shape_columns.at_) fd
theorem bind_Shape_columns {K : PySem.W.Frag} {fd : FuncData} (F : Fun_Shape_columns K fd) : Binds K fd ["self"] [] := FunD.bindsN F fun _ _ _ _ _ _ us hl => match us, hl with | [_], _ => rfl
abbrev Fun_Shape_D_eq_D (K : PySem.W.Frag) (fd : FuncData) : Prop := FunD K d_Shape_D_eq_D.name d_Shape_D_eq_D.qual d_Shape_D_eq_D.params d_Shape_D_eq_D.body d_Shape_D_eq_D.scope (d_Shape_D_eq_D.dvs K) (d_Shape_D_eq_D.kws K) (He.fAd K d_Shape_D_eq_D.at_) fd
theorem bind_Shape_D_eq_D {K : PySem.W.Frag} {fd : FuncData} (F : Fun_Shape_D_eq_D K fd) : Binds K fd ["self", "other"] [] := FunD.bindsN F fun _ _ _ _ _ _ us hl => match us, hl with | [_, _], _ => rfl
abbrev Fun_Shape_D_str_D (K : PySem.W.Frag) (fd : FuncData) : Prop := FunD K d_Shape_D_str_D.name d_Shape_D_str_D.qual d_Shape_D_str_D.params d_Shape_D_str_D.body d_Shape_D_str_D.scope (d_Shape_D_str_D.dvs K) (d_Shape_D_str_D.kws K) (He.fAd K d_Shape_D_str_D.at_) fd
theorem bind_Shape_D_str_D {K : PySem.W.Frag} {fd : FuncData} (F : Fun_Shape_D_str_D K fd) : Binds K fd ["self"] [] := FunD.bindsN F fun _ _ _ _ _ _ us hl => match us, hl with | [_], _ => rfl
abbrev Fun_checked_columns (K : PySem.W.Frag) (fd : FuncData) : Prop := FunD K d_checked_columns.name d_checked_columns.qual d_checked_columns.params d_checked_columns.body d_checked_columns.scope (d_checked_columns.dvs K) (d_checked_columns.kws K) (He.fAd K d_checked_columns.at_) fd
theorem bind_checked_columns {K : PySem.W.Frag} {fd : FuncData} (F : Fun_checked_columns K fd) : Binds K fd ["columns"] [] := FunD.bindsN F fun _ _ _ _ _ _ us hl => match us, hl with | [_], _ => rfl
abbrev Fun_need_known (K : PySem.W.Frag) (fd : FuncData) : Prop := FunD K d_need_known.name d_need_known.qual d_need_known.params d_need_known.body d_need_known.scope (d_need_known.dvs K) (d_need_known.kws K) (He.fAd K d_need_known.at_) fd
theorem bind_need_known {K : PySem.W.Frag} {fd : FuncData} (F : Fun_need_known K fd) : Binds K fd ["columns", "shape"] [] := FunD.bindsN F fun _ _ _ _ _ _ us hl => match us, hl with | [_, _], _ => rfl
abbrev Fun_need_all_known (K : PySem.W.Frag) (fd : FuncData) : Prop := FunD K d_need_all_known.name d_need_all_known.qual d_need_all_known.params d_need_all_known.body d_need_all_known.scope (d_need_all_known.dvs K) (d_need_all_known.kws K) (He.fAd K d_need_all_known.at_) fd
theorem bind_need_all_known {K : PySem.W.Frag} {fd : FuncData} (F : Fun_need_all_known K fd) : Binds K fd ["columns", "shapes"] [] := FunD.bindsN F fun _ _ _ _ _ _ us hl => match us, hl with | [_, _], _ => rfl
abbrev Fun_Order_D_init_D (K : PySem.W.Frag) (fd : FuncData) : Prop := FunD K d_Order_D_init_D.name d_Order_D_init_D.qual d_Order_D_init_D.params d_Order_D_init_D.body d_Order_D_init_D.scope (d_Order_D_init_D.dvs K) (d_Order_D_init_D.kws K) (He.fAd K d_Order_D_init_D.at_) fd
theorem bind_Order_D_init_D {K : PySem.W.Frag} {fd : FuncData} (F : Fun_Order_D_init_D K fd) : Binds K fd ["self", "columns"] [] := FunD.bindsN F fun _ _ _ _ _ _ us hl => match us, hl with | [_, _], _ => rfl
abbrev Fun_Order_columns (K : PySem.W.Frag) (fd : FuncData) : Prop := FunD K d_Order_columns.name d_Order_columns.qual d_Order_columns.params d_Order_columns.body d_Order_columns.scope (d_Order_columns.dvs K) (d_Order_columns.kws K) (He.fAd K d_Order_columns.at_) fd
theorem bind_Order_columns {K : PySem.W.Frag} {fd : FuncData} (F : Fun_Order_columns K fd) : Binds K fd ["self"] [] := FunD.bindsN F fun _ _ _ _ _ _ us hl => match us, hl with | [_], _ => rfl
abbrev Fun_Order_reach (K : PySem.W.Frag) (fd : FuncData) : Prop := FunD K d_Order_reach.name d_Order_reach.qual d_Order_reach.params d_Order_reach.body d_Order_reach.scope (d_Order_reach.dvs K) (d_Order_reach.kws K) (He.fAd K d_Order_reach.at_) fd
theorem bind_Order_reach {K : PySem.W.Frag} {fd : FuncData} (F : Fun_Order_reach K fd) : Binds K fd ["self", "shape"] [] := FunD.bindsN F fun _ _ _ _ _ _ us hl => match us, hl with | [_, _], _ => rfl
abbrev Fun_Order_serves (K : PySem.W.Frag) (fd : FuncData) : Prop := FunD K d_Order_serves.name d_Order_serves.qual d_Order_serves.params d_Order_serves.body d_Order_serves.scope (d_Order_serves.dvs K) (d_Order_serves.kws K) (He.fAd K d_Order_serves.at_) fd
theorem bind_Order_serves {K : PySem.W.Frag} {fd : FuncData} (F : Fun_Order_serves K fd) : Binds K fd ["self", "shape"] [] := FunD.bindsN F fun _ _ _ _ _ _ us hl => match us, hl with | [_, _], _ => rfl
abbrev Fun_need_order (K : PySem.W.Frag) (fd : FuncData) : Prop := FunD K d_need_order.name d_need_order.qual d_need_order.params d_need_order.body d_need_order.scope (d_need_order.dvs K) (d_need_order.kws K) (He.fAd K d_need_order.at_) fd
theorem bind_need_order {K : PySem.W.Frag} {fd : FuncData} (F : Fun_need_order K fd) : Binds K fd ["value"] [] := FunD.bindsN F fun _ _ _ _ _ _ us hl => match us, hl with | [_], _ => rfl
abbrev Fun_served_shapes (K : PySem.W.Frag) (fd : FuncData) : Prop := FunD K d_served_shapes.name d_served_shapes.qual d_served_shapes.params d_served_shapes.body d_served_shapes.scope (d_served_shapes.dvs K) (d_served_shapes.kws K) (He.fAd K d_served_shapes.at_) fd
theorem bind_served_shapes {K : PySem.W.Frag} {fd : FuncData} (F : Fun_served_shapes K fd) : Binds K fd ["order", "shapes"] [] := FunD.bindsN F fun _ _ _ _ _ _ us hl => match us, hl with | [_, _], _ => rfl
abbrev Fun_l_law_cell (K : PySem.W.Frag) (fd : FuncData) : Prop := FunD K d_l_law_cell.name d_l_law_cell.qual d_l_law_cell.params d_l_law_cell.body d_l_law_cell.scope (d_l_law_cell.dvs K) (d_l_law_cell.kws K) (He.fAd K d_l_law_cell.at_) fd
theorem bind_l_law_cell {K : PySem.W.Frag} {fd : FuncData} (F : Fun_l_law_cell K fd) : Binds K fd ["_law_script", "_law_k"] [] := FunD.bindsN F fun _ _ _ _ _ _ us hl => match us, hl with | [_, _], _ => rfl
abbrev Fun_l_law_box (K : PySem.W.Frag) (fd : FuncData) : Prop := FunD K d_l_law_box.name d_l_law_box.qual d_l_law_box.params d_l_law_box.body d_l_law_box.scope (d_l_law_box.dvs K) (d_l_law_box.kws K) (He.fAd K d_l_law_box.at_) fd
theorem bind_l_law_box {K : PySem.W.Frag} {fd : FuncData} (F : Fun_l_law_box K fd) : Binds K fd ["_law_cell_here"] [] := FunD.bindsN F fun _ _ _ _ _ _ us hl => match us, hl with | [_], _ => rfl
abbrev Fun_l_law_take (K : PySem.W.Frag) (fd : FuncData) : Prop := FunD K d_l_law_take.name d_l_law_take.qual d_l_law_take.params d_l_law_take.body d_l_law_take.scope (d_l_law_take.dvs K) (d_l_law_take.kws K) (He.fAd K d_l_law_take.at_) fd
theorem bind_l_law_take {K : PySem.W.Frag} {fd : FuncData} (F : Fun_l_law_take K fd) : Binds K fd ["_law_box_here", "_law_many"] [] := FunD.bindsN F fun _ _ _ _ _ _ us hl => match us, hl with | [_, _], _ => rfl
abbrev Fun_l_law_mixed (K : PySem.W.Frag) (fd : FuncData) : Prop := FunD K d_l_law_mixed.name d_l_law_mixed.qual d_l_law_mixed.params d_l_law_mixed.body d_l_law_mixed.scope (d_l_law_mixed.dvs K) (d_l_law_mixed.kws K) (He.fAd K d_l_law_mixed.at_) fd
theorem bind_l_law_mixed {K : PySem.W.Frag} {fd : FuncData} (F : Fun_l_law_mixed K fd) : Binds K fd ["_law_box_here", "_law_some"] [] := FunD.bindsN F fun _ _ _ _ _ _ us hl => match us, hl with | [_, _], _ => rfl
abbrev Fun_l_law_columns (K : PySem.W.Frag) (fd : FuncData) : Prop := FunD K d_l_law_columns.name d_l_law_columns.qual d_l_law_columns.params d_l_law_columns.body d_l_law_columns.scope (d_l_law_columns.dvs K) (d_l_law_columns.kws K) (He.fAd K d_l_law_columns.at_) fd
theorem bind_l_law_columns {K : PySem.W.Frag} {fd : FuncData} (F : Fun_l_law_columns K fd) : Binds K fd ["_law_box_here", "_law_many"] [] := FunD.bindsN F fun _ _ _ _ _ _ us hl => match us, hl with | [_, _], _ => rfl
abbrev Fun_l_law_drawn_shape (K : PySem.W.Frag) (fd : FuncData) : Prop := FunD K d_l_law_drawn_shape.name d_l_law_drawn_shape.qual d_l_law_drawn_shape.params d_l_law_drawn_shape.body d_l_law_drawn_shape.scope (d_l_law_drawn_shape.dvs K) (d_l_law_drawn_shape.kws K) (He.fAd K d_l_law_drawn_shape.at_) fd
theorem bind_l_law_drawn_shape {K : PySem.W.Frag} {fd : FuncData} (F : Fun_l_law_drawn_shape K fd) : Binds K fd ["_law_box_here", "_law_columns_here"] [] := FunD.bindsN F fun _ _ _ _ _ _ us hl => match us, hl with | [_, _], _ => rfl
abbrev Fun_l_law_reach (K : PySem.W.Frag) (fd : FuncData) : Prop := FunD K d_l_law_reach.name d_l_law_reach.qual d_l_law_reach.params d_l_law_reach.body d_l_law_reach.scope (d_l_law_reach.dvs K) (d_l_law_reach.kws K) (He.fAd K d_l_law_reach.at_) fd
theorem bind_l_law_reach {K : PySem.W.Frag} {fd : FuncData} (F : Fun_l_law_reach K fd) : Binds K fd ["_law_columns_here", "_law_fixed", "_law_span"] [] := FunD.bindsN F fun _ _ _ _ _ _ us hl => match us, hl with | [_, _, _], _ => rfl
abbrev Fun_l_law_serves (K : PySem.W.Frag) (fd : FuncData) : Prop := FunD K d_l_law_serves.name d_l_law_serves.qual d_l_law_serves.params d_l_law_serves.body d_l_law_serves.scope (d_l_law_serves.dvs K) (d_l_law_serves.kws K) (He.fAd K d_l_law_serves.at_) fd
theorem bind_l_law_serves {K : PySem.W.Frag} {fd : FuncData} (F : Fun_l_law_serves K fd) : Binds K fd ["_law_columns_here", "_law_fixed", "_law_span"] [] := FunD.bindsN F fun _ _ _ _ _ _ us hl => match us, hl with | [_, _, _], _ => rfl
abbrev Fun_law (K : PySem.W.Frag) (fd : FuncData) : Prop := FunD K d_law.name d_law.qual d_law.params d_law.body d_law.scope (d_law.dvs K) (d_law.kws K) (He.fAd K d_law.at_) fd
theorem bind_law {K : PySem.W.Frag} {fd : FuncData} (F : Fun_law K fd) : Binds K fd ["_law_script"] [] := FunD.bindsN F fun _ _ _ _ _ _ us hl => match us, hl with | [_], _ => rfl
def defs : List DA := [⟨fun K => (He.fAd K d_is_name.at_), d_is_name⟩, ⟨fun K => (He.fAd K d_is_list.at_), d_is_list⟩, ⟨fun K => (He.fAd K d_Shape_D_init_D.at_), d_Shape_D_init_D⟩, ⟨fun K => (pgA K "Shape" "span"), d_Shape_span⟩, ⟨fun K => (He.fAd K d_Shape_fixed.at_), d_Shape_fixed⟩, ⟨fun K => (He.fAd K d_Shape_columns.at_), d_Shape_columns⟩, ⟨fun K => (He.fAd K d_Shape_D_eq_D.at_), d_Shape_D_eq_D⟩, ⟨fun K => (He.fAd K d_Shape_D_str_D.at_), d_Shape_D_str_D⟩, ⟨fun K => (He.fAd K d_checked_columns.at_), d_checked_columns⟩, ⟨fun K => (He.fAd K d_need_known.at_), d_need_known⟩, ⟨fun K => (He.fAd K d_need_all_known.at_), d_need_all_known⟩, ⟨fun K => (He.fAd K d_Order_D_init_D.at_), d_Order_D_init_D⟩, ⟨fun K => (He.fAd K d_Order_columns.at_), d_Order_columns⟩, ⟨fun K => (He.fAd K d_Order_reach.at_), d_Order_reach⟩, ⟨fun K => (He.fAd K d_Order_serves.at_), d_Order_serves⟩, ⟨fun K => (He.fAd K d_need_order.at_), d_need_order⟩, ⟨fun K => (He.fAd K d_served_shapes.at_), d_served_shapes⟩, ⟨fun K => (He.fAd K d_l_law_cell.at_), d_l_law_cell⟩, ⟨fun K => (He.fAd K d_l_law_box.at_), d_l_law_box⟩, ⟨fun K => (He.fAd K d_l_law_take.at_), d_l_law_take⟩, ⟨fun K => (He.fAd K d_l_law_mixed.at_), d_l_law_mixed⟩, ⟨fun K => (He.fAd K d_l_law_columns.at_), d_l_law_columns⟩, ⟨fun K => (He.fAd K d_l_law_drawn_shape.at_), d_l_law_drawn_shape⟩, ⟨fun K => (He.fAd K d_l_law_reach.at_), d_l_law_reach⟩, ⟨fun K => (He.fAd K d_l_law_serves.at_), d_l_law_serves⟩, ⟨fun K => (He.fAd K d_law.at_), d_law⟩]
def looks : SL.Looks := [fun K => (He.Fa.free "all").ok K,
  fun K => (He.Fa.str "LETTERS" "abcdefghijklmnopqrstuvwxyz").ok K,
  fun K => (He.Fa.free "len").ok K,
  fun K => (He.Fa.int "LONGEST_NAME" (8)).ok K,
  fun K => (He.Fa.free "isinstance").ok K,
  fun K => (He.Fa.free "str").ok K,
  fun K => tabB K (.ty "str") [(.b "NoneType", false), (.b "bool", false), (.b "int", false), (.b "str", true), (.b "list", false), (.b "tuple", false), (.b "dict", false), (.own "Shape", false), (.own "Order", false)],
  fun K => (He.Fa.free "tuple").ok K,
  fun K => (He.Fa.free "list").ok K,
  fun K => tabBT K [.ty "list", .ty "tuple"] [(.b "NoneType", false), (.b "bool", false), (.b "int", false), (.b "str", false), (.b "list", true), (.b "tuple", true), (.b "dict", false), (.own "Shape", false), (.own "Order", false)],
  fun K => ownB K "Shape",
  fun K => (He.Fa.noat "Shape" "span_column").ok K,
  fun K => (He.Fa.free "sorted").ok K,
  fun K => (He.Fa.noat "Shape" "fixed_columns").ok K,
  fun K => (He.Fa.int "MAX_COLUMNS" (5)).ok K,
  fun K => (He.Fa.glo "is_name").ok K,
  fun K => (He.Fa.free "enumerate").ok K,
  fun K => (He.Fa.glo "is_list").ok K,
  fun K => (He.Fa.glo "Shape").ok K,
  fun K => tabB K (.own "Shape") [(.b "NoneType", false), (.b "bool", false), (.b "int", false), (.b "str", false), (.b "list", false), (.b "tuple", false), (.b "dict", false), (.own "Shape", true), (.own "Order", false)],
  fun K => (He.Fa.str "NOTHING" "-").ok K,
  fun K => (He.Fa.int "MOST_COLUMNS" (5)).ok K,
  fun K => (He.Fa.meth "Shape" "columns").ok K,
  fun K => (He.Fa.glo "need_known").ok K,
  fun K => (He.Fa.int "MOST_SHAPES" (12)).ok K,
  fun K => (He.Fa.glo "checked_columns").ok K,
  fun K => ownB K "Order",
  fun K => (He.Fa.noat "Order" "own_columns").ok K,
  fun K => propB K "Shape" "span",
  fun K => (He.Fa.meth "Shape" "fixed").ok K,
  fun K => (He.Fa.meth "Order" "reach").ok K,
  fun K => (He.Fa.glo "Order").ok K,
  fun K => tabB K (.own "Order") [(.b "NoneType", false), (.b "bool", false), (.b "int", false), (.b "str", false), (.b "list", false), (.b "tuple", false), (.b "dict", false), (.own "Shape", false), (.own "Order", true)],
  fun K => (He.Fa.meth "Order" "serves").ok K,
  fun K => (He.Fa.glo "need_all_known").ok K,
  fun K => (He.Fa.meth "Order" "columns").ok K,
  fun K => (He.Fa.glo "need_order").ok K,
  fun K => (He.Fa.free "max").ok K,
  fun K => (He.Fa.free "range").ok K,
  fun K => (He.Fa.glo "_law_take").ok K,
  fun K => (He.Fa.glo "_law_mixed").ok K,
  fun K => (He.Fa.glo "served_shapes").ok K,
  fun K => (He.Fa.mkr "Order").ok K,
  fun K => (He.Fa.free "min").ok K,
  fun K => specB K "Shape" "__eq__",
  fun K => specB K "Shape" "__str__",
  fun K => tabB K (.ty "list") [(.b "NoneType", false), (.b "bool", false), (.b "int", false), (.b "str", false), (.b "list", true), (.b "tuple", false), (.b "dict", false), (.own "Shape", false), (.own "Order", false)],
  fun K => (He.Fa.free "zip").ok K,
  fun K => (He.Fa.free "int").ok K,
  fun K => (He.Fa.free "repr").ok K,
  fun K => (He.Fa.glo "_law_serves").ok K,
  fun K => (He.Fa.glo "_law_reach").ok K,
  fun K => (He.Fa.mkr "Shape").ok K,
  fun K => (He.Fa.glo "_law_drawn_shape").ok K,
  fun K => (He.Fa.glo "_law_columns").ok K,
  fun K => (He.Fa.glo "_law_box").ok K,
  fun K => (He.Fa.glo "_law_cell").ok K,
  fun K => (He.Fa.glo "law").ok K]
theorem kf_ok {K : PySem.W.Frag} (c : SaysA looks defs K) : KF K := ⟨tabB_ok (c.look 6), tabBT_ok (c.look 9), ownB_ok (c.look 10), He.noat_ok (c.look 11), He.noat_ok (c.look 13), tabB_ok (c.look 19), ownB_ok (c.look 26), He.noat_ok (c.look 27), tabB_ok (c.look 32), tabB_ok (c.look 46)⟩
theorem sc_is_name : FnScope ["value", "letter"] ["value"] (defScope s_is_name) := ⟨rfl, rfl, rfl, by decide +kernel, rfl, by decide +kernel, by decide +kernel⟩
theorem ok_is_name {P : Program} {w : World} {K : PySem.W.Frag} {mg : Str → Option Value} {base h : Heap} {fd : FuncData} (c : SaysA looks defs K) (hX : K.In h) (hG : h.Ns mainGlobals mg) (F_is_name : Fun_is_name K fd) : FnOk P w K mg base CX0 1 (He.fAd K d_is_name.at_) fd ["value"] (sp_is_name K) := by
  have F := F_is_name
  refine F.ok sc_is_name (fun vs H Q E h => len_is_name h) (fun cdv A outer s H vs Q E hr h => ⟨t_is_name K, PSs.nox ?_, pure_is_name (kf_ok c) vs H Q E h⟩)
  have hu := SL.hu64 hr
  exact (pss_cons (ps_if (PW.pt (pw_or (pt_not (pt_tru (pe_callB call_vIsi (by rfl) (He.free_ok hX hG (c.look 4)) (by decide +kernel) (pa_cons (pv 0) (pa_cons (pe_bltn (v := .ty "str") rfl (He.free_ok hX hG (c.look 5)) (by decide +kernel) rfl) pa_nil))) (by intro _; rfl))) (pw_or1 (pt_not (pt_chain (op_uLt hu) op_uLe pe_int (pe_callB call_uLen (by rfl) (He.free_ok hX hG (c.look 2)) (by decide +kernel) (pa_cons (pv 0) pa_nil)) (pe_gc rfl (gv_int (He.int_ok hX hG (c.look 3))))))))) (pss_one (ps_ret pe_bl)) pss_nil)
    (pss_one (ps_ret (pe_callB (cr_all rfl) (by rfl) (He.free_ok hX hG (c.look 0)) (by decide +kernel) (pa_cons (pe_lc (own := [("letter", 1)]) (wi := (iU K (tVar 0))) (g := (gName 1)) (tt := tYes) (te := (tOp (uIn K) (tVar 1) (tC (.str "abcdefghijklmnopqrstuvwxyz")))) (by rfl) sc_is_name.nd (pi_u (pv 0)) (blkOk_by (own := [("letter", 1)]) (N := ["value", "letter"]) (sc := defScope s_is_name) (by decide +kernel)) (fun _ _ _ _ _ => (pg_name (i := 1) sc_is_name.nd rfl (by first | exact Or.inl rfl | exact Or.inr rfl))) (fun _ _ _ _ _ => pts_nil) (fun _ _ _ _ _ => (pe_cmpR op_uIn (pv 1) (pe_gc rfl (gv_str (He.str_ok hX hG (c.look 1)))) (by rfl)))) pa_nil)))))
theorem sc_is_list : FnScope ["value"] ["value"] (defScope s_is_list) := ⟨rfl, rfl, rfl, by decide +kernel, rfl, by decide +kernel, by decide +kernel⟩
theorem ok_is_list {P : Program} {w : World} {K : PySem.W.Frag} {mg : Str → Option Value} {base h : Heap} {fd : FuncData} (c : SaysA looks defs K) (hX : K.In h) (hG : h.Ns mainGlobals mg) (F_is_list : Fun_is_list K fd) : FnOk P w K mg base CX0 1 (He.fAd K d_is_list.at_) fd ["value"] (sp_is_list K) := by
  have F := F_is_list
  refine F.ok sc_is_list (fun vs H Q E h => len_is_list h) (fun cdv A outer s H vs Q E hr h => ⟨t_is_list K, PSs.nox ?_, pure_is_list (kf_ok c) vs H Q E h⟩)
  have hu := SL.hu64 hr
  exact (pss_one (ps_ret (pe_callB call_vIsi (by rfl) (He.free_ok hX hG (c.look 4)) (by decide +kernel) (pa_cons (pv 0) (pa_cons (pe_tup (pa_cons (pe_bltn (v := .ty "list") rfl (He.free_ok hX hG (c.look 8)) (by decide +kernel) rfl) (pa_cons (pe_bltn (v := .ty "tuple") rfl (He.free_ok hX hG (c.look 7)) (by decide +kernel) rfl) pa_nil))) pa_nil)))))
theorem sc_Shape_D_init_D : FnScope ["self", "fixed", "span", "at", "column"] ["self", "fixed", "span"] (defScope s_Shape_D_init_D) := ⟨rfl, rfl, rfl, by decide +kernel, rfl, by decide +kernel, by decide +kernel⟩
theorem ok_Shape_D_init_D {P : Program} {w : World} {K : PySem.W.Frag} {mg : Str → Option Value} {base h : Heap} {fd : FuncData} {fd_is_name : FuncData} {fd_is_list : FuncData} (c : SaysA looks defs K) (hX : K.In h) (hG : h.Ns mainGlobals mg) (F_Shape_D_init_D : Fun_Shape_D_init_D K fd) (O_is_name : FnOk P w K mg base CX0 1 (He.fAd K d_is_name.at_) fd_is_name ["value"] (sp_is_name K)) (D_is_name : Fun_is_name K fd_is_name) (O_is_list : FnOk P w K mg base CX0 1 (He.fAd K d_is_list.at_) fd_is_list ["value"] (sp_is_list K)) (D_is_list : Fun_is_list K fd_is_list) : FnOk P w K mg base CX0 2 (He.fAd K d_Shape_D_init_D.at_) fd ["self", "fixed", "span"] (sp_Shape_D_init_D K) := by
  have B_is_name := bind_is_name D_is_name
  have K_is_name := D_is_name.kp
  have B_is_list := bind_is_list D_is_list
  have K_is_list := D_is_list.kp
  have F := F_Shape_D_init_D
  refine F.ok sc_Shape_D_init_D (fun vs H Q E h => len_Shape_D_init_D h) (fun cdv A outer s H vs Q E hr h => ⟨t_Shape_D_init_D K, PSs.nox ?_, pure_Shape_D_init_D (kf_ok c) vs H Q E h⟩)
  have hu := SL.hu64 hr
  have hr_is_name : Room 1 _ := hr.mono (by decide)
  have hr_is_list : Room 1 _ := hr.mono (by decide)
  exact (pss_cons (ps_if (PW.pt (pw_or (pt_not (pt_tru (pe_call O_is_list hr_is_list (by rfl) (He.glo_ok hX hG (c.look 17)) K_is_list B_is_list .nil pass0 (pa_cons (pv 1) pa_nil)) (by intro _; rfl))) (pw_or1 (pt_cmpR op_gt (pe_callB call_uLen (by rfl) (He.free_ok hX hG (c.look 2)) (by decide +kernel) (pa_cons (pv 1) pa_nil)) (pe_gc rfl (gv_int (He.int_ok hX hG (c.look 14)))) (nomark _))))) (pss_one ps_never) pss_nil)
    (pss_cons (ps_for PassesOwn.never rfl (pi_enum (by rfl) (He.free_ok hX hG (c.look 16)) (pa_cons (pv 1) pa_nil)) (pg_tup rfl (pgs_cons (pg_name (i := 3) sc_Shape_D_init_D.nd rfl (by first | exact Or.inl rfl | exact Or.inr rfl)) (pgs_cons (pg_name (i := 4) sc_Shape_D_init_D.nd rfl (by first | exact Or.inl rfl | exact Or.inr rfl)) pgs_nil))) (pss_cons (ps_if (pt_not (pt_tru (pe_call O_is_name hr_is_name (by rfl) (He.glo_ok hX hG (c.look 15)) K_is_name B_is_name .nil pass0 (pa_cons (pv 4) pa_nil)) (by intro _; rfl))) (pss_one ps_never) pss_nil)
    (pss_one (ps_if (pt_cmpR op_uIn (pv 4) (pe_slice sl_u (pv 1) po_none (po_some (pv 3))) (by rfl)) (pss_one ps_never) pss_nil))))
    (pss_cons (ps_if (PW.pt (pw_and (pt_cmpR op_uIn0 (pv 2) pe_non (nomark _)) (pw_and1 (pt_not (pt_tru (pe_call O_is_name hr_is_name (by rfl) (He.glo_ok hX hG (c.look 15)) K_is_name B_is_name .nil pass0 (pa_cons (pv 2) pa_nil)) (by intro _; rfl)))))) (pss_one ps_never) pss_nil)
    (pss_cons (ps_if (pt_cmpR op_uIn (pv 2) (pv 1) (by rfl)) (pss_one ps_never) pss_nil)
    (pss_cons (ps_if (PW.pt (pw_and (pt_cmpR op_uIn0 (pv 2) pe_non (nomark _)) (pw_and1 (pt_cmpR (op_uEq hu) (pe_callB call_uLen (by rfl) (He.free_ok hX hG (c.look 2)) (by decide +kernel) (pa_cons (pv 1) pa_nil)) (pe_gc rfl (gv_int (He.int_ok hX hG (c.look 14)))) (nomark _))))) (pss_one ps_never) pss_nil)
    (pss_cons (ps_fld (pv 0) (pe_callB call_srt (by rfl) (He.free_ok hX hG (c.look 12)) (by decide +kernel) (pa_cons (pv 1) pa_nil)) rfl)
    (pss_one (ps_fld (pv 0) (pv 2) rfl))))))))
theorem sc_Shape_span : FnScope ["self"] ["self"] (defScope s_Shape_span) := ⟨rfl, rfl, rfl, by decide +kernel, rfl, by decide +kernel, by decide +kernel⟩
theorem ok_Shape_span {P : Program} {w : World} {K : PySem.W.Frag} {mg : Str → Option Value} {base h : Heap} {fd : FuncData} (c : SaysA looks defs K) (hX : K.In h) (hG : h.Ns mainGlobals mg) (F_Shape_span : Fun_Shape_span K fd) : FnOk P w K mg base CX0 1 (pgA K "Shape" "span") fd ["self"] (sp_Shape_span K) := by
  have F := F_Shape_span
  refine F.ok sc_Shape_span (fun vs H Q E h => len_Shape_span h) (fun cdv A outer s H vs Q E hr h => ⟨t_Shape_span K, PSs.nox ?_, pure_Shape_span (kf_ok c) vs H Q E h⟩)
  have hu := SL.hu64 hr
  exact (pss_one (ps_ret (pe_fld (pv 0) rfl)))
theorem sc_Shape_fixed : FnScope ["self"] ["self"] (defScope s_Shape_fixed) := ⟨rfl, rfl, rfl, by decide +kernel, rfl, by decide +kernel, by decide +kernel⟩
theorem ok_Shape_fixed {P : Program} {w : World} {K : PySem.W.Frag} {mg : Str → Option Value} {base h : Heap} {fd : FuncData} (c : SaysA looks defs K) (hX : K.In h) (hG : h.Ns mainGlobals mg) (F_Shape_fixed : Fun_Shape_fixed K fd) : FnOk P w K mg base CX0 1 (He.fAd K d_Shape_fixed.at_) fd ["self"] (sp_Shape_fixed K) := by
  have F := F_Shape_fixed
  refine F.ok sc_Shape_fixed (fun vs H Q E h => len_Shape_fixed h) (fun cdv A outer s H vs Q E hr h => ⟨t_Shape_fixed K, PSs.nox ?_, pure_Shape_fixed (kf_ok c) vs H Q E h⟩)
  have hu := SL.hu64 hr
  exact (pss_one (ps_ret (pe_callTy call_list_u (by rfl) (He.free_ok hX hG (c.look 8)) (by decide +kernel) (pa_cons (pe_fld (pv 0) rfl) pa_nil))))
theorem sc_Shape_columns : FnScope ["self"] ["self"] (defScope s_Shape_columns) := ⟨rfl, rfl, rfl, by decide +kernel, rfl, by decide +kernel, by decide +kernel⟩
theorem ok_Shape_columns {P : Program} {w : World} {K : PySem.W.Frag} {mg : Str → Option Value} {base h : Heap} {fd : FuncData} (c : SaysA looks defs K) (hX : K.In h) (hG : h.Ns mainGlobals mg) (F_Shape_columns : Fun_Shape_columns K fd) : FnOk P w K mg base CX0 1 (He.fAd K d_Shape_columns.at_) fd ["self"] (sp_Shape_columns K) := by
  have F := F_Shape_columns
  refine F.ok sc_Shape_columns (fun vs H Q E h => len_Shape_columns h) (fun cdv A outer s H vs Q E hr h => ⟨t_Shape_columns K, PSs.nox ?_, pure_Shape_columns (kf_ok c) vs H Q E h⟩)
  have hu := SL.hu64 hr
  exact (pss_one (ps_ret (pe_callB call_srt (by rfl) (He.free_ok hX hG (c.look 12)) (by decide +kernel) (pa_cons (pe_op op_uAdd (pe_fld (pv 0) rfl) (pe_ifExp (pt_cmpR op_uIs (pe_fld (pv 0) rfl) pe_non (nomark _)) (pe_lst pa_nil) (pe_lst (pa_cons (pe_fld (pv 0) rfl) pa_nil)))) pa_nil))))
theorem sc_Shape_D_eq_D : FnScope ["self", "other"] ["self", "other"] (defScope s_Shape_D_eq_D) := ⟨rfl, rfl, rfl, by decide +kernel, rfl, by decide +kernel, by decide +kernel⟩
theorem ok_Shape_D_eq_D {P : Program} {w : World} {K : PySem.W.Frag} {mg : Str → Option Value} {base h : Heap} {fd : FuncData} (c : SaysA looks defs K) (hX : K.In h) (hG : h.Ns mainGlobals mg) (F_Shape_D_eq_D : Fun_Shape_D_eq_D K fd) : FnOk P w K mg base CX0 1 (He.fAd K d_Shape_D_eq_D.at_) fd ["self", "other"] (sp_Shape_D_eq_D K) := by
  have F := F_Shape_D_eq_D
  refine F.ok sc_Shape_D_eq_D (fun vs H Q E h => len_Shape_D_eq_D h) (fun cdv A outer s H vs Q E hr h => ⟨t_Shape_D_eq_D K, PSs.nox ?_, pure_Shape_D_eq_D (kf_ok c) vs H Q E h⟩)
  have hu := SL.hu64 hr
  exact (pss_cons (ps_if (pt_not (pt_tru (pe_callB call_vIsi (by rfl) (He.free_ok hX hG (c.look 4)) (by decide +kernel) (pa_cons (pv 1) (pa_cons (pe_gc rfl (gv_ref (He.glo_ok hX hG (c.look 18)))) pa_nil))) (by intro _; rfl))) (pss_one (ps_ret pe_bl)) pss_nil)
    (pss_one (ps_ret (pe_and (pe_cmpR (op_uEq hu) (pe_fld (pv 0) rfl) (pe_fld (pv 1) rfl) (nomark _)) (pe_one (pe_cmpR (op_uEq hu) (pe_fld (pv 0) rfl) (pe_fld (pv 1) rfl) (nomark _)))))))
theorem sc_Shape_D_str_D : FnScope ["self", "head", "tail"] ["self"] (defScope s_Shape_D_str_D) := ⟨rfl, rfl, rfl, by decide +kernel, rfl, by decide +kernel, by decide +kernel⟩
theorem ok_Shape_D_str_D {P : Program} {w : World} {K : PySem.W.Frag} {mg : Str → Option Value} {base h : Heap} {fd : FuncData} (c : SaysA looks defs K) (hX : K.In h) (hG : h.Ns mainGlobals mg) (F_Shape_D_str_D : Fun_Shape_D_str_D K fd) : FnOk P w K mg base CX0 1 (He.fAd K d_Shape_D_str_D.at_) fd ["self"] (sp_Shape_D_str_D K) := by
  have F := F_Shape_D_str_D
  refine F.ok sc_Shape_D_str_D (fun vs H Q E h => len_Shape_D_str_D h) (fun cdv A outer s H vs Q E hr h => ⟨t_Shape_D_str_D K, PSs.nox ?_, pure_Shape_D_str_D (kf_ok c) vs H Q E h⟩)
  have hu := SL.hu64 hr
  exact (pss_cons (ps_set (i := 1) sc_Shape_D_str_D.nd rfl (by first | exact Or.inl rfl | exact Or.inr rfl) (pe_ifExp (pt_cmpR (op_uNe hu) (pe_fld (pv 0) rfl) (pe_lst pa_nil) (nomark _)) (pe_bm PySem.F.plainAttrs_str PySem.F.slot_str_join PySem.F.type_str_join mt_uJoin pe_str (pa_cons (pe_fld (pv 0) rfl) pa_nil)) (pe_gc rfl (gv_str (He.str_ok hX hG (c.look 20))))))
    (pss_cons (ps_set (i := 2) sc_Shape_D_str_D.nd rfl (by first | exact Or.inl rfl | exact Or.inr rfl) (pe_ifExp (pt_cmpR op_uIs (pe_fld (pv 0) rfl) pe_non (nomark _)) pe_str (pe_joined (.cons pe_str (.cons (pe_fmt (pe_fld (pv 0) rfl)) .nil)))))
    (pss_one (ps_ret (pe_joined (.cons (pe_fmt (pv 1)) (.cons (pe_fmt (pv 2)) .nil)))))))
theorem sc_checked_columns : FnScope ["columns", "found", "name"] ["columns"] (defScope s_checked_columns) := ⟨rfl, rfl, rfl, by decide +kernel, rfl, by decide +kernel, by decide +kernel⟩
theorem ok_checked_columns {P : Program} {w : World} {K : PySem.W.Frag} {mg : Str → Option Value} {base h : Heap} {fd : FuncData} {fd_is_name : FuncData} {fd_is_list : FuncData} (c : SaysA looks defs K) (hX : K.In h) (hG : h.Ns mainGlobals mg) (F_checked_columns : Fun_checked_columns K fd) (O_is_name : FnOk P w K mg base CX0 1 (He.fAd K d_is_name.at_) fd_is_name ["value"] (sp_is_name K)) (D_is_name : Fun_is_name K fd_is_name) (O_is_list : FnOk P w K mg base CX0 1 (He.fAd K d_is_list.at_) fd_is_list ["value"] (sp_is_list K)) (D_is_list : Fun_is_list K fd_is_list) : FnOk P w K mg base CX0 2 (He.fAd K d_checked_columns.at_) fd ["columns"] (sp_checked_columns K) := by
  have B_is_name := bind_is_name D_is_name
  have K_is_name := D_is_name.kp
  have B_is_list := bind_is_list D_is_list
  have K_is_list := D_is_list.kp
  have F := F_checked_columns
  refine F.ok sc_checked_columns (fun vs H Q E h => len_checked_columns h) (fun cdv A outer s H vs Q E hr h => ⟨t_checked_columns K, PSs.nox ?_, pure_checked_columns (kf_ok c) vs H Q E h⟩)
  have hu := SL.hu64 hr
  have hr_is_name : Room 1 _ := hr.mono (by decide)
  have hr_is_list : Room 1 _ := hr.mono (by decide)
  exact (pss_cons (ps_if (PW.pt (pw_or (pt_not (pt_tru (pe_call O_is_list hr_is_list (by rfl) (He.glo_ok hX hG (c.look 17)) K_is_list B_is_list .nil pass0 (pa_cons (pv 0) pa_nil)) (by intro _; rfl))) (pw_or1 (pt_not (pt_chain op_uLe op_uLe pe_int (pe_callB call_uLen (by rfl) (He.free_ok hX hG (c.look 2)) (by decide +kernel) (pa_cons (pv 0) pa_nil)) (pe_gc rfl (gv_int (He.int_ok hX hG (c.look 21))))))))) (pss_one ps_never) pss_nil)
    (pss_cons (ps_set (i := 1) sc_checked_columns.nd rfl (by first | exact Or.inl rfl | exact Or.inr rfl) (pe_lst pa_nil))
    (pss_cons (ps_for PassesOwn.never rfl (pi_u (pv 0)) (pg_name (i := 2) sc_checked_columns.nd rfl (by first | exact Or.inl rfl | exact Or.inr rfl)) (pss_cons (ps_if (pt_not (pt_tru (pe_call O_is_name hr_is_name (by rfl) (He.glo_ok hX hG (c.look 15)) K_is_name B_is_name .nil pass0 (pa_cons (pv 2) pa_nil)) (by intro _; rfl))) (pss_one ps_never) pss_nil)
    (pss_cons (ps_if (pt_cmpR op_uIn (pv 2) (pv 1) (by rfl)) (pss_one ps_never) pss_nil)
    (pss_one (ps_expr (pe_bm PySem.F.plainAttrs_list PySem.F.slot_list_append PySem.F.type_list_append mt_append (pv 1) (pa_cons (pv 2) pa_nil)))))))
    (pss_one (ps_ret (pv 1))))))
theorem sc_need_known : FnScope ["columns", "shape", "column"] ["columns", "shape"] (defScope s_need_known) := ⟨rfl, rfl, rfl, by decide +kernel, rfl, by decide +kernel, by decide +kernel⟩
theorem ok_need_known {P : Program} {w : World} {K : PySem.W.Frag} {mg : Str → Option Value} {base h : Heap} {fd : FuncData} {fd_Shape_columns : FuncData} (c : SaysA looks defs K) (hX : K.In h) (hG : h.Ns mainGlobals mg) (F_need_known : Fun_need_known K fd) (O_Shape_columns : FnOk P w K mg base CX0 1 (He.fAd K d_Shape_columns.at_) fd_Shape_columns ["self"] (sp_Shape_columns K)) (D_Shape_columns : Fun_Shape_columns K fd_Shape_columns) : FnOk P w K mg base CX0 2 (He.fAd K d_need_known.at_) fd ["columns", "shape"] (sp_need_known K) := by
  have B_Shape_columns := bind_Shape_columns D_Shape_columns
  have K_Shape_columns := D_Shape_columns.kp
  have F := F_need_known
  refine F.ok sc_need_known (fun vs H Q E h => len_need_known h) (fun cdv A outer s H vs Q E hr h => ⟨t_need_known K, PSs.nox ?_, pure_need_known (kf_ok c) vs H Q E h⟩)
  have hu := SL.hu64 hr
  have hr_Shape_columns : Room 1 _ := hr.mono (by decide)
  exact (pss_cons (ps_if (pt_not (pt_tru (pe_callB call_vIsi (by rfl) (He.free_ok hX hG (c.look 4)) (by decide +kernel) (pa_cons (pv 1) (pa_cons (pe_gc rfl (gv_ref (He.glo_ok hX hG (c.look 18)))) pa_nil))) (by intro _; rfl))) (pss_one ps_never) pss_nil)
    (pss_one (ps_for PassesOwn.never rfl (pi_u (pe_meth0 (pv 1) (ownB_ok (c.look 10)).cls (He.meth_ok (c.look 22)) O_Shape_columns hr_Shape_columns B_Shape_columns .nil pass0)) (pg_name (i := 2) sc_need_known.nd rfl (by first | exact Or.inl rfl | exact Or.inr rfl)) (pss_one (ps_if (pt_cmpR op_uNi (pv 2) (pv 0) (by rfl)) (pss_one ps_never) pss_nil)))))
theorem sc_need_all_known : FnScope ["columns", "shapes", "shape"] ["columns", "shapes"] (defScope s_need_all_known) := ⟨rfl, rfl, rfl, by decide +kernel, rfl, by decide +kernel, by decide +kernel⟩
theorem ok_need_all_known {P : Program} {w : World} {K : PySem.W.Frag} {mg : Str → Option Value} {base h : Heap} {fd : FuncData} {fd_need_known : FuncData} {fd_is_list : FuncData} (c : SaysA looks defs K) (hX : K.In h) (hG : h.Ns mainGlobals mg) (F_need_all_known : Fun_need_all_known K fd) (O_need_known : FnOk P w K mg base CX0 2 (He.fAd K d_need_known.at_) fd_need_known ["columns", "shape"] (sp_need_known K)) (D_need_known : Fun_need_known K fd_need_known) (O_is_list : FnOk P w K mg base CX0 1 (He.fAd K d_is_list.at_) fd_is_list ["value"] (sp_is_list K)) (D_is_list : Fun_is_list K fd_is_list) : FnOk P w K mg base CX0 3 (He.fAd K d_need_all_known.at_) fd ["columns", "shapes"] (sp_need_all_known K) := by
  have B_need_known := bind_need_known D_need_known
  have K_need_known := D_need_known.kp
  have B_is_list := bind_is_list D_is_list
  have K_is_list := D_is_list.kp
  have F := F_need_all_known
  refine F.ok sc_need_all_known (fun vs H Q E h => len_need_all_known h) (fun cdv A outer s H vs Q E hr h => ⟨t_need_all_known K, PSs.nox ?_, pure_need_all_known (kf_ok c) vs H Q E h⟩)
  have hu := SL.hu64 hr
  have hr_need_known : Room 2 _ := hr.mono (by decide)
  have hr_is_list : Room 1 _ := hr.mono (by decide)
  exact (pss_cons (ps_if (PW.pt (pw_or (pt_not (pt_tru (pe_call O_is_list hr_is_list (by rfl) (He.glo_ok hX hG (c.look 17)) K_is_list B_is_list .nil pass0 (pa_cons (pv 1) pa_nil)) (by intro _; rfl))) (pw_or1 (pt_cmpR op_gt (pe_callB call_uLen (by rfl) (He.free_ok hX hG (c.look 2)) (by decide +kernel) (pa_cons (pv 1) pa_nil)) (pe_gc rfl (gv_int (He.int_ok hX hG (c.look 24)))) (nomark _))))) (pss_one ps_never) pss_nil)
    (pss_one (ps_for PassesOwn.never rfl (pi_u (pv 1)) (pg_name (i := 2) sc_need_all_known.nd rfl (by first | exact Or.inl rfl | exact Or.inr rfl)) (pss_one (ps_expr (pe_call O_need_known hr_need_known (by rfl) (He.glo_ok hX hG (c.look 23)) K_need_known B_need_known .nil pass0 (pa_cons (pv 0) (pa_cons (pv 2) pa_nil))))))))
theorem sc_Order_D_init_D : FnScope ["self", "columns"] ["self", "columns"] (defScope s_Order_D_init_D) := ⟨rfl, rfl, rfl, by decide +kernel, rfl, by decide +kernel, by decide +kernel⟩
theorem ok_Order_D_init_D {P : Program} {w : World} {K : PySem.W.Frag} {mg : Str → Option Value} {base h : Heap} {fd : FuncData} {fd_checked_columns : FuncData} (c : SaysA looks defs K) (hX : K.In h) (hG : h.Ns mainGlobals mg) (F_Order_D_init_D : Fun_Order_D_init_D K fd) (O_checked_columns : FnOk P w K mg base CX0 2 (He.fAd K d_checked_columns.at_) fd_checked_columns ["columns"] (sp_checked_columns K)) (D_checked_columns : Fun_checked_columns K fd_checked_columns) : FnOk P w K mg base CX0 3 (He.fAd K d_Order_D_init_D.at_) fd ["self", "columns"] (sp_Order_D_init_D K) := by
  have B_checked_columns := bind_checked_columns D_checked_columns
  have K_checked_columns := D_checked_columns.kp
  have F := F_Order_D_init_D
  refine F.ok sc_Order_D_init_D (fun vs H Q E h => len_Order_D_init_D h) (fun cdv A outer s H vs Q E hr h => ⟨t_Order_D_init_D K, PSs.nox ?_, pure_Order_D_init_D (kf_ok c) vs H Q E h⟩)
  have hu := SL.hu64 hr
  have hr_checked_columns : Room 2 _ := hr.mono (by decide)
  exact (pss_one (ps_fld (pv 0) (pe_call O_checked_columns hr_checked_columns (by rfl) (He.glo_ok hX hG (c.look 25)) K_checked_columns B_checked_columns .nil pass0 (pa_cons (pv 1) pa_nil)) rfl))
theorem sc_Order_columns : FnScope ["self"] ["self"] (defScope s_Order_columns) := ⟨rfl, rfl, rfl, by decide +kernel, rfl, by decide +kernel, by decide +kernel⟩
theorem ok_Order_columns {P : Program} {w : World} {K : PySem.W.Frag} {mg : Str → Option Value} {base h : Heap} {fd : FuncData} (c : SaysA looks defs K) (hX : K.In h) (hG : h.Ns mainGlobals mg) (F_Order_columns : Fun_Order_columns K fd) : FnOk P w K mg base CX0 1 (He.fAd K d_Order_columns.at_) fd ["self"] (sp_Order_columns K) := by
  have F := F_Order_columns
  refine F.ok sc_Order_columns (fun vs H Q E h => len_Order_columns h) (fun cdv A outer s H vs Q E hr h => ⟨t_Order_columns K, PSs.nox ?_, pure_Order_columns (kf_ok c) vs H Q E h⟩)
  have hu := SL.hu64 hr
  exact (pss_one (ps_ret (pe_callTy call_list_u (by rfl) (He.free_ok hX hG (c.look 8)) (by decide +kernel) (pa_cons (pe_fld (pv 0) rfl) pa_nil))))
theorem sc_Order_reach : FnScope ["self", "shape", "fixed", "count", "is_next"] ["self", "shape"] (defScope s_Order_reach) := ⟨rfl, rfl, rfl, by decide +kernel, rfl, by decide +kernel, by decide +kernel⟩
theorem ok_Order_reach {P : Program} {w : World} {K : PySem.W.Frag} {mg : Str → Option Value} {base h : Heap} {fd : FuncData} {fd_Shape_span : FuncData} {fd_Shape_fixed : FuncData} {fd_need_known : FuncData} (c : SaysA looks defs K) (hX : K.In h) (hG : h.Ns mainGlobals mg) (F_Order_reach : Fun_Order_reach K fd) (O_Shape_span : FnOk P w K mg base CX0 1 (pgA K "Shape" "span") fd_Shape_span ["self"] (sp_Shape_span K)) (D_Shape_span : Fun_Shape_span K fd_Shape_span) (O_Shape_fixed : FnOk P w K mg base CX0 1 (He.fAd K d_Shape_fixed.at_) fd_Shape_fixed ["self"] (sp_Shape_fixed K)) (D_Shape_fixed : Fun_Shape_fixed K fd_Shape_fixed) (O_need_known : FnOk P w K mg base CX0 2 (He.fAd K d_need_known.at_) fd_need_known ["columns", "shape"] (sp_need_known K)) (D_need_known : Fun_need_known K fd_need_known) : FnOk P w K mg base CX0 3 (He.fAd K d_Order_reach.at_) fd ["self", "shape"] (sp_Order_reach K) := by
  have B_Shape_span := bind_Shape_span D_Shape_span
  have K_Shape_span := D_Shape_span.kp
  have B_Shape_fixed := bind_Shape_fixed D_Shape_fixed
  have K_Shape_fixed := D_Shape_fixed.kp
  have B_need_known := bind_need_known D_need_known
  have K_need_known := D_need_known.kp
  have F := F_Order_reach
  refine F.ok sc_Order_reach (fun vs H Q E h => len_Order_reach h) (fun cdv A outer s H vs Q E hr h => ⟨t_Order_reach K, PSs.nox ?_, pure_Order_reach (kf_ok c) vs H Q E h⟩)
  have hu := SL.hu64 hr
  have hr_Shape_span_1 : Room 2 _ := hr.mono (by decide)
  have hr_Shape_fixed : Room 1 _ := hr.mono (by decide)
  have hr_need_known : Room 2 _ := hr.mono (by decide)
  exact (pss_cons (ps_expr (pe_call O_need_known hr_need_known (by rfl) (He.glo_ok hX hG (c.look 23)) K_need_known B_need_known .nil pass0 (pa_cons (pe_fld (pv 0) rfl) (pa_cons (pv 1) pa_nil))))
    (pss_cons (ps_par (i := 2) (j := 3) (by rfl) sc_Order_reach.nd rfl rfl (by decide) rfl rfl (pa_cons (pe_meth0 (pv 1) (ownB_ok (c.look 10)).cls (He.meth_ok (c.look 29)) O_Shape_fixed hr_Shape_fixed B_Shape_fixed .nil pass0) (pa_cons pe_int pa_nil)) (by rfl))
    (pss_cons (ps_while PassesOwn.never (PW.pt (pw_and (pt_cmpR (op_uLt hu) (pv 3) (pe_callB call_uLen (by rfl) (He.free_ok hX hG (c.look 2)) (by decide +kernel) (pa_cons (pe_fld (pv 0) rfl) pa_nil)) (nomark _)) (pw_and1 (pt_cmpR op_uIn (pe_ix ix_u (pe_fld (pv 0) rfl) (pv 3) (fun _ _ => rfl)) (pv 2) (by rfl))))) (pss_one (ps_aug (i := 3) sc_Order_reach.nd rfl (by first | exact Or.inl rfl | exact Or.inr rfl) pe_int ip_add)))
    (pss_cons (ps_set (i := 4) sc_Order_reach.nd rfl (by first | exact Or.inl rfl | exact Or.inr rfl) (pe_and (pe_cmpR op_uIn0 (pe_prop (pv 1) (ownB_ok (c.look 10)).cls (propB_ok (c.look 28)) O_Shape_span hr_Shape_span_1 B_Shape_span .nil pass0 rfl) pe_non (nomark _)) (pe_one (pe_cmpR (op_uEq hu) (pe_slice sl_u (pe_fld (pv 0) rfl) (po_some (pv 3)) (po_some (pe_op op_uAdd (pv 3) pe_int))) (pe_lst (pa_cons (pe_prop (pv 1) (ownB_ok (c.look 10)).cls (propB_ok (c.look 28)) O_Shape_span hr_Shape_span_1 B_Shape_span .nil pass0 rfl) pa_nil)) (nomark _)))))
    (pss_one (ps_ret (pe_tup (pa_cons (pv 3) (pa_cons (pv 4) pa_nil)))))))))
theorem sc_Order_serves : FnScope ["self", "shape", "count", "is_next"] ["self", "shape"] (defScope s_Order_serves) := ⟨rfl, rfl, rfl, by decide +kernel, rfl, by decide +kernel, by decide +kernel⟩
theorem ok_Order_serves {P : Program} {w : World} {K : PySem.W.Frag} {mg : Str → Option Value} {base h : Heap} {fd : FuncData} {fd_Shape_span : FuncData} {fd_Shape_fixed : FuncData} {fd_Order_reach : FuncData} (c : SaysA looks defs K) (hX : K.In h) (hG : h.Ns mainGlobals mg) (F_Order_serves : Fun_Order_serves K fd) (O_Shape_span : FnOk P w K mg base CX0 1 (pgA K "Shape" "span") fd_Shape_span ["self"] (sp_Shape_span K)) (D_Shape_span : Fun_Shape_span K fd_Shape_span) (O_Shape_fixed : FnOk P w K mg base CX0 1 (He.fAd K d_Shape_fixed.at_) fd_Shape_fixed ["self"] (sp_Shape_fixed K)) (D_Shape_fixed : Fun_Shape_fixed K fd_Shape_fixed) (O_Order_reach : FnOk P w K mg base CX0 3 (He.fAd K d_Order_reach.at_) fd_Order_reach ["self", "shape"] (sp_Order_reach K)) (D_Order_reach : Fun_Order_reach K fd_Order_reach) : FnOk P w K mg base CX0 4 (He.fAd K d_Order_serves.at_) fd ["self", "shape"] (sp_Order_serves K) := by
  have B_Shape_span := bind_Shape_span D_Shape_span
  have K_Shape_span := D_Shape_span.kp
  have B_Shape_fixed := bind_Shape_fixed D_Shape_fixed
  have K_Shape_fixed := D_Shape_fixed.kp
  have B_Order_reach := bind_Order_reach D_Order_reach
  have K_Order_reach := D_Order_reach.kp
  have F := F_Order_serves
  refine F.ok sc_Order_serves (fun vs H Q E h => len_Order_serves h) (fun cdv A outer s H vs Q E hr h => ⟨t_Order_serves K, PSs.nox ?_, pure_Order_serves (kf_ok c) vs H Q E h⟩)
  have hu := SL.hu64 hr
  have hr_Shape_span_1 : Room 2 _ := hr.mono (by decide)
  have hr_Shape_fixed : Room 1 _ := hr.mono (by decide)
  have hr_Order_reach : Room 3 _ := hr.mono (by decide)
  exact (pss_cons (ps_asg (pe_meth (pv 0) (ownB_ok (c.look 26)).cls (He.meth_ok (c.look 30)) O_Order_reach hr_Order_reach B_Order_reach .nil pass0 (pa_cons (pv 1) pa_nil)) (pg_tup rfl (pgs_cons (pg_name (i := 2) sc_Order_serves.nd rfl (by first | exact Or.inl rfl | exact Or.inr rfl)) (pgs_cons (pg_name (i := 3) sc_Order_serves.nd rfl (by first | exact Or.inl rfl | exact Or.inr rfl)) pgs_nil))))
    (pss_one (ps_ret (pe_and (pe_cmpR (op_uEq hu) (pv 2) (pe_callB call_uLen (by rfl) (He.free_ok hX hG (c.look 2)) (by decide +kernel) (pa_cons (pe_meth0 (pv 1) (ownB_ok (c.look 10)).cls (He.meth_ok (c.look 29)) O_Shape_fixed hr_Shape_fixed B_Shape_fixed .nil pass0) pa_nil)) (nomark _)) (pe_one (pe_or (pe_cmpR op_uIs (pe_prop (pv 1) (ownB_ok (c.look 10)).cls (propB_ok (c.look 28)) O_Shape_span hr_Shape_span_1 B_Shape_span .nil pass0 rfl) pe_non (nomark _)) (pe_one (pv 3))))))))
theorem sc_need_order : FnScope ["value"] ["value"] (defScope s_need_order) := ⟨rfl, rfl, rfl, by decide +kernel, rfl, by decide +kernel, by decide +kernel⟩
theorem ok_need_order {P : Program} {w : World} {K : PySem.W.Frag} {mg : Str → Option Value} {base h : Heap} {fd : FuncData} (c : SaysA looks defs K) (hX : K.In h) (hG : h.Ns mainGlobals mg) (F_need_order : Fun_need_order K fd) : FnOk P w K mg base CX0 1 (He.fAd K d_need_order.at_) fd ["value"] (sp_need_order K) := by
  have F := F_need_order
  refine F.ok sc_need_order (fun vs H Q E h => len_need_order h) (fun cdv A outer s H vs Q E hr h => ⟨t_need_order K, PSs.nox ?_, pure_need_order (kf_ok c) vs H Q E h⟩)
  have hu := SL.hu64 hr
  exact (pss_one (ps_if (pt_not (pt_tru (pe_callB call_vIsi (by rfl) (He.free_ok hX hG (c.look 4)) (by decide +kernel) (pa_cons (pv 0) (pa_cons (pe_gc rfl (gv_ref (He.glo_ok hX hG (c.look 31)))) pa_nil))) (by intro _; rfl))) (pss_one ps_never) pss_nil))
theorem sc_served_shapes : FnScope ["order", "shapes", "shape"] ["order", "shapes"] (defScope s_served_shapes) := ⟨rfl, rfl, rfl, by decide +kernel, rfl, by decide +kernel, by decide +kernel⟩
theorem ok_served_shapes {P : Program} {w : World} {K : PySem.W.Frag} {mg : Str → Option Value} {base h : Heap} {fd : FuncData} {fd_Order_serves : FuncData} {fd_need_all_known : FuncData} {fd_Order_columns : FuncData} {fd_need_order : FuncData} (c : SaysA looks defs K) (hX : K.In h) (hG : h.Ns mainGlobals mg) (F_served_shapes : Fun_served_shapes K fd) (O_Order_serves : FnOk P w K mg base CX0 4 (He.fAd K d_Order_serves.at_) fd_Order_serves ["self", "shape"] (sp_Order_serves K)) (D_Order_serves : Fun_Order_serves K fd_Order_serves) (O_need_all_known : FnOk P w K mg base CX0 3 (He.fAd K d_need_all_known.at_) fd_need_all_known ["columns", "shapes"] (sp_need_all_known K)) (D_need_all_known : Fun_need_all_known K fd_need_all_known) (O_Order_columns : FnOk P w K mg base CX0 1 (He.fAd K d_Order_columns.at_) fd_Order_columns ["self"] (sp_Order_columns K)) (D_Order_columns : Fun_Order_columns K fd_Order_columns) (O_need_order : FnOk P w K mg base CX0 1 (He.fAd K d_need_order.at_) fd_need_order ["value"] (sp_need_order K)) (D_need_order : Fun_need_order K fd_need_order) : FnOk P w K mg base CX0 5 (He.fAd K d_served_shapes.at_) fd ["order", "shapes"] (sp_served_shapes K) := by
  have B_Order_serves := bind_Order_serves D_Order_serves
  have K_Order_serves := D_Order_serves.kp
  have B_need_all_known := bind_need_all_known D_need_all_known
  have K_need_all_known := D_need_all_known.kp
  have B_Order_columns := bind_Order_columns D_Order_columns
  have K_Order_columns := D_Order_columns.kp
  have B_need_order := bind_need_order D_need_order
  have K_need_order := D_need_order.kp
  have F := F_served_shapes
  refine F.ok sc_served_shapes (fun vs H Q E h => len_served_shapes h) (fun cdv A outer s H vs Q E hr h => ⟨t_served_shapes K, PSs.nox ?_, pure_served_shapes (kf_ok c) vs H Q E h⟩)
  have hu := SL.hu64 hr
  have hr_Order_serves : Room 4 _ := hr.mono (by decide)
  have hr_need_all_known : Room 3 _ := hr.mono (by decide)
  have hr_Order_columns : Room 1 _ := hr.mono (by decide)
  have hr_need_order : Room 1 _ := hr.mono (by decide)
  exact (pss_cons (ps_expr (pe_call O_need_order hr_need_order (by rfl) (He.glo_ok hX hG (c.look 36)) K_need_order B_need_order .nil pass0 (pa_cons (pv 0) pa_nil)))
    (pss_cons (ps_expr (pe_call O_need_all_known hr_need_all_known (by rfl) (He.glo_ok hX hG (c.look 34)) K_need_all_known B_need_all_known .nil pass0 (pa_cons (pe_meth0 (pv 0) (ownB_ok (c.look 26)).cls (He.meth_ok (c.look 35)) O_Order_columns hr_Order_columns B_Order_columns .nil pass0) (pa_cons (pv 1) pa_nil))))
    (pss_one (ps_ret (pe_lc (own := [("shape", 2)]) (wi := (iU K (tVar 1))) (g := (gName 2)) (tt := (tTruK K (tMeth (He.ga K "Order") "serves" (sp_Order_serves K) [] E0 (tVar 0) (tCons (tVar 2) tNil)))) (te := (tVar 2)) (by rfl) sc_served_shapes.nd (pi_u (pv 1)) (blkOk_by (own := [("shape", 2)]) (N := ["order", "shapes", "shape"]) (sc := defScope s_served_shapes) (by decide +kernel)) (fun _ _ _ _ _ => (pg_name (i := 2) sc_served_shapes.nd rfl (by first | exact Or.inl rfl | exact Or.inr rfl))) (fun _ _ _ _ _ => (pts_one (pt_tru (pe_meth (pv 0) (ownB_ok (c.look 26)).cls (He.meth_ok (c.look 33)) O_Order_serves hr_Order_serves B_Order_serves .nil pass0 (pa_cons (pv 2) pa_nil)) (by intro _; rfl)))) (fun _ _ _ _ _ => (pv 2)))))))
theorem sc_l_law_cell : FnScope ["_law_script", "_law_k"] ["_law_script", "_law_k"] (defScope s_l_law_cell) := ⟨rfl, rfl, rfl, by decide +kernel, rfl, by decide +kernel, by decide +kernel⟩
theorem ok_l_law_cell {P : Program} {w : World} {K : PySem.W.Frag} {mg : Str → Option Value} {base h : Heap} {fd : FuncData} (c : SaysA looks defs K) (hX : K.In h) (hG : h.Ns mainGlobals mg) (F_l_law_cell : Fun_l_law_cell K fd) : FnOk P w K mg base CX0 1 (He.fAd K d_l_law_cell.at_) fd ["_law_script", "_law_k"] (sp_l_law_cell K) := by
  have F := F_l_law_cell
  refine F.ok sc_l_law_cell (fun vs H Q E h => len_l_law_cell h) (fun cdv A outer s H vs Q E hr h => ⟨t_l_law_cell K, PSs.nox ?_, pure_l_law_cell (kf_ok c) vs H Q E h⟩)
  have hu := SL.hu64 hr
  exact (pss_cons (ps_if (pt_cmpR (op_uLt hu) (pv 1) (pe_callB call_uLen (by rfl) (He.free_ok hX hG (c.look 2)) (by decide +kernel) (pa_cons (pv 0) pa_nil)) (nomark _)) (pss_one (ps_ret (pe_ix ix_u (pv 0) (pv 1) (fun _ _ => rfl)))) pss_nil)
    (pss_one (ps_ret (pe_op op_uAdd (pe_op op_uMul pe_int (pv 1)) pe_int))))
theorem sc_l_law_box : FnScope ["_law_cell_here"] ["_law_cell_here"] (defScope s_l_law_box) := ⟨rfl, rfl, rfl, by decide +kernel, rfl, by decide +kernel, by decide +kernel⟩
theorem ok_l_law_box {P : Program} {w : World} {K : PySem.W.Frag} {mg : Str → Option Value} {base h : Heap} {fd : FuncData} (c : SaysA looks defs K) (hX : K.In h) (hG : h.Ns mainGlobals mg) (F_l_law_box : Fun_l_law_box K fd) : FnOk P w K mg base CX0 1 (He.fAd K d_l_law_box.at_) fd ["_law_cell_here"] (sp_l_law_box K) := by
  have F := F_l_law_box
  refine F.ok sc_l_law_box (fun vs H Q E h => len_l_law_box h) (fun cdv A outer s H vs Q E hr h => ⟨t_l_law_box K, PSs.nox ?_, pure_l_law_box (kf_ok c) vs H Q E h⟩)
  have hu := SL.hu64 hr
  exact (pss_one (ps_ret (pe_lst (pa_cons (pe_callB (call_max2 rfl) (by rfl) (He.free_ok hX hG (c.look 37)) (by decide +kernel) (pa_cons pe_int (pa_cons (pe_op op_sub (pv 0) (pe_op op_pow pe_int pe_int)) pa_nil))) (pa_cons (pe_op op_modN (pv 0) pe_int) (pa_cons pe_int pa_nil))))))
theorem sc_l_law_take : FnScope ["_law_box_here", "_law_many", "_law_front", "_law_back", "_law_digit"] ["_law_box_here", "_law_many"] (defScope s_l_law_take) := ⟨rfl, rfl, rfl, by decide +kernel, rfl, by decide +kernel, by decide +kernel⟩
theorem ok_l_law_take {P : Program} {w : World} {K : PySem.W.Frag} {mg : Str → Option Value} {base h : Heap} {fd : FuncData} (c : SaysA looks defs K) (hX : K.In h) (hG : h.Ns mainGlobals mg) (F_l_law_take : Fun_l_law_take K fd) : FnOk P w K mg base CX0 1 (He.fAd K d_l_law_take.at_) fd ["_law_box_here", "_law_many"] (sp_l_law_take K) := by
  have F := F_l_law_take
  refine F.ok sc_l_law_take (fun vs H Q E h => len_l_law_take h) (fun cdv A outer s H vs Q E hr h => ⟨t_l_law_take K, PSs.nox ?_, pure_l_law_take (kf_ok c) vs H Q E h⟩)
  have hu := SL.hu64 hr
  exact (pss_cons (ps_if (pt_cmpR op_gt (pe_ix ix_u (pv 0) pe_int (fun _ _ => rfl)) pe_int (nomark _)) (pss_cons (ps_set (i := 4) sc_l_law_take.nd rfl (by first | exact Or.inl rfl | exact Or.inr rfl) (pe_op op_modN (pe_ix ix_u (pv 0) pe_int (fun _ _ => rfl)) (pv 1)))
    (pss_cons (ps_asg (pe_op op_fdivW (pe_ix ix_u (pv 0) pe_int (fun _ _ => rfl)) (pv 1)) (pg_sub (pv 0) pe_int set_list))
    (pss_one (ps_ret (pv 4))))) pss_nil)
    (pss_cons (ps_asg (pe_op op_uAdd (pe_ix ix_u (pv 0) pe_int (fun _ _ => rfl)) pe_int) (pg_sub (pv 0) pe_int set_list))
    (pss_cons (ps_set (i := 2) sc_l_law_take.nd rfl (by first | exact Or.inl rfl | exact Or.inr rfl) (pe_op op_modN (pe_op op_uAdd (pe_op op_uAdd (pe_op op_uMul (pe_ix ix_u (pv 0) pe_int (fun _ _ => rfl)) pe_int) (pe_op op_uMul pe_int (pe_ix ix_u (pv 0) pe_int (fun _ _ => rfl)))) pe_int) pe_int))
    (pss_cons (ps_set (i := 3) sc_l_law_take.nd rfl (by first | exact Or.inl rfl | exact Or.inr rfl) (pe_op op_modN (pe_op op_pow (pe_op op_uAdd (pv 2) (pe_op op_uMul pe_int (pe_ix ix_u (pv 0) pe_int (fun _ _ => rfl)))) pe_int) pe_int))
    (pss_one (ps_ret (pe_op op_modN (pe_op op_uAdd (pe_op op_fdivW (pe_op op_modN (pe_op op_pow (pv 3) pe_int) pe_int) pe_int) (pe_op op_fdivW (pv 2) pe_int)) (pv 1))))))))
theorem sc_l_law_mixed : FnScope ["_law_box_here", "_law_some", "_law_left", "_law_k"] ["_law_box_here", "_law_some"] (defScope s_l_law_mixed) := ⟨rfl, rfl, rfl, by decide +kernel, rfl, by decide +kernel, by decide +kernel⟩
theorem ok_l_law_mixed {P : Program} {w : World} {K : PySem.W.Frag} {mg : Str → Option Value} {base h : Heap} {fd : FuncData} {fd_l_law_take : FuncData} (c : SaysA looks defs K) (hX : K.In h) (hG : h.Ns mainGlobals mg) (F_l_law_mixed : Fun_l_law_mixed K fd) (O_l_law_take : FnOk P w K mg base CX0 1 (He.fAd K d_l_law_take.at_) fd_l_law_take ["_law_box_here", "_law_many"] (sp_l_law_take K)) (D_l_law_take : Fun_l_law_take K fd_l_law_take) : FnOk P w K mg base CX0 2 (He.fAd K d_l_law_mixed.at_) fd ["_law_box_here", "_law_some"] (sp_l_law_mixed K) := by
  have B_l_law_take := bind_l_law_take D_l_law_take
  have K_l_law_take := D_l_law_take.kp
  have F := F_l_law_mixed
  refine F.ok sc_l_law_mixed (fun vs H Q E h => len_l_law_mixed h) (fun cdv A outer s H vs Q E hr h => ⟨t_l_law_mixed K, PSs.nox ?_, pure_l_law_mixed (kf_ok c) vs H Q E h⟩)
  have hu := SL.hu64 hr
  have hr_l_law_take : Room 1 _ := hr.mono (by decide)
  exact (pss_cons (ps_set (i := 2) sc_l_law_mixed.nd rfl (by first | exact Or.inl rfl | exact Or.inr rfl) (pe_callTy call_list_u (by rfl) (He.free_ok hX hG (c.look 8)) (by decide +kernel) (pa_cons (pv 1) pa_nil)))
    (pss_one (ps_ret (pe_lc (own := [("_law_k", 3)]) (wi := (iRng1 (tCons (tCB (uLen K) (tCons (tVar 1) tNil)) tNil))) (g := (gName 3)) (tt := tYes) (te := (tBM K "list" rPopAt (tVar 2) (tCons (tCall (sp_l_law_take K) [] E0 (tCons (tVar 0) (tCons (tCB (uLen K) (tCons (tVar 2) tNil)) tNil))) tNil))) (by rfl) sc_l_law_mixed.nd (pi_range1 rfl (He.free_ok hX hG (c.look 38)) (pa_cons (pe_callB call_uLen (by rfl) (He.free_ok hX hG (c.look 2)) (by decide +kernel) (pa_cons (pv 1) pa_nil)) pa_nil)) (blkOk_by (own := [("_law_k", 3)]) (N := ["_law_box_here", "_law_some", "_law_left", "_law_k"]) (sc := defScope s_l_law_mixed) (by decide +kernel)) (fun _ _ _ _ _ => (pg_name (i := 3) sc_l_law_mixed.nd rfl (by first | exact Or.inl rfl | exact Or.inr rfl))) (fun _ _ _ _ _ => pts_nil) (fun _ _ _ _ _ => (pe_bm PySem.F.plainAttrs_list PySem.F.slot_list_pop PySem.F.type_list_pop mt_popAt (pv 2) (pa_cons (pe_call O_l_law_take hr_l_law_take (by rfl) (He.glo_ok hX hG (c.look 39)) K_l_law_take B_l_law_take .nil pass0 (pa_cons (pv 0) (pa_cons (pe_callB call_uLen (by rfl) (He.free_ok hX hG (c.look 2)) (by decide +kernel) (pa_cons (pv 2) pa_nil)) pa_nil))) pa_nil)))))))
theorem sc_l_law_columns : FnScope ["_law_box_here", "_law_many", "_law_letters", "_law_way", "_law_first", "_law_stem", "_law_at", "_law_found", "_law_begin", "_law_k"] ["_law_box_here", "_law_many"] (defScope s_l_law_columns) := ⟨rfl, rfl, rfl, by decide +kernel, rfl, by decide +kernel, by decide +kernel⟩
theorem ok_l_law_columns {P : Program} {w : World} {K : PySem.W.Frag} {mg : Str → Option Value} {base h : Heap} {fd : FuncData} {fd_l_law_mixed : FuncData} {fd_l_law_take : FuncData} (c : SaysA looks defs K) (hX : K.In h) (hG : h.Ns mainGlobals mg) (F_l_law_columns : Fun_l_law_columns K fd) (O_l_law_mixed : FnOk P w K mg base CX0 2 (He.fAd K d_l_law_mixed.at_) fd_l_law_mixed ["_law_box_here", "_law_some"] (sp_l_law_mixed K)) (D_l_law_mixed : Fun_l_law_mixed K fd_l_law_mixed) (O_l_law_take : FnOk P w K mg base CX0 1 (He.fAd K d_l_law_take.at_) fd_l_law_take ["_law_box_here", "_law_many"] (sp_l_law_take K)) (D_l_law_take : Fun_l_law_take K fd_l_law_take) : FnOk P w K mg base CX0 3 (He.fAd K d_l_law_columns.at_) fd ["_law_box_here", "_law_many"] (sp_l_law_columns K) := by
  have B_l_law_mixed := bind_l_law_mixed D_l_law_mixed
  have K_l_law_mixed := D_l_law_mixed.kp
  have B_l_law_take := bind_l_law_take D_l_law_take
  have K_l_law_take := D_l_law_take.kp
  have F := F_l_law_columns
  refine F.ok sc_l_law_columns (fun vs H Q E h => len_l_law_columns h) (fun cdv A outer s H vs Q E hr h => ⟨t_l_law_columns K, PSs.nox ?_, pure_l_law_columns (kf_ok c) vs H Q E h⟩)
  have hu := SL.hu64 hr
  have hr_l_law_mixed : Room 2 _ := hr.mono (by decide)
  have hr_l_law_take : Room 1 _ := hr.mono (by decide)
  exact (pss_cons (ps_set (i := 2) sc_l_law_columns.nd rfl (by first | exact Or.inl rfl | exact Or.inr rfl) pe_str)
    (pss_cons (ps_asg (pe_tup (pa_cons (pe_call O_l_law_take hr_l_law_take (by rfl) (He.glo_ok hX hG (c.look 39)) K_l_law_take B_l_law_take .nil pass0 (pa_cons (pv 0) (pa_cons pe_int pa_nil))) (pa_cons (pe_call O_l_law_take hr_l_law_take (by rfl) (He.glo_ok hX hG (c.look 39)) K_l_law_take B_l_law_take .nil pass0 (pa_cons (pv 0) (pa_cons pe_int pa_nil))) pa_nil))) (pg_tup rfl (pgs_cons (pg_name (i := 3) sc_l_law_columns.nd rfl (by first | exact Or.inl rfl | exact Or.inr rfl)) (pgs_cons (pg_name (i := 4) sc_l_law_columns.nd rfl (by first | exact Or.inl rfl | exact Or.inr rfl)) pgs_nil))))
    (pss_cons (ps_set (i := 5) sc_l_law_columns.nd rfl (by first | exact Or.inl rfl | exact Or.inr rfl) (pe_bm PySem.F.plainAttrs_str PySem.F.slot_str_join PySem.F.type_str_join mt_uJoin pe_str (pa_cons (pe_lc (own := [("_law_k", 9)]) (wi := (iRng1 (tCons (tC (.int 8)) tNil))) (g := (gName 9)) (tt := tYes) (te := (tOp (uIx K) (tVar 2) (tCall (sp_l_law_take K) [] E0 (tCons (tVar 0) (tCons (tC (.int 26)) tNil))))) (by rfl) sc_l_law_columns.nd (pi_range1 rfl (He.free_ok hX hG (c.look 38)) (pa_cons pe_int pa_nil)) (blkOk_by (own := [("_law_k", 9)]) (N := ["_law_box_here", "_law_many", "_law_letters", "_law_way", "_law_first", "_law_stem", "_law_at", "_law_found", "_law_begin", "_law_k"]) (sc := defScope s_l_law_columns) (by decide +kernel)) (fun _ _ _ _ _ => (pg_name (i := 9) sc_l_law_columns.nd rfl (by first | exact Or.inl rfl | exact Or.inr rfl))) (fun _ _ _ _ _ => pts_nil) (fun _ _ _ _ _ => (pe_ix ix_u (pv 2) (pe_call O_l_law_take hr_l_law_take (by rfl) (He.glo_ok hX hG (c.look 39)) K_l_law_take B_l_law_take .nil pass0 (pa_cons (pv 0) (pa_cons pe_int pa_nil))) (fun _ _ => rfl)))) pa_nil)))
    (pss_cons (ps_set (i := 6) sc_l_law_columns.nd rfl (by first | exact Or.inl rfl | exact Or.inr rfl) (pe_call O_l_law_take hr_l_law_take (by rfl) (He.glo_ok hX hG (c.look 39)) K_l_law_take B_l_law_take .nil pass0 (pa_cons (pv 0) (pa_cons pe_int pa_nil))))
    (pss_cons (ps_setLc (i := 7) (own := [("_law_k", 9)]) (wi := (iRng1 (tCons (tVar 1) tNil))) (g := (gName 9)) (tt := tYes) (te := (tOp (uAdd K) (tOp (uAdd K) (tSl (uSl K) (tVar 5) tNoPart (tPart (tVar 6))) (tOp (uIx K) (tVar 2) (tOp SL.rMod (tOp (uAdd K) (tVar 4) (tOp (uMul K) (tC (.int 11)) (tVar 9))) (tC (.int 26))))) (tSl (uSl K) (tVar 5) (tPart (tOp (uAdd K) (tVar 6) (tC (.int 1)))) tNoPart))) (by rfl) sc_l_law_columns.nd rfl rfl (sw_true rfl rfl rfl (by decide +kernel)) (pi_range1 rfl (He.free_ok hX hG (c.look 38)) (pa_cons (pv 1) pa_nil)) (blkOk_by (own := [("_law_k", 9)]) (N := ["_law_box_here", "_law_many", "_law_letters", "_law_way", "_law_first", "_law_stem", "_law_at", "_law_found", "_law_begin", "_law_k"]) (sc := defScope s_l_law_columns) (by decide +kernel)) (fun _ _ _ _ _ => (pg_name (i := 9) sc_l_law_columns.nd rfl (by first | exact Or.inl rfl | exact Or.inr rfl))) (fun _ _ _ _ _ => pts_nil) (fun _ _ _ _ _ => (pe_op op_uAdd (pe_op op_uAdd (pe_slice sl_u (pv 5) po_none (po_some (pv 6))) (pe_ix ix_u (pv 2) (pe_op op_modN (pe_op op_uAdd (pv 4) (pe_op op_uMul pe_int (pv 9))) pe_int) (fun _ _ => rfl))) (pe_slice sl_u (pv 5) (po_some (pe_op op_uAdd (pv 6) pe_int)) po_none))))
    (pss_cons (ps_if (pt_cmpR (op_uEq hu) (pv 3) pe_int (nomark _)) (pss_one (ps_setLc (i := 7) (own := [("_law_k", 9)]) (wi := (iRng1 (tCons (tVar 1) tNil))) (g := (gName 9)) (tt := tYes) (te := (tOp (uIx K) (tVar 2) (tOp SL.rMod (tOp (uAdd K) (tVar 4) (tOp (uMul K) (tC (.int 3)) (tVar 9))) (tC (.int 26))))) (by rfl) sc_l_law_columns.nd rfl rfl (sw_true rfl rfl rfl (by decide +kernel)) (pi_range1 rfl (He.free_ok hX hG (c.look 38)) (pa_cons (pv 1) pa_nil)) (blkOk_by (own := [("_law_k", 9)]) (N := ["_law_box_here", "_law_many", "_law_letters", "_law_way", "_law_first", "_law_stem", "_law_at", "_law_found", "_law_begin", "_law_k"]) (sc := defScope s_l_law_columns) (by decide +kernel)) (fun _ _ _ _ _ => (pg_name (i := 9) sc_l_law_columns.nd rfl (by first | exact Or.inl rfl | exact Or.inr rfl))) (fun _ _ _ _ _ => pts_nil) (fun _ _ _ _ _ => (pe_ix ix_u (pv 2) (pe_op op_modN (pe_op op_uAdd (pv 4) (pe_op op_uMul pe_int (pv 9))) pe_int) (fun _ _ => rfl))))) pss_nil)
    (pss_cons (ps_if (pt_cmpR (op_uEq hu) (pv 3) pe_int (nomark _)) (pss_cons (ps_set (i := 8) sc_l_law_columns.nd rfl (by first | exact Or.inl rfl | exact Or.inr rfl) (pe_call O_l_law_take hr_l_law_take (by rfl) (He.glo_ok hX hG (c.look 39)) K_l_law_take B_l_law_take .nil pass0 (pa_cons (pv 0) (pa_cons pe_int pa_nil))))
    (pss_one (ps_setLc (i := 7) (own := [("_law_k", 9)]) (wi := (iRng1 (tCons (tVar 1) tNil))) (g := (gName 9)) (tt := tYes) (te := (tSl (uSl K) (tVar 5) tNoPart (tPart (tOp (uAdd K) (tOp (uAdd K) (tVar 8) (tVar 9)) (tC (.int 1)))))) (by rfl) sc_l_law_columns.nd rfl rfl (sw_true rfl rfl rfl (by decide +kernel)) (pi_range1 rfl (He.free_ok hX hG (c.look 38)) (pa_cons (pv 1) pa_nil)) (blkOk_by (own := [("_law_k", 9)]) (N := ["_law_box_here", "_law_many", "_law_letters", "_law_way", "_law_first", "_law_stem", "_law_at", "_law_found", "_law_begin", "_law_k"]) (sc := defScope s_l_law_columns) (by decide +kernel)) (fun _ _ _ _ _ => (pg_name (i := 9) sc_l_law_columns.nd rfl (by first | exact Or.inl rfl | exact Or.inr rfl))) (fun _ _ _ _ _ => pts_nil) (fun _ _ _ _ _ => (pe_slice sl_u (pv 5) po_none (po_some (pe_op op_uAdd (pe_op op_uAdd (pv 8) (pv 9)) pe_int))))))) pss_nil)
    (pss_cons (ps_if (pt_cmpR (op_uEq hu) (pv 3) pe_int (nomark _)) (pss_one (ps_setLc (i := 7) (own := [("_law_k", 9)]) (wi := (iRng1 (tCons (tVar 1) tNil))) (g := (gName 9)) (tt := tYes) (te := (tOp (uAdd K) (tOp (uIx K) (tVar 2) (tOp SL.rMod (tOp (uAdd K) (tVar 4) (tOp (uMul K) (tC (.int 7)) (tVar 9))) (tC (.int 26)))) (tSl (uSl K) (tVar 5) tNoPart (tPart (tCall (sp_l_law_take K) [] E0 (tCons (tVar 0) (tCons (tC (.int 8)) tNil))))))) (by rfl) sc_l_law_columns.nd rfl rfl (sw_true rfl rfl rfl (by decide +kernel)) (pi_range1 rfl (He.free_ok hX hG (c.look 38)) (pa_cons (pv 1) pa_nil)) (blkOk_by (own := [("_law_k", 9)]) (N := ["_law_box_here", "_law_many", "_law_letters", "_law_way", "_law_first", "_law_stem", "_law_at", "_law_found", "_law_begin", "_law_k"]) (sc := defScope s_l_law_columns) (by decide +kernel)) (fun _ _ _ _ _ => (pg_name (i := 9) sc_l_law_columns.nd rfl (by first | exact Or.inl rfl | exact Or.inr rfl))) (fun _ _ _ _ _ => pts_nil) (fun _ _ _ _ _ => (pe_op op_uAdd (pe_ix ix_u (pv 2) (pe_op op_modN (pe_op op_uAdd (pv 4) (pe_op op_uMul pe_int (pv 9))) pe_int) (fun _ _ => rfl)) (pe_slice sl_u (pv 5) po_none (po_some (pe_call O_l_law_take hr_l_law_take (by rfl) (He.glo_ok hX hG (c.look 39)) K_l_law_take B_l_law_take .nil pass0 (pa_cons (pv 0) (pa_cons pe_int pa_nil))))))))) pss_nil)
    (pss_one (ps_ret (pe_call O_l_law_mixed hr_l_law_mixed (by rfl) (He.glo_ok hX hG (c.look 40)) K_l_law_mixed B_l_law_mixed .nil pass0 (pa_cons (pv 0) (pa_cons (pv 7) pa_nil)))))))))))))
theorem sc_l_law_drawn_shape : FnScope ["_law_box_here", "_law_columns_here", "_law_fixed", "_law_rest", "_law_span", "_law_column"] ["_law_box_here", "_law_columns_here"] (defScope s_l_law_drawn_shape) := ⟨rfl, rfl, rfl, by decide +kernel, rfl, by decide +kernel, by decide +kernel⟩
theorem ok_l_law_drawn_shape {P : Program} {w : World} {K : PySem.W.Frag} {mg : Str → Option Value} {base h : Heap} {fd : FuncData} {fd_l_law_take : FuncData} {fd_l_law_mixed : FuncData} (c : SaysA looks defs K) (hX : K.In h) (hG : h.Ns mainGlobals mg) (F_l_law_drawn_shape : Fun_l_law_drawn_shape K fd) (O_l_law_take : FnOk P w K mg base CX0 1 (He.fAd K d_l_law_take.at_) fd_l_law_take ["_law_box_here", "_law_many"] (sp_l_law_take K)) (D_l_law_take : Fun_l_law_take K fd_l_law_take) (O_l_law_mixed : FnOk P w K mg base CX0 2 (He.fAd K d_l_law_mixed.at_) fd_l_law_mixed ["_law_box_here", "_law_some"] (sp_l_law_mixed K)) (D_l_law_mixed : Fun_l_law_mixed K fd_l_law_mixed) : FnOk P w K mg base CX0 3 (He.fAd K d_l_law_drawn_shape.at_) fd ["_law_box_here", "_law_columns_here"] (sp_l_law_drawn_shape K) := by
  have B_l_law_take := bind_l_law_take D_l_law_take
  have K_l_law_take := D_l_law_take.kp
  have B_l_law_mixed := bind_l_law_mixed D_l_law_mixed
  have K_l_law_mixed := D_l_law_mixed.kp
  have F := F_l_law_drawn_shape
  refine F.ok sc_l_law_drawn_shape (fun vs H Q E h => len_l_law_drawn_shape h) (fun cdv A outer s H vs Q E hr h => ⟨t_l_law_drawn_shape K, PSs.nox ?_, pure_l_law_drawn_shape (kf_ok c) vs H Q E h⟩)
  have hu := SL.hu64 hr
  have hr_l_law_take : Room 1 _ := hr.mono (by decide)
  have hr_l_law_mixed : Room 2 _ := hr.mono (by decide)
  exact (pss_cons (ps_set (i := 2) sc_l_law_drawn_shape.nd rfl (by first | exact Or.inl rfl | exact Or.inr rfl) (pe_lc (own := [("_law_column", 5)]) (wi := (iU K (tCall (sp_l_law_mixed K) [] E0 (tCons (tVar 0) (tCons (tVar 1) tNil))))) (g := (gName 5)) (tt := (tTest (tOp (uEq K) (tCall (sp_l_law_take K) [] E0 (tCons (tVar 0) (tCons (tC (.int 2)) tNil))) (tC (.int 0))))) (te := (tVar 5)) (by rfl) sc_l_law_drawn_shape.nd (pi_u (pe_call O_l_law_mixed hr_l_law_mixed (by rfl) (He.glo_ok hX hG (c.look 40)) K_l_law_mixed B_l_law_mixed .nil pass0 (pa_cons (pv 0) (pa_cons (pv 1) pa_nil)))) (blkOk_by (own := [("_law_column", 5)]) (N := ["_law_box_here", "_law_columns_here", "_law_fixed", "_law_rest", "_law_span", "_law_column"]) (sc := defScope s_l_law_drawn_shape) (by decide +kernel)) (fun _ _ _ _ _ => (pg_name (i := 5) sc_l_law_drawn_shape.nd rfl (by first | exact Or.inl rfl | exact Or.inr rfl))) (fun _ _ _ _ _ => (pts_one (pt_cmpR (op_uEq hu) (pe_call O_l_law_take hr_l_law_take (by rfl) (He.glo_ok hX hG (c.look 39)) K_l_law_take B_l_law_take .nil pass0 (pa_cons (pv 0) (pa_cons pe_int pa_nil))) pe_int (nomark _)))) (fun _ _ _ _ _ => (pv 5))))
    (pss_cons (ps_setLc (i := 3) (own := [("_law_column", 5)]) (wi := (iU K (tVar 1))) (g := (gName 5)) (tt := (tTest (tOp (uNi K) (tVar 5) (tVar 2)))) (te := (tVar 5)) (by rfl) sc_l_law_drawn_shape.nd rfl rfl (sw_true rfl rfl rfl (by decide +kernel)) (pi_u (pv 1)) (blkOk_by (own := [("_law_column", 5)]) (N := ["_law_box_here", "_law_columns_here", "_law_fixed", "_law_rest", "_law_span", "_law_column"]) (sc := defScope s_l_law_drawn_shape) (by decide +kernel)) (fun _ _ _ _ _ => (pg_name (i := 5) sc_l_law_drawn_shape.nd rfl (by first | exact Or.inl rfl | exact Or.inr rfl))) (fun _ _ _ _ _ => (pts_one (pt_cmpR op_uNi (pv 5) (pv 2) (by rfl)))) (fun _ _ _ _ _ => (pv 5)))
    (pss_cons (ps_set (i := 4) sc_l_law_drawn_shape.nd rfl (by first | exact Or.inl rfl | exact Or.inr rfl) (pe_ifExp (PW.pt (pw_and (pt_cmpR (op_uNe hu) (pv 3) (pe_lst pa_nil) (nomark _)) (pw_and1 (pt_cmpR (op_uEq hu) (pe_call O_l_law_take hr_l_law_take (by rfl) (He.glo_ok hX hG (c.look 39)) K_l_law_take B_l_law_take .nil pass0 (pa_cons (pv 0) (pa_cons pe_int pa_nil))) pe_int (nomark _))))) (pe_ix ix_u (pv 3) (pe_call O_l_law_take hr_l_law_take (by rfl) (He.glo_ok hX hG (c.look 39)) K_l_law_take B_l_law_take .nil pass0 (pa_cons (pv 0) (pa_cons (pe_callB call_uLen (by rfl) (He.free_ok hX hG (c.look 2)) (by decide +kernel) (pa_cons (pv 3) pa_nil)) pa_nil))) (fun _ _ => rfl)) pe_non))
    (pss_one (ps_ret (pe_tup (pa_cons (pv 2) (pa_cons (pv 4) pa_nil))))))))
theorem sc_l_law_reach : FnScope ["_law_columns_here", "_law_fixed", "_law_span", "_law_count", "_law_column"] ["_law_columns_here", "_law_fixed", "_law_span"] (defScope s_l_law_reach) := ⟨rfl, rfl, rfl, by decide +kernel, rfl, by decide +kernel, by decide +kernel⟩
theorem ok_l_law_reach {P : Program} {w : World} {K : PySem.W.Frag} {mg : Str → Option Value} {base h : Heap} {fd : FuncData} (c : SaysA looks defs K) (hX : K.In h) (hG : h.Ns mainGlobals mg) (F_l_law_reach : Fun_l_law_reach K fd) : FnOk P w K mg base CX0 1 (He.fAd K d_l_law_reach.at_) fd ["_law_columns_here", "_law_fixed", "_law_span"] (sp_l_law_reach K) := by
  have F := F_l_law_reach
  refine F.ok sc_l_law_reach (fun vs H Q E h => len_l_law_reach h) (fun cdv A outer s H vs Q E hr h => ⟨t_l_law_reach K, PSs.nox ?_, pure_l_law_reach (kf_ok c) vs H Q E h⟩)
  have hu := SL.hu64 hr
  exact (pss_cons (ps_set (i := 3) sc_l_law_reach.nd rfl (by first | exact Or.inl rfl | exact Or.inr rfl) pe_int)
    (pss_cons (ps_for PassesOwn.never rfl (pi_u (pv 0)) (pg_name (i := 4) sc_l_law_reach.nd rfl (by first | exact Or.inl rfl | exact Or.inr rfl)) (pss_cons (ps_if (pt_cmpR op_uNi (pv 4) (pv 1) (by rfl)) (pss_one (ps_ret (pe_tup (pa_cons (pv 3) (pa_cons (pe_cmpR (op_uEq hu) (pv 4) (pv 2) (nomark _)) pa_nil))))) pss_nil)
    (pss_one (ps_set (i := 3) sc_l_law_reach.nd rfl (by first | exact Or.inl rfl | exact Or.inr rfl) (pe_op op_uAdd (pv 3) pe_int)))))
    (pss_one (ps_ret (pe_tup (pa_cons (pv 3) (pa_cons pe_bl pa_nil)))))))
theorem sc_l_law_serves : FnScope ["_law_columns_here", "_law_fixed", "_law_span", "_law_begin"] ["_law_columns_here", "_law_fixed", "_law_span"] (defScope s_l_law_serves) := ⟨rfl, rfl, rfl, by decide +kernel, rfl, by decide +kernel, by decide +kernel⟩
theorem ok_l_law_serves {P : Program} {w : World} {K : PySem.W.Frag} {mg : Str → Option Value} {base h : Heap} {fd : FuncData} (c : SaysA looks defs K) (hX : K.In h) (hG : h.Ns mainGlobals mg) (F_l_law_serves : Fun_l_law_serves K fd) : FnOk P w K mg base CX0 1 (He.fAd K d_l_law_serves.at_) fd ["_law_columns_here", "_law_fixed", "_law_span"] (sp_l_law_serves K) := by
  have F := F_l_law_serves
  refine F.ok sc_l_law_serves (fun vs H Q E h => len_l_law_serves h) (fun cdv A outer s H vs Q E hr h => ⟨t_l_law_serves K, PSs.nox ?_, pure_l_law_serves (kf_ok c) vs H Q E h⟩)
  have hu := SL.hu64 hr
  exact (pss_cons (ps_set (i := 3) sc_l_law_serves.nd rfl (by first | exact Or.inl rfl | exact Or.inr rfl) (pe_cmpR (op_uEq hu) (pe_callB call_srt (by rfl) (He.free_ok hX hG (c.look 12)) (by decide +kernel) (pa_cons (pe_slice sl_u (pv 0) po_none (po_some (pe_callB call_uLen (by rfl) (He.free_ok hX hG (c.look 2)) (by decide +kernel) (pa_cons (pv 1) pa_nil)))) pa_nil)) (pe_callB call_srt (by rfl) (He.free_ok hX hG (c.look 12)) (by decide +kernel) (pa_cons (pv 1) pa_nil)) (nomark _)))
    (pss_one (ps_ret (pe_and (pv 3) (pe_one (pe_or (pe_cmpR op_uIs (pv 2) pe_non (nomark _)) (pe_one (pe_cmpR (op_uEq hu) (pe_slice sl_u (pv 0) (po_some (pe_callB call_uLen (by rfl) (He.free_ok hX hG (c.look 2)) (by decide +kernel) (pa_cons (pv 1) pa_nil))) (po_some (pe_op op_uAdd (pe_callB call_uLen (by rfl) (He.free_ok hX hG (c.look 2)) (by decide +kernel) (pa_cons (pv 1) pa_nil)) pe_int))) (pe_lst (pa_cons (pv 2) pa_nil)) (nomark _)))))))))
theorem sc_law : FnScope ["_law_script", "_law_k", "_law_box_here", "_law_columns_here", "_law_drawn", "_law_shapes", "_law_turn", "_law_line", "_law_order", "_law_kept", "_law_due", "_law_fixed", "_law_span", "_law_shape", "_law_given", "_law_good", "_law_found", "_law_told"] ["_law_script"] (defScope s_law) := ⟨rfl, rfl, rfl, by decide +kernel, rfl, by decide +kernel, by decide +kernel⟩
theorem ok_law {P : Program} {w : World} {K : PySem.W.Frag} {mg : Str → Option Value} {base h : Heap} {fd : FuncData} {fd_served_shapes : FuncData} {fd_Order_D_init_D : FuncData} {fd_Order_columns : FuncData} {fd_Shape_D_eq_D : FuncData} {fd_Shape_D_str_D : FuncData} {fd_Order_serves : FuncData} {fd_l_law_serves : FuncData} {fd_Order_reach : FuncData} {fd_l_law_reach : FuncData} {fd_l_law_mixed : FuncData} {fd_Shape_D_init_D : FuncData} {fd_l_law_take : FuncData} {fd_l_law_drawn_shape : FuncData} {fd_l_law_columns : FuncData} {fd_l_law_box : FuncData} {fd_l_law_cell : FuncData} (c : SaysA looks defs K) (hX : K.In h) (hG : h.Ns mainGlobals mg) (F_law : Fun_law K fd) (O_served_shapes : FnOk P w K mg base CX0 5 (He.fAd K d_served_shapes.at_) fd_served_shapes ["order", "shapes"] (sp_served_shapes K)) (D_served_shapes : Fun_served_shapes K fd_served_shapes) (O_Order_D_init_D : FnOk P w K mg base CX0 3 (He.fAd K d_Order_D_init_D.at_) fd_Order_D_init_D ["self", "columns"] (sp_Order_D_init_D K)) (D_Order_D_init_D : Fun_Order_D_init_D K fd_Order_D_init_D) (O_Order_columns : FnOk P w K mg base CX0 1 (He.fAd K d_Order_columns.at_) fd_Order_columns ["self"] (sp_Order_columns K)) (D_Order_columns : Fun_Order_columns K fd_Order_columns) (O_Shape_D_eq_D : FnOk P w K mg base CX0 1 (He.fAd K d_Shape_D_eq_D.at_) fd_Shape_D_eq_D ["self", "other"] (sp_Shape_D_eq_D K)) (D_Shape_D_eq_D : Fun_Shape_D_eq_D K fd_Shape_D_eq_D) (O_Shape_D_str_D : FnOk P w K mg base CX0 1 (He.fAd K d_Shape_D_str_D.at_) fd_Shape_D_str_D ["self"] (sp_Shape_D_str_D K)) (D_Shape_D_str_D : Fun_Shape_D_str_D K fd_Shape_D_str_D) (O_Order_serves : FnOk P w K mg base CX0 4 (He.fAd K d_Order_serves.at_) fd_Order_serves ["self", "shape"] (sp_Order_serves K)) (D_Order_serves : Fun_Order_serves K fd_Order_serves) (O_l_law_serves : FnOk P w K mg base CX0 1 (He.fAd K d_l_law_serves.at_) fd_l_law_serves ["_law_columns_here", "_law_fixed", "_law_span"] (sp_l_law_serves K)) (D_l_law_serves : Fun_l_law_serves K fd_l_law_serves) (O_Order_reach : FnOk P w K mg base CX0 3 (He.fAd K d_Order_reach.at_) fd_Order_reach ["self", "shape"] (sp_Order_reach K)) (D_Order_reach : Fun_Order_reach K fd_Order_reach) (O_l_law_reach : FnOk P w K mg base CX0 1 (He.fAd K d_l_law_reach.at_) fd_l_law_reach ["_law_columns_here", "_law_fixed", "_law_span"] (sp_l_law_reach K)) (D_l_law_reach : Fun_l_law_reach K fd_l_law_reach) (O_l_law_mixed : FnOk P w K mg base CX0 2 (He.fAd K d_l_law_mixed.at_) fd_l_law_mixed ["_law_box_here", "_law_some"] (sp_l_law_mixed K)) (D_l_law_mixed : Fun_l_law_mixed K fd_l_law_mixed) (O_Shape_D_init_D : FnOk P w K mg base CX0 2 (He.fAd K d_Shape_D_init_D.at_) fd_Shape_D_init_D ["self", "fixed", "span"] (sp_Shape_D_init_D K)) (D_Shape_D_init_D : Fun_Shape_D_init_D K fd_Shape_D_init_D) (O_l_law_take : FnOk P w K mg base CX0 1 (He.fAd K d_l_law_take.at_) fd_l_law_take ["_law_box_here", "_law_many"] (sp_l_law_take K)) (D_l_law_take : Fun_l_law_take K fd_l_law_take) (O_l_law_drawn_shape : FnOk P w K mg base CX0 3 (He.fAd K d_l_law_drawn_shape.at_) fd_l_law_drawn_shape ["_law_box_here", "_law_columns_here"] (sp_l_law_drawn_shape K)) (D_l_law_drawn_shape : Fun_l_law_drawn_shape K fd_l_law_drawn_shape) (O_l_law_columns : FnOk P w K mg base CX0 3 (He.fAd K d_l_law_columns.at_) fd_l_law_columns ["_law_box_here", "_law_many"] (sp_l_law_columns K)) (D_l_law_columns : Fun_l_law_columns K fd_l_law_columns) (O_l_law_box : FnOk P w K mg base CX0 1 (He.fAd K d_l_law_box.at_) fd_l_law_box ["_law_cell_here"] (sp_l_law_box K)) (D_l_law_box : Fun_l_law_box K fd_l_law_box) (O_l_law_cell : FnOk P w K mg base CX0 1 (He.fAd K d_l_law_cell.at_) fd_l_law_cell ["_law_script", "_law_k"] (sp_l_law_cell K)) (D_l_law_cell : Fun_l_law_cell K fd_l_law_cell) : SL.FnG P w K mg base CX0 6 (He.fAd K d_law.at_) fd ["_law_script"] (sp_law K) := by
  have B_served_shapes := bind_served_shapes D_served_shapes
  have K_served_shapes := D_served_shapes.kp
  have B_Order_D_init_D := bind_Order_D_init_D D_Order_D_init_D
  have K_Order_D_init_D := D_Order_D_init_D.kp
  have B_Order_columns := bind_Order_columns D_Order_columns
  have K_Order_columns := D_Order_columns.kp
  have B_Shape_D_eq_D := bind_Shape_D_eq_D D_Shape_D_eq_D
  have K_Shape_D_eq_D := D_Shape_D_eq_D.kp
  have B_Shape_D_str_D := bind_Shape_D_str_D D_Shape_D_str_D
  have K_Shape_D_str_D := D_Shape_D_str_D.kp
  have B_Order_serves := bind_Order_serves D_Order_serves
  have K_Order_serves := D_Order_serves.kp
  have B_l_law_serves := bind_l_law_serves D_l_law_serves
  have K_l_law_serves := D_l_law_serves.kp
  have B_Order_reach := bind_Order_reach D_Order_reach
  have K_Order_reach := D_Order_reach.kp
  have B_l_law_reach := bind_l_law_reach D_l_law_reach
  have K_l_law_reach := D_l_law_reach.kp
  have B_l_law_mixed := bind_l_law_mixed D_l_law_mixed
  have K_l_law_mixed := D_l_law_mixed.kp
  have B_Shape_D_init_D := bind_Shape_D_init_D D_Shape_D_init_D
  have K_Shape_D_init_D := D_Shape_D_init_D.kp
  have B_l_law_take := bind_l_law_take D_l_law_take
  have K_l_law_take := D_l_law_take.kp
  have B_l_law_drawn_shape := bind_l_law_drawn_shape D_l_law_drawn_shape
  have K_l_law_drawn_shape := D_l_law_drawn_shape.kp
  have B_l_law_columns := bind_l_law_columns D_l_law_columns
  have K_l_law_columns := D_l_law_columns.kp
  have B_l_law_box := bind_l_law_box D_l_law_box
  have K_l_law_box := D_l_law_box.kp
  have B_l_law_cell := bind_l_law_cell D_l_law_cell
  have K_l_law_cell := D_l_law_cell.kp
  have F := F_law
  refine SL.fun_g F sc_law (fun vs H Q E h => len_law h) (fun cdv A hg0 outer s H vs Q E hr h => ⟨t_law K, PSs.nox ?_, pure_law (kf_ok c) vs H Q E h⟩)
  have hg : (A.deeper (envOfC d_law.qual d_law.scope s.heap.objs.size (He.fAd K d_law.at_) cdv)).guards = some [] := SL.guards_deeper hg0
  have hu := SL.hu64 hr
  have hr_served_shapes : Room 5 _ := hr.mono (by decide)
  have hr_Order_D_init_D_1 : Room 4 _ := hr.mono (by decide)
  have hr_Order_columns : Room 1 _ := hr.mono (by decide)
  have hr_Shape_D_eq_D_1 : Room 2 _ := hr.mono (by decide)
  have hr_Shape_D_str_D_2 : Room 3 _ := hr.mono (by decide)
  have hr_Order_serves : Room 4 _ := hr.mono (by decide)
  have hr_l_law_serves : Room 1 _ := hr.mono (by decide)
  have hr_Order_reach : Room 3 _ := hr.mono (by decide)
  have hr_l_law_reach : Room 1 _ := hr.mono (by decide)
  have hr_l_law_mixed : Room 2 _ := hr.mono (by decide)
  have hr_Shape_D_init_D_1 : Room 3 _ := hr.mono (by decide)
  have hr_l_law_take : Room 1 _ := hr.mono (by decide)
  have hr_l_law_drawn_shape : Room 3 _ := hr.mono (by decide)
  have hr_l_law_columns : Room 3 _ := hr.mono (by decide)
  have hr_l_law_box : Room 1 _ := hr.mono (by decide)
  have hr_l_law_cell : Room 1 _ := hr.mono (by decide)
  exact (pss_cons (ps_for PassesOwn.never rfl (pi_range1 rfl (He.free_ok hX hG (c.look 38)) (pa_cons (pe_callB (call_max2 rfl) (by rfl) (He.free_ok hX hG (c.look 37)) (by decide +kernel) (pa_cons pe_int (pa_cons (pe_callB (call_min2 rfl) (by rfl) (He.free_ok hX hG (c.look 43)) (by decide +kernel) (pa_cons (pe_callB call_uLen (by rfl) (He.free_ok hX hG (c.look 2)) (by decide +kernel) (pa_cons (pv 0) pa_nil)) (pa_cons pe_int pa_nil))) pa_nil))) pa_nil)) (pg_name (i := 1) sc_law.nd rfl (by first | exact Or.inl rfl | exact Or.inr rfl)) (pss_cons (ps_set (i := 2) sc_law.nd rfl (by first | exact Or.inl rfl | exact Or.inr rfl) (pe_call O_l_law_box hr_l_law_box (by rfl) (He.glo_ok hX hG (c.look 55)) K_l_law_box B_l_law_box .nil pass0 (pa_cons (pe_call O_l_law_cell hr_l_law_cell (by rfl) (He.glo_ok hX hG (c.look 56)) K_l_law_cell B_l_law_cell .nil pass0 (pa_cons (pv 0) (pa_cons (pv 1) pa_nil))) pa_nil)))
    (pss_cons (ps_set (i := 3) sc_law.nd rfl (by first | exact Or.inl rfl | exact Or.inr rfl) (pe_call O_l_law_columns hr_l_law_columns (by rfl) (He.glo_ok hX hG (c.look 54)) K_l_law_columns B_l_law_columns .nil pass0 (pa_cons (pv 2) (pa_cons (pe_op op_uAdd pe_int (pe_call O_l_law_take hr_l_law_take (by rfl) (He.glo_ok hX hG (c.look 39)) K_l_law_take B_l_law_take .nil pass0 (pa_cons (pv 2) (pa_cons pe_int pa_nil)))) pa_nil))))
    (pss_cons (ps_setLc (i := 4) (own := [("_law_turn", 6)]) (wi := (iRng1 (tCons (tCall (sp_l_law_take K) [] E0 (tCons (tVar 2) (tCons (tC (.int 13)) tNil))) tNil))) (g := (gName 6)) (tt := tYes) (te := (tCall (sp_l_law_drawn_shape K) [] E0 (tCons (tVar 2) (tCons (tVar 3) tNil)))) (by rfl) sc_law.nd rfl rfl (sw_true rfl rfl rfl (by decide +kernel)) (pi_range1 rfl (He.free_ok hX hG (c.look 38)) (pa_cons (pe_call O_l_law_take hr_l_law_take (by rfl) (He.glo_ok hX hG (c.look 39)) K_l_law_take B_l_law_take .nil pass0 (pa_cons (pv 2) (pa_cons pe_int pa_nil))) pa_nil)) (blkOk_by (own := [("_law_turn", 6)]) (N := ["_law_script", "_law_k", "_law_box_here", "_law_columns_here", "_law_drawn", "_law_shapes", "_law_turn", "_law_line", "_law_order", "_law_kept", "_law_due", "_law_fixed", "_law_span", "_law_shape", "_law_given", "_law_good", "_law_found", "_law_told"]) (sc := defScope s_law) (by decide +kernel)) (fun _ _ _ _ _ => (pg_name (i := 6) sc_law.nd rfl (by first | exact Or.inl rfl | exact Or.inr rfl))) (fun _ _ _ _ _ => pts_nil) (fun _ _ _ _ _ => (pe_call O_l_law_drawn_shape hr_l_law_drawn_shape (by rfl) (He.glo_ok hX hG (c.look 53)) K_l_law_drawn_shape B_l_law_drawn_shape .nil pass0 (pa_cons (pv 2) (pa_cons (pv 3) pa_nil)))))
    (pss_cons (ps_set (i := 4) sc_law.nd rfl (by first | exact Or.inl rfl | exact Or.inr rfl) (pe_slice sl_u (pe_op op_uAdd (pv 4) (pe_slice sl_u (pv 4) po_none (po_some (pe_call O_l_law_take hr_l_law_take (by rfl) (He.glo_ok hX hG (c.look 39)) K_l_law_take B_l_law_take .nil pass0 (pa_cons (pv 2) (pa_cons pe_int pa_nil)))))) po_none (po_some pe_int)))
    (pss_cons (ps_setLc (i := 5) (own := [("_law_fixed", 11), ("_law_span", 12)]) (wi := (iU K (tVar 4))) (g := (gTup K 2 (gCons (gName 11) (gCons (gName 12) gNil)))) (tt := tYes) (te := (tMake (He.ga K "Shape") (sp_Shape_D_init_D K) [] E0 (tCons (tVar 11) (tCons (tVar 12) tNil)))) (by rfl) sc_law.nd rfl rfl (sw_true rfl rfl rfl (by decide +kernel)) (pi_u (pv 4)) (blkOk_by (own := [("_law_fixed", 11), ("_law_span", 12)]) (N := ["_law_script", "_law_k", "_law_box_here", "_law_columns_here", "_law_drawn", "_law_shapes", "_law_turn", "_law_line", "_law_order", "_law_kept", "_law_due", "_law_fixed", "_law_span", "_law_shape", "_law_given", "_law_good", "_law_found", "_law_told"]) (sc := defScope s_law) (by decide +kernel)) (fun _ _ _ _ _ => (pg_tup rfl (pgs_cons (pg_name (i := 11) sc_law.nd rfl (by first | exact Or.inl rfl | exact Or.inr rfl)) (pgs_cons (pg_name (i := 12) sc_law.nd rfl (by first | exact Or.inl rfl | exact Or.inr rfl)) pgs_nil)))) (fun _ _ _ _ _ => pts_nil) (fun _ _ _ _ _ => (pe_make (He.mkr_ok (c.look 52)) O_Shape_D_init_D hr_Shape_D_init_D_1 rfl (He.glo_ok hX hG (c.look 18)) B_Shape_D_init_D .nil pass0 (pa_cons (pv 11) (pa_cons (pv 12) pa_nil)))))
    (pss_one (ps_for PassesOwn.never rfl (pi_range1 rfl (He.free_ok hX hG (c.look 38)) (pa_cons pe_int pa_nil)) (pg_name (i := 6) sc_law.nd rfl (by first | exact Or.inl rfl | exact Or.inr rfl)) (pss_cons (ps_set (i := 7) sc_law.nd rfl (by first | exact Or.inl rfl | exact Or.inr rfl) (pe_call O_l_law_mixed hr_l_law_mixed (by rfl) (He.glo_ok hX hG (c.look 40)) K_l_law_mixed B_l_law_mixed .nil pass0 (pa_cons (pv 2) (pa_cons (pv 3) pa_nil))))
    (pss_cons (ps_par (i := 8) (j := 9) (by rfl) sc_law.nd rfl rfl (by decide) rfl rfl (pa_cons (pe_make (He.mkr_ok (c.look 42)) O_Order_D_init_D hr_Order_D_init_D_1 rfl (He.glo_ok hX hG (c.look 31)) B_Order_D_init_D .nil pass0 (pa_cons (pv 7) pa_nil)) (pa_cons (pe_callTy call_list_u (by rfl) (He.free_ok hX hG (c.look 8)) (by decide +kernel) (pa_cons (pv 5) pa_nil)) pa_nil)) (by rfl))
    (pss_cons (ps_set (i := 10) sc_law.nd rfl (by first | exact Or.inl rfl | exact Or.inr rfl) (pe_lst pa_nil))
    (pss_cons (ps_for PassesOwn.never rfl (pi_zip (by rfl) (He.free_ok hX hG (c.look 47)) (pa_cons (pv 4) (pa_cons (pv 5) pa_nil))) (pg_tup rfl (pgs_cons (pg_tup rfl (pgs_cons (pg_name (i := 11) sc_law.nd rfl (by first | exact Or.inl rfl | exact Or.inr rfl)) (pgs_cons (pg_name (i := 12) sc_law.nd rfl (by first | exact Or.inl rfl | exact Or.inr rfl)) pgs_nil))) (pgs_cons (pg_name (i := 13) sc_law.nd rfl (by first | exact Or.inl rfl | exact Or.inr rfl)) pgs_nil))) (pss_cons (ps_if (pt_cmpR (op_uNe hu) (pe_callB (call_uRepr hg hu) (by rfl) (He.free_ok hX hG (c.look 49)) (by decide +kernel) (pa_cons (pe_meth (pv 8) (ownB_ok (c.look 26)).cls (He.meth_ok (c.look 30)) O_Order_reach hr_Order_reach B_Order_reach .nil pass0 (pa_cons (pv 13) pa_nil)) pa_nil)) (pe_callB (call_uRepr hg hu) (by rfl) (He.free_ok hX hG (c.look 49)) (by decide +kernel) (pa_cons (pe_call O_l_law_reach hr_l_law_reach (by rfl) (He.glo_ok hX hG (c.look 51)) K_l_law_reach B_l_law_reach .nil pass0 (pa_cons (pv 7) (pa_cons (pv 11) (pa_cons (pv 12) pa_nil)))) pa_nil)) (nomark _)) (pss_one (ps_ret pe_bl)) pss_nil)
    (pss_cons (ps_set (i := 15) sc_law.nd rfl (by first | exact Or.inl rfl | exact Or.inr rfl) (pe_call O_l_law_serves hr_l_law_serves (by rfl) (He.glo_ok hX hG (c.look 50)) K_l_law_serves B_l_law_serves .nil pass0 (pa_cons (pv 7) (pa_cons (pv 11) (pa_cons (pv 12) pa_nil)))))
    (pss_cons (ps_if (pt_cmpR (op_uNe hu) (pe_callB (call_uRepr hg hu) (by rfl) (He.free_ok hX hG (c.look 49)) (by decide +kernel) (pa_cons (pe_meth (pv 8) (ownB_ok (c.look 26)).cls (He.meth_ok (c.look 33)) O_Order_serves hr_Order_serves B_Order_serves .nil pass0 (pa_cons (pv 13) pa_nil)) pa_nil)) (pe_callB (call_uRepr hg hu) (by rfl) (He.free_ok hX hG (c.look 49)) (by decide +kernel) (pa_cons (pv 15) pa_nil)) (nomark _)) (pss_one (ps_ret pe_bl)) pss_nil)
    (pss_one (ps_set (i := 10) sc_law.nd rfl (by first | exact Or.inl rfl | exact Or.inr rfl) (pe_op op_uAdd (pv 10) (pe_op op_uMul (pe_lst (pa_cons (pv 13) pa_nil)) (pe_callTy call_int_u (by rfl) (He.free_ok hX hG (c.look 48)) (by decide +kernel) (pa_cons (pv 15) pa_nil))))))))))
    (pss_cons (ps_for PassesOwn.never rfl (pi_u (pe_tup (pa_cons (pv 5) (pa_cons (pe_callTy call_tuple_u (by rfl) (He.free_ok hX hG (c.look 7)) (by decide +kernel) (pa_cons (pv 5) pa_nil)) pa_nil)))) (pg_name (i := 14) sc_law.nd rfl (by first | exact Or.inl rfl | exact Or.inr rfl)) (pss_cons (ps_set (i := 16) sc_law.nd rfl (by first | exact Or.inl rfl | exact Or.inr rfl) (pe_call O_served_shapes hr_served_shapes (by rfl) (He.glo_ok hX hG (c.look 41)) K_served_shapes B_served_shapes .nil pass0 (pa_cons (pv 8) (pa_cons (pv 14) pa_nil))))
    (pss_cons (ps_setLc (i := 17) (own := [("_law_shape", 13)]) (wi := (iU K (tVar 16))) (g := (gName 13)) (tt := tYes) (te := (tCB (rStrO (He.ga K "Shape") (sp_Shape_D_str_D K) E0) (tCons (tVar 13) tNil))) (by rfl) sc_law.nd rfl rfl (sw_true rfl rfl rfl (by decide +kernel)) (pi_u (pv 16)) (blkOk_by (own := [("_law_shape", 13)]) (N := ["_law_script", "_law_k", "_law_box_here", "_law_columns_here", "_law_drawn", "_law_shapes", "_law_turn", "_law_line", "_law_order", "_law_kept", "_law_due", "_law_fixed", "_law_span", "_law_shape", "_law_given", "_law_good", "_law_found", "_law_told"]) (sc := defScope s_law) (by decide +kernel)) (fun _ _ _ _ _ => (pg_name (i := 13) sc_law.nd rfl (by first | exact Or.inl rfl | exact Or.inr rfl))) (fun _ _ _ _ _ => pts_nil) (fun _ _ _ _ _ => (pe_callTy (call_strO (specB_ok (c.look 45)).1 (specB_ok (c.look 45)).2 (raw0 O_Shape_D_str_D B_Shape_D_str_D) hr_Shape_D_str_D_2 pass0) (by rfl) (He.free_ok hX hG (c.look 5)) (by decide +kernel) (pa_cons (pv 13) pa_nil))))
    (pss_cons (ps_if (PW.pt (pw_or (pt_not (pt_tru (pe_callB call_vIsi (by rfl) (He.free_ok hX hG (c.look 4)) (by decide +kernel) (pa_cons (pv 16) (pa_cons (pe_bltn (v := .ty "list") rfl (He.free_ok hX hG (c.look 8)) (by decide +kernel) rfl) pa_nil))) (by intro _; rfl))) (pw_or1 (pt_cmpR (op_uNe hu) (pv 17) (pe_lc (own := [("_law_shape", 13)]) (wi := (iU K (tVar 10))) (g := (gName 13)) (tt := tYes) (te := (tCB (rStrO (He.ga K "Shape") (sp_Shape_D_str_D K) E0) (tCons (tVar 13) tNil))) (by rfl) sc_law.nd (pi_u (pv 10)) (blkOk_by (own := [("_law_shape", 13)]) (N := ["_law_script", "_law_k", "_law_box_here", "_law_columns_here", "_law_drawn", "_law_shapes", "_law_turn", "_law_line", "_law_order", "_law_kept", "_law_due", "_law_fixed", "_law_span", "_law_shape", "_law_given", "_law_good", "_law_found", "_law_told"]) (sc := defScope s_law) (by decide +kernel)) (fun _ _ _ _ _ => (pg_name (i := 13) sc_law.nd rfl (by first | exact Or.inl rfl | exact Or.inr rfl))) (fun _ _ _ _ _ => pts_nil) (fun _ _ _ _ _ => (pe_callTy (call_strO (specB_ok (c.look 45)).1 (specB_ok (c.look 45)).2 (raw0 O_Shape_D_str_D B_Shape_D_str_D) hr_Shape_D_str_D_2 pass0) (by rfl) (He.free_ok hX hG (c.look 5)) (by decide +kernel) (pa_cons (pv 13) pa_nil)))) (nomark _))))) (pss_one (ps_ret pe_bl)) pss_nil)
    (pss_one (ps_expr (pe_bm PySem.F.plainAttrs_list PySem.F.slot_list_append PySem.F.type_list_append mt_append (pv 16) (pa_cons pe_non pa_nil))))))))
    (pss_one (ps_if (PW.pt (pw_or (pt_cmpR (op_neL O_Shape_D_eq_D (specB_ok (c.look 44)).1 (specB_ok (c.look 44)).2 B_Shape_D_eq_D pass0 hr_Shape_D_eq_D_1) (pv 5) (pv 9) (nomark _)) (pw_or1 (pt_cmpR (op_uNe hu) (pe_meth0 (pv 8) (ownB_ok (c.look 26)).cls (He.meth_ok (c.look 35)) O_Order_columns hr_Order_columns B_Order_columns .nil pass0) (pv 7) (nomark _))))) (pss_one (ps_ret pe_bl)) pss_nil)))))))))))))))
    (pss_one (ps_ret (pe_cmpR (op_uEq hu) (pe_call O_served_shapes hr_served_shapes (by rfl) (He.glo_ok hX hG (c.look 41)) K_served_shapes B_served_shapes .nil pass0 (pa_cons (pe_make (He.mkr_ok (c.look 42)) O_Order_D_init_D hr_Order_D_init_D_1 rfl (He.glo_ok hX hG (c.look 31)) B_Order_D_init_D .nil pass0 (pa_cons (pe_lst (pa_cons pe_str pa_nil)) pa_nil)) (pa_cons (pe_lst pa_nil) pa_nil))) (pe_lst pa_nil) (nomark _)))))
abbrev loose : List Str := "_wall" :: "__name__" :: "SearchError" :: "MissingError" :: "InvalidName" :: "InvalidColumns" :: "DuplicateName" :: "InvalidShape" :: "InvalidShapes" :: "InvalidOrder" :: "TooMany" :: "UnknownColumn" :: "LETTERS" :: "LONGEST_NAME" :: "is_name" :: "is_list" :: "MAX_COLUMNS" :: "NOTHING" :: "Shape" :: "MOST_COLUMNS" :: "MOST_SHAPES" :: "checked_columns" :: "need_known" :: "need_all_known" :: "Order" :: "need_order" :: "served_shapes" :: "_law_cell" :: "_law_box" :: "_law_take" :: "_law_mixed" :: "_law_columns" :: "_law_drawn_shape" :: "_law_reach" :: "_law_serves" :: []
abbrev R : PySem.W.OpenRow := PySem.W.OpenLaw.row PySem.Challenge.rw_searchorders_k12_shapes_served
abbrev hk : PySem.W.Hook := PM.hookA 6 looks defs
def ob (s : PySem.W.SharedT) : PM.AlA := PM.obsAG 6 looks defs (HandSHeadRun.getT s)
theorem ob_eq (s : PySem.W.SharedT) : ob s = hk.obs s.abs := PM.obsAG_eq (HandSHeadRun.getT_eq s)
theorem run (w : World) : HandSHeadRun.RunEq R (PySem.W.view R.prog [39]) hk ob 12000 loose w := by
  intro os
  kernel_rfl
theorem facts {P : Program} {w : World} {K : PySem.W.Frag} {h : Heap} {mg : Str → Option Value} {f : Addr} (X : K.In h) (G : h.Ns mainGlobals mg) (hfa : mg ("law" : Str) = some (.ref f)) (c : PM.SaysA looks defs K) :
    ∃ fd : FuncData, (∀ (s : Shared) (v : Value), BindsTo s fd ⟨[v], []⟩ [("_law_script", v)]) ∧ ∀ base : Heap, K.In base → base.Ns mainGlobals mg → SL.FnG P w K mg base CX0 6 f fd ["_law_script"] (sp_law K) := by
  obtain ⟨fd_is_name, F_is_name⟩ := c.defn 0 (d := ⟨fun K => (He.fAd K d_is_name.at_), d_is_name⟩) rfl
  obtain ⟨fd_is_list, F_is_list⟩ := c.defn 1 (d := ⟨fun K => (He.fAd K d_is_list.at_), d_is_list⟩) rfl
  obtain ⟨fd_Shape_D_init_D, F_Shape_D_init_D⟩ := c.defn 2 (d := ⟨fun K => (He.fAd K d_Shape_D_init_D.at_), d_Shape_D_init_D⟩) rfl
  obtain ⟨fd_Shape_span, F_Shape_span⟩ := c.defn 3 (d := ⟨fun K => (pgA K "Shape" "span"), d_Shape_span⟩) rfl
  obtain ⟨fd_Shape_fixed, F_Shape_fixed⟩ := c.defn 4 (d := ⟨fun K => (He.fAd K d_Shape_fixed.at_), d_Shape_fixed⟩) rfl
  obtain ⟨fd_Shape_columns, F_Shape_columns⟩ := c.defn 5 (d := ⟨fun K => (He.fAd K d_Shape_columns.at_), d_Shape_columns⟩) rfl
  obtain ⟨fd_Shape_D_eq_D, F_Shape_D_eq_D⟩ := c.defn 6 (d := ⟨fun K => (He.fAd K d_Shape_D_eq_D.at_), d_Shape_D_eq_D⟩) rfl
  obtain ⟨fd_Shape_D_str_D, F_Shape_D_str_D⟩ := c.defn 7 (d := ⟨fun K => (He.fAd K d_Shape_D_str_D.at_), d_Shape_D_str_D⟩) rfl
  obtain ⟨fd_checked_columns, F_checked_columns⟩ := c.defn 8 (d := ⟨fun K => (He.fAd K d_checked_columns.at_), d_checked_columns⟩) rfl
  obtain ⟨fd_need_known, F_need_known⟩ := c.defn 9 (d := ⟨fun K => (He.fAd K d_need_known.at_), d_need_known⟩) rfl
  obtain ⟨fd_need_all_known, F_need_all_known⟩ := c.defn 10 (d := ⟨fun K => (He.fAd K d_need_all_known.at_), d_need_all_known⟩) rfl
  obtain ⟨fd_Order_D_init_D, F_Order_D_init_D⟩ := c.defn 11 (d := ⟨fun K => (He.fAd K d_Order_D_init_D.at_), d_Order_D_init_D⟩) rfl
  obtain ⟨fd_Order_columns, F_Order_columns⟩ := c.defn 12 (d := ⟨fun K => (He.fAd K d_Order_columns.at_), d_Order_columns⟩) rfl
  obtain ⟨fd_Order_reach, F_Order_reach⟩ := c.defn 13 (d := ⟨fun K => (He.fAd K d_Order_reach.at_), d_Order_reach⟩) rfl
  obtain ⟨fd_Order_serves, F_Order_serves⟩ := c.defn 14 (d := ⟨fun K => (He.fAd K d_Order_serves.at_), d_Order_serves⟩) rfl
  obtain ⟨fd_need_order, F_need_order⟩ := c.defn 15 (d := ⟨fun K => (He.fAd K d_need_order.at_), d_need_order⟩) rfl
  obtain ⟨fd_served_shapes, F_served_shapes⟩ := c.defn 16 (d := ⟨fun K => (He.fAd K d_served_shapes.at_), d_served_shapes⟩) rfl
  obtain ⟨fd_l_law_cell, F_l_law_cell⟩ := c.defn 17 (d := ⟨fun K => (He.fAd K d_l_law_cell.at_), d_l_law_cell⟩) rfl
  obtain ⟨fd_l_law_box, F_l_law_box⟩ := c.defn 18 (d := ⟨fun K => (He.fAd K d_l_law_box.at_), d_l_law_box⟩) rfl
  obtain ⟨fd_l_law_take, F_l_law_take⟩ := c.defn 19 (d := ⟨fun K => (He.fAd K d_l_law_take.at_), d_l_law_take⟩) rfl
  obtain ⟨fd_l_law_mixed, F_l_law_mixed⟩ := c.defn 20 (d := ⟨fun K => (He.fAd K d_l_law_mixed.at_), d_l_law_mixed⟩) rfl
  obtain ⟨fd_l_law_columns, F_l_law_columns⟩ := c.defn 21 (d := ⟨fun K => (He.fAd K d_l_law_columns.at_), d_l_law_columns⟩) rfl
  obtain ⟨fd_l_law_drawn_shape, F_l_law_drawn_shape⟩ := c.defn 22 (d := ⟨fun K => (He.fAd K d_l_law_drawn_shape.at_), d_l_law_drawn_shape⟩) rfl
  obtain ⟨fd_l_law_reach, F_l_law_reach⟩ := c.defn 23 (d := ⟨fun K => (He.fAd K d_l_law_reach.at_), d_l_law_reach⟩) rfl
  obtain ⟨fd_l_law_serves, F_l_law_serves⟩ := c.defn 24 (d := ⟨fun K => (He.fAd K d_l_law_serves.at_), d_l_law_serves⟩) rfl
  obtain ⟨fd_law, F_law⟩ := c.defn 25 (d := ⟨fun K => (He.fAd K d_law.at_), d_law⟩) rfl
  have e := hfa.symm.trans (He.glo_ok X G (c.look 57))
  cases e
  have b := FunD.bindsA (ps := ["_law_script"]) F_law fun _ _ _ _ _ _ us hl => match us, hl with | [_], _ => rfl
  refine ⟨fd_law, fun s v => b s [v] rfl, fun base X2 G2 => ?_⟩
  have O_is_name := ok_is_name (P := P) (w := w) (base := base) c X G F_is_name
  have O_is_list := ok_is_list (P := P) (w := w) (base := base) c X G F_is_list
  have O_Shape_D_init_D := ok_Shape_D_init_D (P := P) (w := w) (base := base) c X G F_Shape_D_init_D O_is_name F_is_name O_is_list F_is_list
  have O_Shape_span := ok_Shape_span (P := P) (w := w) (base := base) c X G F_Shape_span
  have O_Shape_fixed := ok_Shape_fixed (P := P) (w := w) (base := base) c X G F_Shape_fixed
  have O_Shape_columns := ok_Shape_columns (P := P) (w := w) (base := base) c X G F_Shape_columns
  have O_Shape_D_eq_D := ok_Shape_D_eq_D (P := P) (w := w) (base := base) c X G F_Shape_D_eq_D
  have O_Shape_D_str_D := ok_Shape_D_str_D (P := P) (w := w) (base := base) c X G F_Shape_D_str_D
  have O_checked_columns := ok_checked_columns (P := P) (w := w) (base := base) c X G F_checked_columns O_is_name F_is_name O_is_list F_is_list
  have O_need_known := ok_need_known (P := P) (w := w) (base := base) c X G F_need_known O_Shape_columns F_Shape_columns
  have O_need_all_known := ok_need_all_known (P := P) (w := w) (base := base) c X G F_need_all_known O_need_known F_need_known O_is_list F_is_list
  have O_Order_D_init_D := ok_Order_D_init_D (P := P) (w := w) (base := base) c X G F_Order_D_init_D O_checked_columns F_checked_columns
  have O_Order_columns := ok_Order_columns (P := P) (w := w) (base := base) c X G F_Order_columns
  have O_Order_reach := ok_Order_reach (P := P) (w := w) (base := base) c X G F_Order_reach O_Shape_span F_Shape_span O_Shape_fixed F_Shape_fixed O_need_known F_need_known
  have O_Order_serves := ok_Order_serves (P := P) (w := w) (base := base) c X G F_Order_serves O_Shape_span F_Shape_span O_Shape_fixed F_Shape_fixed O_Order_reach F_Order_reach
  have O_need_order := ok_need_order (P := P) (w := w) (base := base) c X G F_need_order
  have O_served_shapes := ok_served_shapes (P := P) (w := w) (base := base) c X G F_served_shapes O_Order_serves F_Order_serves O_need_all_known F_need_all_known O_Order_columns F_Order_columns O_need_order F_need_order
  have O_l_law_cell := ok_l_law_cell (P := P) (w := w) (base := base) c X G F_l_law_cell
  have O_l_law_box := ok_l_law_box (P := P) (w := w) (base := base) c X G F_l_law_box
  have O_l_law_take := ok_l_law_take (P := P) (w := w) (base := base) c X G F_l_law_take
  have O_l_law_mixed := ok_l_law_mixed (P := P) (w := w) (base := base) c X G F_l_law_mixed O_l_law_take F_l_law_take
  have O_l_law_columns := ok_l_law_columns (P := P) (w := w) (base := base) c X G F_l_law_columns O_l_law_mixed F_l_law_mixed O_l_law_take F_l_law_take
  have O_l_law_drawn_shape := ok_l_law_drawn_shape (P := P) (w := w) (base := base) c X G F_l_law_drawn_shape O_l_law_take F_l_law_take O_l_law_mixed F_l_law_mixed
  have O_l_law_reach := ok_l_law_reach (P := P) (w := w) (base := base) c X G F_l_law_reach
  have O_l_law_serves := ok_l_law_serves (P := P) (w := w) (base := base) c X G F_l_law_serves
  have O_law := ok_law (P := P) (w := w) (base := base) c X G F_law O_served_shapes F_served_shapes O_Order_D_init_D F_Order_D_init_D O_Order_columns F_Order_columns O_Shape_D_eq_D F_Shape_D_eq_D O_Shape_D_str_D F_Shape_D_str_D O_Order_serves F_Order_serves O_l_law_serves F_l_law_serves O_Order_reach F_Order_reach O_l_law_reach F_l_law_reach O_l_law_mixed F_l_law_mixed O_Shape_D_init_D F_Shape_D_init_D O_l_law_take F_l_law_take O_l_law_drawn_shape F_l_law_drawn_shape O_l_law_columns F_l_law_columns O_l_law_box F_l_law_box O_l_law_cell F_l_law_cell
  exact O_law
end K12
open PySem PySem.W PySem.Calls PyProof.Rows
theorem PySem.Challenge.cw_searchorders_k12_shapes_served_holds : PySem.Challenge.rw_searchorders_k12_shapes_served.Holds := by
  w_on; o_law
  refine HandSHeadRun.head_any (r := OpenLaw.row PySem.Challenge.rw_searchorders_k12_shapes_served) (q := view (OpenLaw.row PySem.Challenge.rw_searchorders_k12_shapes_served).prog [39]) (H := K12.hk) (ob := K12.ob) (M := 12000) (loose := K12.loose) (d := HandSHeadRun.topDef (OpenLaw.row PySem.Challenge.rw_searchorders_k12_shapes_served).prog 39) (kwd := []) K12.ob_eq
    (by kernel_rfl) (fun s => by kernel_rfl) K12.run (by kernel_rfl) (by kernel_rfl) (by kernel_rfl) (by rfl) (by first | assumption | decide +kernel) (by decide +kernel) ⟨rfl, rfl, rfl, rfl, rfl, by decide +kernel⟩ ?hw ?hc
  case hw => w_witness2
  case hc =>
    refine SL.walk_g (l := PySem.Challenge.rw_searchorders_k12_shapes_served) (n := 63) (k := 6) (x := "_law_script") (CX := L2.CX0) rfl (by decide) (by kernel_rfl) ⟨rfl, by decide, by decide⟩ ?F (fun _ _ _ _ z => z)
    intro w mg fa h Y G hmg0
    obtain ⟨K, KX, c⟩ := Y
    have hmg : mg ("law" : PySem.Str) = some (.ref fa) := by
      have e : (HandSHeadRun.topDef (OpenLaw.row PySem.Challenge.rw_searchorders_k12_shapes_served).prog 39).name = ("law" : PySem.Str) := by kernel_rfl
      rw [← e]
      exact hmg0
    obtain ⟨fd, hb, hF⟩ := K12.facts (P := (PySem.Challenge.rw_searchorders_k12_shapes_served).prog) (w := w) KX G hmg c
    exact ⟨K, fd, K12.sp_law K, KX, hb, fun H a ns hl _ hS => ((K12.law_ok ns hl).elim fun _ h => PM.law_sp h hS), hF⟩
