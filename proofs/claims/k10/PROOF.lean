import PyProof.Rows.All
import Wide.All
import OpenK.AllK
import Wide.FinOn
import HandS.ForMost
import HandS.Exc
import HandS.TryOnly
import HandS.ExcOwn
import HandS.WordsExc
import HandS.Flow
import HandS.Defaults
import HandS.IsInst
import HandS.Wide
import HandS.TupAny
import HandS.TupMul
import HandS.Head0
import HandS.Head1
import HandS.Head2
import HandS.HeadEnd
import HandS.HeadHook1
import HandS.HeadHook2
import PyProof.ReprRoads
import HandS.Sort
import HandS.More
import HandS.RaiseMore
import HandS.Conv
import HandS.Style
import PyProof.IsiBase
import PyProof.FactsAll.set
import PyProof.IsiH_set
import KE.KExcIs
import HandS.ExcInit
import HandS.Walk
import HandS.StrMore
import HandS.MakeKwOnly
import HandS.Codes
import OpenK.KOps
import KE.KCallOwn
import HandS.OwnEq
import HandS.SlotsOwn
import PyProof.InstNe
import PyProof.EqKinds
import PyProof.NeKinds
import KE.GoesEnum
import PyProof.TupleOfSeq
import HandS.ExcValue
import HandS.ExcField
import HandS.Property
import HandS.FStr
import HandS.Deep
import HandS.Dict
import PyProof.FString4
import HandS.Small
import HandS.Spec
import HandS.SetBool
import HandS.SetKeys
import HandS.Strs
import PySem.Challenge.RW_searchorders_k10_orders_told
set_option Elab.async false
set_option linter.all false
set_option maxRecDepth 100000
set_option maxHeartbeats 0
namespace SL
open PySem PySem.Spec PyProof.Rows L2
/-- as the layer's promise, where no guard stands around the call -/
structure FnG (P : Program) (w : World) (K : PySem.W.Frag) (mg : Str → Option Value) (base : Heap) (CX : CXT) (k : Nat) (f : Addr) (fd : FuncData) (ps : List Str) (sp : Sp) : Prop where
  len : ∀ vs H Q E, sp vs H Q E → vs.length = ps.length
  go : ∀ (A : Around), A.guards = some [] → ∀ (outer : List Env) (s : Shared) (H : Hp) (args : Args) (us : List Value) (vs : List V) (Q : VK) (E : XK), Room k A →
    Env0 P w K mg base A outer s H → BindsTo s fd args (ps.zip us) → Vals vs us → sp vs H Q E → codeAny (model P w) A (.call (.ref f) args) (CR CX outer P w H s Q E) s
section
variable {P : Program} {w : World} {K : PySem.W.Frag} {mg : Str → Option Value} {base : Heap} {CX : CXT} {j k : Nat} {f : Addr} {fd : FuncData} {ps : List Str} {sp sp' : Sp}
theorem FnG.of (F : FnOk P w K mg base CX k f fd ps sp) : FnG P w K mg base CX k f fd ps sp :=
  ⟨F.len, fun A _ outer s H args us vs Q E hr => F.run A outer s H args us vs Q E hr⟩
theorem FnG.mono (F : FnG P w K mg base CX j f fd ps sp) (h : j ≤ k) : FnG P w K mg base CX k f fd ps sp :=
  ⟨F.len, fun A g outer s H args us vs Q E hr => F.go A g outer s H args us vs Q E (hr.mono h)⟩
/-- a def by its body; the body may use that no guard stands around -/
theorem fn_g {name qual : Str} {params : Arguments} {body : List Stmt} {scope : Scope} {dV kV doc pm cdv ct oc : Value} {an od : Option Addr} {osl : Array (Option Value)} {N : List Str}
    (lk : K.lookup f = some ⟨oc, od, .func (PySem.W.fnOf name qual params body scope dV kV doc pm an cdv ct), osl⟩) (hcd : PySem.W.codeIn K cdv qual = true) (S : FnScope N ps scope)
    (len : ∀ vs H Q E, sp vs H Q E → vs.length = ps.length)
    (hb : ∀ (A : Around), A.guards = some [] → ∀ (outer : List Env) (s : Shared) (H : Hp) (vs : List V) (Q : VK) (E : XK), Room k (A.deeper (envOfC qual scope s.heap.objs.size f cdv)) → sp vs H Q E →
      ∃ t, PSs (cxOf CX P w K mg base N qual scope f cdv A outer s H E) body t ∧ t { nx := fun _ H' => Q .non H', rt := Q } (start N vs) H) :
    FnG P w K mg base CX (k + 1) f (PySem.W.fnOf name qual params body scope dV kV doc pm an cdv ct) ps sp := by
  constructor
  · exact len
  · intro A hg outer s H args us vs Q E room e0 bnd rv hs
    have lenv : vs.length = ps.length := len vs H Q E hs
    have inK : K.In s.heap := e0.mod.kin.keeps (fun b o e => (e0.bs b o e).1)
    have noL : s.heap.NoLimit := e0.mod.nolimit.keeps (fun b o e => (e0.bs b o e).1)
    have hk : ∀ y ∈ ps.zip us, scope.names.lookup y.1 = some .local ∨ (scope.names.lookup y.1 = some .cell ∧ ((cellsFrom (s.heap.objs.size + 1) scope.names []).lookup y.1).isSome = true) := by
      rintro ⟨n, v⟩ hy
      cases S.par n (List.of_mem_zip hy).1 with
      | inl z => exact Or.inl z
      | inr z => exact Or.inr ⟨z, PySem.W.cellsFrom_some _ _ _ (Or.inl z)⟩
    refine codeAny_call_function room.depth (inK _ _ lk) rfl S.co S.gen rfl (PySem.W.codeRec_of inK hcd) (bnd _ _ _ _ ?_)
    refine wpAny_newFunctionEnv_cells S.kind hk (fun env henv s1 inc => ?_)
    subst henv
    refine ⟨noL.keeps inc.toInCall.keep, codeAny_func ?_⟩
    rcases hb A hg outer s H vs Q E (room.deeper _) hs with ⟨t, pss, rd⟩
    have iv : Inv (cxOf CX P w K mg base N qual scope f cdv A outer s H E) [] (start N vs) H s1 := inv_start S room.hd e0 lenv rv inc
    refine wpAny_mono (pss.run [] s1 (start N vs) H _ iv rd) ?_ (fun _ _ z => z)
    have done : ∀ {σ' : L2.St} {H' : Hp} {v : V} {u : Value} {s' : Shared}, Inv (cxOf CX P w K mg base N qual scope f cdv A outer s H E) [] σ' H' s' → RelV v u → Q v H' → CE outer P w H s Q u s' := by
      intro σ' H' v u s' J r q
      exact ⟨v, H', J.os, J.bare, J.base, J.hok, r, q⟩
    intro fl s' z
    match fl, z with
    | .ret u, ⟨v, σ', H', J, r, q⟩ => exact done J r q
    | .next, ⟨σ', H', J, q⟩ => exact done (v := V.non) (u := Value.none) J rfl q
    | .brk, ⟨_, _, _, q⟩ => exact q.elim
    | .cont, ⟨_, _, _, q⟩ => exact q.elim
/-- the same of a def of the text, told by the head -/
theorem fun_g {x qual : Str} {params : Arguments} {body : List Stmt} {scope : Scope} {dvs : List V} {kws : List (Str × V)} {N : List Str} (F : FunD K x qual params body scope dvs kws f fd) (S : FnScope N ps scope)
    (len : ∀ vs H Q E, sp vs H Q E → vs.length = ps.length)
    (hb : ∀ (cdv : Value) (A : Around), A.guards = some [] → ∀ (outer : List Env) (s : Shared) (H : Hp) (vs : List V) (Q : VK) (E : XK), Room k (A.deeper (envOfC qual scope s.heap.objs.size f cdv)) → sp vs H Q E →
      ∃ t, PSs (cxOf CX P w K mg base N qual scope f cdv A outer s H E) body t ∧ t { nx := fun _ H' => Q .non H', rt := Q } (start N vs) H) : FnG P w K mg base CX (k + 1) f fd ps sp := by
  obtain ⟨oc, od, dV, kV, doc, pm, an, cdv, ct, osl, rfl, lk, hcd, _, _⟩ := F.ex
  exact fn_g lk hcd S len fun A hg outer s H vs Q E hr hs => hb cdv A hg outer s H vs Q E hr hs
end
section
variable {X : Cx} {CX : CXT} {k : Nat} {f : Addr} {fd : FuncData} {ps : List Str} {sp : Sp} {dvs : List V} {ds : List Value} {E : XK} {x : Str} {p pos : Pos} {e : Expr} {es : List Expr} {t : TA}
theorem call_g {pins : List (Addr × Obj)} {σ : L2.St} {H : Hp} {s : Shared} {Q : VK} {us : List Value} {vs : List V} (F : FnG X.prog X.w X.K X.mg X.base CX k f fd ps sp) (hg : X.A.guards = some []) (hr : Room k X.A) (hb : Binds X.K fd ps ds)
    (hd : Vals dvs ds) (hx : Passes CX X E) (I : Inv X pins σ H s) (r : Vals vs us) (h : sp (vs ++ dvs) H Q E) : wpAny (model X.prog X.w) X.A (call (.ref f) us) (EP X pins σ Q) X.xe s := by
  have r2 : Vals (vs ++ dvs) (us ++ ds) := r.append hd
  have lenu : (us ++ ds).length = ps.length := r2.length.symm.trans (F.len _ _ _ _ h)
  refine wpAny_call (codeAny_mono (F.go X.A hg X.stack s H ⟨us, []⟩ (us ++ ds) (vs ++ dvs) Q E hr I.env0 (hb s us I.kIn lenu) r2 h) ?_)
  intro r s' z
  match r, z with
  | .error e, z => exact hx pins σ H s e s' I z
  | .ok (.ret u), z => exact I.after z
  | .ok .next, z => exact z.elim
  | .ok .brk, z => exact z.elim
  | .ok .cont, z => exact z.elim
/-- f(e, ..) -/
theorem pe_cg (F : FnG X.prog X.w X.K X.mg X.base CX k f fd ps sp) (hg : X.A.guards = some []) (hr : Room k X.A) (gl : Gl X x) (hm : X.mg x = some (.ref f)) (hk : PySem.W.keepIn X.K (.ref f) = true) (hb : Binds X.K fd ps ds) (hd : Vals dvs ds)
    (hx : Passes CX X E) (ha : PA X (e :: es) t) (hdb : (x == ("__debug__" : Str)) = false := by decide) (he : starEach (e :: es) X.env = (false, eval e X.env) :: starEach es X.env := by rfl)
    (hpl : (backTo pos (starEach es X.env)).any (·.1) = false := by rfl) : PE X (.Call (.Name x p) (e :: es) [] pos) (tCall sp dvs E t) := by
  constructor
  intro pins s σ H Q I h
  refine wpAny_Call_Name_kw (ld_glob I gl hm ?_ hdb)
  refine PySem.W.callWith_K (h₀ := X.base) I.ok.mod.kin hk (thn (ha.run pos pins s σ H _ I h) ?_) he hpl
  rintro us s1 ⟨vs, H1, I1, r, q⟩
  exact ⟨I1.kIn, call_g F hg hr hb hd hx I1 r q⟩
end
/-- the abstract heap at the law's entry: the script alone, locked as its object, unless it is the text's own -/
def entryH (a : Addr) (o : Obj) (xs : List V) : Hp := fun b => if b = a then some (.frz o (.lst xs)) else none
theorem entryH_ne {a b : Addr} {o : Obj} {xs : List V} (h : b ≠ a) : entryH a o xs b = none := if_neg h
theorem entryH_at {a : Addr} {o : Obj} {xs : List V} : entryH a o xs a = some (.frz o (.lst xs)) := if_pos rfl
section
variable {P : Program} {w : World} {K : PySem.W.Frag} {mg mb : Str → Option Value} {CX : CXT} {k : Nat} {fa a : Addr} {fd : FuncData} {x : Str} {sp : Sp} {s₁ : Shared} {vs : List Value} {ns : List Int}
/-- the law's call, once an abstract heap is chosen that tracks at most the script -/
theorem call_from (KX : K.In s₁.heap) (hns : s₁.heap.Ns mainGlobals mg) (hb : s₁.heap.Ns builtinsNs mb) (hbb : ∀ x : Str, x ≠ "__name__" → mb x = bootBuiltins x) (hlim : s₁.heap.NoLimit) (hg : s₁.gens = #[])
    (ha : s₁.heap.get? a = some { cls := .type "list", data := .seq vs.toArray }) (hr : Room k callerA)
    (F : ∀ base : Heap, K.In base → base.Ns mainGlobals mg → FnG P w K mg base CX k fa fd [x] sp) (hbind : ∀ (s : Shared) (u : Value), BindsTo s fd ⟨[u], []⟩ [(x, u)])
    (hCX : ∀ H e s', CX [] H s₁ (fun _ _ _ => False) e s' → False) (H : Hp) (only : ∀ b, H b = none ∨ (b = a ∧ ∃ o xs, H b = some (.frz o (.lst xs)))) (hK : H a ≠ none → K.lookup a = none) (ok : HOk P w H s₁.heap)
    (hsp : sp [.ref a] H (fun v _ => v = .bl true) fun _ _ _ => False) :
    codeAny (model P w) callerA (.call (.ref fa) ⟨[.ref a], []⟩) (fun r s' => r = .ok (.ret (.bool true)) ∧ OldK s₁.heap s'.heap ∧ s'.os = s₁.os ∧ AllBare s'.gens) s₁ := by
  have dictFree : ∀ {b : Addr} {o : Obj} {es : Array DictEntry} {ep : Nat}, s₁.heap.get? b = some o → o.data = .dict es ep → H b = none := by
    intro b o es ep hb hd
    rcases only b with z | ⟨rfl, _⟩
    · exact z
    · rw [ha] at hb
      cases hb
      cases hd
  have inB : ∀ {b : Addr} {o : Obj}, s₁.heap.get? b = some o → H b = none → (hidT s₁.heap H).get? b = some o := fun e n => hidT_get e n
  have nsB : ∀ {b : Addr} {m : Str → Option Value}, s₁.heap.Ns b m → (hidT s₁.heap H).Ns b m := by
    rintro b m ⟨o, es, ep, e, d, r⟩
    exact ⟨o, es, ep, inB e (dictFree e d), d, r⟩
  have kB : K.In (hidT s₁.heap H) := by
    intro b o e
    refine inB (KX b o e) ?_
    rcases only b with z | ⟨rfl, o', xs, z⟩
    · exact z
    · have q := hK (by rw [z]; exact fun y => by cases y)
      rw [q] at e
      cases e
  obtain ⟨mc, m1, m2⟩ := hlim
  have md : Mod K mg (hidT s₁.heap H) := ⟨kB, nsB hns, ⟨mb, nsB hb, hbb⟩, mc, nsB m1, m2⟩
  have ev : Env0 P w K mg (hidT s₁.heap H) callerA [] s₁ H := ⟨rfl, md, fun b o e => of_hidT e, Nat.le_of_eq (hidT_size _ _), trivial, fun b z => (List.not_mem_nil z).elim, ok, .of_eq hg⟩
  refine codeAny_mono ((F _ kB (nsB hns)).go callerA rfl [] s₁ H ⟨[.ref a], []⟩ [.ref a] [.ref a] _ _ hr ev (hbind s₁ (.ref a)) (.cons rfl .nil) hsp) ?_
  intro r s' z
  match r, z with
  | .error e, z => exact (hCX H e s' z).elim
  | .ok .next, z => exact z.elim
  | .ok .brk, z => exact z.elim
  | .ok .cont, z => exact z.elim
  | .ok (.ret u), z =>
    obtain ⟨v, H', hos, hbare, un, ok', rv, rfl⟩ := z
    cases (show u = Value.bool true from rv)
    refine ⟨rfl, OldK.of_keep (fun b o e => ?_), hos, hbare⟩
    rcases only b with q | ⟨rfl, ob, xs, q⟩
    · exact un.keep b o e q (fun y => (List.not_mem_nil y).elim) (fun y => (List.not_mem_nil y).elim)
    · have e1 := (ok b _ q).1
      have e2 := (ok' b _ (un.frzs b ob _ q)).1
      rw [e] at e1
      cases e1
      exact e2
theorem law_g (KX : K.In s₁.heap) (hns : s₁.heap.Ns mainGlobals mg) (hb : s₁.heap.Ns builtinsNs mb) (hbb : ∀ x : Str, x ≠ "__name__" → mb x = bootBuiltins x) (hlim : s₁.heap.NoLimit) (hg : s₁.gens = #[])
    (ha : s₁.heap.get? a = some { cls := .type "list", data := .seq vs.toArray }) (hi : IntsAre vs ns) (hl : ns.length ≤ sizeLine) (hr : Room k callerA)
    (F : ∀ base : Heap, K.In base → base.Ns mainGlobals mg → FnG P w K mg base CX k fa fd [x] sp) (hbind : ∀ (s : Shared) (u : Value), BindsTo s fd ⟨[u], []⟩ [(x, u)])
    (hCX : ∀ H e s', CX [] H s₁ (fun _ _ _ => False) e s' → False)
    (hsp : ∀ H : Hp, Only H → SqL K H a (ns.map V.int) → sp [.ref a] H (fun v _ => v = .bl true) fun _ _ _ => False) :
    codeAny (model P w) callerA (.call (.ref fa) ⟨[.ref a], []⟩) (fun r s' => r = .ok (.ret (.bool true)) ∧ OldK s₁.heap s'.heap ∧ s'.os = s₁.os ∧ AllBare s'.gens) s₁ := by
  have rv := vals_ints hi
  cases hk : K.lookup a with
  | some o =>
    have e : s₁.heap.get? a = some o := KX a o hk
    rw [ha] at e
    cases e
    refine call_from KX hns hb hbb hlim hg ha hr F hbind hCX (fun _ => none) (fun _ => Or.inl rfl) (fun z => absurd rfl z) (fun b u z => by cases (show (none : Option HO) = some u from z)) (hsp _ (fun _ => Or.inl rfl) ?_)
    exact Or.inr ⟨_, vs.toArray, _, hk, rfl, rfl, rfl, (by rw [List.size_toArray, hi.length]; exact hl), (by simpa using rv)⟩
  | none =>
    have only : ∀ b, entryH a { cls := .type "list", data := .seq vs.toArray } (ns.map V.int) b = none ∨ (b = a ∧ ∃ o xs, entryH a { cls := .type "list", data := .seq vs.toArray } (ns.map V.int) b = some (.frz o (.lst xs))) := by
      intro b
      by_cases e : b = a
      · subst e
        exact Or.inr ⟨rfl, _, _, entryH_at⟩
      · exact Or.inl (entryH_ne e)
    refine call_from KX hns hb hbb hlim hg ha hr F hbind hCX _ only (fun _ => hk) ?_ (hsp _ (fun b => (only b).imp id fun z => z.2) (Or.inl (Or.inr ⟨_, entryH_at⟩)))
    intro b u z
    rcases only b with q | ⟨rfl, _⟩
    · rw [q] at z
      cases z
    · rw [entryH_at] at z
      cases z
      exact ⟨ha, (by rw [List.length_map]; exact hl), vs, _, rv, ha⟩
end
/-- the goal that the head leaves, from the law's promise -/
theorem walk_g {l : PySem.W.OpenLaw} {n k : Nat} {q : Program} {loose : List Str} {XP : (Str → Option Value) → Heap → Prop} {YP : World → Heap → Prop} {d : DefRec} {CX : CXT} {x : Str}
    (hn : l.most = some n) (hn2 : n ≤ sizeLine) (hdf : d.params.defaults = []) (hr : Room k callerA)
    (F : ∀ (w : World) (mg : Str → Option Value) (fa : Addr) (h : Heap), YP w h → h.Ns mainGlobals mg → mg d.name = some (.ref fa) →
      ∃ (K : PySem.W.Frag) (fd : FuncData) (sp : Sp), K.In h ∧ (∀ (s : Shared) (u : Value), BindsTo s fd ⟨[u], []⟩ [(x, u)]) ∧
        (∀ (H : Hp) (a : Addr) (ns : List Int), ns.length ≤ n → Only H → SqL K H a (ns.map V.int) → sp [.ref a] H (fun v _ => v = .bl true) fun _ _ _ => False) ∧
        ∀ base : Heap, K.In base → base.Ns mainGlobals mg → FnG l.prog w K mg base CX k fa fd [x] sp)
    (hCX : ∀ (H : Hp) (s : Shared) (e : Value) (s' : Shared), CX [] H s (fun _ _ _ => False) e s' → False) :
    PySem.W.WalkO q loose XP YP l.row.toRowW d [] (fun f vs => PySem.call f vs) := by
  refine Att.attach_call hn hdf ?_
  intro w s₀ s₁ mg mb fa o pm cd doc a vs ns G Y ho hd hcd hmg hobj hints hlen hg
  obtain ⟨K, fd, sp, KX, hb, hs, hF⟩ := F w mg fa _ Y G.T.g hmg
  exact law_g KX G.T.g G.T.b G.T.builtins G.T.nolimit hg hobj hints (Nat.le_trans hlen hn2) hr hF hb (fun H e s' => hCX H s₁ e s') (fun H hO hS => hs H a ns hlen hO hS)
end SL
namespace SL
open PySem PySem.Spec PyProof.Rows L2
abbrev Looks := List (PySem.W.Frag → Bool)
abbrev AlM : Type := Bool × List He.FnW
def obsM (ok : Looks) (fn : List He.DefD) (K : PySem.W.Frag) : AlM := ((ok.all fun f => f K) && fn.all fun d => d.ok K, fn.map fun d => He.fnW K d.at_)
def valM (fn : List He.DefD) : AlM := (true, fn.map He.DefD.val)
/-- what the end leans on -/
def Says (ok : Looks) (fn : List He.DefD) (K : PySem.W.Frag) : Prop := obsM ok fn K = valM fn
section
variable {ok : Looks} {fn : List He.DefD} {K : PySem.W.Frag}
theorem Says.look (c : Says ok fn K) (i : Nat) {f : PySem.W.Frag → Bool} (h : ok[i]? = some f := by rfl) : f K = true := by
  have c1 : ((ok.all fun f => f K) && fn.all fun d => d.ok K) = true := congrArg Prod.fst c
  exact List.all_eq_true.mp (Bool.and_eq_true_iff.mp c1).1 f (List.mem_of_getElem? h)
theorem Says.defn (c : Says ok fn K) (i : Nat) {d : He.DefD} (h : fn[i]? = some d := by rfl) : ∃ fd, FunD K d.name d.qual d.params d.body d.scope (d.dvs K) (d.kws K) (He.fAd K d.at_) fd := by
  have c1 : ((ok.all fun f => f K) && fn.all fun d => d.ok K) = true := congrArg Prod.fst c
  have c2 : fn.map (fun d => He.fnW K d.at_) = fn.map He.DefD.val := congrArg Prod.snd c
  have c3 : (fn.map fun d => He.fnW K d.at_)[i]? = (fn.map He.DefD.val)[i]? := congrArg (fun l => l[i]?) c2
  rw [List.getElem?_map, List.getElem?_map, h] at c3
  exact He.DefD.funD (Option.some.inj c3) (List.all_eq_true.mp (Bool.and_eq_true_iff.mp c1).2 d (List.mem_of_getElem? h))
end
end SL
namespace SL
open PySem PySem.Spec PyProof.Rows L2
theorem hu64 {k : Nat} {A : Around} {env : Env} (hr : Room k (A.deeper env)) : (A.deeper env).units + 130 < cLine := by
  have := hr.un
  omega
theorem guards_deeper {A : Around} {env : Env} (h : A.guards = some []) : (A.deeper env).guards = some [] := by
  first
    | exact h
    | simp [Around.deeper, h]
section
variable {mg : Str → Option Value} {x : Str}
theorem gv_int {i : Int} (h : ∃ t, mg x = some (.int i t)) : ∃ u, mg x = some u ∧ RelV (.int i) u := by
  obtain ⟨t, e⟩ := h
  exact ⟨_, e, t, rfl⟩
theorem gv_str {z : Str} (h : ∃ t, mg x = some (.str z t)) : ∃ u, mg x = some u ∧ RelV (.str z) u := by
  obtain ⟨t, e⟩ := h
  exact ⟨_, e, t, rfl⟩
theorem gv_ref {a : Addr} (h : mg x = some (.ref a)) : ∃ u, mg x = some u ∧ RelV (.ref a) u := ⟨_, h, rfl⟩
end
abbrev rSub : R2 := rI0 fun i j => .int (i - j)
abbrev rMod : R2 := rI (fun _ j => j ≠ 0) fun i j => .int (i.fmod j)
abbrev rDiv : R2 := rI CDivW fun i j => .int (i / j)
abbrev rPow : R2 := rI CPow fun i j => .int (i ^ j.toNat)
abbrev rNeg : V → Hp → VK → Prop := rU fun i => .int (-i)
def rAddI : R2 := rI0 fun i j => .int (i + j)
def rAddS : R2 := fun x y H Q => ∃ i j, x = .str i ∧ y = .str j ∧ i.length + j.length ≤ sizeLine ∧ Q (.str (i ++ j)) H
def uAdd (K : PySem.W.Frag) : R2 := fun x y H Q => rAddI x y H Q ∨ rAddS x y H Q ∨ rCat x y H Q ∨ rCatA K x y H Q
def rMulW : R2 := rI CMulW fun i j => .int (i * j)
def uMul (K : PySem.W.Frag) : R2 := fun x y H Q => rMulW x y H Q ∨ rRep x y H Q ∨ rRepT K x y H Q
section
variable {X : Cx}
theorem op_uAdd : OpR X (binaryOp .Add) (uAdd X.K) := op_add.or (op_add_str.or (op_cat.or op_catA))
theorem op_uMul : OpR X (binaryOp .Mult) (uMul X.K) := op_mulW.or (op_rep.or op_repT)
end
def uEq (K : PySem.W.Frag) : R2 := fun x y H Q => rEq x y H Q ∨ rEqD K x y H Q
def uNe (K : PySem.W.Frag) : R2 := fun x y H Q => rNe x y H Q ∨ rNeD K x y H Q
def rLtI : R2 := rI0 fun i j => .bl (decide (i < j))
def rLtS : R2 := fun x y H Q => ∃ i j, x = .str i ∧ y = .str j ∧ Q (.bl (decide (i.cps.toList < j.cps.toList))) H
def uLt (K : PySem.W.Frag) : R2 := fun x y H Q => rLtI x y H Q ∨ rLtS x y H Q ∨ rLtT K x y H Q
def uLe : R2 := rI0 fun i j => .bl (decide (i ≤ j))
abbrev rGt : R2 := rI0 fun i j => .bl (decide (j < i))
def rInS : R2 := fun x y H Q => ∃ (c : Nat) (z : Str), x = .str ⟨#[c]⟩ ∧ y = .str z ∧ Q (.bl (decide (c ∈ z.cps.toList))) H
def rNiS : R2 := fun x y H Q => ∃ (c : Nat) (z : Str), x = .str ⟨#[c]⟩ ∧ y = .str z ∧ Q (.bl (!decide (c ∈ z.cps.toList))) H
def rInR : R2 := fun x y H Q => ∃ i a lo hi, x = V.int i ∧ y = V.ref a ∧ H a = some (.rng lo hi) ∧ Q (.bl (decide (lo ≤ i ∧ i < hi))) H
def uIn (K : PySem.W.Frag) : R2 := fun x y H Q => rInS x y H Q ∨ rIn K false x y H Q ∨ rInR x y H Q
def uNi (K : PySem.W.Frag) : R2 := fun x y H Q => rNiS x y H Q ∨ rIn K true x y H Q
def uIs : R2 := fun x y H Q => y = .non ∧ Q (.bl (decide (x = .non))) H
def uIsnt : R2 := fun x y H Q => y = .non ∧ Q (.bl (!decide (x = .non))) H
section
variable {X : Cx}
theorem op_uEq (hu : X.A.units + 130 < cLine) : OpR X (compareOp .Eq) (uEq X.K) := op_eq.or (op_eqD (by omega))
theorem op_uNe (hu : X.A.units + 130 < cLine) : OpR X (compareOp .NotEq) (uNe X.K) := op_ne.or (op_neD (by omega))
theorem op_uLt (hu : X.A.units + 130 < cLine) : OpR X (compareOp .Lt) (uLt X.K) := op_lt.or (op_lt_str.or (op_ltT (by omega)))
theorem op_uLe : OpR X (compareOp .LtE) uLe := op_le
theorem op_uIn : OpR X (compareOp .In) (uIn X.K) := op_in_sign.or (op_in_seq.or op_in_rng)
theorem op_uNi : OpR X (compareOp .NotIn) (uNi X.K) := op_notIn_sign.or op_notIn_seq
theorem op_uIs : OpR X (compareOp .Is) uIs := op_isN
theorem op_uIn0 : OpR X (compareOp .IsNot) uIsnt := op_notN
end
def uIx (K : PySem.W.Frag) : R2 := rIx K
theorem ix_u {X : Cx} : IxR X (uIx X.K) := ix_seq
def uSl (K : PySem.W.Frag) : V → Option Int → Option Int → Hp → VK → Prop := fun x lo hi H Q => rSlS x lo hi H Q ∨ rSlL K x lo hi H Q ∨ rSlA K x lo hi H Q
theorem sl_u {X : Cx} : SlR X (uSl X.K) := sl_str.or (sl_list.or sl_tupA)
/-- what is walked -/
theorem PI.or {X : Cx} {tg it : Expr} {w1 w2 : TI} (h1 : PI X tg it w1) (h2 : PI X tg it w2) : PI X tg it (fun σ H R => w1 σ H R ∨ w2 σ H R) :=
  ⟨fun pins s σ H R I h => h.elim (h1.run pins s σ H R I) (h2.run pins s σ H R I)⟩
def iU (K : PySem.W.Frag) (t : TE) : TI := fun σ H R => iList K t σ H R ∨ (iTup K t σ H R ∨ iStr t σ H R)
theorem pi_u {X : Cx} {tg e : Expr} {t : TE} (h : PE X e t) : PI X tg e (iU X.K t) := PI.or (pi_list h) (PI.or (pi_tup h) (pi_str h))
/-- a test by the value's truth -/
def tTruK (K : PySem.W.Frag) (t : TE) : TT := fun σ H Q => t σ H fun x H' => ∃ k, TruV K x H' k ∧ Q k H'
theorem pt_tru {X : Cx} {a : Expr} {t : TE} (h : PE X a t) (he : ∀ whole, isTrue a X.env whole = (do let v ← whole; standAt a.pos; holding [v] (truthy v))) : PT X a (tTruK X.K t) := pt_truth h he
def uLen (K : PySem.W.Frag) : List V → Hp → VK → Prop := fun xs H Q => (∃ p ys, xs = [.ref p] ∧ (SqL K H p ys ∨ SqT K H p ys) ∧ Q (.int ys.length) H) ∨ (∃ x n, xs = [x] ∧ LenV K x H n ∧ Q (.int n) H)
theorem call_uLen {X : Cx} : CallR X (.builtin "len") (uLen X.K) := call_len_seq.or call_len
def rMax2 : List V → Hp → VK → Prop := fun xs H Q => ∃ i j, xs = [.int i, .int j] ∧ Q (.int (if j > i then j else i)) H
def rMin2 : List V → Hp → VK → Prop := fun xs H Q => ∃ i j, xs = [.int i, .int j] ∧ Q (.int (if j < i then j else i)) H
abbrev rAllL := L2.rAll
def uList (K : PySem.W.Frag) : List V → Hp → VK → Prop := fun xs H Q => ∃ p ys, xs = [.ref p] ∧ (SqL K H p ys ∨ SqT K H p ys) ∧ ∀ l, H l = none → Q (.ref l) (upd H l (.lst ys))
theorem call_list_u {X : Cx} : CallR X (.type "list") (uList X.K) := call_list_of
def uTuple (K : PySem.W.Frag) : List V → Hp → VK → Prop := fun xs H Q => ∃ p ys, xs = [.ref p] ∧ ((SqL K H p ys ∧ ∀ l, H l = none → Q (.ref l) (upd H l (.tup ys))) ∨ (SqT K H p ys ∧ Q (.ref p) H))
theorem call_tuple_u {X : Cx} : CallR X (.type "tuple") (uTuple X.K) := call_tuple_of
def rJoin (K : PySem.W.Frag) : V → List V → Hp → VK → Prop := fun x xs H Q => ∃ a p, ∃ ys : List Str, x = .str a ∧ xs = [.ref p] ∧ (SqL K H p (ys.map V.str) ∨ SqT K H p (ys.map V.str)) ∧ (ys.map (·.length)).sum + ys.length * a.length ≤ 16777216 ∧ Q (.str (Txt.join a ys)) H
theorem mt_uJoin {X : Cx} : MtR X "str.join" (rJoin X.K) := mt_join
inductive Pm where
  | pos (i : Nat)
  | key (i : Nat)
def Pm.u (us ws : List Value) : Pm → Value
  | .pos i => us.getD i .none
  | .key i => ws.getD i .none
theorem getD_rel : ∀ {vs : List V} {us : List Value}, Vals vs us → ∀ i, RelV (vs.getD i .non) (us.getD i .none)
  | _, _, .nil, i => by
    cases i <;> rfl
  | _, _, .cons r t, 0 => r
  | _, _, .cons r t, i + 1 => by
    have := getD_rel t i
    simpa using this
end SL
namespace SL
open PySem PySem.Spec PyProof.Rows L2
def Ex (M : List Addr) (H H' : Hp) : Prop := ∀ a o, a ∉ M → H a = some o → H' a = some o
section
variable {M M' : List Addr} {K : PySem.W.Frag} {H H' H1 H2 : Hp} {p q b : Addr} {o : HO} {xs : List V}
theorem Ex.refl : Ex M H H := fun _ _ _ h => h
theorem Ex.trans (a : Ex M H H1) (c : Ex M H1 H2) : Ex M H H2 := fun x o m h => c x o m (a x o m h)
theorem Ex.mono (h : ∀ x ∈ M, x ∈ M') (e : Ex M H H') : Ex M' H H' := fun x o m z => e x o (fun y => m (h x y)) z
theorem Ex.nil (e : Ex [] H H') : Ex M H H' := Ex.mono (fun x z => absurd z (List.not_mem_nil)) e
theorem Ex.new (h : H p = none) : Ex M H (upd H p o) := fun a u _ z => by
  rw [upd_ne (ne_of_none z h)]
  exact z
theorem Ex.mut (h : p ∈ M) : Ex M H (upd H p o) := fun a u m z => by
  rw [upd_ne (fun e => m (by rw [e]; exact h))]
  exact z
theorem Ex.free (e : Ex M H H') (h : H' p = none) (hm : p ∉ M) : H p = none := by
  cases z : H p with
  | none => rfl
  | some u =>
    rw [e p u hm z] at h
    cases h
structure Lt (M : List Addr) (K : PySem.W.Frag) (H : Hp) (p : Addr) (xs : List V) : Prop where
  sq : SqL K H p xs
  off : p ∉ M
structure Tp (M : List Addr) (K : PySem.W.Frag) (H : Hp) (p : Addr) (xs : List V) : Prop where
  sq : SqT K H p xs
  off : p ∉ M
structure At (M : List Addr) (H : Hp) (p : Addr) (o : HO) : Prop where
  at_ : H p = some o
  off : p ∉ M
theorem rd_ex {u : HO} (e : Ex M H H') (off : p ∉ M) (h : Rd H p u) : Rd H' p u := by
  rcases h with h | ⟨o, h⟩
  · exact Or.inl (e p _ off h)
  · exact Or.inr ⟨o, e p _ off h⟩
theorem Lt.ex (h : Lt M K H p xs) (e : Ex M H H') : Lt M K H' p xs := ⟨h.sq.imp (rd_ex e h.off) id, h.off⟩
theorem Tp.ex (h : Tp M K H p xs) (e : Ex M H H') : Tp M K H' p xs := ⟨h.sq.imp (rd_ex e h.off) id, h.off⟩
theorem At.ex (h : At M H p o) (e : Ex M H H') : At M H' p o := ⟨e p o h.off h.at_, h.off⟩
theorem At.lt (h : At M H p (.lst xs)) : Lt M K H p xs := ⟨Or.inl (Or.inl h.at_), h.off⟩
theorem Lt.mono (hm : ∀ x ∈ M', x ∈ M) (h : Lt M K H p xs) : Lt M' K H p xs := ⟨h.sq, fun z => h.off (hm p z)⟩
theorem Tp.mono (hm : ∀ x ∈ M', x ∈ M) (h : Tp M K H p xs) : Tp M' K H p xs := ⟨h.sq, fun z => h.off (hm p z)⟩
theorem At.mono (hm : ∀ x ∈ M', x ∈ M) (h : At M H p o) : At M' H p o := ⟨h.at_, fun z => h.off (hm p z)⟩
def Box (b : Addr) (n : Nat) (H : Hp) : Prop := ∃ a s c : Int, H b = some (.lst [.int a, .int s, .int c]) ∧ 0 ≤ a ∧ 0 ≤ s ∧ s < 2147483648 ∧ 0 ≤ c ∧ c ≤ (n : Int)
theorem Box.ex {n : Nat} (h : Box b n H) (e : Ex M H H') (off : b ∉ M) : Box b n H' := by
  obtain ⟨a, s, c, h1, h2⟩ := h
  exact ⟨a, s, c, e b _ off h1, h2⟩
theorem Box.mono {n m : Nat} (h : Box b n H) (hn : n ≤ m) : Box b m H := by
  obtain ⟨a, s, c, h1, h2, h3, h4, h5, h6⟩ := h
  exact ⟨a, s, c, h1, h2, h3, h4, h5, by omega⟩
theorem Box.ne {n : Nat} (h : Box b n H) (hp : H p = none) : p ≠ b := by
  obtain ⟨a, s, c, h1, _⟩ := h
  intro e
  rw [e, h1] at hp
  cases hp
theorem Box.off {n : Nat} (h : Box b n H) (hp : H p = none) : p ∉ [b] := fun z => h.ne hp (List.mem_singleton.mp z)
end
mutual
inductive Rp (M : List Addr) (K : PySem.W.Frag) (H : Hp) : V → PyData → Prop
  | non : Rp M K H .non .none
  | bl (b : Bool) : Rp M K H (.bl b) (.bool b)
  | int (i : Int) : Rp M K H (.int i) (.int i)
  | str (x : Str) : Rp M K H (.str x) (.str x)
  | lst {a : Addr} {xs : List V} {ds : List PyData} : Lt M K H a xs → RpA M K H xs ds → Rp M K H (.ref a) (.list ds)
  | tup {a : Addr} {xs : List V} {ds : List PyData} : Tp M K H a xs → RpA M K H xs ds → Rp M K H (.ref a) (.tuple ds)
inductive RpA (M : List Addr) (K : PySem.W.Frag) (H : Hp) : List V → List PyData → Prop
  | nil : RpA M K H [] []
  | cons {v : V} {vs : List V} {d : PyData} {ds : List PyData} : Rp M K H v d → RpA M K H vs ds → RpA M K H (v :: vs) (d :: ds)
end
section
variable {M M' : List Addr} {K : PySem.W.Frag} {H H' : Hp}
mutual
theorem Rp.ex (e : Ex M H H') : ∀ {v : V} {d : PyData}, Rp M K H v d → Rp M K H' v d
  | _, _, .non => .non
  | _, _, .bl b => .bl b
  | _, _, .int i => .int i
  | _, _, .str x => .str x
  | _, _, .lst h a => .lst (h.ex e) (RpA.ex e a)
  | _, _, .tup h a => .tup (h.ex e) (RpA.ex e a)
theorem RpA.ex (e : Ex M H H') : ∀ {vs : List V} {ds : List PyData}, RpA M K H vs ds → RpA M K H' vs ds
  | _, _, .nil => .nil
  | _, _, .cons h a => .cons (Rp.ex e h) (RpA.ex e a)
end
mutual
theorem Rp.mono (hm : ∀ x ∈ M', x ∈ M) : ∀ {v : V} {d : PyData}, Rp M K H v d → Rp M' K H v d
  | _, _, .non => .non
  | _, _, .bl b => .bl b
  | _, _, .int i => .int i
  | _, _, .str x => .str x
  | _, _, .lst h a => .lst (h.mono hm) (RpA.mono hm a)
  | _, _, .tup h a => .tup (h.mono hm) (RpA.mono hm a)
theorem RpA.mono (hm : ∀ x ∈ M', x ∈ M) : ∀ {vs : List V} {ds : List PyData}, RpA M K H vs ds → RpA M' K H vs ds
  | _, _, .nil => .nil
  | _, _, .cons h a => .cons (Rp.mono hm h) (RpA.mono hm a)
end
mutual
theorem Rp.dp : ∀ {v : V} {d : PyData}, Rp M K H v d → Dp K H v d
  | _, _, .non => .non
  | _, _, .bl b => .bl b
  | _, _, .int i => .int i
  | _, _, .str x => .str x
  | _, _, .lst h a => .lst h.sq (RpA.dp a)
  | _, _, .tup h a => .tup h.sq (RpA.dp a)
theorem RpA.dp : ∀ {vs : List V} {ds : List PyData}, RpA M K H vs ds → DpAll K H vs ds
  | _, _, .nil => .nil
  | _, _, .cons h a => .cons (Rp.dp h) (RpA.dp a)
end
mutual
theorem dp_noDict : ∀ {v : V} {d : PyData}, Dp K H v d → d.hasDict = false
  | _, _, .non => by simp only [PyData.hasDict]
  | _, _, .bl b => by simp only [PyData.hasDict]
  | _, _, .int i => by simp only [PyData.hasDict]
  | _, _, .str x => by simp only [PyData.hasDict]
  | _, _, .lst _ a => by
    simp only [PyData.hasDict]
    exact dpA_noDict a
  | _, _, .tup _ a => by
    simp only [PyData.hasDict]
    exact dpA_noDict a
theorem dpA_noDict : ∀ {vs : List V} {ds : List PyData}, DpAll K H vs ds → PyData.hasDictAll ds = false
  | _, _, .nil => by simp only [PyData.hasDictAll]
  | _, _, .cons h a => by
    simp only [PyData.hasDictAll, Bool.or_eq_false_iff]
    exact ⟨dp_noDict h, dpA_noDict a⟩
end
theorem RpA.append : ∀ {vs ws : List V} {ds es : List PyData}, RpA M K H vs ds → RpA M K H ws es → RpA M K H (vs ++ ws) (ds ++ es)
  | _, _, _, _, .nil, b => b
  | _, _, _, _, .cons h a, b => .cons h (RpA.append a b)
theorem RpA.strs : ∀ zs : List Str, RpA M K H (zs.map V.str) (zs.map PyData.str)
  | [] => .nil
  | z :: zs => .cons (.str z) (RpA.strs zs)
theorem RpA.ints : ∀ zs : List Int, RpA M K H (zs.map V.int) (zs.map PyData.int)
  | [] => .nil
  | z :: zs => .cons (.int z) (RpA.ints zs)
end
/-- data whose repr fits -/
structure Shows (d : PyData) : Prop where
  sh : d.showable = true
  ex : ∃ B, 8 ≤ B ∧ d.leavesShort B = true ∧ (B + 2) * d.bulk + B ≤ 16777216
  dp : d.depth ≤ 60
theorem Shows.fits {d : PyData} (h : Shows d) : d.shown.length ≤ sizeLine := by
  obtain ⟨B, h1, h2, h3⟩ := h.ex
  rw [sizeLine_eq]
  exact Nat.le_trans (PyData.shown_le_bulk B h1 d h2) h3
def uRepr (K : PySem.W.Frag) : List V → Hp → VK → Prop := fun xs H Q => ∃ v d, xs = [v] ∧ Dp K H v d ∧ Shows d ∧ Q (.str d.shown) H
theorem call_uRepr {X : Cx} (hg : X.A.guards = some []) (hu : X.A.units + 130 < cLine) : CallR X (.builtin "repr") (uRepr X.K) := by
  intro pins s σ H xs us Q I r h
  obtain ⟨v, d, rfl, hd, sh, q⟩ := h
  obtain ⟨u, rfl, ru⟩ := vals1 r
  obtain ⟨as, rd⟩ := Dp.reads I d v u hd ru
  have nd := dp_noDict hd
  cases hd with
  | non =>
    cases (show u = Value.none from ru)
    rw [PyData.shown_none] at q
    exact PySem.P.repr_of_none ⟨.str _, H, I.tok _, ⟨_, rfl⟩, q⟩
  | bl b =>
    cases (show u = Value.bool b from ru)
    rw [PyData.shown_bool] at q
    refine PySem.P.repr_of_bool ⟨.str _, H, I.tok _, ⟨_, rfl⟩, ?_⟩
    cases b
    · exact q
    · exact q
  | int i =>
    obtain ⟨t, rfl⟩ := ru
    rw [PyData.shown_int] at q
    refine PySem.P.repr_of_int ?_ ⟨.str _, H, I.tok _, ⟨_, rfl⟩, q⟩
    have z := sh.sh
    simp only [PyData.showable, decide_eq_true_eq] at z
    exact z
  | str x =>
    obtain ⟨t, rfl⟩ := ru
    have z := sh.fits
    rw [PyData.shown_str] at q z
    exact PySem.P.repr_of_str ⟨.str _, H, I.tok _, ⟨_, rfl⟩, q⟩ z
  | lst _ _ =>
    cases (show u = Value.ref _ from ru)
    refine repr_of_reads' rd sh.sh (PyData.noDict_hsm nd) hg (by have := sh.dp; omega) (fun _ _ e => e) (fun h' t tk k => ⟨.str _, H, I.kept k, ⟨_, rfl⟩, q⟩) sh.fits
  | tup _ _ =>
    cases (show u = Value.ref _ from ru)
    refine repr_of_reads' rd sh.sh (PyData.noDict_hsm nd) hg (by have := sh.dp; omega) (fun _ _ e => e) (fun h' t tk k => ⟨.str _, H, I.kept k, ⟨_, rfl⟩, q⟩) sh.fits
end SL
namespace SL
open PySem PySem.Spec PyProof.Rows L2
section
variable {K : PySem.W.Frag} {σ : L2.St} {H : Hp} {D : Ends} {i j : Nat} {v x y : V} {Q : VK} {ta tb tc te : TE} {t u : TS} {c : TT} {QB : Bool → Hp → Prop} {r r' : R2} {g : TG} {QS : L2.St → Hp → Prop} {tr tk : TA} {QA : List V → Hp → Prop} {R : List V → Hp → VK → Prop}
variable {tt tu : TT}
variable {m n : Int} {w z : Str} {a b : Addr} {xs ys : List V}
theorem u_add_i (q : Q (.int (m + n)) H) : uAdd K (.int m) (.int n) H Q := Or.inl ⟨m, n, rfl, rfl, q⟩
theorem u_add_s (hl : w.length + z.length ≤ sizeLine) (q : Q (.str (w ++ z)) H) : uAdd K (.str w) (.str z) H Q := Or.inr (Or.inl ⟨w, z, rfl, rfl, hl, q⟩)
theorem u_add_l (h1 : H a = some (.lst xs)) (h2 : H b = some (.lst ys)) (hl : xs.length + ys.length ≤ sizeLine) (q : ∀ p, H p = none → Q (.ref p) (upd H p (.lst (xs ++ ys)))) : uAdd K (.ref a) (.ref b) H Q :=
  Or.inr (Or.inr (Or.inl ⟨a, b, xs, ys, rfl, rfl, h1, h2, hl, q⟩))
theorem u_add_t (h1 : SqT K H a xs) (h2 : SqT K H b ys) (hl : xs.length + ys.length ≤ sizeLine) (q0 : xs = [] → Q (.ref b) H) (q1 : xs ≠ [] → ys = [] → Q (.ref a) H) (q : xs ≠ [] → ys ≠ [] → ∀ p, H p = none → Q (.ref p) (upd H p (.tup (xs ++ ys)))) : uAdd K (.ref a) (.ref b) H Q :=
  Or.inr (Or.inr (Or.inr ⟨a, b, xs, ys, rfl, rfl, h1, h2, hl, q0, q1, q⟩))
theorem u_sub (q : Q (.int (m - n)) H) : rSub (.int m) (.int n) H Q := ⟨m, n, rfl, rfl, q⟩
theorem u_mul (h : CMulW m n) (q : Q (.int (m * n)) H) : uMul K (.int m) (.int n) H Q := Or.inl ⟨m, n, rfl, rfl, h, q⟩
theorem u_mul_l (h1 : H a = some (.lst xs)) (hn : 0 ≤ n) (hn2 : n < 2 ^ 63) (hl : xs.length * n.toNat ≤ sizeLine) (q : ∀ p, H p = none → Q (.ref p) (upd H p (.lst (List.replicate n.toNat xs).flatten))) : uMul K (.ref a) (.int n) H Q :=
  Or.inr (Or.inl ⟨a, n, xs, rfl, rfl, h1, by omega, hn2, hl, q⟩)
theorem u_modp (h : 0 < n) (q : Q (.int (m % n)) H) : rMod (.int m) (.int n) H Q := ⟨m, n, rfl, rfl, by omega, by
  show Q (.int (m.fmod n)) H
  rw [Int.fmod_eq_emod_of_nonneg m (by omega)]
  exact q⟩
theorem u_div (h : CDivW m n) (q : Q (.int (m / n)) H) : rDiv (.int m) (.int n) H Q := ⟨m, n, rfl, rfl, h, q⟩
theorem u_pow (h : CPow m n) (q : Q (.int (m ^ n.toNat)) H) : rPow (.int m) (.int n) H Q := ⟨m, n, rfl, rfl, h, q⟩
theorem u_neg (q : Q (.int (-m)) H) : rNeg (.int m) H Q := ⟨m, rfl, q⟩
theorem u_eq_s (q : Q (.bl (decide (w = z))) H) : uEq K (.str w) (.str z) H Q := Or.inl ⟨rfl, by
  have e : decide (V.str w = V.str z) = decide (w = z) := by simp
  rw [e]
  exact q⟩
theorem u_ne_s (q : Q (.bl (!decide (w = z))) H) : uNe K (.str w) (.str z) H Q := Or.inl ⟨rfl, by
  have e : decide (V.str w = V.str z) = decide (w = z) := by simp
  rw [e]
  exact q⟩
theorem u_eq_d {d e : PyData} (h1 : Dp K H x d) (h2 : Dp K H y e) (s1 : SeqAt.shaped d = true) (s2 : SeqAt.shaped e = true) (q : Q (.bl (PyData.eqv d e)) H) : uEq K x y H Q := Or.inr ⟨d, e, h1, h2, s1, s2, q⟩
theorem u_ne_d {d e : PyData} (h1 : Dp K H x d) (h2 : Dp K H y e) (s1 : SeqAt.shaped d = true) (s2 : SeqAt.shaped e = true) (q : Q (.bl (!PyData.eqv d e)) H) : uNe K x y H Q := Or.inr ⟨d, e, h1, h2, s1, s2, q⟩
theorem u_lt_i (q : Q (.bl (decide (m < n))) H) : uLt K (.int m) (.int n) H Q := Or.inl ⟨m, n, rfl, rfl, q⟩
theorem u_lt_s (q : Q (.bl (decide (w.cps.toList < z.cps.toList))) H) : uLt K (.str w) (.str z) H Q := Or.inr (Or.inl ⟨w, z, rfl, rfl, q⟩)
theorem u_le_i (q : Q (.bl (decide (m ≤ n))) H) : uLe (.int m) (.int n) H Q := ⟨m, n, rfl, rfl, q⟩
theorem u_gt_i (q : Q (.bl (decide (n < m))) H) : rGt (.int m) (.int n) H Q := ⟨m, n, rfl, rfl, q⟩
theorem u_in_s {c : Nat} (q : Q (.bl (decide (c ∈ z.cps.toList))) H) : uIn K (.str ⟨#[c]⟩) (.str z) H Q := Or.inl ⟨c, z, rfl, rfl, q⟩
theorem u_ni_s {c : Nat} (q : Q (.bl (!decide (c ∈ z.cps.toList))) H) : uNi K (.str ⟨#[c]⟩) (.str z) H Q := Or.inl ⟨c, z, rfl, rfl, q⟩
theorem u_in_l (h : SqL K H b ys ∨ SqT K H b ys) (fx : flatV x = true) (fy : ys.all flatV = true) (q : Q (.bl (inV x ys)) H) : uIn K x (.ref b) H Q := Or.inr (Or.inl ⟨b, ys, rfl, h, fx, fy, q⟩)
theorem u_ni_l (h : SqL K H b ys ∨ SqT K H b ys) (fx : flatV x = true) (fy : ys.all flatV = true) (q : Q (.bl (!inV x ys)) H) : uNi K x (.ref b) H Q := Or.inr ⟨b, ys, rfl, h, fx, fy, q⟩
theorem u_in_r {lo hi : Int} (h : H b = some (.rng lo hi)) (q : Q (.bl (decide (lo ≤ m ∧ m < hi))) H) : uIn K (.int m) (.ref b) H Q := Or.inr (Or.inr ⟨m, b, lo, hi, rfl, rfl, h, q⟩)
theorem u_ix_l (h : SqL K H a xs) (e : atI xs n = some v) (q : Q v H) : uIx K (.ref a) (.int n) H Q := Or.inl ⟨a, xs, n, v, rfl, rfl, h, e, q⟩
theorem u_ix_t (h : SqT K H a xs) (e : atI xs n = some v) (q : Q v H) : uIx K (.ref a) (.int n) H Q := Or.inr (Or.inl ⟨a, xs, n, v, rfl, rfl, h, e, q⟩)
theorem u_ix_s {c : Nat} (hl : w.length ≤ sizeLine) (e : atI w.cps.toList n = some c) (q : Q (.str ⟨#[c]⟩) H) : uIx K (.str w) (.int n) H Q := Or.inr (Or.inr ⟨w, n, c, rfl, rfl, hl, e, q⟩)
theorem u_sl_s {lo hi : Option Int} (hl : w.length ≤ sizeLine) (q : Q (.str (cutS w lo hi)) H) : uSl K (.str w) lo hi H Q := Or.inl ⟨w, rfl, hl, q⟩
theorem u_sl_l {lo hi : Option Int} (h : SqL K H a xs) (q : ∀ p, H p = none → Q (.ref p) (upd H p (.lst (cutV xs lo hi)))) : uSl K (.ref a) lo hi H Q := Or.inr (Or.inl ⟨a, xs, rfl, h, q⟩)
theorem u_len_q (h : SqL K H a xs ∨ SqT K H a xs) (q : Q (.int xs.length) H) : uLen K [.ref a] H Q := Or.inl ⟨a, xs, rfl, h, q⟩
theorem u_len_s (hl : w.length ≤ sizeLine) (q : Q (.int w.length) H) : uLen K [.str w] H Q := Or.inr ⟨.str w, w.length, rfl, ⟨hl, rfl⟩, q⟩
theorem u_max2 (q : Q (.int (if n > m then n else m)) H) : rMax2 [.int m, .int n] H Q := ⟨m, n, rfl, q⟩
theorem u_min2 (q : Q (.int (if n < m then n else m)) H) : rMin2 [.int m, .int n] H Q := ⟨m, n, rfl, q⟩
theorem u_all {bs : List Bool} (h : SqL K H a (bs.map V.bl)) (q : Q (.bl (bs.all id)) H) : rAllL K [.ref a] H Q := ⟨a, bs, rfl, h, q⟩
theorem u_repr {d : PyData} (h : Dp K H x d) (s : Shows d) (q : Q (.str d.shown) H) : uRepr K [x] H Q := ⟨x, d, rfl, h, s, q⟩
theorem u_list (h : SqL K H a xs ∨ SqT K H a xs) (q : ∀ p, H p = none → Q (.ref p) (upd H p (.lst xs))) : uList K [.ref a] H Q := ⟨a, xs, rfl, h, q⟩
end
end SL
namespace SL
open PySem PySem.Spec PyProof.Rows L2
/-- a kind whose things are looked at by object's own `__getattribute__`, and whose class is told by object's `__class__` -/
structure Tells (T : String) : Prop where
  ga : Slot T "__getattribute__" "object.__getattribute__"
  cls : typeLookup (.type T) "__class__" = pure (some (.builtin "object.__class__"))
  other : (Value.type T == Value.type "builtin_function_or_method") = false
  low : isSubtype (.type T) (.type (".".intercalate ("object.__class__".cutAt '.').dropLast)) = pure true
theorem ga_entry : entryFor table "object.__getattribute__" = some Builtin.«object.__getattribute__» := entryFor_of_tree (by kernel_rfl)
theorem ga_args (a b : Value) : argsOk "object.__getattribute__" ⟨[a, b], []⟩ := by unfold argsOk; kernel_rfl
section
variable {prog : Program} {w : World} {A : Around} {E : Value → Shared → Prop} {s : Shared} {a : Addr} {T : String}
/-- object's `__class__` tells the type -/
theorem Tells.descr (W : Tells T) {R : Result → Shared → Prop} (ty : s.TypeIs (.ref a) T) (q : R (.ok (.ret (.type T))) s) : codeAny (model prog w) A (.call (.builtin "getset_descriptor.__get__") ⟨[.builtin "object.__class__", .ref a, .type T], []⟩) R s := by
  have kind : s.TypeIs (.builtin "object.__class__") "getset_descriptor" := PySem.F.typeOf_object_class
  have low := W.low
  obtain ⟨o, at_, cl⟩ := id ty
  rcases s with ⟨o1, o2, o3, o4, o5⟩
  refine codeAny_call_builtin PySem.F.slot_gs_get.plain PySem.F.entry_gs_get (PySem.F.slot_gs_get.check _ _ _ _ _ _ _ _ kind (PySem.F.args_gs_get _ _ _) ?_)
  repeat (any_goals (first | assumption | wp_step))
  refine ⟨Code.quiet_builtin _ (by decide +kernel), codeAny_builtin PySem.F.entry_object_class ?_⟩
  repeat (any_goals (first | assumption | wp_step))
  rw [W.other]
  repeat (any_goals (first | assumption | wp_step))
/-- so x.__class__ is the type -/
theorem Tells.attr (W : Tells T) {Q : Option Value → Shared → Prop} (ty : s.TypeIs (.ref a) T) (q : Q (some (.type T)) { s with toks := s.toks + 1 }) : wpAny (model prog w) A (getAttr? (.ref a) "__class__") Q E s := by
  have ga := W.ga.lookup
  have bd := W.ga.bind (.ref a)
  have cls := W.cls
  have kind := PySem.F.typeOf_object_class
  have g1 := PySem.F.slot_gs_get.lookup
  have g2 := PySem.F.slot_gs_set.lookup
  have read : ∀ {A' : Around} {tk : Tok} {R : Result → Shared → Prop} {s' : Shared}, s'.TypeIs (.ref a) T → R (.ok (.ret (.type T))) s' → codeAny (model prog w) A' (.call (.builtin "object.__getattribute__") ⟨[.ref a, .str "__class__" tk], []⟩) R s' := by
    intro A' tk R s' ty q
    refine codeAny_call_builtin W.ga.plain ga_entry (W.ga.check _ _ _ _ _ _ _ _ ty (ga_args _ _) ?_)
    obtain ⟨o, at_, cl⟩ := id ty
    rcases s' with ⟨o1, o2, o3, o4, o5⟩
    repeat (any_goals (first | assumption | wp_step))
    refine W.descr ty ?_
    repeat (any_goals (first | assumption | wp_step))
  rcases s with ⟨o1, o2, o3, o4, o5⟩
  have by_ : ∀ {tk : Tok} {Q : Value → Shared → Prop} {E : Value → Shared → Prop}, Q (.type T) ⟨o1, o2, o3, o4 + 1, o5⟩ → wpAny (model prog w) A (getAttrBy (.ref a) (.str "__class__" tk) false) Q E ⟨o1, o2, o3, o4 + 1, o5⟩ := by
    intro tk Q E q
    have ty' : (⟨o1, o2, o3, o4 + 1, o5⟩ : Shared).TypeIs (.ref a) T := ty
    repeat (any_goals (first | assumption | wp_step))
    refine read ty ?_
    repeat (any_goals (first | assumption | wp_step))
  unfold getAttr? getAttrBy?
  repeat (any_goals (first | assumption | with_reducible apply by_ | wp_step))
end
theorem fn_tells : Tells "function" where
  ga := .of (owner := "object") (n := "__getattribute__") (by rw [typeLookup_type, builtinLookup_eq_fast]; kernel_rfl) (by decide +kernel) (by decide +kernel) (by decide +kernel) (by first | exact .inl (by decide +kernel) | exact .inr (by decide +kernel)) (by rw [isSubtype_type]; kernel_rfl)
  cls := by rw [typeLookup_type, builtinLookup_eq_fast]; kernel_rfl
  other := rfl
  low := by rw [PySem.F.owner_object_class, isSubtype_type]; kernel_rfl
theorem kit_fn {K : PySem.W.Frag} {a : Addr} : PySem.W.KitX K (.ref a) (.type "function") (PySem.W.KitAt a "function") :=
  PySem.W.kitx_of PySem.W.kitAt_ty (fun {_ _ _ _ _ s} p k => fn_tells.attr p k)
end SL
namespace SL
open PySem PySem.Spec PyProof.Rows L2
/-- what the written part says of an own exception class, for isinstance -/
def isiB (K : PySem.W.Frag) (C : Addr) : Bool := (PySem.W.clsIn K C).isSome && (decide (PySem.W.findIn K (.ref C) "__getattribute__" = some (some (.builtin "BaseException.__getattribute__"))) && ((PySem.W.findIn K (.ref C) "__getattr__").isSome &&
  (decide (PySem.W.subIn K (.ref C) (.type "BaseException") = some true) && (decide (PySem.W.findIn K (.ref C) "__class__" = some (some (.builtin "object.__class__"))) && (decide (PySem.W.specialIn K (.builtin "object.__class__") "__get__" = some (some (.builtin "getset_descriptor.__get__"))) &&
  (decide (PySem.W.takesIn K (.builtin "object.__class__") = some true) && decide (PySem.W.mroIn K C (.type "object") = some true)))))))
inductive TyY (K : PySem.W.Frag) (H : Hp) : V → Value → Prop where
  | base {x : V} {t : Value} (h : TyX K H x t) : TyY K H x t
  | fn {a : Addr} {o : Obj} (e : K.lookup a = some o) (c : o.cls = .type "function") : TyY K H (.ref a) (.type "function")
  | exc {a C dx : Addr} (e : H a = some (exo a C (some dx))) (fs : List (Str × V)) (d : H dx = some (exd dx fs)) (b : isiB K C = true) : TyY K H (.ref a) (.ref C)
theorem kit_y {X : Cx} {pins : List (Addr × Obj)} {σ : L2.St} {H : Hp} {s : Shared} {x : V} {u t : Value} (I : Inv X pins σ H s) (rx : RelV x u) (ty : TyY X.K H x t) :
    ∃ P : Heap → Prop, PySem.W.KitX X.K u t P ∧ P s.heap ∧ u ≠ .builtin "__main__.__loader__#opaque" := by
  cases ty with
  | base h => exact kit_of I rx h
  | @fn a o e c =>
    cases (show u = Value.ref a from rx)
    exact ⟨_, kit_fn, ⟨o, I.kIn _ _ e, c⟩, fun z => nomatch z⟩
  | @exc a C dx e fs hd b =>
    cases (show u = Value.ref a from rx)
    simp only [isiB, Bool.and_eq_true, decide_eq_true_eq] at b
    obtain ⟨b1, b2, b3, b4, b5, b6, b7, b8⟩ := b
    obtain ⟨gt, b3⟩ := Option.isSome_iff_exists.mp b3
    obtain ⟨t1, ho⟩ := exo_at I.hok e
    obtain ⟨mA, ⟨oD, es, ep, hD, _⟩, _⟩ := exd_at I.hok hd
    refine ⟨_, PySem.W.kitx_exc (od := some oD) b1 b2 b3 b4 b5 b6 b7 b8, (show PySem.W.InstAt s.heap a { cls := .ref C, dict := some dx, data := .fields #[.ref t1, .none, .none, .none, .bool false, .none] } C (some oD) from ⟨ho, rfl, rfl, hD⟩), fun z => nomatch z⟩
def rIsiY (K : PySem.W.Frag) : List V → Hp → VK → Prop := fun xs H Q => ∃ (x c : V) (t u : Value) (b : Bool), xs = [x, c] ∧ ClsV c u ∧ TyY K H x t ∧ PySem.W.kitOne K t u = some b ∧ Q (.bl b) H
def rIsiYT (K : PySem.W.Frag) : List V → Hp → VK → Prop := fun xs H Q => ∃ (x : V) (tp : Addr) (cs : List V) (t : Value) (us : List Value) (b : Bool), xs = [x, .ref tp] ∧ H tp = some (.tup cs) ∧ Paired ClsV cs us ∧ TyY K H x t ∧ PySem.W.kitAny K t us = some b ∧ Q (.bl b) H
section
variable {X : Cx}
theorem call_isiY : CallR X (.builtin "isinstance") (rIsiY X.K) := by
  rintro pins s σ H _ us Q I r ⟨x, c, t, u, b, rfl, k, ty, told, q⟩
  obtain ⟨v, w, rfl, rv, rw⟩ := vals2 r
  obtain rfl := k.eq rw
  obtain ⟨P, Z, p, far⟩ := kit_y I rv ty
  exact PySem.W.kia_one Z I.kIn p told far fun tk => ⟨.bl b, H, I.tok tk, rfl, q⟩
theorem call_isiYT : CallR X (.builtin "isinstance") (rIsiYT X.K) := by
  rintro pins s σ H _ us Q I r ⟨x, tp, cs, t, ws, b, rfl, tup, k, ty, told, q⟩
  obtain ⟨v, w, rfl, rv, rw⟩ := vals2 r
  obtain rfl : w = .ref tp := rw
  obtain ⟨P, Z, p, far⟩ := kit_y I rv ty
  obtain ⟨_, its, rs, ⟨oc, od, dt, sl⟩, at_, cl, ep, seq⟩ := (show ObjOk X.prog X.w H s.heap tp (.tup cs) from I.hok tp _ tup)
  obtain rfl : oc = .type "tuple" := cl
  obtain rfl : dt = .seq its.toArray ep := seq
  obtain rfl := ClsV.all k rs
  exact PySem.W.kia_tup Z I.kIn p at_ told far fun tk => ⟨.bl b, H, I.tok tk, rfl, q⟩
def vIsi (K : PySem.W.Frag) : List V → Hp → VK → Prop := fun xs H Q => rIsiY K xs H Q ∨ rIsiYT K xs H Q
theorem call_vIsi : CallR X (.builtin "isinstance") (vIsi X.K) := call_isiY.or call_isiYT
end
section
variable {K : PySem.W.Frag} {H : Hp} {x c : V} {t u : Value} {k : Bool} {Q : VK}
theorem v_isi (hc : ClsV c u) (ht : TyY K H x t) (e : PySem.W.kitOne K t u = some k) (q : Q (.bl k) H) : vIsi K [x, c] H Q := Or.inl ⟨x, c, t, u, k, rfl, hc, ht, e, q⟩
theorem v_isiT {tp : Addr} {cs : List V} {us : List Value} (h : H tp = some (.tup cs)) (hc : Paired ClsV cs us) (ht : TyY K H x t) (e : PySem.W.kitAny K t us = some k) (q : Q (.bl k) H) : vIsi K [x, .ref tp] H Q := Or.inr ⟨x, tp, cs, t, us, k, rfl, h, hc, ht, e, q⟩
end
end SL
namespace SL
open PySem PySem.Spec PyProof.Rows L2
end SL
namespace SL
open PySem PySem.Spec PyProof.Rows L2
theorem sz_le {n : Nat} (h : n ≤ 100000) : n ≤ sizeLine := Nat.le_trans h (by decide)
theorem sz_lt {n : Nat} (h : n < 100000) : n < sizeLine := Nat.lt_of_lt_of_le h (by decide)
end SL
namespace SL
end SL
namespace SL
open PySem PySem.Spec PyProof.Rows L2
end SL
namespace SL
open PySem PySem.Spec PyProof.Rows L2
section
variable {K : PySem.W.Frag} {H H' : Hp} {p a dx C : Addr} {xs : List V} {o : HO} {M : List Addr} {v x : V} {t : Value}
/-- a value's type, whatever comes outside M -/
def Ky (M : List Addr) (K : PySem.W.Frag) (H : Hp) (v : V) (t : Value) : Prop := ∀ H', Ex M H H' → TyY K H' v t
theorem Ky.ex (h : Ky M K H v t) (e : Ex M H H') : Ky M K H' v t := fun H2 e2 => h H2 (e.trans e2)
theorem Ky.ty (h : Ky M K H v t) : TyY K H v t := h H Ex.refl
theorem Ky.nil (h : Ky M K H v t) : Ky [] K H v t := fun H2 e => h H2 e.nil
theorem Ky.mono {M' : List Addr} (hm : ∀ x ∈ M', x ∈ M) (h : Ky M K H v t) : Ky M' K H v t := fun H2 e => h H2 (e.mono hm)
variable {σ : L2.St} {Q : L2.St → Hp → Prop} {to ti : TE} {ts : TSet} {i : V} {n : Int} {j : Nat} {QH : Hp → Prop} {QV : VK}
end
end SL
namespace SL
open PySem PySem.Spec PyProof.Rows L2
theorem str_ext {a b : Str} (h : a.cps.toList = b.cps.toList) : a = b := by
  cases a with
  | mk x => cases b with
    | mk y =>
      have : x = y := Array.toList_inj.mp h
      rw [this]
theorem len_str (a : Str) : a.length = a.cps.toList.length := by simp [Str.length]
theorem cps_add (a b : Str) : (a ++ b).cps.toList = a.cps.toList ++ b.cps.toList := by
  rw [PySem.Str.cps_append]
  simp
theorem len_add (a b : Str) : (a ++ b).length = a.length + b.length := PySem.Str.length_append a b
end SL
namespace SL
open PySem PySem.Spec PyProof.Rows L2
theorem strs_of {acc : List V} {P : Str → Prop} (h : ∀ (j : Nat) (y : V), acc[j]? = some y → ∃ z, y = .str z ∧ P z) : ∃ ys : List Str, acc = ys.map V.str ∧ ∀ z ∈ ys, P z := by
  induction acc with
  | nil => exact ⟨[], rfl, fun _ z => absurd z (List.not_mem_nil)⟩
  | cons a r ih =>
    obtain ⟨z, rfl, hz⟩ := h 0 a rfl
    obtain ⟨ys, rfl, hy⟩ := ih (fun j y q => h (j + 1) y (by simpa using q))
    refine ⟨z :: ys, rfl, fun x hx => ?_⟩
    rcases List.mem_cons.mp hx with rfl | hx
    · exact hz
    · exact hy x hx
theorem joinL_nil : ∀ l : List (List Nat), TL.joinL [] l = l.flatten
  | [] => rfl
  | [p] => by simp [TL.joinL]
  | p :: q :: r => by
    have ih := joinL_nil (q :: r)
    simp only [TL.joinL, List.nil_append, ih, List.flatten_cons]
end SL
namespace SL
open PySem PySem.Spec PyProof.Rows L2
/-- plain signs alone -/
def Asc (z : Str) : Prop := ∀ c ∈ z.cps.toList, c < 128
theorem Asc.cut {a : Str} (h : Asc a) (lo hi : Option Int) : Asc (cutS a lo hi) := fun c hc => by
  unfold cutS at hc
  exact h c (List.mem_of_mem_drop (List.mem_of_mem_take (by simpa using hc)))
theorem Asc.ok {z : Str} (h : Asc z) : (PyData.str z).canLay0 = true := by
  simp only [PyData.canLay0, PyData.strOk, Array.all_eq_true, decide_eq_true_eq]
  intro i hi
  have := h z.cps[i] (Array.mem_toList_iff.mpr (Array.getElem_mem hi))
  omega
theorem canLay_strs : ∀ {ys : List Str}, (∀ z ∈ ys, Asc z) → PyData.canLayAll0 (ys.map PyData.str) = true
  | [], _ => by simp [PyData.canLayAll0]
  | z :: r, h => by
    rw [List.map_cons, PyData.canLayAll0, (h z (List.mem_cons_self ..)).ok, canLay_strs (fun x q => h x (List.mem_cons_of_mem _ q))]
    rfl
theorem depth_strs : ∀ ys : List Str, PyData.depthAll (ys.map PyData.str) = 0
  | [] => by simp [PyData.depthAll]
  | z :: r => by
    rw [List.map_cons, PyData.depthAll, depth_strs r]
    simp [PyData.depth]
theorem shaped_strs {ys : List Str} (h : ∀ z ∈ ys, Asc z) : SeqAt.shaped (.list (ys.map PyData.str)) = true := by
  simp only [SeqAt.shaped, PyData.canLay0, PyData.depth, canLay_strs h, depth_strs]
  decide
end SL
namespace SL
open PySem PySem.Spec PyProof.Rows L2
section
variable {K : PySem.W.Frag} {σ : L2.St} {H H' H2 : Hp} {Q : VK} {QP : List (V × V) → Hp → Prop} {tk tv : TE} {ta : TA} {r : List (TE × TE)} {xs ys : List V} {o : HO} {v x y : V} {C p : Addr} {f : Str} {M : List Addr} {sp : Sp}
theorem nw (q : ∀ p H', H p = none → Ex [] H H' → H' p = some o → Q (.ref p) H') : ∀ p, H p = none → Q (.ref p) (upd H p o) := fun p hp => q p _ hp (Ex.new hp) upd_same
/-- the values' kinds, a row at a time -/
def KyN (M : List Addr) (K : PySem.W.Frag) (H : Hp) (T : String) (v : V) : Prop := ∃ t, Ky M K H v t ∧ PySem.W.kitOne K t (.type T) = some false
theorem KyN.ex {T : String} (e : Ex M H H') (h : KyN M K H T v) : KyN M K H' T v := let ⟨t, a, b⟩ := h; ⟨t, a.ex e, b⟩
theorem all_cons {α : Type} {P : α → Prop} {a : α} {l : List α} (h : P a) (t : ∀ x ∈ l, P x) : ∀ x ∈ a :: l, P x := fun x z => by
  rcases List.mem_cons.mp z with rfl | z
  · exact h
  · exact t x z
theorem all_nil {α : Type} {P : α → Prop} : ∀ x ∈ ([] : List α), P x := fun _ z => absurd z (List.not_mem_nil)
end
theorem Ex.drop {b : Addr} {H H' : Hp} (hb : H b = none) (e : Ex [b] H H') : Ex [] H H' := fun a o _ z => e a o (fun q => by
  have q := List.mem_singleton.mp q
  rw [q, hb] at z
  cases z) z
/-- a name of the module by its value -/
theorem pe_gc {X : Cx} {x : Str} {pos : Pos} {v : V} (hg : Gl X x) (h : ∃ u, X.mg x = some u ∧ RelV v u) (hd : (x == ("__debug__" : Str)) = false := by decide) : PE X (.Name x pos) (tC v) :=
  let ⟨_, hm, r⟩ := h
  pe_glob hg hm r hd
end SL
namespace SL
open PySem PySem.Spec PyProof.Rows L2
def rSplit : V → List V → Hp → VK → Prop := fun x xs H Q => ∃ a b, x = .str a ∧ xs = [.str b] ∧ (b.length == 0) = false ∧ a.length + 2 ≤ sizeLine ∧ rNewStrs (Txt.split a b) H Q
theorem mt_uSplit {X : Cx} : MtR X "str.split" rSplit := mt_split
end SL
namespace SL
open PySem PySem.Spec PyProof.Rows L2
inductive Pl where
  | pos (i : Nat)
  | key (i : Nat)
  | low (i : Nat)
def Pl.v (vs ms zs : List V) : Pl → V
  | .pos i => vs.getD i .non
  | .key i => zs.getD i .non
  | .low i => ms.getD i .non
def Pl.u (us ms ws : List Value) : Pl → Value
  | .pos i => us.getD i .none
  | .key i => ws.getD i .none
  | .low i => ms.getD i .none
theorem Pl.rel {vs ms zs : List V} {us mv ws : List Value} (r : Vals vs us) (m : Vals ms mv) (q : Vals zs ws) : ∀ ps : List Pl, Vals (ps.map (Pl.v vs ms zs)) (ps.map (Pl.u us mv ws))
  | [] => .nil
  | .pos i :: ps => .cons (getD_rel r i) (Pl.rel r m q ps)
  | .key i :: ps => .cons (getD_rel q i) (Pl.rel r m q ps)
  | .low i :: ps => .cons (getD_rel m i) (Pl.rel r m q ps)
section
variable {K : PySem.W.Frag} {x qual : Str} {params : Arguments} {body : List Stmt} {scope : Scope} {kws : List (Str × V)} {f : Addr} {fd : FuncData} {ps : List Str}
abbrev KBl (K : PySem.W.Frag) (fd : FuncData) (ps : List Str) (n : Nat) (ks : List Str) (pm : List Pl) (ms : List V) : Prop := ∃ mv : List Value, KBn K fd ps n ks (fun us ws => pm.map (Pl.u us mv ws)) (fun vs zs => pm.map (Pl.v vs ms zs))
theorem kb_low (F : FunD K x qual params body scope [] kws f fd) {n : Nat} {ks : List Str} (ms : List (Str × V)) {pm : List Pl} (hk : kws ≠ []) (hms : ∀ q ∈ ms, q ∈ kws)
    (h : ∀ (D : Addr) (doc pm' : Value) (an : Option Addr) (cdv ct : Value) (us mv ws : List Value), us.length = n → mv.length = ms.length → ws.length = ks.length →
      KwChain D ((ms.map (·.1)).zip mv) (bindArgs (PySem.W.fnOf x qual params body scope .none (.ref D) doc pm' an cdv ct) ⟨us, ks.zip ws⟩) (ps.zip (pm.map (Pl.u us mv ws)))) : KBl K fd ps n ks pm (ms.map (·.2)) := by
  obtain ⟨oc, od, dV, kV, doc, pm', an, cdv, ct, osl, rfl, lk, hcd, hD, hK⟩ := F.ex
  rcases hD with ⟨_, rfl⟩ | ⟨e, _⟩
  · rcases hK with e | ⟨D, rfl, hq⟩
    · exact absurd e hk
    · obtain ⟨mv, l, rk, look⟩ := kwd_vals (ms := ms) fun q hm => hq q (hms q hm)
      exact ⟨mv, fun s us ws X l1 l2 => L2.BindsTo.of_looks fun M => (h D doc pm' an cdv ct us mv ws l1 l l2 |> KwChain.looks X look), fun r1 r2 => Pl.rel r1 rk r2 pm⟩
  · exact absurd rfl e
end
def tKl (sp : Sp) (pm : List Pl) (ms : List V) (n m : Nat) (t tk : TA) : TE := tCallN n m sp (fun vs zs => pm.map (Pl.v vs ms zs)) E0 t tk
section
variable {X : Cx} {CX : CXT} {k n m : Nat} {f : Addr} {fd : FuncData} {ps ks : List Str} {sp : Sp} {x : Str} {p pos : Pos} {e : Expr} {es : List Expr} {kws : List Keyword} {t tk : TA} {pm : List Pl} {ms : List V}
theorem pe_kl1 (F : FnOk X.prog X.w X.K X.mg X.base CX k f fd ps sp) (hr : Room k X.A) (hg : Gl X x) (hm : X.mg x = some (.ref f)) (hk : PySem.W.keepIn X.K (.ref f) = true) (hb : KBl X.K fd ps n ks pm ms) (hx : Passes CX X E0)
    (ha : PA X (e :: es) t) (hkw : PK X kws tk) (hl : ks.length = m) (hall : (backToKw pos (keywordEach kws X.env)).all (·.1.isSome) = true := by rfl) (hks : (backToKw pos (keywordEach kws X.env)).filterMap (·.1) = ks := by rfl)
    (hdb : (x == ("__debug__" : Str)) = false := by decide) (he : starEach (e :: es) X.env = (false, eval e X.env) :: starEach es X.env := by rfl)
    (hpl : ((backTo pos (starEach (e :: es) X.env)).any (·.1) || (backToKw pos (keywordEach kws X.env)).any (·.1.isNone)) = false := by rfl) :
    PE X (.Call (.Name x p) (e :: es) kws pos) (tKl sp pm ms n m t tk) := by
  obtain ⟨mv, hb⟩ := hb
  subst hl
  exact pe_callN F hr hg hm hk hb hx ha hkw hall hks hdb he hpl
end
end SL
namespace SL
open PySem PySem.Spec PyProof.Rows L2
end SL
namespace SL
open PySem PySem.Spec PyProof.Rows L2
section
variable {prog : Program} {w : World} {A : Around} {E : Value → Shared → Prop} {s : Shared}
/-- two values compared where neither's class stands ahead of the other's: the left one is asked, and the right one where the left one declines -/
theorem asked_left {op : CmpOp} {a b ta tb : Value} {Q : Value → Shared → Prop} (room : A.units < cLine) (two : oneThing? op a b = none) (la : PySem.W.Looks (model prog w) s.heap (typeOf a) ta) (lb : PySem.W.Looks (model prog w) s.heap (typeOf b) tb)
    (keep : (ta != tb) = true → PySem.W.Looks (model prog w) s.heap (isSubtype tb ta) false)
    (h : wpAny (model prog w) A (tryCompare a (cmpInfo op).2.1 b) (fun r s1 => match r with | some v => Q v s1 | none => wpAny (model prog w) A (tryCompare b (cmpInfo op).2.2 a) (fun r2 s2 => ∃ v, r2 = some v ∧ Q v s2) E s1) E s) :
    wpAny (model prog w) A (richCompare op a b) Q E s := by
  have go : ∀ {k : Bool → Sem Value}, wpAny (model prog w) A (k false) Q E s → wpAny (model prog w) A (if (ta != tb) = true then isSubtype tb ta >>= k else pure false >>= k) Q E s := by
    intro k q
    by_cases e : (ta != tb) = true
    · rw [if_pos e]; exact wpAny_bind ((keep e).here q)
    · rw [if_neg e]; exact wpAny_bind (wpAny_pure q)
  unfold richCompare
  rw [two]
  refine wpAny_holding (wpAny_bind (wpAny_cRoomFor room (wpAny_bind (la.here (wpAny_bind (lb.here (go ?_)))))))
  refine wpAny_bind (wpAny_mono h ?_ fun _ _ e => e)
  rintro (_ | v) s1 q
  · refine wpAny_bind (wpAny_mono q ?_ fun _ _ e => e)
    rintro _ s2 ⟨v, rfl, q2⟩
    exact wpAny_pure q2
  · exact wpAny_pure q
end
section
variable {X : Cx} {CX : CXT} {C g : Addr} {n : Nat} {sp : Sp} {E : XK}
/-- an own instance stands -/
def Ins (H : Hp) (a C dx : Addr) (fs : List (Str × V)) : Prop := H a = some (.ins C dx fs)
section
variable {pins : List (Addr × Obj)} {s : Shared} {σ : L2.St} {H : Hp} {a dx : Addr} {fs : List (Str × V)}
/-- an own instance as the class's rules want it -/
theorem Ins.at_ (hi : Ins H a C dx fs) (I : Inv X pins σ H s) : ∃ ox od, PySem.W.InstAt s.heap a ox C od :=
  let ⟨_, J, _⟩ := ins_get I.hok hi
  let ⟨od, J', _⟩ := J.look
  ⟨_, od, J'⟩
/-- the own def, run anywhere below, answers as it promises -/
theorem own_says {A : Around} {us : List Value} {xs : List V} {P : VK} {Q : Value → Shared → Prop} (F : FnR X.prog X.w X.K X.mg X.base CX n g sp) (room : Room n A) (e0 : Env0 X.prog X.w X.K X.mg X.base A X.stack s H) (hx : Passes CX X E) (I : Inv X pins σ H s) (rs : Vals xs us) (q : sp xs H P E)
    (to : ∀ z H' u s', Inv X pins σ H' s' → RelV z u → P z H' → Q u s') : wpAny (model X.prog X.w) A (call (.ref g) us) Q X.xe s :=
  wpAny_mono (wpAny_call (SlX.run_at F room e0 hx I rs q)) (fun u s' ⟨z, H', J, rz, p⟩ => to z H' u s' J rz p) fun _ _ e => e
/-- the only argument is the instance -/
theorem only_ref {us : List Value} (r : Vals [V.ref a] us) : us = [.ref a] := Vals.ref1 r
end
def rLenO (C : Addr) (sp : Sp) (E : XK) : List V → Hp → VK → Prop := fun xs H Q => ∃ (a dx : Addr) (fs : List (Str × V)), xs = [V.ref a] ∧ Ins H a C dx fs ∧ sp [.ref a] H (fun z H' => ∃ i : Int, z = .int i ∧ 0 ≤ i ∧ i < 2 ^ 63 ∧ Q z H') E
theorem call_lenO (hs : PySem.W.findIn X.K (.ref C) "__len__" = some (some (.ref g))) (hf : PySem.W.isFn X.K (.ref g) = true) (F : FnR X.prog X.w X.K X.mg X.base CX n g sp) (hr : Room (n + 1) X.A) (hx : Passes CX X E) : CallR X (.builtin "len") (rLenO C sp E) := by
  rintro pins s σ H _ us Q I r ⟨a, dx, fs, rfl, hi, q⟩
  obtain rfl := only_ref r
  obtain ⟨ox, od, J⟩ := hi.at_ I
  refine PySem.W.len_K I.fr.choose_spec I.ok.mod.kin J hs hf (own_says (xs := [.ref a]) F (Room.in1 hr) I.env0.in1 hx I (.cons rfl .nil) q ?_)
  rintro _ H' u s' J' rz ⟨i, rfl, lo, hi, q'⟩
  obtain ⟨t, rfl⟩ := rz
  exact ⟨⟨lo, hi⟩, .int i, H', J'.tok _, ⟨_, rfl⟩, q'⟩
def rReprO (C : Addr) (sp : Sp) (E : XK) : List V → Hp → VK → Prop := fun xs H Q => ∃ (a dx : Addr) (fs : List (Str × V)), xs = [V.ref a] ∧ Ins H a C dx fs ∧ sp [.ref a] H (fun z H' => ∃ y : Str, z = .str y ∧ Q z H') E
def rStrO (C : Addr) (sp : Sp) (E : XK) : List V → Hp → VK → Prop := fun xs H Q => ∃ (a dx : Addr) (fs : List (Str × V)), xs = [V.ref a] ∧ Ins H a C dx fs ∧ sp [.ref a] H (fun z H' => ∃ y : Str, z = .str y ∧ Q z H') E
theorem call_strO (hs : PySem.W.findIn X.K (.ref C) "__str__" = some (some (.ref g))) (hf : PySem.W.isFn X.K (.ref g) = true) (F : FnR X.prog X.w X.K X.mg X.base CX n g sp) (hr : Room (n + 2) X.A) (hx : Passes CX X E) : CallR X (.type "str") (rStrO C sp E) := by
  rintro pins s σ H _ us Q I r ⟨a, dx, fs, rfl, hi, q⟩
  obtain rfl := only_ref r
  obtain ⟨ox, od, J⟩ := hi.at_ I
  have room : Room n X.A.in1.in1 := (Room.in1 (k := n + 1) hr).in1
  refine PySem.W.kso_call room.units0 I.kIn J hs hf (own_says (xs := [.ref a]) F room I.env0.in1.in1 hx I (.cons rfl .nil) q ?_)
  rintro _ H' u s' J' rz ⟨y, rfl, q'⟩
  obtain ⟨t, rfl⟩ := rz
  exact ⟨.str y, H', J', ⟨_, rfl⟩, q'⟩
/-- own == anything (a value of the type t, which is not below C) -/
def rEqO (K : PySem.W.Frag) (C : Addr) (sp : Sp) (E : XK) : R2 := fun x y H Q => ∃ (a dx : Addr) (fs : List (Str × V)) (t : Value), x = .ref a ∧ Ins H a C dx fs ∧ TyY K H y t ∧ PySem.W.notFirst K C t = true ∧ sp [x, y] H (fun z H' => ∃ b, z = .bl b ∧ Q z H') E
theorem op_eqO (hs : PySem.W.findIn X.K (.ref C) "__eq__" = some (some (.ref g))) (hf : PySem.W.isFn X.K (.ref g) = true) (F : FnR X.prog X.w X.K X.mg X.base CX n g sp) (hr : Room n X.A) (hx : Passes CX X E) : OpR X (compareOp .Eq) (rEqO X.K C sp E) := by
  rintro pins s σ H _ y v u Q I rx ry ⟨a, dx, fs, t, rfl, hi, ty, below, q⟩
  obtain rfl : v = .ref a := rx
  obtain ⟨ox, od, J⟩ := hi.at_ I
  obtain ⟨P, Z, p, _⟩ := kit_y I ry ty
  refine PySem.W.cmp_K (op := .Eq) (tb := t) hr.units0 I.fr.choose_spec I.ok.mod.kin J (Z.ty _ _ I.kIn p) below hs hf (own_says (xs := [.ref a, y]) F hr I.env0 hx I (.cons rfl (.cons ry .nil)) q ?_)
  rintro _ H' v s' J' rz ⟨b, rfl, q'⟩
  obtain rfl : v = .bool b := rz
  exact ⟨.bl b, H', J', rfl, q'⟩
end
section
variable {prog : Program} {w : World} {A : Around} {E : Value → Shared → Prop} {s : Shared} {K : PySem.W.Frag} {x C f : Addr} {ox : Obj} {od : Option Obj} {b : Value}
/-- what stands in the class under a name, bound to the instance -/
theorem bound_as {M : Model} {name : Str} {v : Value} {as : Value × List Value} {Q : Option (Value × List Value) → Shared → Prop} (X : K.In s.heap) (I : PySem.W.InstAt s.heap x ox C od) (hs : PySem.W.findIn K (.ref C) name = some (some v)) (bd : PySem.W.Looks M s.heap (bindSpecial v (.ref x)) as) (q : Q (some as) s) :
    wpAny M A (bindSpecialIfBound? (.ref x) name) Q E s := by
  have fin : ∀ E, wpAny M A (do return some (← bindSpecial v (.ref x))) Q E s := fun _ => wpAny_bind (bd.here (wpAny_pure q))
  refine wpAny_bind (wpAny_bind (I.type.here ((PySem.W.looks_findIn X hs).here ?_)))
  refine wpAny_bind (wpAny_askSetting (wpAny_ite ?_))
  split
  · exact fin E
  · exact wpAny_tryCatch (fin _)
/-- object's `__ne__` turns the own == round -/
theorem object_ne {Q : Value → Shared → Prop} (hu : A.in1.units < cLine) (X : K.In s.heap) (I : PySem.W.InstAt s.heap x ox C od) (hm : PySem.W.mroIn K C (.type "object") = some true) (hs : PySem.W.findIn K (.ref C) "__eq__" = some (some (.ref f))) (hf : PySem.W.isFn K (.ref f) = true)
    (h : wpAny (model prog w) A.in1 (call (.ref f) [.ref x, b]) (fun v s' => ∃ k, v = .bool k ∧ Q (.bool (!k)) s') E s) : wpAny (model prog w) A (call (.builtin "object.__ne__") [.ref x, b]) Q E s := by
  refine wpAny_call (codeAny_call_builtin F.cmp_object.ne.plain F.cmpEntry_ne (PySem.W.check_slot F.cmpKind_ne F.cmpSplit_ne (I.type.andThen (PySem.W.looks_mroIn X hm)) (F.cmpArgs_ne _ _) ?_))
  refine wpAny_bind (m := slotArgs "__ne__" 1 _) (wpAny_pure (wpAny_bind (wpAny_cRoomFor hu (wpAny_bind (PySem.W.ifBound_K X I hs hf (wpAny_mono h ?_ fun _ _ e => e))))))
  rintro _ s' ⟨k, rfl, q⟩
  exact wpAny_bind (wpAny_truthy_bool (wpAny_pure q))
theorem cmp_ne {tb : Value} {Q : Value → Shared → Prop} (hu : A.units < cLine) (hu1 : A.in1.units < cLine) (X : K.In s.heap) (I : PySem.W.InstAt s.heap x ox C od) (hm : PySem.W.mroIn K C (.type "object") = some true) (hb : PySem.W.Looks (model prog w) s.heap (typeOf b) tb) (hn : PySem.W.notFirst K C tb = true)
    (hne : PySem.W.findIn K (.ref C) "__ne__" = some (some (.builtin "object.__ne__"))) (hs : PySem.W.findIn K (.ref C) "__eq__" = some (some (.ref f))) (hf : PySem.W.isFn K (.ref f) = true)
    (h : wpAny (model prog w) A.in1 (call (.ref f) [.ref x, b]) (fun v s' => ∃ k, v = .bool k ∧ Q (.bool (!k)) s') E s) : wpAny (model prog w) A (richCompare .NotEq (.ref x) b) Q E s := by
  refine asked_left hu (oneThing_ref ..) I.type hb (fun d => ?_) ?_
  · refine PySem.W.looks_subIn X ((Bool.or_eq_true_iff.1 hn).elim (fun e => ?_) beq_iff_eq.1)
    rw [beq_iff_eq.1 e] at d
    simp at d
  · refine wpAny_bind (wpAny_holding (wpAny_bind (bound_as X I hne (.of_pure (F.cmp_object.ne.bind _)) (wpAny_bind (object_ne hu1 X I hm hs hf (wpAny_mono h ?_ fun _ _ e => e))))))
    rintro _ s' ⟨k, rfl, q⟩
    exact ⟨k, rfl, wpAny_pure (wpAny_pure q)⟩
end
section
variable {X : Cx} {CX : CXT} {C g : Addr} {n : Nat} {sp : Sp} {E : XK}
/-- own != anything, by the own == -/
def rNeO (K : PySem.W.Frag) (C : Addr) (sp : Sp) (E : XK) : R2 := fun x y H Q => ∃ (a dx : Addr) (fs : List (Str × V)) (t : Value), x = .ref a ∧ Ins H a C dx fs ∧ TyY K H y t ∧ PySem.W.notFirst K C t = true ∧ sp [x, y] H (fun z H' => ∃ b, z = .bl b ∧ Q (.bl (!b)) H') E
theorem op_neO (hm : PySem.W.mroIn X.K C (.type "object") = some true) (hne : PySem.W.findIn X.K (.ref C) "__ne__" = some (some (.builtin "object.__ne__"))) (hs : PySem.W.findIn X.K (.ref C) "__eq__" = some (some (.ref g))) (hf : PySem.W.isFn X.K (.ref g) = true) (F : FnR X.prog X.w X.K X.mg X.base CX n g sp) (hr : Room (n + 1) X.A) (hx : Passes CX X E) : OpR X (compareOp .NotEq) (rNeO X.K C sp E) := by
  rintro pins s σ H _ y v u Q I rx ry ⟨a, dx, fs, t, rfl, hi, ty, below, q⟩
  obtain rfl : v = .ref a := rx
  obtain ⟨ox, od, J⟩ := hi.at_ I
  obtain ⟨P, Z, p, _⟩ := kit_y I ry ty
  have room : Room n X.A.in1 := Room.in1 hr
  refine cmp_ne hr.units0 room.units0 I.kIn J hm (Z.ty _ _ I.kIn p) below hne hs hf (own_says (xs := [.ref a, y]) F room I.env0.in1 hx I (.cons rfl (.cons ry .nil)) q ?_)
  rintro _ H' v s' J' rz ⟨b, rfl, q'⟩
  obtain rfl : v = .bool b := rz
  exact ⟨b, rfl, .bl (!b), H', J', rfl, q'⟩
end
end SL
namespace SL
open PySem PySem.Spec PyProof.Rows L2
open AutoSeq1 (wpAny_loadPart')
open MeetsSeq MeetsSeq2 MeetsSeq3 SeqRoads2
theorem int_declines {K : PySem.W.Frag} (b : Int) (u : Tok) (l C dx : Addr) (e : PySem.W.subIn K (.ref C) (.type "int") = some false) :
    Meets (Builtin.«int.__eq__» ⟨[.int b u, .ref l], []⟩) (fun _ R s => K.In s.heap ∧ s.heap.get? l = some (PySem.W.instObj C dx) ∧ R (.ok (.ret .notImplemented)) s) :=
  .of_wp fun prog w A R s h => by
    obtain ⟨hp, g, d, tk, os⟩ := s
    obtain ⟨X, hl, h⟩ := h
    wp_walk using wpAny_loadPart' hl, wpAny_load hl
    first
      | exact ⟨_, rfl, h⟩
      | (refine (PySem.W.looks_subIn X e).here ?_
         first
           | exact ⟨_, rfl, h⟩
           | (wp_walk using wpAny_loadPart' hl, wpAny_load hl
              exact ⟨_, rfl, h⟩))
theorem bool_declines {K : PySem.W.Frag} (b : Bool) (l C dx : Addr) (e : PySem.W.subIn K (.ref C) (.type "int") = some false) :
    Meets (Builtin.«int.__eq__» ⟨[.bool b, .ref l], []⟩) (fun _ R s => K.In s.heap ∧ s.heap.get? l = some (PySem.W.instObj C dx) ∧ R (.ok (.ret .notImplemented)) s) :=
  .of_wp fun prog w A R s h => by
    obtain ⟨hp, g, d, tk, os⟩ := s
    obtain ⟨X, hl, h⟩ := h
    wp_walk using wpAny_loadPart' hl, wpAny_load hl
    first
      | exact ⟨_, rfl, h⟩
      | (refine (PySem.W.looks_subIn X e).here ?_
         first
           | exact ⟨_, rfl, h⟩
           | (wp_walk using wpAny_loadPart' hl, wpAny_load hl
              exact ⟨_, rfl, h⟩))
theorem str_declines {K : PySem.W.Frag} (b : Str) (u : Tok) (l C dx : Addr) (e : PySem.W.subIn K (.ref C) (.type "str") = some false) :
    Meets (Builtin.«str.__eq__» ⟨[.str b u, .ref l], []⟩) (fun _ R s => K.In s.heap ∧ s.heap.get? l = some (PySem.W.instObj C dx) ∧ R (.ok (.ret .notImplemented)) s) :=
  .of_wp fun prog w A R s h => by
    obtain ⟨hp, g, d, tk, os⟩ := s
    obtain ⟨X, hl, h⟩ := h
    wp_walk using wpAny_loadPart' hl, wpAny_load hl
    first
      | exact ⟨_, rfl, h⟩
      | (refine (PySem.W.looks_subIn X e).here ?_
         first
           | exact ⟨_, rfl, h⟩
           | (wp_walk using wpAny_loadPart' hl, wpAny_load hl
              exact ⟨_, rfl, h⟩))
theorem list_declines {K : PySem.W.Frag} (a : Addr) (items : Array Value) (n : Nat) (dd : Option Addr) (sl : Array (Option Value)) (l C dx : Addr) (e : PySem.W.subIn K (.ref C) (.type "list") = some false) :
    Meets (Builtin.«list.__eq__» ⟨[.ref a, .ref l], []⟩) (fun _ R s => s.heap.get? a = some { cls := .type "list", dict := dd, data := .seq items n, slots := sl } ∧ K.In s.heap ∧ s.heap.get? l = some (PySem.W.instObj C dx) ∧ R (.ok (.ret .notImplemented)) s) :=
  .of_wp fun prog w A R s h => by
    obtain ⟨hp, g, d, tk, os⟩ := s
    obtain ⟨ha, X, hl, h⟩ := h
    wp_walk using wpAny_loadPart' ha, wpAny_load ha, wpAny_loadPart' hl, wpAny_load hl
    first
      | exact ⟨_, rfl, h⟩
      | (refine (PySem.W.looks_subIn X e).here ?_
         first
           | exact ⟨_, rfl, h⟩
           | (wp_walk using wpAny_loadPart' ha, wpAny_load ha, wpAny_loadPart' hl, wpAny_load hl
              exact ⟨_, rfl, h⟩))
theorem tuple_declines {K : PySem.W.Frag} (a : Addr) (items : Array Value) (n : Nat) (dd : Option Addr) (sl : Array (Option Value)) (l C dx : Addr) (e : PySem.W.subIn K (.ref C) (.type "tuple") = some false) :
    Meets (Builtin.«tuple.__eq__» ⟨[.ref a, .ref l], []⟩) (fun _ R s => s.heap.get? a = some { cls := .type "tuple", dict := dd, data := .seq items n, slots := sl } ∧ K.In s.heap ∧ s.heap.get? l = some (PySem.W.instObj C dx) ∧ R (.ok (.ret .notImplemented)) s) :=
  .of_wp fun prog w A R s h => by
    obtain ⟨hp, g, d, tk, os⟩ := s
    obtain ⟨ha, X, hl, h⟩ := h
    wp_walk using wpAny_loadPart' ha, wpAny_load ha, wpAny_loadPart' hl, wpAny_load hl
    first
      | exact ⟨_, rfl, h⟩
      | (refine (PySem.W.looks_subIn X e).here ?_
         first
           | exact ⟨_, rfl, h⟩
           | (wp_walk using wpAny_loadPart' ha, wpAny_load ha, wpAny_loadPart' hl, wpAny_load hl
              exact ⟨_, rfl, h⟩))
end SL
namespace SL
open PySem PySem.Spec PyProof.Rows L2
section
variable {prog : Program} {w : World} {A : Around} {E : Value → Shared → Prop} {s : Shared} {K : PySem.W.Frag} {x C f : Addr} {ox : Obj} {od : Option Obj} {b : Value}
/-- a built-in value == an own instance: the built-in one declines, the own one answers -/
theorem cmp_rev {ta : Value} {Q : Value → Shared → Prop} (hu : A.units < cLine) (X : K.In s.heap) (I : PySem.W.InstAt s.heap x ox C od) (ho : oneThing? .Eq b (.ref x) = none) (hb : PySem.W.Looks (model prog w) s.heap (typeOf b) ta) (hne : (ta == .ref C) = false) (hn : PySem.W.subIn K (.ref C) ta = some false)
    (hs : PySem.W.findIn K (.ref C) "__eq__" = some (some (.ref f))) (hf : PySem.W.isFn K (.ref f) = true)
    (dec : ∀ Q' : Option Value → Shared → Prop, Q' none s → wpAny (model prog w) A (tryCompare b "__eq__" (.ref x)) Q' E s)
    (h : wpAny (model prog w) A (call (.ref f) [.ref x, b]) (PySem.W.CmpBack Q) E s) : wpAny (model prog w) A (richCompare .Eq b (.ref x)) Q E s := by
  refine asked_left hu ho hb I.type (fun _ => PySem.W.looks_subIn X hn) (dec _ (wpAny_bind (PySem.W.ifBound_K X I hs hf (wpAny_mono h (fun v s' told => ?_) fun _ _ e => e))))
  cases v
  case notImplemented => exact told.elim
  all_goals exact wpAny_pure ⟨_, rfl, told⟩
end
end SL
namespace SL
open PySem PySem.Spec PyProof.Rows L2
section
variable {prog : Program} {w : World} {A : Around} {E : Value → Shared → Prop} {s : Shared} {K : PySem.W.Frag} {x C dx : Addr} {Q' : Option Value → Shared → Prop}
theorem dec_int {b : Int} {u : Tok} (X : K.In s.heap) (hl : s.heap.get? x = some (PySem.W.instObj C dx)) (e : PySem.W.subIn K (.ref C) (.type "int") = some false) (q : Q' none s) : wpAny (model prog w) A (tryCompare (.int b u) "__eq__" (.ref x)) Q' E s :=
  wpAny_tryCompare_declines (T := "int") (typeIs_int s b u) F.slot_int_eq (call_meets F.slot_int_eq (typeIs_int s b u) F.entry_int_eq (F.args_int_eq_2 _ _) (int_declines b u x C dx e) ⟨X, hl, rfl, q⟩)
theorem dec_str {b : Str} {u : Tok} (X : K.In s.heap) (hl : s.heap.get? x = some (PySem.W.instObj C dx)) (e : PySem.W.subIn K (.ref C) (.type "str") = some false) (q : Q' none s) : wpAny (model prog w) A (tryCompare (.str b u) "__eq__" (.ref x)) Q' E s :=
  wpAny_tryCompare_declines (T := "str") (typeIs_str s b u) F.slot_str_eq (call_meets F.slot_str_eq (typeIs_str s b u) F.entry_str_eq (F.args_str_eq_2 _ _) (str_declines b u x C dx e) ⟨X, hl, rfl, q⟩)
theorem dec_none (q : Q' none s) : wpAny (model prog w) A (tryCompare .none "__eq__" (.ref x)) Q' E s :=
  wpAny_tryCompare_declines (show s.TypeIs .none "NoneType" from rfl) F.slot_NoneType_eq (call_gives F.slot_NoneType_eq rfl F.entry_NoneType_eq (F.args_NoneType_eq_2 _ _) (SeqAt.NoneType___eq___none_ref_0 x) ⟨rfl, q⟩)
theorem dec_list {a : Addr} {items : Array Value} {n : Nat} {dd : Option Addr} {sl : Array (Option Value)} (ha : s.heap.get? a = some { cls := .type "list", dict := dd, data := .seq items n, slots := sl }) (X : K.In s.heap) (hl : s.heap.get? x = some (PySem.W.instObj C dx)) (e : PySem.W.subIn K (.ref C) (.type "list") = some false) (q : Q' none s) : wpAny (model prog w) A (tryCompare (.ref a) "__eq__" (.ref x)) Q' E s :=
  wpAny_tryCompare_declines (T := "list") ⟨_, ha, rfl⟩ F.slot_list_eq (call_meets F.slot_list_eq ⟨_, ha, rfl⟩ F.entry_list_eq (F.args_list_eq_2 _ _) (list_declines a items n dd sl x C dx e) ⟨ha, X, hl, rfl, q⟩)
theorem dec_tuple {a : Addr} {items : Array Value} {n : Nat} {dd : Option Addr} {sl : Array (Option Value)} (ha : s.heap.get? a = some { cls := .type "tuple", dict := dd, data := .seq items n, slots := sl }) (X : K.In s.heap) (hl : s.heap.get? x = some (PySem.W.instObj C dx)) (e : PySem.W.subIn K (.ref C) (.type "tuple") = some false) (q : Q' none s) : wpAny (model prog w) A (tryCompare (.ref a) "__eq__" (.ref x)) Q' E s :=
  wpAny_tryCompare_declines (T := "tuple") ⟨_, ha, rfl⟩ F.slot_tuple_eq (call_meets F.slot_tuple_eq ⟨_, ha, rfl⟩ F.entry_tuple_eq (F.args_tuple_eq_2 _ _) (tuple_declines a items n dd sl x C dx e) ⟨ha, X, hl, rfl, q⟩)
end
end SL
namespace SL
open PySem PySem.SeqAt GQ AutoSeq1 MeetsSeq MeetsSeq2 MeetsSeq3 SeqRoads2
end SL
namespace SL
open PySem PySem.Spec PyProof.Rows L2
section
variable {prog : Program} {w : World} {A : Around} {E : Value → Shared → Prop} {s : Shared}
/-- sorted(t) of a tuple: whatever list.sort makes of its items; h1 = the heap in which the new list is laid -/
theorem sorted_tup {l : Addr} {vs : List Value} {Good : Array Value → Prop} {Q : Value → Shared → Prop} (hl : s.heap.IsTuple l vs.toArray) (few : vs.length < 64)
    (srt : ∀ (s2 : Shared) (p : Addr) (P : PySem.Fin → Shared → Prop) (A2 : Around) (E2 : Value → Shared → Prop), s2.heap.get? p = some (seqObj "list" vs.toArray 0) → (∀ out, Good out → P (.done (.ret .none)) { s2 with heap := sortedHeap s2.heap p vs out }) → wpAny (model prog w) A2 (Builtin.«list.sort» ⟨[.ref p], []⟩) P E2 s2)
    (h : ∀ (h1 h2 : Heap) (c : Nat) out, (∀ b o, s.heap.get? b = some o → h1.get? b = some o) → (∀ b o, s.heap.get? b = some o → h2.get? b = some o) → h2.get? h1.objs.size = some (seqObj "list" out c) → Good out → Q (.ref h1.objs.size) { s with heap := h2 }) : wpAny (model prog w) A (call (.builtin "sorted") [.ref l]) Q E s := by
  obtain ⟨ob, at_, cl, ep, its⟩ := hl
  have room : vs.toArray.size ≤ sizeLine := small64 few
  refine Calls.call_function_entry kind_sorted plain_sorted entry_sorted (args_sorted1 _) ?_
  show wpAny _ _ (checkCount "sorted" 1 1 _ >>= _) _ _ _
  refine wpAny_bind (wpAny_pure (wpAny_bind (wpAny_collect_seq l (.inr rfl) at_ cl its (fun h1 grown => wpAny_bind (wpAny_newList ?_)) room)))
  have new : (h1.push (seqObj "list" vs.toArray 0)).get? h1.objs.size = some (seqObj "list" vs.toArray 0) := Heap.get?_push_size _ rfl
  refine wpAny_bind (wpAny_holding (wpAny_call_entry slot_list_sort ⟨_, new, rfl⟩ entry_list_sort (srt _ _ _ _ _ new fun out good => ⟨_, rfl, ?_⟩) (args_list_sort _)))
  obtain ⟨c, there⟩ := sortedHeap_at (vs := vs) (out := out) new
  refine wpAny_pure ⟨_, rfl, h h1 _ c out grown (fun b o e => ?_) there good⟩
  have lt : b < h1.objs.size := Heap.lt_size (grown b o e)
  exact (sortedHeap_old (Nat.ne_of_lt lt) (by rw [size_push']; exact Nat.lt_succ_of_lt lt)).trans (Heap.get?_push_of_some _ (grown b o e))
end
section
variable {X : Cx}
def rSortedIT (K : PySem.W.Frag) : List V → Hp → VK → Prop := fun vs H Q => ∃ (a : Addr) (ns : List Int), vs = [V.ref a] ∧ SqT K H a (ns.map V.int) ∧ ns.length < 64 ∧
  ∀ (ns' : List Int) (p : Addr), ns'.Perm ns → ns'.Pairwise (· ≤ ·) → H p = none → Q (.ref p) (upd H p (.lst (ns'.map V.int)))
def rSortedST (K : PySem.W.Frag) : List V → Hp → VK → Prop := fun vs H Q => ∃ (a : Addr) (xs : List Str), vs = [V.ref a] ∧ SqT K H a (xs.map V.str) ∧ xs.length < 64 ∧
  ∀ (ys : List Str) (p : Addr), ys.Perm xs → sortedS ys = true → H p = none → Q (.ref p) (upd H p (.lst (ys.map V.str)))
/-- a sorted list is laid and tracked -/
theorem laid_sorted {pins : List (Addr × Obj)} {s : Shared} {σ : L2.St} {H : Hp} {zs : List V} {out : List Value} {h1 h2 : Heap} {c : Nat} (I : Inv X pins σ H s) (g1 : ∀ b o, s.heap.get? b = some o → h1.get? b = some o) (g2 : ∀ b o, s.heap.get? b = some o → h2.get? b = some o)
    (there : h2.get? h1.objs.size = some (seqObj "list" out.toArray c)) (r : Vals zs out) (few : zs.length < 64) : H h1.objs.size = none ∧ Inv X pins σ (upd H h1.objs.size (.lst zs)) { s with heap := h2 } := by
  have off : H h1.objs.size = none := (I.hok.kept g1).fresh (Nat.le_refl _)
  have free : s.heap.get? h1.objs.size = none := by
    cases q : s.heap.get? h1.objs.size with
    | none => rfl
    | some o => exact absurd (Heap.lt_size (g1 _ o q)) (Nat.lt_irrefl _)
  exact ⟨off, I.laidN (t' := s.toks) g2 free off ⟨small64 few, out, c, r, there⟩⟩
theorem cr_sortedIT : CallR X (.builtin "sorted") (rSortedIT X.K) := by
  rintro pins s σ H vs us Q I r ⟨a, ns, rfl, hs, few, q⟩
  obtain ⟨its, rv, tup, _⟩ := I.tuple hs
  have areI := rv.ints
  have len : its.length = ns.length := areI.length
  rw [Vals.ref1 r]
  refine sorted_tup (Good := fun out => ∃ ns', IntsAre out.toList ns' ∧ ns'.Perm ns ∧ ns'.Pairwise (· ≤ ·)) tup (len ▸ few) (fun s2 p P A2 E2 new fin => list_sort_tree new areI (len ▸ few) fun out ns' a1 a2 a3 => fin out ⟨ns', a1, a2, a3⟩) ?_
  rintro h1 h2 c out g1 g2 there ⟨ns', a1, a2, a3⟩
  obtain ⟨off, J⟩ := laid_sorted (zs := ns'.map V.int) (out := out.toList) I g1 g2 there (vals_of_ints a1) (by rw [List.length_map, a2.length_eq]; exact few)
  exact ⟨.ref _, _, J, rfl, q ns' _ a2 a3 off⟩
theorem cr_sortedST : CallR X (.builtin "sorted") (rSortedST X.K) := by
  rintro pins s σ H vs us Q I r ⟨a, xs, rfl, hs, few, q⟩
  obtain ⟨its, rv, tup, _⟩ := I.tuple hs
  have areS := rv.strs
  have len : its.length < 64 := by rw [← rv.length, List.length_map]; exact few
  rw [Vals.ref1 r]
  refine sorted_tup (Good := fun out => ∃ ys, StrsAre out.toList ys ∧ ys.Perm xs ∧ sortedS ys = true) tup len (fun s2 p P A2 E2 new fin => ?_) ?_
  · refine list_sort_treeK strKind_oneLt new areS.keysOf (fun v₁ v₂ rest e => keyKind_strs (e ▸ areS)) len fun st' hp hs' => fin _ ?_
    obtain ⟨ys, a1, a2, a3⟩ := sorted_out_str areS hp hs'
    exact ⟨ys, a1, a2, a3⟩
  · rintro h1 h2 c out g1 g2 there ⟨ys, a1, a2, a3⟩
    obtain ⟨off, J⟩ := laid_sorted (zs := ys.map V.str) (out := out.toList) I g1 g2 there (vals_of_strs a1) (by rw [List.length_map, a2.length_eq]; exact few)
    exact ⟨.ref _, _, J, rfl, q ys _ a2 a3 off⟩
end
/-- enumerate(t): the iterator of the tuple, and what counts over it -/
theorem tup_counted (t : Addr) (items : Array Value) :
    Meets (Builtin.«enumerate.__new__» ⟨[.type "enumerate", .ref t], []⟩) (fun _ R s => s.heap.IsTuple t items ∧
      ∀ h' e it, (∀ b o, s.heap.get? b = some o → h'.get? b = some o) → s.heap.objs.size ≤ e → s.heap.objs.size ≤ it → e ≠ it → IsEnum h' e it 0 .none → h'.IsTupleIter it t 0 → R (.ok (.ret (.ref e))) { s with heap := h' }) := by
  refine .of_wp fun prog w A R s ⟨tup, to⟩ => ?_
  obtain ⟨hp, g, d, tk, os⟩ := s
  have sub := sub_enumerate
  have start : ∀ {A' : Around} {E : Value → Shared → Prop} {Q : Value → Shared → Prop}, Q (.ref hp.objs.size) _ → wpAny (model prog w) A' (pyIter (.ref t)) Q E ⟨hp, g, d, tk, os⟩ := fun q => wpAny_pyIter_tuple tup q
  let ti : Obj := { cls := .type "tuple_iterator", data := .fields #[.ref t, .int 0 0] }
  let en : Obj := { cls := .type "enumerate", data := .fields #[.none, .bool false, .ref hp.objs.size, rawInt 0, .none, .none] }
  have end_ : R (.ok (.ret (.ref (hp.push ti).objs.size))) ⟨(hp.push ti).push en, g, d, tk, os⟩ :=
    to _ (hp.push ti).objs.size hp.objs.size (fun b o at_ => Heap.get?_push_of_some _ (Heap.get?_push_of_some _ at_)) (by rw [Heap.size_push]; exact Nat.le_succ _) (Nat.le_refl _) (by rw [Heap.size_push]; exact Nat.succ_ne_self _) (Heap.get?_push_size _ rfl)
      ⟨ti, Heap.get?_push_of_some _ (Heap.get?_push_size _ rfl), rfl, rfl⟩
  wp_walk using start
  refine wpAny_stack_any fun _ => wpAny_pure ?_
  split
  case h_1 => rename_i c _ _ _ _ _; cases (c == Value.type "enumerate") <;> (wp_walk using start; exact ⟨_, rfl, end_⟩)
  all_goals (wp_walk using start; exact ⟨_, rfl, end_⟩)
/-- what enumerate draws from a tuple -/
theorem tup_walk {prog : Program} {w : World} {A : Around} (calm : A.handled = none) {a e it : Addr} (d1 : e ≠ it) (d2 : a ≠ it) (d3 : a ≠ e) (items : Array Value) :
    ∃ Mid, WalksT prog w A e [e, it, a] [e, it] items.size (fun i vals => ∃ t x, items[i]? = some x ∧ vals = #[.int i t, x]) (fun i h => (∃ old, IsEnum h e it i old) ∧ h.IsTupleIter it a i ∧ h.IsTuple a items) Mid :=
  ⟨_, WalksT.enumerateD (Draws.tuple (A := A.in1) calm it a d2 items) e d1 (by simp [d1, Ne.symm d3]) (by simp)⟩
/-- an iterator that stands behind the last item -/
theorem tup_spent {prog : Program} {w : World} {A : Around} (calm : A.handled = none) {a it : Addr} {i : Nat} {items : Array Value} (out : items[i]? = none) :
    Draws prog w A it [it, a] i (fun _ _ => False) (fun j h => j = i ∧ h.IsTupleIter it a i ∧ h.IsTuple a items) where
  live := fun _ _ ⟨_, ⟨o, at_, _⟩, _⟩ => ⟨o, at_⟩
  frame := fun _ _ _ ⟨ej, it_, tup⟩ k => ⟨ej, it_.at (k it (List.mem_cons_self ..)), tup.at (k a (List.mem_cons_of_mem _ (List.mem_cons_self ..)))⟩
  item := fun j _ _ _ lt ⟨ej, _⟩ _ => absurd ej (Nat.ne_of_lt lt)
  done := fun _ _ _ ⟨_, it_, tup⟩ to => wpAny_nextOf_tuple_end calm it_ tup out to
/-- the tuple at a, each item in a new pair -/
def IteT (K : PySem.W.Frag) (a : Addr) : It :=
  ⟨fun i H => ∃ (xs : List V) (x : V), SqT K H a xs ∧ xs[i]? = some x, fun i H v H' => ∃ (T : Addr) (x : V), v = .ref T ∧ H T = none ∧ H' = upd H T (.tup [.int i, x]) ∧ ∀ xs, SqT K H a xs → xs[i]? = some x, fun i H => ∃ xs : List V, SqT K H a xs ∧ xs.length ≤ i⟩
theorem turn_enumT {P : Program} {w : World} {K : PySem.W.Frag} {elts : List Expr} {kk : Nat} {tpos : Pos} {a e it : Addr} (d1 : e ≠ it) (d2 : a ≠ it) (d3 : a ≠ e) :
    Turn P w K (.Tuple elts kk tpos) (IteT K a) [e, it] e (fun i h => (∃ old, IsEnum h e it i old) ∧ h.IsTupleIter it a i) where
  mem := List.mem_cons_self ..
  obj := by
    rintro i h ⟨⟨old, is⟩, ⟨o, at_, _, dt⟩⟩ b hb
    rcases List.mem_cons.1 hb with rfl | hb
    · exact ⟨_, is, nofun⟩
    · cases List.mem_singleton.1 hb
      exact ⟨o, at_, fun v q => by cases dt.symm.trans q⟩
  keep := fun i h h' ⟨⟨old, is⟩, at_⟩ k => ⟨⟨old, k e (List.mem_cons_self ..) _ is⟩, at_.at fun o q => k it (List.mem_cons_of_mem _ (List.mem_cons_self ..)) o q⟩
  item := by
    rintro X rfl rfl rfl calm i pins s σ H E I away ⟨is, at_⟩ ⟨xs, x, held, nth⟩
    obtain ⟨its, rv, tup, _⟩ := I.tuple held
    obtain ⟨u, nth', ru⟩ := rv.get nth
    have few : i < its.toArray.size := by rw [List.size_toArray]; exact (List.getElem?_eq_some_iff.1 nth').1
    obtain ⟨Mid, W⟩ := tup_walk (prog := X.prog) (w := X.w) (I.ok.hd calm) d1 d2 d3 its.toArray
    refine W.item i s _ _ few ⟨is, at_, tup⟩ fun T vals h1 tk ⟨t, y, nth2, ev⟩ new pair mid same => ⟨_, rfl, W.go elts kk tpos i T _ _ _ mid fun h2 st same2 => ?_⟩
    obtain rfl : u = y := by rw [List.getElem?_toArray, nth'] at nth2; exact Option.some.inj nth2
    subst ev
    have pair2 : h2.IsTuple T #[.int i t, u] := pair.at fun o q => same2 T o (W.apart i T h1 mid) q
    have off : H T = none := I.hok.fresh new
    refine ⟨.ref T, upd H T (.tup [.int i, x]), ?_, rfl, ⟨T, x, rfl, off, rfl, fun ys hy => I.tuple_inj hy held ▸ nth⟩, ⟨st.1, st.2.1⟩, fun b hb => ?_⟩
    · exact I.turnedNew (t' := tk) (ch := [e, it]) (fun b o out q => same2 b o out (same b o out q)) away new ⟨by show 2 ≤ sizeLine; decide, [.int i t, u], .cons ⟨_, rfl⟩ (.cons ru .nil), pair2⟩
    · rw [upd_ne (fun z : b = T => W.apart i T h1 mid (z ▸ hb))]
      exact (away b hb).1
  done := by
    rintro X rfl rfl rfl calm i pins s σ H E I away ⟨⟨old, is⟩, at_⟩ ⟨xs, held, out⟩
    obtain ⟨its, rv, tup, _⟩ := I.tuple held
    obtain ⟨f0, f1, f2, f3, f4, f5⟩ := away it (List.mem_cons_of_mem _ (List.mem_cons_self ..))
    exact wpAny_pyNext_enum_endD (tup_spent (A := X.A.in1) (I.ok.hd calm) (items := its.toArray) (by rw [List.getElem?_toArray, List.getElem?_eq_none_iff, ← rv.length]; exact out)) is ⟨rfl, at_, tup⟩ fun h' same => ⟨rfl, I.turned (t' := s.toks) same f0 f1 f3 f4 f5⟩
  self := fun A i s Q E ⟨⟨_, is⟩, _⟩ h => wpAny_pyIter_enum is h
theorem call_enumT {prog : Program} {w : World} {A : Around} {E : Value → Shared → Prop} {s : Shared} {a : Addr} {items : Array Value} {Q : Value → Shared → Prop} (tup : s.heap.IsTuple a items)
    (to : ∀ h' e it, (∀ b o, s.heap.get? b = some o → h'.get? b = some o) → s.heap.objs.size ≤ e → s.heap.objs.size ≤ it → e ≠ it → IsEnum h' e it 0 .none → h'.IsTupleIter it a 0 → Q (.ref e) { s with heap := h' }) :
    wpAny (model prog w) A (call (.type "enumerate") [.ref a]) Q E s :=
  callType_new F.called_enumerate (by decide) (F.typeCall_enumerate_1 _) (F.newCall_enumerate_1 _) (fun obj => F.args_object_init_2 obj _) F.entry_enumerate_new (tup_counted a items)
    ⟨tup, fun h' e it grown le1 le2 ne is at_ => ⟨⟨_, is, rfl⟩, to h' e it grown le1 le2 ne is at_⟩⟩
/-- enumerate of a list or of a tuple -/
def iEnumB (K : PySem.W.Frag) (ta : TA) : TI := fun σ H R => ta σ H fun vs H1 => ∃ a xs, vs = [.ref a] ∧ ((SqL K H1 a xs ∧ R (Ite K a) H1) ∨ (SqT K H1 a xs ∧ R (IteT K a) H1))
section
variable {X : Cx} {pins : List (Addr × Obj)} {σ : L2.St} {H : Hp} {s : Shared} {R : It → Hp → Prop} {elts : List Expr} {kk : Nat} {tpos : Pos}
/-- two new cells that the heap does not know -/
theorem new_two {h' : Heap} {J : It} {e it : Addr} {tn : Nat → Heap → Prop} (I : Inv X pins σ H s) (grown : ∀ b o, s.heap.get? b = some o → h'.get? b = some o) (le1 : s.heap.objs.size ≤ e) (le2 : s.heap.objs.size ≤ it)
    (T : Turn X.prog X.w X.K (.Tuple elts kk tpos) J [e, it] e tn) (st : tn 0 h') (q : R J H) : PIE X pins σ (.Tuple elts kk tpos) R (.ref e) { s with heap := h' } :=
  ⟨e, [e, it], tn, J, H, rfl, I.kept (t' := s.toks) grown, T, st, List.forall_mem_cons.2 ⟨I.fpOk le1 (I.hok.fresh le1), List.forall_mem_cons.2 ⟨I.fpOk le2 (I.hok.fresh le2), nofun⟩⟩, q⟩
theorem counts_list {a : Addr} {xs : List V} (I : Inv X pins σ H s) (held : SqL X.K H a xs) (q : R (Ite X.K a) H) :
    wpAny (model X.prog X.w) X.A (call (.type "enumerate") [.ref a]) (fun v s1 => wpAny (model X.prog X.w) X.A (pyIter v) (PIE X pins σ (.Tuple elts kk tpos) R) X.xe s1) X.xe s := by
  obtain ⟨its, _, lst, _⟩ := I.list held
  exact call_enumerate_list lst.isList fun h' is at_ _ grown => wpAny_pyIter_enum is (new_two I grown (Nat.le_succ _) (Nat.le_refl _) (turn_enum ..) ⟨⟨.none, is⟩, at_, Nat.succ_ne_self _⟩ q)
theorem counts_tuple {a : Addr} {xs : List V} (I : Inv X pins σ H s) (held : SqT X.K H a xs) (q : R (IteT X.K a) H) :
    wpAny (model X.prog X.w) X.A (call (.type "enumerate") [.ref a]) (fun v s1 => wpAny (model X.prog X.w) X.A (pyIter v) (PIE X pins σ (.Tuple elts kk tpos) R) X.xe s1) X.xe s := by
  obtain ⟨its, _, tup, _⟩ := I.tuple held
  have lt : a < s.heap.objs.size := Heap.lt_size tup.choose_spec.1
  exact call_enumT tup fun h' e it grown le1 le2 ne is at_ => wpAny_pyIter_enum is (new_two I grown le1 le2 (turn_enumT ne (Nat.ne_of_lt (Nat.lt_of_lt_of_le lt le2)) (Nat.ne_of_lt (Nat.lt_of_lt_of_le lt le1))) ⟨⟨.none, is⟩, at_⟩ q)
theorem pi_enumB {e : Expr} {ta : TA} {p pos : Pos} (hg : Gl X "enumerate") (hm : X.mg "enumerate" = none) (ha : PA X [e] ta) (hs : starEach [e] X.env = [(false, eval e X.env)] := by rfl) :
    PI X (.Tuple elts kk tpos) (.Call (.Name "enumerate" p) [e] [] pos) (iEnumB X.K ta) where
  run pins s σ H R I h := by
    refine Call_ (ld_blt I hg hm boot_enumerate (PyProof.Rows.callWith_type1 (thn (ha.run pos pins s σ H _ I h) ?_) hs rfl))
    rintro us s1 ⟨_, H1, I1, rs, a, xs, rfl, q⟩
    obtain rfl := Vals.ref1 rs
    rcases q with ⟨held, q⟩ | ⟨held, q⟩
    · exact counts_list I1 held q
    · exact counts_tuple I1 held q
end
end SL
namespace SL
open PySem PySem.Spec PyProof.Rows L2
abbrev Cl := Value × Nat × (Addr → Value → Option Addr → TS)
section
variable {X : Cx} {body : List Stmt} {h₀ : ExceptHandler} {hds : List ExceptHandler} {l : List Cl} {pos : Pos} {tb : WX → TS} {pins : List (Addr × Obj)} {D : Ends} {σ : L2.St} {H : Hp} {s : Shared} {B : Heap} {a : Addr} {cls c : Value} {d : Option Addr} {x n : Str} {i : Nat}
/-- an exception of the body is in the air at a: it can be landed wherever the heap goes on -/
structure Air (X : Cx) (pins : List (Addr × Obj)) (σ : L2.St) (H : Hp) (B : Heap) (a : Addr) (cls : Value) (d : Option Addr) (s : Shared) : Prop where
  fl : HandSPX.FlyingZ B (X.env :: X.outer) a (Zc cls d) s.heap
  land : ∀ h', B.StaysIn h' → s.heap.UpToSlots h' → Inv X pins σ H { s with heap := h' }
  off : H a = none
/-- it is no frame of the function's -/
theorem Air.apart (q : Air X pins σ H B a cls d s) (hf : X.env.frame = some X.env.locals) {o : Obj} {vs : Array Value} (at_ : s.heap.get? a = some o) (fd : o.data = .fields vs) : a ≠ X.env.locals ∧ a ∉ X.fs := by
  have no : a ∉ frs (X.env :: X.outer) := fun m => by
    obtain ⟨_, o2, e2, hn⟩ := q.fl.2.2.1.mem m
    obtain rfl : o = o2 := Option.some.inj (at_.symm.trans e2)
    exact hn vs fd
  refine ⟨fun e => no (List.mem_filterMap.mpr ⟨X.env, .head _, by rw [hf, e]⟩), fun m => ?_⟩
  obtain ⟨y, m1, m2⟩ := List.mem_filterMap.mp m
  exact no (List.mem_filterMap.mpr ⟨y, .tail _ m1, m2⟩)
end
end SL
namespace SL
open PySem PySem.Spec PyProof.Rows L2
def pdKey : Key → PyData
  | .inl i => .int i
  | .inr x => .str x
end SL
namespace CM
open PySem PySem.Spec PyProof.Rows L2 SL
/-- the written part, and where the cells stand -/
structure Kx where
  fr : PySem.W.Frag
  ka : List Addr
instance : CoeOut Kx PySem.W.Frag := ⟨Kx.fr⟩
def Kx.up (K : Kx) (l : List Addr) : Kx := ⟨K.fr, K.ka ++ l⟩
inductive D where
  | non | bl (b : Bool) | int (i : Int) | str (z : Str) | ty (n : String) | glo (x : Str)
  | lst (xs : List D) | scr (ns : List Int) | tup (xs : List D) | dK (kvs : List (L2.Key × D)) | rng (lo hi : Int)
  | ins (C : Str) (fs : List (Str × D)) | ce (n : Nat) | exc (C : Str) (fs : List (Str × D)) | tg (v : V) (d : D) | bo (v : V) (d e : D)
def D.u : D → D
  | .tg _ d => d.u
  | d => d
/-- a list, a tuple to be read, off M -/
def LtR (M : List Addr) (K : Kx) (H : Hp) (a : Addr) (xs : List V) : Prop := (Rd H a (.lst xs) ∧ a ∉ M) ∨
  ∃ (o : Obj) (its : Array Value) (n : Nat), K.fr.lookup a = some o ∧ o.cls = .type "list" ∧ o.dict = none ∧ o.data = .seq its n ∧ its.size ≤ sizeLine ∧ Vals xs its.toList
def TpR (M : List Addr) (H : Hp) (a : Addr) (xs : List V) : Prop := H a = some (.tup xs) ∧ a ∉ M
section
variable {M M' : List Addr} {K : Kx} {H H' : Hp} {a p : Addr} {xs : List V} {o : HO}
theorem LtR.sq (h : LtR M K H a xs) : SqL K H a xs := h.imp (·.1) id
theorem TpR.sq {f : PySem.W.Frag} (h : TpR M H a xs) : SqT f H a xs := .inl (.inl h.1)
theorem LtR.ex (h : LtR M K H a xs) (e : Ex M H H') : LtR M K H' a xs := h.imp (fun z => ⟨rd_ex e z.2 z.1, z.2⟩) id
theorem TpR.ex (h : TpR M H a xs) (e : Ex M H H') : TpR M H' a xs := ⟨e _ _ h.2 h.1, h.2⟩
theorem LtR.mono (hm : ∀ x ∈ M', x ∈ M) (h : LtR M K H a xs) : LtR M' K H a xs := h.imp (fun z => ⟨z.1, fun q => z.2 (hm _ q)⟩) id
theorem TpR.mono (hm : ∀ x ∈ M', x ∈ M) (h : TpR M H a xs) : TpR M' H a xs := ⟨h.1, fun q => h.2 (hm _ q)⟩
theorem rd_ne {u : HO} (h : Rd H a u) (hp : H p = none) : a ≠ p := by
  intro e
  subst e
  rcases h with h | ⟨o, h⟩ <;> (rw [hp] at h; cases h)
theorem LtR.fresh (hp : H p = none) (hm : ∀ x ∈ M', x ∈ M ∨ x = p) (h : LtR M K H a xs) : LtR M' K H a xs := h.imp (fun z => ⟨z.1, fun q => (hm _ q).elim z.2 (rd_ne z.1 hp)⟩) id
theorem TpR.fresh (hp : H p = none) (hm : ∀ x ∈ M', x ∈ M ∨ x = p) (h : TpR M H a xs) : TpR M' H a xs := ⟨h.1, fun q => (hm _ q).elim h.2 (ne_of_none h.1 hp)⟩
theorem At.fresh (hp : H p = none) (hm : ∀ x ∈ M', x ∈ M ∨ x = p) (h : At M H a o) : At M' H a o := ⟨h.at_, fun q => (hm _ q).elim h.off (ne_of_none h.at_ hp)⟩
end
mutual
inductive Rep (M : List Addr) (K : Kx) (H : Hp) : V → D → Prop
  | non : Rep M K H .non .non
  | bl (b : Bool) : Rep M K H (.bl b) (.bl b)
  | int (i : Int) : Rep M K H (.int i) (.int i)
  | str (z : Str) : Rep M K H (.str z) (.str z)
  | ty (n : String) : Rep M K H (.ty n) (.ty n)
  | glo (x : Str) : Rep M K H (.ref (He.ga K x)) (.glo x)
  | lst {a : Addr} {xs : List V} {ds : List D} : At M H a (.lst xs) → RepA M K H xs ds → Rep M K H (.ref a) (.lst ds)
  | scr {a : Addr} {ns : List Int} : LtR M K H a (ns.map V.int) → Rep M K H (.ref a) (.scr ns)
  | tup {a : Addr} {xs : List V} {ds : List D} : TpR M H a xs → RepA M K H xs ds → Rep M K H (.ref a) (.tup ds)
  | dK {a : Addr} {kvs : List (L2.Key × V)} {ds : List (L2.Key × D)} : At M H a (.dK kvs) → kvs.map (·.1) = ds.map (·.1) → RepA M K H (kvs.map (·.2)) (ds.map (·.2)) → Rep M K H (.ref a) (.dK ds)
  | rng {a : Addr} {lo hi : Int} : At M H a (.rng lo hi) → Rep M K H (.ref a) (.rng lo hi)
  | ins {a dx : Addr} {C : Str} {vs : List (Str × V)} {ds : List (Str × D)} : At M H a (.ins (He.ga K C) dx vs) → vs.map (·.1) = ds.map (·.1) → RepA M K H (vs.map (·.2)) (ds.map (·.2)) → Rep M K H (.ref a) (.ins C ds)
  | exc {a dx : Addr} {C : Str} {vs : List (Str × V)} {ds : List (Str × D)} : At M H a (exo a (He.ga K C) (some dx)) → At M H dx (exd dx vs) → vs.map (·.1) = ds.map (·.1) → RepA M K H (vs.map (·.2)) (ds.map (·.2)) → Rep M K H (.ref a) (.exc C ds)
  | ce {a : Addr} {n : Nat} : K.ka[n]? = some a → Rep M K H (.ref a) (.ce n)
  | tg {v : V} {d : D} : Rep M K H v d → Rep M K H v (.tg v d)
  | bo {a : Addr} {w : V} {d e : D} : Rep M K H (.ref a) d → Rep M K H w e → Rep M K H (.ref a) (.bo w d e)
inductive RepA (M : List Addr) (K : Kx) (H : Hp) : List V → List D → Prop
  | nil : RepA M K H [] []
  | cons {v : V} {vs : List V} {d : D} {ds : List D} : Rep M K H v d → RepA M K H vs ds → RepA M K H (v :: vs) (d :: ds)
end
section
variable {M M' : List Addr} {K : Kx} {H H' : Hp} {p : Addr} {o : HO}
mutual
theorem Rep.ex (e : Ex M H H') : ∀ {v : V} {d : D}, Rep M K H v d → Rep M K H' v d
  | _, _, .non => .non
  | _, _, .bl b => .bl b
  | _, _, .int i => .int i
  | _, _, .str x => .str x
  | _, _, .ty n => .ty n
  | _, _, .glo x => .glo x
  | _, _, .lst h a => .lst (h.ex e) (RepA.ex e a)
  | _, _, .scr h => .scr (h.ex e)
  | _, _, .tup h a => .tup (h.ex e) (RepA.ex e a)
  | _, _, .dK h n a => .dK (h.ex e) n (RepA.ex e a)
  | _, _, .rng h => .rng (h.ex e)
  | _, _, .ins h n a => .ins (h.ex e) n (RepA.ex e a)
  | _, _, .exc h h2 n a => .exc (h.ex e) (h2.ex e) n (RepA.ex e a)
  | _, _, .ce h => .ce h
  | _, _, .tg h => .tg (Rep.ex e h)
  | _, _, .bo h h2 => .bo (Rep.ex e h) (Rep.ex e h2)
theorem RepA.ex (e : Ex M H H') : ∀ {vs : List V} {ds : List D}, RepA M K H vs ds → RepA M K H' vs ds
  | _, _, .nil => .nil
  | _, _, .cons h a => .cons (Rep.ex e h) (RepA.ex e a)
end
mutual
theorem Rep.mono (hm : ∀ x ∈ M', x ∈ M) : ∀ {v : V} {d : D}, Rep M K H v d → Rep M' K H v d
  | _, _, .non => .non
  | _, _, .bl b => .bl b
  | _, _, .int i => .int i
  | _, _, .str x => .str x
  | _, _, .ty n => .ty n
  | _, _, .glo x => .glo x
  | _, _, .lst h a => .lst (h.mono hm) (RepA.mono hm a)
  | _, _, .scr h => .scr (h.mono hm)
  | _, _, .tup h a => .tup (h.mono hm) (RepA.mono hm a)
  | _, _, .dK h n a => .dK (h.mono hm) n (RepA.mono hm a)
  | _, _, .rng h => .rng (h.mono hm)
  | _, _, .ins h n a => .ins (h.mono hm) n (RepA.mono hm a)
  | _, _, .exc h h2 n a => .exc (h.mono hm) (h2.mono hm) n (RepA.mono hm a)
  | _, _, .ce h => .ce h
  | _, _, .tg h => .tg (Rep.mono hm h)
  | _, _, .bo h h2 => .bo (Rep.mono hm h) (Rep.mono hm h2)
theorem RepA.mono (hm : ∀ x ∈ M', x ∈ M) : ∀ {vs : List V} {ds : List D}, RepA M K H vs ds → RepA M' K H vs ds
  | _, _, .nil => .nil
  | _, _, .cons h a => .cons (Rep.mono hm h) (RepA.mono hm a)
end
mutual
theorem Rep.fresh (hp : H p = none) (hm : ∀ x ∈ M', x ∈ M ∨ x = p) : ∀ {v : V} {d : D}, Rep M K H v d → Rep M' K H v d
  | _, _, .non => .non
  | _, _, .bl b => .bl b
  | _, _, .int i => .int i
  | _, _, .str x => .str x
  | _, _, .ty n => .ty n
  | _, _, .glo x => .glo x
  | _, _, .lst h a => .lst (At.fresh hp hm h) (RepA.fresh hp hm a)
  | _, _, .scr h => .scr (h.fresh hp hm)
  | _, _, .tup h a => .tup (h.fresh hp hm) (RepA.fresh hp hm a)
  | _, _, .dK h n a => .dK (At.fresh hp hm h) n (RepA.fresh hp hm a)
  | _, _, .rng h => .rng (At.fresh hp hm h)
  | _, _, .ins h n a => .ins (At.fresh hp hm h) n (RepA.fresh hp hm a)
  | _, _, .exc h h2 n a => .exc (At.fresh hp hm h) (At.fresh hp hm h2) n (RepA.fresh hp hm a)
  | _, _, .ce h => .ce h
  | _, _, .tg h => .tg (Rep.fresh hp hm h)
  | _, _, .bo h h2 => .bo (Rep.fresh hp hm h) (Rep.fresh hp hm h2)
theorem RepA.fresh (hp : H p = none) (hm : ∀ x ∈ M', x ∈ M ∨ x = p) : ∀ {vs : List V} {ds : List D}, RepA M K H vs ds → RepA M' K H vs ds
  | _, _, .nil => .nil
  | _, _, .cons h a => .cons (Rep.fresh hp hm h) (RepA.fresh hp hm a)
end
theorem Rep.u : ∀ {v : V} {d : D}, Rep M K H v d → Rep M K H v d.u
  | _, _, .non => .non
  | _, _, .bl b => .bl b
  | _, _, .int i => .int i
  | _, _, .str x => .str x
  | _, _, .ty n => .ty n
  | _, _, .glo x => .glo x
  | _, _, .lst h a => .lst h a
  | _, _, .scr h => .scr h
  | _, _, .tup h a => .tup h a
  | _, _, .dK h n a => .dK h n a
  | _, _, .rng h => .rng h
  | _, _, .ins h n a => .ins h n a
  | _, _, .exc h h2 n a => .exc h h2 n a
  | _, _, .bo h h2 => .bo h h2
  | _, _, .ce h => .ce h
  | _, _, .tg (d := d) h => (Rep.u (d := d) h : Rep M K H _ d.u)
theorem RepA.append : ∀ {vs ws : List V} {ds es : List D}, RepA M K H vs ds → RepA M K H ws es → RepA M K H (vs ++ ws) (ds ++ es)
  | _, _, _, _, .nil, b => b
  | _, _, _, _, .cons h a, b => .cons h (RepA.append a b)
theorem RepA.len : ∀ {vs : List V} {ds : List D}, RepA M K H vs ds → vs.length = ds.length
  | _, _, .nil => rfl
  | _, _, .cons _ a => congrArg (· + 1) (RepA.len a)
theorem RepA.get : ∀ {vs : List V} {ds : List D} {i : Nat} {d : D}, RepA M K H vs ds → ds[i]? = some d → ∃ v, vs[i]? = some v ∧ Rep M K H v d
  | _, _, i, d, .nil, e => by simp at e
  | _, _, 0, d, .cons h _, e => by simp at e; subst e; exact ⟨_, rfl, h⟩
  | _, _, i + 1, d, .cons _ a, e => by
    obtain ⟨v, h1, h2⟩ := RepA.get (i := i) a (by simpa using e)
    exact ⟨v, by simpa using h1, h2⟩
theorem RepA.getV {vs : List V} {ds : List D} {i : Nat} {v : V} (h : RepA M K H vs ds) (e : vs[i]? = some v) : ∃ d, ds[i]? = some d ∧ Rep M K H v d := by
  have hi : i < ds.length := by
    rw [← h.len]
    exact (List.getElem?_eq_some_iff.mp e).1
  obtain ⟨v', h1, h2⟩ := h.get (List.getElem?_eq_getElem hi)
  rw [e] at h1
  cases h1
  exact ⟨_, List.getElem?_eq_getElem hi, h2⟩
theorem RepA.take : ∀ {vs : List V} {ds : List D} (n : Nat), RepA M K H vs ds → RepA M K H (vs.take n) (ds.take n)
  | _, _, 0, _ => .nil
  | _, _, _ + 1, .nil => .nil
  | _, _, n + 1, .cons h a => .cons h (RepA.take n a)
theorem RepA.drop : ∀ {vs : List V} {ds : List D} (n : Nat), RepA M K H vs ds → RepA M K H (vs.drop n) (ds.drop n)
  | _, _, 0, h => h
  | _, _, _ + 1, .nil => .nil
  | _, _, n + 1, .cons _ a => RepA.drop n a
theorem RepA.set : ∀ {vs : List V} {ds : List D} {v : V} {d : D} (n : Nat), RepA M K H vs ds → Rep M K H v d → RepA M K H (vs.set n v) (ds.set n d)
  | _, _, _, _, _, .nil, _ => .nil
  | _, _, _, _, 0, .cons _ a, r => .cons r a
  | _, _, _, _, n + 1, .cons h a, r => .cons h (RepA.set n a r)
theorem RepA.ints : ∀ ns : List Int, RepA M K H (ns.map V.int) (ns.map D.int)
  | [] => .nil
  | n :: r => .cons (.int n) (RepA.ints r)
theorem RepA.strs : ∀ ns : List Str, RepA M K H (ns.map V.str) (ns.map D.str)
  | [] => .nil
  | n :: r => .cons (.str n) (RepA.strs r)
end
section
variable {M M' : List Addr} {K : Kx} {H : Hp} {a : Addr} {xs : List V} {o : HO}
theorem LtR.frs (hm : ∀ x ∈ M', x ∈ M ∨ H x = none) (h : LtR M K H a xs) : LtR M' K H a xs := h.imp (fun z => ⟨z.1, fun q => (hm _ q).elim z.2 fun e => rd_ne z.1 e rfl⟩) id
theorem TpR.frs (hm : ∀ x ∈ M', x ∈ M ∨ H x = none) (h : TpR M H a xs) : TpR M' H a xs := ⟨h.1, fun q => (hm _ q).elim h.2 fun e => by rw [h.1] at e; cases e⟩
theorem At.frs (hm : ∀ x ∈ M', x ∈ M ∨ H x = none) (h : At M H a o) : At M' H a o := ⟨h.at_, fun q => (hm _ q).elim h.off fun e => by rw [h.at_] at e; cases e⟩
mutual
theorem Rep.frs (hm : ∀ x ∈ M', x ∈ M ∨ H x = none) : ∀ {v : V} {d : D}, Rep M K H v d → Rep M' K H v d
  | _, _, .non => .non
  | _, _, .bl b => .bl b
  | _, _, .int i => .int i
  | _, _, .str x => .str x
  | _, _, .ty n => .ty n
  | _, _, .glo x => .glo x
  | _, _, .lst h a => .lst (At.frs hm h) (RepA.frs hm a)
  | _, _, .scr h => .scr (h.frs hm)
  | _, _, .tup h a => .tup (h.frs hm) (RepA.frs hm a)
  | _, _, .dK h n a => .dK (At.frs hm h) n (RepA.frs hm a)
  | _, _, .rng h => .rng (At.frs hm h)
  | _, _, .ins h n a => .ins (At.frs hm h) n (RepA.frs hm a)
  | _, _, .exc h h2 n a => .exc (At.frs hm h) (At.frs hm h2) n (RepA.frs hm a)
  | _, _, .ce h => .ce h
  | _, _, .tg h => .tg (Rep.frs hm h)
  | _, _, .bo h h2 => .bo (Rep.frs hm h) (Rep.frs hm h2)
theorem RepA.frs (hm : ∀ x ∈ M', x ∈ M ∨ H x = none) : ∀ {vs : List V} {ds : List D}, RepA M K H vs ds → RepA M' K H vs ds
  | _, _, .nil => .nil
  | _, _, .cons h a => .cons (Rep.frs hm h) (RepA.frs hm a)
end
end
section
variable {M : List Addr} {K : Kx} {l : List Addr} {H : Hp}
theorem up_at {K : Kx} {l : List Addr} {n : Nat} {a : Addr} (h : K.ka[n]? = some a) : (K.up l).ka[n]? = some a := by
  show (K.ka ++ l)[n]? = some a
  rw [List.getElem?_append_left (List.getElem?_eq_some_iff.mp h).1]
  exact h
mutual
theorem Rep.up : ∀ {v : V} {d : D}, Rep M K H v d → Rep M (K.up l) H v d
  | _, _, .non => .non
  | _, _, .bl b => .bl b
  | _, _, .int i => .int i
  | _, _, .str x => .str x
  | _, _, .ty n => .ty n
  | _, _, .glo x => .glo x
  | _, _, .lst h a => .lst h (RepA.up a)
  | _, _, .scr h => .scr h
  | _, _, .tup h a => .tup h (RepA.up a)
  | _, _, .dK h n a => .dK h n (RepA.up a)
  | _, _, .rng h => .rng h
  | _, _, .ins h n a => .ins h n (RepA.up a)
  | _, _, .exc h h2 n a => .exc h h2 n (RepA.up a)
  | _, _, .ce h => .ce (up_at h)
  | _, _, .tg h => .tg (Rep.up h)
  | _, _, .bo h h2 => .bo (Rep.up h) (Rep.up h2)
theorem RepA.up : ∀ {vs : List V} {ds : List D}, RepA M K H vs ds → RepA M (K.up l) H vs ds
  | _, _, .nil => .nil
  | _, _, .cons h a => .cons (Rep.up h) (RepA.up a)
end
end
mutual
/-- no cell from k on is told of -/
def below (k : Nat) : D → Bool
  | .lst xs => belows k xs
  | .tup xs => belows k xs
  | .dK kvs => belowK k kvs
  | .ins _ fs => belowF k fs
  | .exc _ fs => belowF k fs
  | .ce n => decide (n < k)
  | .tg _ d => below k d
  | .bo _ d e => below k d && below k e
  | _ => true
def belows (k : Nat) : List D → Bool
  | [] => true
  | d :: ds => below k d && belows k ds
def belowF (k : Nat) : List (Str × D) → Bool
  | [] => true
  | (_, d) :: ds => below k d && belowF k ds
def belowK (k : Nat) : List (L2.Key × D) → Bool
  | [] => true
  | (_, d) :: ds => below k d && belowK k ds
end
theorem belows_eq {k : Nat} : ∀ ds : List D, belows k ds = ds.all (below k)
  | [] => by simp only [belows, List.all_nil]
  | d :: ds => by simp only [belows, List.all_cons, belows_eq ds]
theorem belowF_eq {k : Nat} : ∀ ds : List (Str × D), belowF k ds = belows k (ds.map (·.2))
  | [] => by simp only [belows, belowF, List.map_nil]
  | (a, d) :: ds => by simp only [belows, belowF, List.map_cons, belowF_eq ds]
theorem belowK_eq {k : Nat} : ∀ ds : List (L2.Key × D), belowK k ds = belows k (ds.map (·.2))
  | [] => by simp only [belows, belowK, List.map_nil]
  | (a, d) :: ds => by simp only [belows, belowK, List.map_cons, belowK_eq ds]
section
variable {M : List Addr} {f : PySem.W.Frag} {κ l : List Addr} {H : Hp}
mutual
theorem Rep.dn : ∀ {v : V} {d : D}, Rep M ⟨f, κ ++ l⟩ H v d → below κ.length d = true → Rep M ⟨f, κ⟩ H v d
  | _, _, .non, _ => .non
  | _, _, .bl b, _ => .bl b
  | _, _, .int i, _ => .int i
  | _, _, .str x, _ => .str x
  | _, _, .ty n, _ => .ty n
  | _, _, .glo x, _ => .glo x
  | _, _, .lst h a, e => .lst h (RepA.dn a (by simpa only [below] using e))
  | _, _, .scr h, _ => .scr h
  | _, _, .tup h a, e => .tup h (RepA.dn a (by simpa only [below] using e))
  | _, _, .dK h n a, e => .dK h n (RepA.dn a (by
      simp only [below] at e
      rw [belowK_eq] at e
      exact e))
  | _, _, .rng h, _ => .rng h
  | _, _, .ins h n a, e => .ins h n (RepA.dn a (by
      simp only [below] at e
      rw [belowF_eq] at e
      exact e))
  | _, _, .exc h h2 n a, e => .exc h h2 n (RepA.dn a (by
      simp only [below] at e
      rw [belowF_eq] at e
      exact e))
  | _, _, .ce h, e => .ce (by
      simp only [below, decide_eq_true_eq] at e
      have h : (κ ++ l)[_]? = some _ := h
      rwa [List.getElem?_append_left e] at h)
  | _, _, .tg h, e => .tg (Rep.dn h (by simpa only [below] using e))
  | _, _, .bo h h2, e => .bo (Rep.dn h (by
      simp only [below, Bool.and_eq_true] at e
      exact e.1)) (Rep.dn h2 (by
      simp only [below, Bool.and_eq_true] at e
      exact e.2))
theorem RepA.dn : ∀ {vs : List V} {ds : List D}, RepA M ⟨f, κ ++ l⟩ H vs ds → belows κ.length ds = true → RepA M ⟨f, κ⟩ H vs ds
  | _, _, .nil, _ => .nil
  | _, _, .cons h a, e => .cons (Rep.dn h (by
      simp only [belows, Bool.and_eq_true] at e
      exact e.1)) (RepA.dn a (by
      simp only [belows, Bool.and_eq_true] at e
      exact e.2))
end
mutual
/-- what is told of stands -/
theorem Rep.wf : ∀ {v : V} {d : D}, Rep M ⟨f, κ⟩ H v d → below κ.length d = true
  | _, _, .non => by simp only [below]
  | _, _, .bl b => by simp only [below]
  | _, _, .int i => by simp only [below]
  | _, _, .str x => by simp only [below]
  | _, _, .ty n => by simp only [below]
  | _, _, .glo x => by simp only [below]
  | _, _, .lst h a => by simp only [below]; exact RepA.wf a
  | _, _, .scr h => by simp only [below]
  | _, _, .tup h a => by simp only [below]; exact RepA.wf a
  | _, _, .dK h n a => by simp only [below]; rw [belowK_eq]; exact RepA.wf a
  | _, _, .rng h => by simp only [below]
  | _, _, .ins h n a => by simp only [below]; rw [belowF_eq]; exact RepA.wf a
  | _, _, .exc h h2 n a => by simp only [below]; rw [belowF_eq]; exact RepA.wf a
  | _, _, .ce h => by
    simp only [below, decide_eq_true_eq]
    exact (List.getElem?_eq_some_iff.mp h).1
  | _, _, .tg h => by simp only [below]; exact Rep.wf h
  | _, _, .bo h h2 => by simp only [below, Rep.wf h, Rep.wf h2, Bool.and_self]
theorem RepA.wf : ∀ {vs : List V} {ds : List D}, RepA M ⟨f, κ⟩ H vs ds → belows κ.length ds = true
  | _, _, .nil => by simp only [belows]
  | _, _, .cons h a => by simp only [belows, Rep.wf h, RepA.wf a, Bool.and_self]
end
end
end CM
namespace CM
open PySem PySem.Spec PyProof.Rows L2 SL
inductive Sl where
  | un | cl (d : D)
/-- a held value: one that may be kept; a new thing of which nobody else knows -/
inductive W where
  | cl (d : D) | nw (c : D)
abbrev W.fr (ds : List D) : W := .nw (.lst ds)
abbrev Tb := List D
structure Fm where
  A : List Addr
  Io : List Addr
  H0 : Hp
structure Fm.Ok (F : Fm) : Prop where
  tr : ∀ a ∈ F.A, F.H0 a ≠ none
  io : ∀ a ∈ F.Io, a ∈ F.A
def rootW : V × W → Option Addr
  | (.ref p, .nw _) => some p
  | _ => none
abbrev rootsW (st : List (V × W)) : List Addr := st.filterMap rootW
/-- a thing that may change: what it holds -/
inductive Own (M : List Addr) (K : Kx) (H : Hp) (p : Addr) : D → Prop
  | lst {xs : List V} {ds : List D} : H p = some (.lst xs) → RepA M K H xs ds → Own M K H p (.lst ds)
  | dK {kvs : List (L2.Key × V)} {ds : List (L2.Key × D)} : H p = some (.dK kvs) → kvs.map (·.1) = ds.map (·.1) → RepA M K H (kvs.map (·.2)) (ds.map (·.2)) → Own M K H p (.dK ds)
  | ins {C : Str} {dx : Addr} {vs : List (Str × V)} {ds : List (Str × D)} : H p = some (.ins (He.ga K C) dx vs) → vs.map (·.1) = ds.map (·.1) → RepA M K H (vs.map (·.2)) (ds.map (·.2)) → Own M K H p (.ins C ds)
inductive SlR (M : List Addr) (K : Kx) (H : Hp) : Option V → Sl → Prop
  | un {o : Option V} : SlR M K H o .un
  | cl {v : V} {d : D} : Rep M K H v d → SlR M K H (some v) (.cl d)
inductive WR (F : Fm) (M : List Addr) (K : Kx) (H : Hp) : V → W → Prop
  | cl {v : V} {d : D} : Rep M K H v d → WR F M K H v (.cl d)
  | nw {p : Addr} {c : D} : F.H0 p = none → Own M K H p c → WR F M K H (.ref p) (.nw c)
/-- what must be kept off by what stays -/
abbrev av (F : Fm) (κ : List Addr) (st : List (V × W)) : List Addr := F.A ++ (κ ++ rootsW st)
structure EnvK (f : PySem.W.Frag) (κ : List Addr) (F : Fm) (σ : L2.St) (H : Hp) (ρ : List Sl) (h : Tb) (st : List (V × W)) : Prop where
  ok : F.Ok
  len : σ.length = ρ.length
  kl : κ.length = h.length
  io : ∃ l, κ = F.Io ++ l ∧ ∀ p ∈ l, F.H0 p = none
  ex : Ex F.Io F.H0 H
  tr : ∀ a, F.H0 a ≠ none → H a ≠ none
  nd : (κ ++ rootsW st).Nodup
  sl : ∀ (i : Nat) (o : Option V) (s : Sl), σ[i]? = some o → ρ[i]? = some s → SlR (av F κ st) ⟨f, κ⟩ H o s
  ce : ∀ (n : Nat) (p : Addr) (c : D), κ[n]? = some p → h[n]? = some c → Own (av F κ st) ⟨f, κ⟩ H p c
  wv : ∀ x ∈ st, WR F (av F κ st) ⟨f, κ⟩ H x.1 x.2
def EnvR (f : PySem.W.Frag) (F : Fm) (σ : L2.St) (H : Hp) (ρ : List Sl) (h : Tb) (st : List (V × W)) : Prop := ∃ κ, EnvK f κ F σ H ρ h st
section
variable {f : PySem.W.Frag} {κ : List Addr} {F : Fm} {M M' : List Addr} {K : Kx} {H H' : Hp} {p r : Addr} {o : Option V} {s s' : Sl} {σ : L2.St} {ρ ρ' : List Sl} {h h' : Tb} {st st' l : List (V × W)} {v : V} {w : W} {i n : Nat} {d c c' : D} {ds es : List D} {xs ys : List V}
theorem rootW_cl : rootW (v, .cl d) = none := by cases v <;> rfl
theorem Own.mono (hm : ∀ x ∈ M', x ∈ M) {d : D} (h : Own M K H p d) : Own M' K H p d := by
  cases h with
  | lst a b => exact .lst a (b.mono hm)
  | dK a n b => exact .dK a n (b.mono hm)
  | ins a n b => exact .ins a n (b.mono hm)
theorem SlR.mono (hm : ∀ x ∈ M', x ∈ M) (h : SlR M K H o s) : SlR M' K H o s := by
  cases h with
  | un => exact .un
  | cl r => exact .cl (r.mono hm)
theorem WR.mono (hm : ∀ x ∈ M', x ∈ M) (h : WR F M K H v w) : WR F M' K H v w := by
  cases h with
  | cl r => exact .cl (r.mono hm)
  | nw e r => exact .nw e (r.mono hm)
theorem Own.fresh (hp : H p = none) (hm : ∀ x ∈ M', x ∈ M ∨ x = p) {q : Addr} {d : D} (h : Own M K H q d) : Own M' K H q d := by
  cases h with
  | lst a b => exact .lst a (b.fresh hp hm)
  | dK a n b => exact .dK a n (b.fresh hp hm)
  | ins a n b => exact .ins a n (b.fresh hp hm)
theorem SlR.fresh (hp : H p = none) (hm : ∀ x ∈ M', x ∈ M ∨ x = p) (h : SlR M K H o s) : SlR M' K H o s := by
  cases h with
  | un => exact .un
  | cl r => exact .cl (r.fresh hp hm)
theorem WR.fresh (hp : H p = none) (hm : ∀ x ∈ M', x ∈ M ∨ x = p) (h : WR F M K H v w) : WR F M' K H v w := by
  cases h with
  | cl r => exact .cl (r.fresh hp hm)
  | nw n a => exact .nw n (a.fresh hp hm)
theorem Own.ex (e : Ex M H H') (hq : H' p = H p) {d : D} (h : Own M K H p d) : Own M K H' p d := by
  cases h with
  | lst a b => exact .lst (hq.trans a) (b.ex e)
  | dK a n b => exact .dK (hq.trans a) n (b.ex e)
  | ins a n b => exact .ins (hq.trans a) n (b.ex e)
theorem Own.up {l : List Addr} {d : D} (h : Own M K H p d) : Own M (K.up l) H p d := by
  cases h with
  | lst a b => exact .lst a b.up
  | dK a n b => exact .dK a n b.up
  | ins a n b => exact .ins a n b.up
theorem Own.some {d : D} (h : Own M K H p d) : H p ≠ none := by
  cases h with
  | lst a b => rw [a]; exact fun z => by cases z
  | dK a n b => rw [a]; exact fun z => by cases z
  | ins a n b => rw [a]; exact fun z => by cases z
theorem SlR.ex (e : Ex M H H') (h : SlR M K H o s) : SlR M K H' o s := by
  cases h with
  | un => exact .un
  | cl r => exact .cl (r.ex e)
theorem SlR.up {l : List Addr} (h : SlR M K H o s) : SlR M (K.up l) H o s := by
  cases h with
  | un => exact .un
  | cl r => exact .cl r.up
theorem WR.ex (e : Ex M H H') (hq : ∀ p c, v = .ref p → w = .nw c → H p ≠ none → H' p = H p) (h : WR F M K H v w) : WR F M K H' v w := by
  cases h with
  | cl r => exact .cl (r.ex e)
  | nw n r => exact .nw n (r.ex e (hq _ _ rfl rfl r.some))
theorem WR.up {l : List Addr} (h : WR F M K H v w) : WR F M (K.up l) H v w := by
  cases h with
  | cl r => exact .cl r.up
  | nw n r => exact .nw n r.up
theorem ex_same (e : Ex [] H H') (h : H p ≠ none) : H' p = H p := by
  cases q : H p with
  | none => exact absurd q h
  | some u => exact e p u (List.not_mem_nil) q
theorem mem_rootsW : r ∈ rootsW st ↔ ∃ x ∈ st, rootW x = some r := List.mem_filterMap
theorem EnvK.root_some (E : EnvK f κ F σ H ρ h st) (hr : r ∈ rootsW st) : H r ≠ none ∧ F.H0 r = none := by
  obtain ⟨⟨v, w⟩, hx, e⟩ := mem_rootsW.mp hr
  have q := E.wv _ hx
  dsimp only at q
  generalize av F κ st = M at q
  cases q with
  | cl r => rw [rootW_cl] at e; cases e
  | nw n a => cases e; exact ⟨a.some, n⟩
theorem EnvK.at_cell (E : EnvK f κ F σ H ρ h st) {n : Nat} (hn : κ[n]? = some p) : ∃ c, h[n]? = some c ∧ Own (av F κ st) ⟨f, κ⟩ H p c := by
  have hl : n < h.length := by
    rw [← E.kl]
    exact (List.getElem?_eq_some_iff.mp hn).1
  exact ⟨_, List.getElem?_eq_getElem hl, E.ce n p _ hn (List.getElem?_eq_getElem hl)⟩
theorem EnvK.ka_some (E : EnvK f κ F σ H ρ h st) (hr : r ∈ κ) : H r ≠ none := by
  obtain ⟨n, hn⟩ := List.mem_iff_getElem?.mp hr
  obtain ⟨c, _, q⟩ := E.at_cell hn
  exact q.some
theorem EnvK.av_some (E : EnvK f κ F σ H ρ h st) (hr : r ∈ av F κ st) : H r ≠ none := by
  rcases List.mem_append.mp hr with h | h
  · exact E.tr r (E.ok.tr r h)
  · rcases List.mem_append.mp h with h | h
    · exact E.ka_some h
    · exact (E.root_some h).1
theorem av_new (E : EnvK f κ F σ H ρ h st) (hp : H p = none) : p ∉ av F κ st := fun h => E.av_some h hp
theorem av_ka (h : r ∈ κ) : r ∈ av F κ st := List.mem_append.mpr (.inr (List.mem_append.mpr (.inl h)))
theorem av_st (h : r ∈ rootsW st) : r ∈ av F κ st := List.mem_append.mpr (.inr (List.mem_append.mpr (.inr h)))
theorem av_sub (hm : ∀ x ∈ st', x ∈ st) : ∀ x ∈ av F κ st', x ∈ av F κ st := fun x hx => by
  rcases List.mem_append.mp hx with h | h
  · exact List.mem_append.mpr (.inl h)
  · rcases List.mem_append.mp h with h | h
    · exact av_ka h
    · obtain ⟨y, hy, e⟩ := mem_rootsW.mp h
      exact av_st (mem_rootsW.mpr ⟨y, hm y hy, e⟩)
theorem slot_at (E : EnvK f κ F σ H ρ h st) (h2 : ρ[i]? = some s) : ∃ o, σ[i]? = some o ∧ SlR (av F κ st) ⟨f, κ⟩ H o s := by
  have hi : i < σ.length := by
    rw [E.len]
    exact (List.getElem?_eq_some_iff.mp h2).1
  exact ⟨_, List.getElem?_eq_getElem hi, E.sl i _ s (List.getElem?_eq_getElem hi) h2⟩
/-- new things alone -/
theorem EnvK.grow (E : EnvK f κ F σ H ρ h st) (e : Ex [] H H') : EnvK f κ F σ H' ρ h st where
  ok := E.ok
  len := E.len
  kl := E.kl
  io := E.io
  ex := E.ex.trans e.nil
  tr := fun a h => by
    have q := E.tr a h
    rw [ex_same e q]
    exact q
  nd := E.nd
  sl := fun i o s h1 h2 => (E.sl i o s h1 h2).ex e.nil
  ce := fun n p c h1 h2 => (E.ce n p c h1 h2).ex e.nil (ex_same e (E.ce n p c h1 h2).some)
  wv := fun x hx => (E.wv x hx).ex e.nil fun p c _ _ h => ex_same e h
theorem EnvK.st_sub (E : EnvK f κ F σ H ρ h st) (hm : ∀ x ∈ st', x ∈ st) (hn : (κ ++ rootsW st').Nodup) : EnvK f κ F σ H ρ h st' := by
  have ha := av_sub (F := F) (κ := κ) hm
  exact ⟨E.ok, E.len, E.kl, E.io, E.ex, E.tr, hn, fun i o s h1 h2 => (E.sl i o s h1 h2).mono ha, fun n p c h1 h2 => (E.ce n p c h1 h2).mono ha, fun x hx => (E.wv x (hm x hx)).mono ha⟩
theorem EnvK.perm (E : EnvK f κ F σ H ρ h st) (q : st.Perm st') : EnvK f κ F σ H ρ h st' :=
  E.st_sub (fun x hx => q.mem_iff.mpr hx) (((List.Perm.append_left κ (q.filterMap rootW)).nodup_iff).mp E.nd)
theorem EnvK.sub (E : EnvK f κ F σ H ρ h st) (q : List.Sublist st' st) : EnvK f κ F σ H ρ h st' :=
  E.st_sub (fun x hx => q.subset hx) (E.nd.sublist (List.Sublist.append_left (q.filterMap _) _))
theorem EnvK.pop {x : V × W} (E : EnvK f κ F σ H ρ h (x :: st)) : EnvK f κ F σ H ρ h st := E.sub (List.sublist_cons_self x st)
theorem EnvK.popL {l : List (V × W)} (E : EnvK f κ F σ H ρ h (l ++ st)) : EnvK f κ F σ H ρ h st := E.sub (List.sublist_append_right l st)
theorem roots_cl : rootsW ((v, .cl d) :: st) = rootsW st := by
  unfold rootsW
  rw [List.filterMap_cons, rootW_cl]
theorem roots_nw : rootsW ((.ref p, .nw c) :: st) = p :: rootsW st := rfl
theorem EnvK.pushC (E : EnvK f κ F σ H ρ h st) (r : Rep (av F κ st) ⟨f, κ⟩ H v d) : EnvK f κ F σ H ρ h ((v, .cl d) :: st) := by
  have er : av F κ ((v, .cl d) :: st) = av F κ st := by
    show F.A ++ (κ ++ rootsW _) = _
    rw [roots_cl]
  refine ⟨E.ok, E.len, E.kl, E.io, E.ex, E.tr, by rw [roots_cl]; exact E.nd, by rw [er]; exact E.sl, by rw [er]; exact E.ce, fun x hx => ?_⟩
  rw [er]
  rcases List.mem_cons.mp hx with rfl | hx
  · exact .cl r
  · exact E.wv x hx
theorem av_nw {x : Addr} (hx : x ∈ av F κ ((.ref p, .nw c) :: st)) : x = p ∨ x ∈ av F κ st := by
  rcases List.mem_append.mp hx with h | h
  · exact .inr (List.mem_append.mpr (.inl h))
  · rcases List.mem_append.mp h with h | h
    · exact .inr (av_ka h)
    · rw [roots_nw] at h
      rcases List.mem_cons.mp h with h | h
      · exact .inl h
      · exact .inr (av_st h)
/-- a new thing is held -/
theorem EnvK.pushN (E : EnvK f κ F σ H ρ h st) (hp : H p = none) (e : Ex [] H H') (r : Own (p :: av F κ st) ⟨f, κ⟩ H' p c) : EnvK f κ F σ H' ρ h ((.ref p, .nw c) :: st) := by
  have hf : ∀ x ∈ av F κ ((V.ref p, W.nw c) :: st), x ∈ av F κ st ∨ x = p := fun x hx => (av_nw hx).symm
  have h0 : F.H0 p = none := by
    cases q : F.H0 p with
    | none => rfl
    | some u => exact absurd hp (E.tr p (by rw [q]; exact fun z => by cases z))
  refine ⟨E.ok, E.len, E.kl, E.io, E.ex.trans e.nil, fun a h => ?_, ?_, fun i o s h1 h2 => ?_, fun n q c h1 h2 => ?_, fun x hx => ?_⟩
  · have q := E.tr a h
    rw [ex_same e q]
    exact q
  · rw [roots_nw]
    refine (List.perm_middle.nodup_iff).mpr (List.nodup_cons.mpr ⟨fun h => ?_, E.nd⟩)
    rcases List.mem_append.mp h with h | h
    · exact E.ka_some h hp
    · exact (E.root_some h).1 hp
  · exact ((E.sl i o s h1 h2).fresh hp hf).ex e.nil
  · exact ((E.ce n q c h1 h2).fresh hp hf).ex e.nil (ex_same e (E.ce n q c h1 h2).some)
  · rcases List.mem_cons.mp hx with rfl | hx
    · refine .nw h0 (r.mono fun x hx => ?_)
      rcases hf x hx with h | h
      · exact List.mem_cons_of_mem _ h
      · rw [h]
        exact List.mem_cons_self ..
    · exact ((E.wv x hx).fresh hp hf).ex e.nil fun p _ _ _ h => ex_same e h
theorem EnvK.held (E : EnvK f κ F σ H ρ h ((v, .nw c) :: st)) : ∃ p, v = .ref p ∧ F.H0 p = none ∧ Own (av F κ ((v, .nw c) :: st)) ⟨f, κ⟩ H p c ∧ p ∉ av F κ st := by
  have q := E.wv _ (List.mem_cons_self ..)
  have nd := E.nd
  have ok := E.ok
  dsimp only at q
  generalize hM : av F κ ((v, W.nw c) :: st) = M at q
  cases q with
  | @nw p _ n a =>
    refine ⟨p, rfl, n, hM ▸ a, fun z => ?_⟩
    rw [roots_nw] at nd
    have nd := (List.nodup_cons.mp ((List.perm_middle.nodup_iff).mp nd)).1
    rcases List.mem_append.mp z with h | h
    · exact ok.tr p h n
    · exact nd h
theorem Own.tree (hp : p ∉ M) (r : Own M K H p c) : Rep M K H (.ref p) c := by
  cases r with
  | lst a b => exact .lst ⟨a, hp⟩ b
  | dK a n b => exact .dK ⟨a, hp⟩ n b
  | ins a n b => exact .ins ⟨a, hp⟩ n b
/-- a held new thing is held as a tree that stays -/
theorem EnvK.freeze (E : EnvK f κ F σ H ρ h ((v, .nw c) :: st)) : EnvK f κ F σ H ρ h ((v, .cl c) :: st) := by
  obtain ⟨p, rfl, h0, own, hn⟩ := E.held
  exact E.pop.pushC ((own.mono (av_sub fun x hx => List.mem_cons_of_mem _ hx)).tree hn)
/-- a held new thing becomes a cell -/
theorem EnvK.cell (E : EnvK f κ F σ H ρ h ((v, .nw c) :: st)) : ∃ p, v = .ref p ∧ EnvK f (κ ++ [p]) F σ H ρ (h ++ [c]) ((v, .cl (.ce h.length)) :: st) := by
  obtain ⟨p, rfl, h0, own, hn⟩ := E.held
  refine ⟨p, rfl, ?_⟩
  have hm : ∀ x, x ∈ av F (κ ++ [p]) ((V.ref p, W.cl (D.ce h.length)) :: st) → x ∈ av F κ ((V.ref p, W.nw c) :: st) := fun x hx => by
    rcases List.mem_append.mp hx with h | h
    · exact List.mem_append.mpr (.inl h)
    · rw [roots_cl] at h
      refine List.mem_append.mpr (.inr ?_)
      rw [roots_nw]
      simp only [List.mem_append, List.mem_cons, List.not_mem_nil, or_false] at h ⊢
      rcases h with (h | h) | h
      · exact .inl h
      · exact .inr (.inl h)
      · exact .inr (.inr h)
  obtain ⟨l, e1, e2⟩ := E.io
  refine ⟨E.ok, E.len, by simp [E.kl], ⟨l ++ [p], by rw [e1, List.append_assoc], fun q hq => ?_⟩, E.ex, E.tr, ?_, fun i o s h1 h2 => ((E.sl i o s h1 h2).mono hm).up, fun n q d h1 h2 => ?_, fun x hx => ?_⟩
  · rcases List.mem_append.mp hq with hq | hq
    · exact e2 q hq
    · rw [List.mem_singleton.mp hq]
      exact h0
  · rw [roots_cl, List.append_assoc]
    exact E.nd
  · by_cases hk : n < κ.length
    · rw [List.getElem?_append_left hk] at h1
      rw [List.getElem?_append_left (by rw [← E.kl]; exact hk)] at h2
      exact ((E.ce n q d h1 h2).mono hm).up
    · rw [List.getElem?_append_right (by omega)] at h1
      rw [List.getElem?_append_right (by rw [← E.kl]; omega)] at h2
      have hz : n - κ.length = 0 := by
        have := (List.getElem?_eq_some_iff.mp h1).1
        simp at this
        omega
      have hz2 : n - h.length = 0 := by rw [← E.kl]; exact hz
      rw [hz] at h1
      rw [hz2] at h2
      simp at h1 h2
      subst h1 h2
      exact (own.mono hm).up
  · rcases List.mem_cons.mp hx with rfl | hx
    · refine .cl (.ce ?_)
      show (κ ++ [p])[h.length]? = some p
      rw [← E.kl]
      simp
    · exact ((E.wv x (List.mem_cons_of_mem _ hx)).mono hm).up
theorem set_self {α : Type} {l : List α} {i : Nat} {a : α} (h : l[i]? = some a) : l.set i a = l := by
  apply List.ext_getElem?
  intro k
  by_cases hk : i = k
  · subst hk
    rw [List.getElem?_set_self (List.getElem?_eq_some_iff.mp h).1, h]
  · rw [List.getElem?_set_ne hk]
theorem EnvK.slot (E : EnvK f κ F σ H ρ h st) {o' : Option V} (r : SlR (av F κ st) ⟨f, κ⟩ H o' s') : EnvK f κ F (σ.set i o') H (ρ.set i s') h st := by
  refine ⟨E.ok, by rw [List.length_set, List.length_set]; exact E.len, E.kl, E.io, E.ex, E.tr, E.nd, fun j oj sj g1 g2 => ?_, E.ce, E.wv⟩
  by_cases hj : i = j
  · subst hj
    have l1 : i < σ.length := by
      have := (List.getElem?_eq_some_iff.mp g1).1
      rwa [List.length_set] at this
    have l2 : i < ρ.length := by rw [← E.len]; exact l1
    rw [List.getElem?_set_self l1] at g1
    rw [List.getElem?_set_self l2] at g2
    cases g1
    cases g2
    exact r
  · rw [List.getElem?_set_ne hj] at g1 g2
    exact E.sl j oj sj g1 g2
/-- x = a value -/
theorem EnvK.setC (E : EnvK f κ F σ H ρ h ((v, .cl d) :: st)) : EnvK f κ F (σ.set i (some v)) H (ρ.set i (.cl d)) h st := by
  refine E.pop.slot ?_
  have q := E.wv _ (List.mem_cons_self ..)
  dsimp only at q
  cases q with
  | cl r => exact .cl (r.mono (av_sub fun x hx => List.mem_cons_of_mem _ hx))
theorem EnvK.forget (E : EnvK f κ F σ H ρ h st) (o' : Option V) : EnvK f κ F (σ.set i o') H (ρ.set i .un) h st := E.slot .un
inductive Nr (M : List Addr) (K : Kx) (H : Hp) : V → D → Prop
  | cl {v : V} {d : D} : Rep M K H v d → Nr M K H v d
  | own {p : Addr} {d : D} : Own M K H p d → Nr M K H (.ref p) d
/-- a value with what its cell holds -/
def top (h : Tb) : D → Option D
  | .ce n => h[n]?
  | d => some d
def deref (h : Tb) : W → Option D
  | .cl d => top h d
  | .nw c => some c
theorem top_ne (hd : ∀ n, d ≠ .ce n) : top h d = some d := by
  cases d <;> first | rfl | exact absurd rfl (hd _)
theorem EnvK.topR (E : EnvK f κ F σ H ρ h st) (r : Rep (av F κ st) ⟨f, κ⟩ H v d) (e : top h d = some c) : Nr (av F κ st) ⟨f, κ⟩ H v c := by
  by_cases hd : ∃ n, d = .ce n
  · obtain ⟨n, rfl⟩ := hd
    generalize hM : av F κ st = M at r
    cases r with
    | ce q =>
      subst hM
      exact .own (E.ce n _ c q e)
  · rw [top_ne fun n z => hd ⟨n, z⟩] at e
    cases e
    exact .cl r
theorem EnvK.near (E : EnvK f κ F σ H ρ h st) (hx : (v, w) ∈ st) (e : deref h w = some d) : Nr (av F κ st) ⟨f, κ⟩ H v d := by
  have q := E.wv _ hx
  dsimp only at q
  generalize hM : av F κ st = M at q
  cases q with
  | cl r => subst hM; exact E.topR r e
  | nw n r => cases e; exact .own r
theorem Nr.mono (hm : ∀ x ∈ M', x ∈ M) (h : Nr M K H v d) : Nr M' K H v d := by
  cases h with
  | cl r => exact .cl (r.mono hm)
  | own r => exact .own (r.mono hm)
theorem Own.rep0 (h : Own M K H p d) : Rep [] K H (.ref p) d := (h.mono (M' := []) fun _ z => absurd z (List.not_mem_nil)).tree List.not_mem_nil
theorem Nr.rep0 (h : Nr M K H v d) : Rep [] K H v d := by
  cases h with
  | cl r => exact r.mono fun _ z => absurd z (List.not_mem_nil)
  | own r => exact r.rep0
theorem Own.u (h : Own M K H p d) : d.u = d := by cases h <;> rfl
theorem Nr.u (h : Nr M K H v d) : Nr M K H v d.u := by
  cases h with
  | cl r => exact .cl r.u
  | own r =>
    rw [r.u]
    exact .own r
/-- what an operation hands back -/
inductive Nw (M : List Addr) (K : Kx) (H H' : Hp) : V → W → Prop
  | cl {v : V} {d : D} : Rep M K H' v d → Nw M K H H' v (.cl d)
  | nw {p : Addr} {c : D} : H p = none → Own (p :: M) K H' p c → Nw M K H H' (.ref p) (.nw c)
theorem RepA.freshN (hp : H p = none) (r : RepA M K H xs ds) {u : HO} : RepA (p :: M) K (upd H p u) xs ds := (r.fresh hp fun x hx => (List.mem_cons.mp hx).symm).ex (Ex.nil (Ex.new hp))
theorem Nw.new (hp : H p = none) (r : RepA M K H xs ds) : Nw M K H (upd H p (.lst xs)) (.ref p) (.fr ds) := .nw hp (.lst upd_same (r.freshN hp))
theorem Nw.tup (hp : H p = none) (hM : p ∉ M) (r : RepA M K H xs ds) : Nw M K H (upd H p (.tup xs)) (.ref p) (.cl (.tup ds)) :=
  .cl (.tup ⟨upd_same, hM⟩ (r.ex (Ex.nil (Ex.new hp))))
theorem EnvK.land (E : EnvK f κ F σ H ρ h (l ++ st)) (e : Ex [] H H') (n : Nw (av F κ (l ++ st)) ⟨f, κ⟩ H H' v w) : EnvK f κ F σ H' ρ h ((v, w) :: st) := by
  have hs : ∀ x ∈ av F κ st, x ∈ av F κ (l ++ st) := av_sub fun x hx => List.mem_append.mpr (.inr hx)
  cases n with
  | cl r => exact (E.popL.grow e).pushC (r.mono hs)
  | nw hp a =>
    refine E.popL.pushN hp e (a.mono fun x hx => ?_)
    rcases List.mem_cons.mp hx with h | h
    · rw [h]
      exact List.mem_cons_self ..
    · exact List.mem_cons_of_mem _ (hs x h)
/-- a cell is changed -/
theorem EnvK.mut {u : HO} (E : EnvK f κ F σ H ρ h st) (h1 : κ[n]? = some p) (r : Own (av F κ st) ⟨f, κ⟩ (upd H p u) p c') : EnvK f κ F σ (upd H p u) ρ (h.set n c') st := by
  have hk : p ∈ κ := List.mem_of_getElem? h1
  have hM : p ∈ av F κ st := av_ka hk
  have eM : Ex (av F κ st) H (upd H p u) := Ex.mut hM
  obtain ⟨l, e1, e2⟩ := E.io
  have h0 : F.H0 p = none ∨ p ∈ F.Io := by
    rw [e1] at hk
    rcases List.mem_append.mp hk with z | z
    · exact .inr z
    · exact .inl (e2 p z)
  refine ⟨E.ok, E.len, by rw [List.length_set]; exact E.kl, E.io, fun a o hn z => ?_, fun a z => ?_, E.nd, fun j oj sj g1 g2 => (E.sl j oj sj g1 g2).ex eM, fun m q c g1 g2 => ?_, fun x hx => (E.wv x hx).ex eM fun q c e ew _ => ?_⟩
  · have hne : a ≠ p := by
      rintro rfl
      rcases h0 with h | h
      · rw [h] at z
        cases z
      · exact hn h
    rw [upd_ne hne]
    exact E.ex a o hn z
  · by_cases hne : a = p
    · rw [hne, upd_same]
      exact fun z => by cases z
    · rw [upd_ne hne]
      exact E.tr a z
  · by_cases hm : n = m
    · subst hm
      rw [h1] at g1
      cases g1
      have hl : n < h.length := by rw [← E.kl]; exact (List.getElem?_eq_some_iff.mp h1).1
      rw [List.getElem?_set_self hl] at g2
      cases g2
      exact r
    · rw [List.getElem?_set_ne hm] at g2
      have hne : q ≠ p := fun z => hm (by
        subst z
        have nd := (List.nodup_append.mp E.nd).1
        exact (List.getElem?_inj (List.getElem?_eq_some_iff.mp h1).1 nd).mp (h1.trans g1.symm))
      exact (E.ce m q c g1 g2).ex eM (upd_ne hne)
  · refine upd_ne fun z => ?_
    subst z
    have hr : q ∈ rootsW st := mem_rootsW.mpr ⟨x, hx, by
      obtain ⟨a, b⟩ := x
      cases e
      cases ew
      rfl⟩
    exact (List.nodup_append.mp E.nd).2.2 q hk q hr rfl
/-- a held new thing is changed -/
theorem EnvK.app {u : HO} (E : EnvK f κ F σ H ρ h ((.ref p, .nw c) :: st)) (r : Own (av F κ ((.ref p, .nw c) :: st)) ⟨f, κ⟩ (upd H p u) p c') : EnvK f κ F σ (upd H p u) ρ h ((.ref p, .nw c') :: st) := by
  obtain ⟨p', e, h0, own, hn⟩ := E.held
  cases e
  have hM : p ∈ av F κ ((V.ref p, W.nw c) :: st) := av_st (by rw [roots_nw]; exact List.mem_cons_self ..)
  have eM : Ex (av F κ ((V.ref p, W.nw c) :: st)) H (upd H p u) := Ex.mut hM
  refine ⟨E.ok, E.len, E.kl, E.io, fun a o hn z => ?_, fun a z => ?_, E.nd, fun j oj sj g1 g2 => (E.sl j oj sj g1 g2).ex eM, fun m q c g1 g2 => (E.ce m q c g1 g2).ex eM (upd_ne fun z => ?_), fun x hx => ?_⟩
  · have hne : a ≠ p := by
      rintro rfl
      rw [h0] at z
      cases z
    rw [upd_ne hne]
    exact E.ex a o hn z
  · by_cases hne : a = p
    · rw [hne, upd_same]
      exact fun z => by cases z
    · rw [upd_ne hne]
      exact E.tr a z
  · subst z
    exact hn (av_ka (List.mem_of_getElem? g1))
  · rcases List.mem_cons.mp hx with rfl | hx2
    · exact .nw h0 r
    · refine (E.wv x (List.mem_cons_of_mem _ hx2)).ex eM fun q c e ew _ => upd_ne fun z => ?_
      subst z
      refine hn (av_st (mem_rootsW.mpr ⟨x, hx2, ?_⟩))
      obtain ⟨a, b⟩ := x
      cases e
      cases ew
      rfl
theorem EnvK.rep (E : EnvK f κ F σ H ρ h st) (hx : (v, W.cl d) ∈ st) : Rep (av F κ st) ⟨f, κ⟩ H v d := by
  have q := E.wv _ hx
  dsimp only at q
  cases q with | cl r => exact r
end
end CM
namespace CM
open PySem PySem.Spec PyProof.Rows L2 SL
inductive R (α : Type) where
  | ok (a : α) (ρ : List Sl) (h : Tb)
  | ex (C : Str) (fs : List (Str × D)) (ρ : List Sl) (h : Tb)
abbrev Mo (α : Type) := List Sl → Tb → Option (R α)
def bindR {α β : Type} (x : Option (R α)) (f : α → List Sl → Tb → Option (R β)) : Option (R β) := match x with
  | some (.ok a ρ h) => f a ρ h
  | some (.ex C fs ρ h) => some (.ex C fs ρ h)
  | none => none
theorem bindR_some {α β : Type} {x : Option (R α)} {f : α → List Sl → Tb → Option (R β)} {r : R β} (q : bindR x f = some r) : (∃ a ρ h, x = some (.ok a ρ h) ∧ f a ρ h = some r) ∨ ∃ C fs ρ h, x = some (.ex C fs ρ h) ∧ r = .ex C fs ρ h := by
  match x, q with
  | some (.ok a ρ h), q => exact .inl ⟨a, ρ, h, rfl, q⟩
  | some (.ex C fs ρ h), q => exact .inr ⟨C, fs, ρ, h, rfl, (Option.some.inj q).symm⟩
/-- a value that may be kept: a new thing is kept as a tree -/
def fzW : W → D
  | .cl d => d
  | .nw c => c
def derefs (h : Tb) : List W → Option (List D)
  | [] => some []
  | w :: ws => (deref h w).bind fun d => (derefs h ws).bind fun ds => some (d :: ds)
section
variable {f : PySem.W.Frag} {κ : List Addr} {K : Kx} {F : Fm} {M : List Addr} {H H' : Hp} {σ : L2.St} {ρ ρ' : List Sl} {h h' : Tb} {st l : List (V × W)} {v : V} {w : W} {d : D} {ds : List D} {vs : List V} {ws : List W}
theorem EnvK.fz (E : EnvK f κ F σ H ρ h ((v, w) :: st)) : EnvK f κ F σ H ρ h ((v, .cl (fzW w)) :: st) := by
  cases w with
  | cl d => exact E
  | nw c => exact E.freeze
theorem EnvK.fzs : ∀ {ws : List W} {vs : List V} {st : List (V × W)}, vs.length = ws.length → EnvK f κ F σ H ρ h (vs.zip ws ++ st) → EnvK f κ F σ H ρ h (vs.zip ((ws.map fzW).map W.cl) ++ st)
  | [], [], st, hl, E => E
  | [], _ :: _, st, hl, E => by cases hl
  | w :: ws, [], st, hl, E => by cases hl
  | w :: ws, v :: vs, st, hl, E => by
    have E1 : EnvK f κ F σ H ρ h ((v, .cl (fzW w)) :: (vs.zip ws ++ st)) := EnvK.fz E
    have E2 : EnvK f κ F σ H ρ h (vs.zip ws ++ ((v, .cl (fzW w)) :: st)) := E1.perm List.perm_middle.symm
    exact (EnvK.fzs (by simpa using hl) E2).perm List.perm_middle
theorem EnvK.repA : ∀ {vs : List V} {ds : List D}, EnvK f κ F σ H ρ h st → vs.length = ds.length → (∀ x ∈ vs.zip (ds.map W.cl), x ∈ st) → RepA (av F κ st) ⟨f, κ⟩ H vs ds
  | [], [], _, _, _ => .nil
  | [], _ :: _, _, h, _ => by cases h
  | _ :: _, [], _, h, _ => by cases h
  | v :: vs, d :: ds, E, hl, hm => .cons (E.rep (hm _ (List.mem_cons_self ..))) (EnvK.repA E (by simpa using hl) fun x hx => hm x (List.mem_cons_of_mem _ hx))
/-- values that can be read now -/
inductive NrA (M : List Addr) (K : Kx) (H : Hp) : List V → List D → Prop
  | nil : NrA M K H [] []
  | cons {v : V} {vs : List V} {d : D} {ds : List D} : Nr M K H v d → NrA M K H vs ds → NrA M K H (v :: vs) (d :: ds)
theorem EnvK.nears : ∀ {ws : List W} {vs : List V} {ds : List D}, EnvK f κ F σ H ρ h st → vs.length = ws.length → (∀ x ∈ vs.zip ws, x ∈ st) → derefs h ws = some ds → NrA (av F κ st) ⟨f, κ⟩ H vs ds
  | [], [], ds, E, _, _, e => by cases e; exact .nil
  | [], _ :: _, _, _, e, _, _ => by cases e
  | _ :: _, [], _, _, e, _, _ => by cases e
  | w :: ws, v :: vs, ds, E, hl, hm, e => by
    unfold derefs at e
    cases h1 : deref h w with
    | none => rw [h1] at e; cases e
    | some d =>
      rw [h1] at e
      dsimp only [Option.bind_some] at e
      cases h2 : derefs h ws with
      | none => rw [h2] at e; cases e
      | some ds' =>
        rw [h2] at e
        cases e
        exact .cons (E.near (hm _ (List.mem_cons_self ..)) h1) (EnvK.nears E (by simpa using hl) (fun x hx => hm x (List.mem_cons_of_mem _ hx)) h2)
end
/-- an own exception's dict -/
inductive XdR (M : List Addr) (K : Kx) (H : Hp) (dx : Addr) (fs : List (Str × D)) : Prop
  | mk {vs : List (Str × V)} : (H dx = some (.xd vs) ∨ H dx = some (exd dx vs)) → vs.map (·.1) = fs.map (·.1) → RepA M K H (vs.map (·.2)) (fs.map (·.2)) → XdR M K H dx fs
def ExR (f : PySem.W.Frag) (F : Fm) (WW : WX) (st : List (V × W)) (C : Str) (fs : List (Str × D)) (ρ : List Sl) (h : Tb) : Prop :=
  ∀ κ σ H dx, EnvK f κ F σ H ρ h st → XdR (av F κ st) ⟨f, κ⟩ H dx fs → WW (.ref (He.ga f C)) (some dx) σ H
def PostE (f : PySem.W.Frag) (F : Fm) (WW : WX) (σ : L2.St) (st : List (V × W)) (Q : VK) : R W → Prop
  | .ok w ρ h => ∀ v H, EnvR f F σ H ρ h ((v, w) :: st) → Q v H
  | .ex C fs ρ h => ExR f F WW st C fs ρ h
def PostA (f : PySem.W.Frag) (F : Fm) (WW : WX) (σ : L2.St) (st : List (V × W)) (Q : List V → Hp → Prop) : R (List W) → Prop
  | .ok ws ρ h => ∀ vs H, vs.length = ws.length → EnvR f F σ H ρ h (vs.zip ws ++ st) → Q vs H
  | .ex C fs ρ h => ExR f F WW st C fs ρ h
def PostT (f : PySem.W.Frag) (F : Fm) (WW : WX) (σ : L2.St) (st : List (V × W)) (Q : Bool → Hp → Prop) : R Bool → Prop
  | .ok b ρ h => ∀ H, EnvR f F σ H ρ h st → Q b H
  | .ex C fs ρ h => ExR f F WW st C fs ρ h
def SimE (f : PySem.W.Frag) (WW : WX) (t : TE) (m : Mo W) : Prop := ∀ (F : Fm) (σ : L2.St) (H : Hp) (ρ : List Sl) (h : Tb) (st : List (V × W)) (r : R W) (Q : VK), EnvR f F σ H ρ h st → m ρ h = some r → PostE f F WW σ st Q r → t σ H Q
def SimA (f : PySem.W.Frag) (WW : WX) (t : TA) (m : Mo (List W)) : Prop := ∀ (F : Fm) (σ : L2.St) (H : Hp) (ρ : List Sl) (h : Tb) (st : List (V × W)) (r : R (List W)) (Q : List V → Hp → Prop), EnvR f F σ H ρ h st → m ρ h = some r → PostA f F WW σ st Q r → t σ H Q
def SimT (f : PySem.W.Frag) (WW : WX) (t : TT) (m : Mo Bool) : Prop := ∀ (F : Fm) (σ : L2.St) (H : Hp) (ρ : List Sl) (h : Tb) (st : List (V × W)) (r : R Bool) (Q : Bool → Hp → Prop), EnvR f F σ H ρ h st → m ρ h = some r → PostT f F WW σ st Q r → t σ H Q
theorem ExR.up {f : PySem.W.Frag} {F : Fm} {WW : WX} {st : List (V × W)} {x : V × W} {C : Str} {fs : List (Str × D)} {ρ : List Sl} {h : Tb} (q : ExR f F WW st C fs ρ h) : ExR f F WW (x :: st) C fs ρ h := fun κ σ H dx E z => q κ σ H dx E.pop (by
  obtain ⟨a, b, c⟩ := z
  exact .mk a b (c.mono (av_sub fun x hx => List.mem_cons_of_mem _ hx)))
def mC (d : D) : Mo W := fun ρ h => some (.ok (.cl d) ρ h)
def mVar (i : Nat) : Mo W := fun ρ h => match ρ[i]? with
  | some (.cl d) => some (.ok (.cl d) ρ h)
  | _ => none
def mOp (g : D → D → Option W) (a b : Mo W) : Mo W := fun ρ h => bindR (a ρ h) fun x ρ h => bindR (b ρ h) fun y ρ h => (deref h x).bind fun dx => (deref h y).bind fun dy => (g dx dy).map fun w => .ok w ρ h
def mUn (g : D → Option W) (a : Mo W) : Mo W := fun ρ h => bindR (a ρ h) fun x ρ h => (deref h x).bind fun dx => (g dx).map fun w => .ok w ρ h
def mNil : Mo (List W) := fun ρ h => some (.ok [] ρ h)
def mCons (a : Mo W) (b : Mo (List W)) : Mo (List W) := fun ρ h => bindR (a ρ h) fun x ρ h => bindR (b ρ h) fun xs ρ h => some (.ok (x :: xs) ρ h)
def mCB (g : List D → Option W) (a : Mo (List W)) : Mo W := fun ρ h => bindR (a ρ h) fun xs ρ h => (derefs h xs).bind fun ds => (g ds).map fun w => .ok w ρ h
def mLst (a : Mo (List W)) : Mo W := fun ρ h => bindR (a ρ h) fun xs ρ h => if xs.length ≤ 100000 then some (.ok (.fr (xs.map fzW)) ρ h) else none
def mTup (a : Mo (List W)) : Mo W := fun ρ h => bindR (a ρ h) fun xs ρ h => if xs.length ≤ 100000 then some (.ok (.cl (.tup (xs.map fzW))) ρ h) else none
/-- a new thing becomes a cell -/
def mCe (a : Mo W) : Mo W := fun ρ h => bindR (a ρ h) fun w ρ h => match w with
  | .nw c => some (.ok (.cl (.ce h.length)) ρ (h ++ [c]))
  | .cl d => some (.ok (.cl d) ρ h)
/-- a new thing is kept as a tree -/
def mFr (a : Mo W) : Mo W := fun ρ h => bindR (a ρ h) fun w ρ h => some (.ok (.cl (fzW w)) ρ h)
def mTest (a : Mo W) : Mo Bool := fun ρ h => bindR (a ρ h) fun x ρ h => match (deref h x).map D.u with
  | some (.bl b) => some (.ok b ρ h)
  | _ => none
def mNotV (a : Mo W) : Mo W := fun ρ h => bindR (mTest a ρ h) fun b ρ h => some (.ok (.cl (.bl (!b))) ρ h)
def mAndV (a b : Mo W) : Mo W := fun ρ h => bindR (mTest a ρ h) fun c ρ h => if c = true then b ρ h else some (.ok (.cl (.bl false)) ρ h)
def mIf (c : Mo Bool) (a b : Mo W) : Mo W := fun ρ h => bindR (c ρ h) fun k ρ h => if k = true then a ρ h else b ρ h
def mAnd (a b : Mo Bool) : Mo Bool := fun ρ h => bindR (a ρ h) fun c ρ h => if c = true then b ρ h else some (.ok false ρ h)
def mOr (a b : Mo Bool) : Mo Bool := fun ρ h => bindR (a ρ h) fun c ρ h => if c = true then some (.ok true ρ h) else b ρ h
def mNot (a : Mo Bool) : Mo Bool := fun ρ h => bindR (a ρ h) fun c ρ h => some (.ok (!c) ρ h)
def mYes : Mo Bool := fun ρ h => some (.ok true ρ h)
/-- a value's truth -/
def dTru : D → Option Bool
  | .non => some false
  | .bl b => some b
  | .int i => some (i != 0)
  | .str z => if z.length ≤ 100000 then some ((z.length : Int) != 0) else none
  | .lst ds => some (!ds.isEmpty)
  | .tup ds => some (!ds.isEmpty)
  | .dK ds => some (!ds.isEmpty)
  | _ => none
def mTru (a : Mo W) : Mo Bool := fun ρ h => bindR (a ρ h) fun x ρ h => ((deref h x).bind fun d => dTru d.u).map fun b => .ok b ρ h
/-- an operator by values -/
def Op2 (f : PySem.W.Frag) (r : R2) (g : D → D → Option W) : Prop := ∀ (κ : List Addr) (M : List Addr) (H : Hp) (x y : V) (dx dy : D) (w : W) (Q : VK), (∀ p, H p = none → p ∉ M) → Nr M ⟨f, κ⟩ H x dx → Nr M ⟨f, κ⟩ H y dy → g dx dy = some w →
  (∀ v H', Ex [] H H' → Nw M ⟨f, κ⟩ H H' v w → Q v H') → r x y H Q
def Op1 (f : PySem.W.Frag) (r : V → Hp → VK → Prop) (g : D → Option W) : Prop := ∀ (κ : List Addr) (M : List Addr) (H : Hp) (x : V) (dx : D) (w : W) (Q : VK), (∀ p, H p = none → p ∉ M) → Nr M ⟨f, κ⟩ H x dx → g dx = some w →
  (∀ v H', Ex [] H H' → Nw M ⟨f, κ⟩ H H' v w → Q v H') → r x H Q
def OpN (f : PySem.W.Frag) (r : List V → Hp → VK → Prop) (g : List D → Option W) : Prop := ∀ (κ : List Addr) (M : List Addr) (H : Hp) (xs : List V) (ds : List D) (w : W) (Q : VK), (∀ p, H p = none → p ∉ M) → NrA M ⟨f, κ⟩ H xs ds → g ds = some w →
  (∀ v H', Ex [] H H' → Nw M ⟨f, κ⟩ H H' v w → Q v H') → r xs H Q
section
variable {f : PySem.W.Frag} {WW : WX} {ta tb tc te : TE} {ma mb mc me : Mo W} {tr tk : TA} {mr mk : Mo (List W)} {tt tu : TT} {mt mu : Mo Bool} {d : D} {i : Nat}
theorem sim_c {v : V} (hr : ∀ M κ H, Rep M ⟨f, κ⟩ H v d) : SimE f WW (tC v) (mC d) := fun F σ H ρ h st r Q ⟨κ, E⟩ e p => by
  cases e
  exact p v H ⟨κ, E.pushC (hr _ _ _)⟩
theorem sim_var : SimE f WW (tVar i) (mVar i) := fun F σ H ρ h st r Q ⟨κ, E⟩ e p => by
  unfold mVar at e
  split at e
  · rename_i d hd
    cases e
    obtain ⟨o, ho, q⟩ := slot_at E hd
    generalize hM : av F κ st = M at q
    cases q with
    | cl a => subst hM; exact ⟨_, ho, p _ H ⟨κ, E.pushC a⟩⟩
  · cases e
theorem sim_op {r : R2} {g : D → D → Option W} (o : Op2 f r g) (ha : SimE f WW ta ma) (hb : SimE f WW tb mb) : SimE f WW (tOp r ta tb) (mOp g ma mb) := fun F σ H ρ h st x Q E e p => by
  rcases bindR_some e with ⟨w1, ρ1, h1, e1, e⟩ | ⟨C, fs, ρ1, h1, e1, rfl⟩
  · refine ha F σ H ρ h st _ _ E e1 fun v1 H1 E1 => ?_
    rcases bindR_some e with ⟨w2, ρ2, h2, e2, e⟩ | ⟨C, fs, ρ2, h2, e2, rfl⟩
    · refine hb F σ H1 ρ1 h1 _ _ _ E1 e2 fun v2 H2 ⟨κ, E2⟩ => ?_
      cases g1 : deref h2 w1 with
      | none => rw [g1] at e; cases e
      | some d1 =>
        rw [g1] at e
        dsimp only [Option.bind_some] at e
        cases g2 : deref h2 w2 with
        | none => rw [g2] at e; cases e
        | some d2 =>
          rw [g2] at e
          dsimp only [Option.bind_some] at e
          cases g3 : g d1 d2 with
          | none => rw [g3] at e; cases e
          | some w =>
            rw [g3] at e
            cases e
            exact o κ _ H2 v1 v2 d1 d2 w Q (fun q hq => av_new E2 hq) (E2.near (List.mem_cons_of_mem _ (List.mem_cons_self ..)) g1) (E2.near (List.mem_cons_self ..) g2) g3
              fun v H' ex nw => p v H' ⟨κ, EnvK.land (l := [(v2, w2), (v1, w1)]) E2 ex nw⟩
    · exact hb F σ H1 ρ1 h1 _ _ _ E1 e2 (ExR.up p)
  · exact ha F σ H ρ h st _ _ E e1 p
theorem sim_un {r : V → Hp → VK → Prop} {g : D → Option W} (o : Op1 f r g) (ha : SimE f WW ta ma) : SimE f WW (tUn r ta) (mUn g ma) := fun F σ H ρ h st x Q E e p => by
  rcases bindR_some e with ⟨w1, ρ1, h1, e1, e⟩ | ⟨C, fs, ρ1, h1, e1, rfl⟩
  · refine ha F σ H ρ h st _ _ E e1 fun v1 H1 ⟨κ, E1⟩ => ?_
    cases g1 : deref h1 w1 with
    | none => rw [g1] at e; cases e
    | some d1 =>
      rw [g1] at e
      dsimp only [Option.bind_some] at e
      cases g3 : g d1 with
      | none => rw [g3] at e; cases e
      | some w =>
        rw [g3] at e
        cases e
        exact o κ _ H1 v1 d1 w Q (fun q hq => av_new E1 hq) (E1.near (List.mem_cons_self ..) g1) g3 fun v H' ex nw => p v H' ⟨κ, EnvK.land (l := [(v1, w1)]) E1 ex nw⟩
  · exact ha F σ H ρ h st _ _ E e1 p
theorem sim_nil : SimA f WW tNil mNil := fun F σ H ρ h st x Q E e p => by
  cases e
  exact p [] H rfl E
theorem sim_cons (ha : SimE f WW ta ma) (hb : SimA f WW tr mr) : SimA f WW (tCons ta tr) (mCons ma mr) := fun F σ H ρ h st x Q E e p => by
  rcases bindR_some e with ⟨w1, ρ1, h1, e1, e⟩ | ⟨C, fs, ρ1, h1, e1, rfl⟩
  · refine ha F σ H ρ h st _ _ E e1 fun v1 H1 E1 => ?_
    rcases bindR_some e with ⟨ws, ρ2, h2, e2, e⟩ | ⟨C, fs, ρ2, h2, e2, rfl⟩
    · refine hb F σ H1 ρ1 h1 _ _ _ E1 e2 fun vs H2 hl ⟨κ, E2⟩ => ?_
      cases e
      exact p (v1 :: vs) H2 (by simp [hl]) ⟨κ, E2.perm List.perm_middle⟩
    · exact hb F σ H1 ρ1 h1 _ _ _ E1 e2 (ExR.up p)
  · exact ha F σ H ρ h st _ _ E e1 p
theorem sim_cb {r : List V → Hp → VK → Prop} {g : List D → Option W} (o : OpN f r g) (ha : SimA f WW tr mr) : SimE f WW (tCB r tr) (mCB g mr) := fun F σ H ρ h st x Q E e p => by
  rcases bindR_some e with ⟨ws, ρ1, h1, e1, e⟩ | ⟨C, fs, ρ1, h1, e1, rfl⟩
  · refine ha F σ H ρ h st _ _ E e1 fun vs H1 hl ⟨κ, E1⟩ => ?_
    cases g1 : derefs h1 ws with
    | none => rw [g1] at e; cases e
    | some ds =>
      rw [g1] at e
      dsimp only [Option.bind_some] at e
      cases g3 : g ds with
      | none => rw [g3] at e; cases e
      | some w =>
        rw [g3] at e
        cases e
        exact o κ _ H1 vs ds w Q (fun q hq => av_new E1 hq) (E1.nears hl (fun x hx => List.mem_append.mpr (.inl hx)) g1) g3 fun v H' ex nw => p v H' ⟨κ, EnvK.land (l := vs.zip ws) E1 ex nw⟩
  · exact ha F σ H ρ h st _ _ E e1 p
theorem sim_lst (ha : SimA f WW tr mr) : SimE f WW (tLst tr) (mLst mr) := fun F σ H ρ h st x Q E e p => by
  rcases bindR_some e with ⟨ws, ρ1, h1, e1, e⟩ | ⟨C, fs, ρ1, h1, e1, rfl⟩
  · refine ha F σ H ρ h st _ _ E e1 fun vs H1 hl ⟨κ, E1⟩ => ?_
    split at e
    · rename_i g3
      cases e
      have E2 := E1.fzs hl
      refine ⟨sz_le (by omega), fun q hq => p _ _ ⟨κ, ?_⟩⟩
      have ra := E2.repA (by simpa using hl) fun x hx => List.mem_append.mpr (.inl hx)
      exact EnvK.land (l := vs.zip ((ws.map fzW).map W.cl)) E2 (Ex.new hq) (Nw.new hq ra)
    · cases e
  · exact ha F σ H ρ h st _ _ E e1 p
theorem sim_tup (ha : SimA f WW tr mr) : SimE f WW (tTup tr) (mTup mr) := fun F σ H ρ h st x Q E e p => by
  rcases bindR_some e with ⟨ws, ρ1, h1, e1, e⟩ | ⟨C, fs, ρ1, h1, e1, rfl⟩
  · refine ha F σ H ρ h st _ _ E e1 fun vs H1 hl ⟨κ, E1⟩ => ?_
    split at e
    · rename_i g3
      cases e
      have E2 := E1.fzs hl
      refine ⟨sz_le (by omega), fun q hq => p _ _ ⟨κ, ?_⟩⟩
      have ra := E2.repA (by simpa using hl) fun x hx => List.mem_append.mpr (.inl hx)
      exact EnvK.land (l := vs.zip ((ws.map fzW).map W.cl)) E2 (Ex.new hq) (Nw.tup hq (av_new E2 hq) ra)
    · cases e
  · exact ha F σ H ρ h st _ _ E e1 p
theorem sim_ce (ha : SimE f WW te me) : SimE f WW te (mCe me) := fun F σ H ρ h st x Q E e p => by
  rcases bindR_some e with ⟨w, ρ1, h1, e1, e⟩ | ⟨C, fs, ρ1, h1, e1, rfl⟩
  · refine ha F σ H ρ h st _ _ E e1 fun v H1 ⟨κ, E1⟩ => ?_
    cases w with
    | nw c =>
      cases e
      obtain ⟨q, _, E2⟩ := E1.cell
      exact p v H1 ⟨_, E2⟩
    | cl d => cases e; exact p v H1 ⟨κ, E1⟩
  · exact ha F σ H ρ h st _ _ E e1 p
theorem sim_fr (ha : SimE f WW te me) : SimE f WW te (mFr me) := fun F σ H ρ h st x Q E e p => by
  rcases bindR_some e with ⟨w, ρ1, h1, e1, e⟩ | ⟨C, fs, ρ1, h1, e1, rfl⟩
  · refine ha F σ H ρ h st _ _ E e1 fun v H1 ⟨κ, E1⟩ => ?_
    cases e
    exact p v H1 ⟨κ, E1.fz⟩
  · exact ha F σ H ρ h st _ _ E e1 p
theorem rep_bl {M : List Addr} {K : Kx} {H : Hp} {v : V} {b : Bool} (h : Rep M K H v (.bl b)) : v = .bl b := by cases h; rfl
theorem rep_int {M : List Addr} {K : Kx} {H : Hp} {v : V} {b : Int} (h : Rep M K H v (.int b)) : v = .int b := by cases h; rfl
theorem rep_str {M : List Addr} {K : Kx} {H : Hp} {v : V} {b : Str} (h : Rep M K H v (.str b)) : v = .str b := by cases h; rfl
theorem rep_non {M : List Addr} {K : Kx} {H : Hp} {v : V} (h : Rep M K H v .non) : v = .non := by cases h; rfl
theorem sim_bB (ha : SimE f WW ta ma) : ∀ (F : Fm) (σ : L2.St) (H : Hp) (ρ : List Sl) (h : Tb) (st : List (V × W)) (r : R Bool) (Q : VK), EnvR f F σ H ρ h st → mTest ma ρ h = some r → PostT f F WW σ st (fun b H => Q (.bl b) H) r → ta σ H Q := fun F σ H ρ h st x Q E e p => by
  rcases bindR_some e with ⟨w1, ρ1, h1, e1, e⟩ | ⟨C, fs, ρ1, h1, e1, rfl⟩
  · refine ha F σ H ρ h st _ _ E e1 fun v1 H1 ⟨κ, E1⟩ => ?_
    cases g1 : deref h1 w1 with
    | none => rw [g1] at e; cases e
    | some d1 =>
      rw [g1] at e
      dsimp only [Option.map_some] at e
      have nr := (E1.near (List.mem_cons_self ..) g1).u.rep0
      split at e
      · rename_i b hb
        rw [Option.some.inj hb] at nr
        cases rep_bl nr
        cases e
        exact p H1 ⟨κ, E1.pop⟩
      · cases e
  · exact ha F σ H ρ h st _ _ E e1 p
theorem sim_test (ha : SimE f WW ta ma) : SimT f WW (tTest ta) (mTest ma) := fun F σ H ρ h st x Q E e p =>
  sim_bB ha F σ H ρ h st x (fun v H' => ∃ k, v = .bl k ∧ Q k H') E e (by
    cases x with
    | ok b ρ' h' => exact fun H E => ⟨b, rfl, p H E⟩
    | ex C fs ρ' h' => exact p)
theorem EnvR.pushC0 {F : Fm} {σ : L2.St} {H : Hp} {ρ : List Sl} {h : Tb} {st : List (V × W)} {v : V} {d : D} (E : EnvR f F σ H ρ h st) (r : ∀ M κ, Rep M ⟨f, κ⟩ H v d) : EnvR f F σ H ρ h ((v, .cl d) :: st) := E.elim fun κ E => ⟨κ, E.pushC (r _ _)⟩
theorem EnvR.pop {F : Fm} {σ : L2.St} {H : Hp} {ρ : List Sl} {h : Tb} {st : List (V × W)} {x : V × W} (E : EnvR f F σ H ρ h (x :: st)) : EnvR f F σ H ρ h st := E.elim fun κ E => ⟨κ, E.pop⟩
theorem sim_andV (ha : SimE f WW ta ma) (hb : SimE f WW tb mb) : SimE f WW (tAndV ta tb) (mAndV ma mb) := fun F σ H ρ h st x Q E e p => by
  rcases bindR_some e with ⟨b, ρ1, h1, e1, e⟩ | ⟨C, fs, ρ1, h1, e1, rfl⟩
  · refine sim_bB ha F σ H ρ h st _ (fun v H' => ∃ k, v = .bl k ∧ if k = true then tb σ H' Q else Q (.bl false) H') E e1 fun H1 E1 => ⟨b, rfl, ?_⟩
    by_cases hk : b = true
    · rw [if_pos hk] at e ⊢
      exact hb F σ H1 ρ1 h1 st x Q E1 e p
    · rw [if_neg hk] at e ⊢
      cases e
      exact p _ _ (E1.pushC0 fun _ _ => .bl _)
  · exact sim_bB ha F σ H ρ h st _ _ E e1 p
theorem sim_if (hc : SimT f WW tt mt) (ha : SimE f WW ta ma) (hb : SimE f WW tb mb) : SimE f WW (tIf tt ta tb) (mIf mt ma mb) := fun F σ H ρ h st x Q E e p => by
  rcases bindR_some e with ⟨b, ρ1, h1, e1, e⟩ | ⟨C, fs, ρ1, h1, e1, rfl⟩
  · refine hc F σ H ρ h st _ _ E e1 fun H1 E1 => ?_
    by_cases hk : b = true
    · rw [if_pos hk] at e ⊢
      exact ha F σ H1 ρ1 h1 st x Q E1 e p
    · rw [if_neg hk] at e ⊢
      exact hb F σ H1 ρ1 h1 st x Q E1 e p
  · exact hc F σ H ρ h st _ _ E e1 p
theorem sim_and (hc : SimT f WW tt mt) (hd : SimT f WW tu mu) : SimT f WW (tAnd tt tu) (mAnd mt mu) := fun F σ H ρ h st x Q E e p => by
  rcases bindR_some e with ⟨b, ρ1, h1, e1, e⟩ | ⟨C, fs, ρ1, h1, e1, rfl⟩
  · refine hc F σ H ρ h st _ _ E e1 fun H1 E1 => ?_
    by_cases hk : b = true
    · rw [if_pos hk] at e ⊢
      exact hd F σ H1 ρ1 h1 st x Q E1 e p
    · rw [if_neg hk] at e ⊢
      cases e
      exact p H1 E1
  · exact hc F σ H ρ h st _ _ E e1 p
theorem sim_or (hc : SimT f WW tt mt) (hd : SimT f WW tu mu) : SimT f WW (tOr tt tu) (mOr mt mu) := fun F σ H ρ h st x Q E e p => by
  rcases bindR_some e with ⟨b, ρ1, h1, e1, e⟩ | ⟨C, fs, ρ1, h1, e1, rfl⟩
  · refine hc F σ H ρ h st _ _ E e1 fun H1 E1 => ?_
    by_cases hk : b = true
    · rw [if_pos hk] at e ⊢
      cases e
      exact p H1 E1
    · rw [if_neg hk] at e ⊢
      exact hd F σ H1 ρ1 h1 st x Q E1 e p
  · exact hc F σ H ρ h st _ _ E e1 p
theorem sim_not (hc : SimT f WW tt mt) : SimT f WW (tNot tt) (mNot mt) := fun F σ H ρ h st x Q E e p => by
  rcases bindR_some e with ⟨b, ρ1, h1, e1, e⟩ | ⟨C, fs, ρ1, h1, e1, rfl⟩
  · refine hc F σ H ρ h st _ _ E e1 fun H1 E1 => ?_
    cases e
    exact p H1 E1
  · exact hc F σ H ρ h st _ _ E e1 p
theorem sim_yes : SimT f WW tYes mYes := fun F σ H ρ h st x Q E e p => by
  cases e
  exact p H E
theorem tru_of {M : List Addr} {K : Kx} {H : Hp} {v : V} {d : D} {b : Bool} (r : Rep M K H v d) (e : dTru d = some b) : TruV K v H b := by
  cases r with
  | non => cases e; rfl
  | bl c => cases e; rfl
  | int i => cases e; rfl
  | str z =>
    have e : (if z.length ≤ 100000 then some ((z.length : Int) != 0) else none) = some b := e
    by_cases hz : z.length ≤ 100000
    · rw [if_pos hz] at e
      cases e
      exact ⟨sz_le hz, rfl⟩
    · rw [if_neg hz] at e
      cases e
  | lst h a =>
    cases e
    refine .inl ⟨_, .inl (.inl h.at_), ?_⟩
    cases a <;> rfl
  | scr h => cases e
  | tup h a =>
    cases e
    refine .inr (.inl ⟨_, h.sq, ?_⟩)
    cases a <;> rfl
  | @dK a kvs ds h n _ =>
    cases e
    refine .inr (.inr ⟨_, h.at_, ?_⟩)
    cases kvs with
    | nil => cases ds with
      | nil => rfl
      | cons _ _ => cases n
    | cons _ _ => cases ds with
      | nil => cases n
      | cons _ _ => rfl
  | ty n => cases e
  | glo x => cases e
  | rng h => cases e
  | ins h n a => cases e
  | exc h h2 n a => cases e
  | ce h => cases e
  | tg h => cases e
  | bo h h2 => cases e
theorem sim_tru (ha : SimE f WW ta ma) : SimT f WW (tTruK f ta) (mTru ma) := fun F σ H ρ h st x Q E e p => by
  rcases bindR_some e with ⟨w1, ρ1, h1, e1, e⟩ | ⟨C, fs, ρ1, h1, e1, rfl⟩
  · refine ha F σ H ρ h st _ _ E e1 fun v1 H1 ⟨κ, E1⟩ => ?_
    cases g1 : deref h1 w1 with
    | none => rw [g1] at e; cases e
    | some d1 =>
      rw [g1] at e
      dsimp only [Option.bind_some] at e
      cases g2 : dTru d1.u with
      | none => rw [g2] at e; cases e
      | some b =>
        rw [g2] at e
        cases e
        exact ⟨b, tru_of (K := ⟨f, κ⟩) (E1.near (List.mem_cons_self ..) g1).u.rep0 g2, p H1 ⟨κ, E1.pop⟩⟩
  · exact ha F σ H ρ h st _ _ E e1 p
end
mutual
def snapW (g : Nat → Option D) : D → Option D
  | .lst xs => (snapWs g xs).map .lst
  | .tup xs => (snapWs g xs).map .tup
  | .dK kvs => (snapWK g kvs).map .dK
  | .ins C fs => (snapWF g fs).map (.ins C)
  | .exc C fs => (snapWF g fs).map (.exc C)
  | .ce n => g n
  | .tg v d => (snapW g d).map (.tg v)
  | .bo _ _ _ => none
  | d => some d
def snapWs (g : Nat → Option D) : List D → Option (List D)
  | [] => some []
  | d :: ds => (snapW g d).bind fun x => (snapWs g ds).map (x :: ·)
def snapWF (g : Nat → Option D) : List (Str × D) → Option (List (Str × D))
  | [] => some []
  | (a, d) :: ds => (snapW g d).bind fun x => (snapWF g ds).map ((a, x) :: ·)
def snapWK (g : Nat → Option D) : List (L2.Key × D) → Option (List (L2.Key × D))
  | [] => some []
  | (a, d) :: ds => (snapW g d).bind fun x => (snapWK g ds).map ((a, x) :: ·)
end
theorem snapWF_map {g : Nat → Option D} : ∀ {fs ds : List (Str × D)}, snapWF g fs = some ds → fs.map (·.1) = ds.map (·.1) ∧ snapWs g (fs.map (·.2)) = some (ds.map (·.2))
  | [], ds, e => by simp only [snapWF] at e; cases e; exact ⟨rfl, by simp only [List.map_nil, snapWs]⟩
  | (a, d) :: fs, ds, e => by
    simp only [snapWF] at e
    cases h1 : snapW g d with
    | none => rw [h1] at e; cases e
    | some x =>
      rw [h1] at e
      dsimp only [Option.bind_some] at e
      cases h2 : snapWF g fs with
      | none => rw [h2] at e; cases e
      | some ys =>
        rw [h2] at e
        cases e
        obtain ⟨i1, i2⟩ := snapWF_map h2
        exact ⟨by simp [i1], by simp only [List.map_cons, snapWs, h1, i2, Option.bind_some, Option.map_some]⟩
theorem snapWK_map {g : Nat → Option D} : ∀ {fs ds : List (L2.Key × D)}, snapWK g fs = some ds → fs.map (·.1) = ds.map (·.1) ∧ snapWs g (fs.map (·.2)) = some (ds.map (·.2))
  | [], ds, e => by simp only [snapWK] at e; cases e; exact ⟨rfl, by simp only [List.map_nil, snapWs]⟩
  | (a, d) :: fs, ds, e => by
    simp only [snapWK] at e
    cases h1 : snapW g d with
    | none => rw [h1] at e; cases e
    | some x =>
      rw [h1] at e
      dsimp only [Option.bind_some] at e
      cases h2 : snapWK g fs with
      | none => rw [h2] at e; cases e
      | some ys =>
        rw [h2] at e
        cases e
        obtain ⟨i1, i2⟩ := snapWK_map h2
        exact ⟨by simp [i1], by simp only [List.map_cons, snapWs, h1, i2, Option.bind_some, Option.map_some]⟩
section
variable {M : List Addr} {K : Kx} {H : Hp} {g : Nat → Option D}
mutual
theorem Rep.snap (hg : ∀ n p d, K.ka[n]? = some p → g n = some d → Rep [] K H (.ref p) d) : ∀ {v : V} {d d' : D}, Rep M K H v d → snapW g d = some d' → Rep [] K H v d'
  | _, _, _, .non, e => by simp only [snapW] at e; cases e; exact .non
  | _, _, _, .bl b, e => by simp only [snapW] at e; cases e; exact .bl b
  | _, _, _, .int b, e => by simp only [snapW] at e; cases e; exact .int b
  | _, _, _, .str b, e => by simp only [snapW] at e; cases e; exact .str b
  | _, _, _, .ty b, e => by simp only [snapW] at e; cases e; exact .ty b
  | _, _, _, .glo b, e => by simp only [snapW] at e; cases e; exact .glo b
  | _, _, _, .lst (ds := ds) h a, e => by
    simp only [snapW] at e
    cases h1 : snapWs g ds with
    | none => rw [h1] at e; cases e
    | some ys =>
      rw [h1] at e
      cases e
      exact .lst (h.mono fun _ z => absurd z List.not_mem_nil) (RepA.snap hg a h1)
  | _, _, _, .scr h, e => by simp only [snapW] at e; cases e; exact .scr (h.mono fun _ z => absurd z List.not_mem_nil)
  | _, _, _, .tup (ds := ds) h a, e => by
    simp only [snapW] at e
    cases h1 : snapWs g ds with
    | none => rw [h1] at e; cases e
    | some ys =>
      rw [h1] at e
      cases e
      exact .tup (h.mono fun _ z => absurd z List.not_mem_nil) (RepA.snap hg a h1)
  | _, _, _, .dK (ds := ds) h n a, e => by
    simp only [snapW] at e
    cases h1 : snapWK g ds with
    | none => rw [h1] at e; cases e
    | some ys =>
      rw [h1] at e
      cases e
      obtain ⟨i1, i2⟩ := snapWK_map h1
      exact .dK (h.mono fun _ z => absurd z List.not_mem_nil) (n.trans i1) (RepA.snap hg a i2)
  | _, _, _, .rng h, e => by simp only [snapW] at e; cases e; exact .rng (h.mono fun _ z => absurd z List.not_mem_nil)
  | _, _, _, .ins (ds := ds) h n a, e => by
    simp only [snapW] at e
    cases h1 : snapWF g ds with
    | none => rw [h1] at e; cases e
    | some ys =>
      rw [h1] at e
      cases e
      obtain ⟨i1, i2⟩ := snapWF_map h1
      exact .ins (h.mono fun _ z => absurd z List.not_mem_nil) (n.trans i1) (RepA.snap hg a i2)
  | _, _, _, .exc (ds := ds) h h2 n a, e => by
    simp only [snapW] at e
    cases h1 : snapWF g ds with
    | none => rw [h1] at e; cases e
    | some ys =>
      rw [h1] at e
      cases e
      obtain ⟨i1, i2⟩ := snapWF_map h1
      exact .exc (h.mono fun _ z => absurd z List.not_mem_nil) (h2.mono fun _ z => absurd z List.not_mem_nil) (n.trans i1) (RepA.snap hg a i2)
  | _, _, _, .ce h, e => by simp only [snapW] at e; exact hg _ _ _ h e
  | _, _, _, .tg (d := d) h, e => by
    simp only [snapW] at e
    cases h1 : snapW g d with
    | none => rw [h1] at e; cases e
    | some y =>
      rw [h1] at e
      cases e
      exact .tg (Rep.snap hg h h1)
  | _, _, _, .bo h h2, e => by simp only [snapW] at e; cases e
theorem RepA.snap (hg : ∀ n p d, K.ka[n]? = some p → g n = some d → Rep [] K H (.ref p) d) : ∀ {vs : List V} {ds es : List D}, RepA M K H vs ds → snapWs g ds = some es → RepA [] K H vs es
  | _, _, _, .nil, e => by simp only [snapWs] at e; cases e; exact .nil
  | _, _, _, .cons (d := d) (ds := ds) h a, e => by
    simp only [snapWs] at e
    cases h1 : snapW g d with
    | none => rw [h1] at e; cases e
    | some x =>
      rw [h1] at e
      dsimp only [Option.bind_some] at e
      cases h2 : snapWs g ds with
      | none => rw [h2] at e; cases e
      | some ys =>
        rw [h2] at e
        cases e
        exact .cons (Rep.snap hg h h1) (RepA.snap hg a h2)
end
end
/-- a value, what its cells hold put in their places (not deeper than n cells) -/
def snapN (h : Tb) : Nat → D → Option D
  | 0 => snapW fun _ => none
  | n + 1 => snapW fun k => (h[k]?).bind (snapN h n)
def snap (h : Tb) (d : D) : Option D := snapN h 6 d
def snapV (h : Tb) (w : W) : Option D := snap h (fzW w)
def snaps (h : Tb) : List W → Option (List D)
  | [] => some []
  | w :: ws => (snapV h w).bind fun d => (snaps h ws).bind fun ds => some (d :: ds)
/-- a value without parts -/
def scl : W → Bool
  | .cl .non => true
  | .cl (.bl _) => true
  | .cl (.int _) => true
  | .cl (.str _) => true
  | _ => false
def mCBS (g : List D → Option W) (a : Mo (List W)) : Mo W := fun ρ h => bindR (a ρ h) fun xs ρ h => (snaps h xs).bind fun ds => (g ds).bind fun w => if scl w = true then some (.ok w ρ h) else none
section
variable {f : PySem.W.Frag} {κ : List Addr} {WW : WX} {F : Fm} {M : List Addr} {H H' : Hp} {σ : L2.St} {ρ : List Sl} {h : Tb} {st l : List (V × W)} {v : V} {w : W} {d : D} {ta tb tc te : TE} {ma mb mc me : Mo W} {tr tk : TA} {mr mk : Mo (List W)}
theorem EnvK.snapN (E : EnvK f κ F σ H ρ h st) : ∀ (n : Nat) {M : List Addr} {v : V} {d d' : D}, Rep M ⟨f, κ⟩ H v d → CM.snapN h n d = some d' → Rep [] ⟨f, κ⟩ H v d'
  | 0, M, v, d, d', r, e => Rep.snap (fun n p d _ z => by cases z) r e
  | n + 1, M, v, d, d', r, e => by
    refine Rep.snap (g := fun k => (h[k]?).bind (CM.snapN h n)) (fun k p d hk z => ?_) r e
    cases h1 : h[k]? with
    | none => rw [h1] at z; cases z
    | some c =>
      rw [h1] at z
      exact EnvK.snapN E n (E.ce k p c hk h1).rep0 z
theorem EnvK.snapV (E : EnvK f κ F σ H ρ h st) (hx : (v, w) ∈ st) (e : CM.snapV h w = some d) : Rep [] ⟨f, κ⟩ H v d := by
  have q := E.wv _ hx
  dsimp only at q
  generalize hM : av F κ st = M at q
  cases q with
  | cl r => exact E.snapN 6 r e
  | nw n r => exact E.snapN 6 r.rep0 e
theorem scl_nw {K : Kx} (hs : scl w = true) (n : Nw [] K H H' v w) : Nw M K H H' v w := by
  cases n with
  | nw a b => cases hs
  | @cl v d r =>
    cases d <;> first
      | (cases hs; done)
      | (cases r; exact .cl .non)
      | (cases r; exact .cl (.bl _))
      | (cases r; exact .cl (.int _))
      | (cases r; exact .cl (.str _))
theorem EnvK.snaps : ∀ {ws : List W} {vs : List V} {ds : List D}, EnvK f κ F σ H ρ h st → vs.length = ws.length → (∀ x ∈ vs.zip ws, x ∈ st) → CM.snaps h ws = some ds → NrA [] ⟨f, κ⟩ H vs ds
  | [], [], ds, E, _, _, e => by cases e; exact .nil
  | [], _ :: _, _, _, e, _, _ => by cases e
  | _ :: _, [], _, _, e, _, _ => by cases e
  | w :: ws, v :: vs, ds, E, hl, hm, e => by
    unfold CM.snaps at e
    cases h1 : CM.snapV h w with
    | none => rw [h1] at e; cases e
    | some d =>
      rw [h1] at e
      dsimp only [Option.bind_some] at e
      cases h2 : CM.snaps h ws with
      | none => rw [h2] at e; cases e
      | some ds' =>
        rw [h2] at e
        cases e
        exact .cons (.cl (E.snapV (hm _ (List.mem_cons_self ..)) h1)) (EnvK.snaps E (by simpa using hl) (fun x hx => hm x (List.mem_cons_of_mem _ hx)) h2)
theorem sim_cbS {r : List V → Hp → VK → Prop} {g : List D → Option W} (o : OpN f r g) (ha : SimA f WW tr mr) : SimE f WW (tCB r tr) (mCBS g mr) := fun F σ H ρ h st x Q E e p => by
  rcases bindR_some e with ⟨ws, ρ1, h1, e1, e⟩ | ⟨C, fs, ρ1, h1, e1, rfl⟩
  · refine ha F σ H ρ h st _ _ E e1 fun vs H1 hl ⟨κ, E1⟩ => ?_
    cases g1 : CM.snaps h1 ws with
    | none => rw [g1] at e; cases e
    | some ds =>
      rw [g1] at e
      dsimp only [Option.bind_some] at e
      cases g3 : g ds with
      | none => rw [g3] at e; cases e
      | some w =>
        rw [g3] at e
        dsimp only [Option.bind_some] at e
        split at e
        · rename_i hs
          cases e
          exact o κ [] H1 vs ds w Q (fun q hq => List.not_mem_nil) (E1.snaps hl (fun x hx => List.mem_append.mpr (.inl hx)) g1) g3 fun v H' ex nw => p v H' ⟨κ, EnvK.land (l := vs.zip ws) E1 ex (scl_nw hs nw)⟩
        · cases e
  · exact ha F σ H ρ h st _ _ E e1 p
end
end CM
namespace CM
open PySem PySem.Spec PyProof.Rows L2 SL
inductive Out where
  | nx (ρ : List Sl) (h : Tb) | rt (w : W) (ρ : List Sl) (h : Tb) | bk (ρ : List Sl) (h : Tb) | ct (ρ : List Sl) (h : Tb) | ex (C : Str) (fs : List (Str × D)) (ρ : List Sl) (h : Tb)
abbrev MS := List Sl → Tb → Option Out
def PostS (f : PySem.W.Frag) (F : Fm) (WW : WX) (st : List (V × W)) (D : Ends) : Out → Prop
  | .nx ρ h => ∀ σ H, EnvR f F σ H ρ h st → D.nx σ H
  | .rt w ρ h => ∀ σ v H, EnvR f F σ H ρ h ((v, w) :: st) → D.rt v H
  | .bk ρ h => ∀ σ H, EnvR f F σ H ρ h st → D.bk σ H
  | .ct ρ h => ∀ σ H, EnvR f F σ H ρ h st → D.ct σ H
  | .ex C fs ρ h => ExR f F WW st C fs ρ h
def SimS (f : PySem.W.Frag) (WW : WX) (t : TS) (m : MS) : Prop := ∀ (F : Fm) (σ : L2.St) (H : Hp) (ρ : List Sl) (h : Tb) (st : List (V × W)) (o : Out) (D : Ends), EnvR f F σ H ρ h st → m ρ h = some o → PostS f F WW st D o → t D σ H
/-- an expression's run, then what follows; what it raises goes on -/
def bindS {α : Type} (x : Option (R α)) (f : α → List Sl → Tb → Option Out) : Option Out := match x with
  | some (.ok a ρ h) => f a ρ h
  | some (.ex C fs ρ h) => some (.ex C fs ρ h)
  | none => none
theorem bindS_some {α : Type} {x : Option (R α)} {f : α → List Sl → Tb → Option Out} {r : Out} (q : bindS x f = some r) : (∃ a ρ h, x = some (.ok a ρ h) ∧ f a ρ h = some r) ∨ ∃ C fs ρ h, x = some (.ex C fs ρ h) ∧ r = .ex C fs ρ h := by
  match x, q with
  | some (.ok a ρ h), q => exact .inl ⟨a, ρ, h, rfl, q⟩
  | some (.ex C fs ρ h), q => exact .inr ⟨C, fs, ρ, h, rfl, (Option.some.inj q).symm⟩
/-- a target -/
abbrev Fr2 := List Sl × Tb
abbrev Tg := W → List Sl → Tb → Option Fr2
def SimG (f : PySem.W.Frag) (g : TG) (m : Tg) : Prop := ∀ (F : Fm) (σ : L2.St) (H : Hp) (ρ : List Sl) (h : Tb) (x : Fr2) (st : List (V × W)) (v : V) (w : W) (Q : L2.St → Hp → Prop), EnvR f F σ H ρ h ((v, w) :: st) → m w ρ h = some x →
  (∀ σ' H', EnvR f F σ' H' x.1 x.2 st → Q σ' H') → g v σ H Q
/-- x = e; a new thing becomes a cell -/
def gSet (i : Nat) : Tg := fun w ρ h => match w with
  | .nw c => some (ρ.set i (.cl (.ce h.length)), h ++ [c])
  | .cl d => some (ρ.set i (.cl d), h)
/-- x = e; a new thing is a tree that stays -/
def gSetC (i : Nat) : Tg := fun w ρ h => some (ρ.set i (.cl (fzW w)), h)
section
variable {f : PySem.W.Frag} {i : Nat}
theorem sim_gname : SimG f (gName i) (gSet i) := fun F σ H ρ h x st v w Q ⟨κ, E⟩ e q => by
  cases w with
  | nw c =>
    cases e
    obtain ⟨p, rfl, E2⟩ := E.cell
    exact q _ _ ⟨_, E2.setC⟩
  | cl d => cases e; exact q _ _ ⟨_, E.setC⟩
theorem sim_gnameC : SimG f (gName i) (gSetC i) := fun F σ H ρ h x st v w Q ⟨κ, E⟩ e q => by
  cases e
  exact q _ _ ⟨_, E.fz.setC⟩
end
abbrev Tgs := List D → List Sl → Tb → Option Fr2
def gsNil : Tgs
  | [], ρ, h => some (ρ, h)
  | _, _, _ => none
def gsCons (g : Tg) (gs : Tgs) : Tgs
  | d :: ds, ρ, h => (g (.cl d) ρ h).bind fun x => gs ds x.1 x.2
  | [], _, _ => none
def gTupM (n : Nat) (gs : Tgs) : Tg := fun w ρ h => match w with
  | .cl d => match d.u with
    | .tup ds => if ds.length = n then gs ds ρ h else none
    | _ => none
  | _ => none
def SimGs (f : PySem.W.Frag) (g : TGs) (m : Tgs) : Prop := ∀ (F : Fm) (σ : L2.St) (H : Hp) (ρ : List Sl) (h : Tb) (x : Fr2) (st : List (V × W)) (vs : List V) (ds : List D) (Q : L2.St → Hp → Prop), vs.length = ds.length → EnvR f F σ H ρ h (vs.zip (ds.map W.cl) ++ st) → m ds ρ h = some x →
  (∀ σ' H', EnvR f F σ' H' x.1 x.2 st → Q σ' H') → g vs σ H Q
section
variable {f : PySem.W.Frag} {κ : List Addr} {F : Fm} {g : TG} {gs : TGs} {m : Tg} {ms : Tgs} {n : Nat} {H : Hp} {σ : L2.St} {ρ : List Sl} {h : Tb} {st : List (V × W)}
theorem sim_gnil : SimGs f gNil gsNil := fun F σ H ρ h x st vs ds Q hl E e q => by
  cases ds with
  | nil =>
    cases vs with
    | nil => cases e; exact ⟨rfl, q _ _ E⟩
    | cons _ _ => cases hl
  | cons _ _ => cases e
theorem sim_gcons (hg : SimG f g m) (hs : SimGs f gs ms) : SimGs f (gCons g gs) (gsCons m ms) := fun F σ H ρ h x st vs ds Q hl E e q => by
  cases ds with
  | nil => cases e
  | cons d ds =>
    cases vs with
    | nil => cases hl
    | cons v vs =>
      have e : ((m (.cl d) ρ h).bind fun x => ms ds x.1 x.2) = some x := e
      cases h1 : m (.cl d) ρ h with
      | none => rw [h1] at e; cases e
      | some y =>
        rw [h1] at e
        exact ⟨v, vs, rfl, hg F σ H ρ h y _ v (.cl d) _ E h1 fun σ1 H1 E1 => hs F σ1 H1 y.1 y.2 x st vs ds Q (by simpa using hl) E1 e q⟩
/-- the items of a tuple that stays are held -/
theorem EnvK.pushAll : ∀ {vs : List V} {ds : List D}, EnvK f κ F σ H ρ h st → RepA (av F κ st) ⟨f, κ⟩ H vs ds → EnvK f κ F σ H ρ h (vs.zip (ds.map W.cl) ++ st)
  | _, _, E, .nil => E
  | _, _, E, .cons (v := v) (vs := vs) (d := d) (ds := ds) r a => by
    have E1 := EnvK.pushAll E a
    have er : av F κ (vs.zip (ds.map W.cl) ++ st) = av F κ st := by
      show F.A ++ (κ ++ rootsW _) = _
      unfold rootsW
      rw [List.filterMap_append]
      have e0 : (vs.zip (ds.map W.cl)).filterMap rootW = [] := by
        rw [List.filterMap_eq_nil_iff]
        rintro ⟨v, w⟩ h
        obtain ⟨d, _, e⟩ := List.mem_map.mp (List.of_mem_zip h).2
        subst e
        exact rootW_cl
      rw [e0]
      rfl
    exact E1.pushC (by rw [er]; exact r)
theorem sim_gtup (hs : SimGs f gs ms) : SimG f (gTup f n gs) (gTupM n ms) := fun F σ H ρ h x st v w Q ⟨κ, E⟩ e q => by
  cases w with
  | cl d =>
    have e : (match d.u with
      | .tup ds => if ds.length = n then ms ds ρ h else none
      | _ => none) = some x := e
    have r := (E.rep (List.mem_cons_self ..)).u
    split at e
    · rename_i ds hd
      rw [hd] at r
      split at e
      · rename_i hn
        generalize hM : av F κ ((v, W.cl d) :: st) = M at r
        cases r with
        | tup a b =>
          subst hM
          refine ⟨_, _, rfl, a.sq, b.len.trans hn, hs F σ H ρ h x st _ ds Q b.len ⟨κ, ?_⟩ e q⟩
          exact (E.pop).pushAll (b.mono (av_sub fun x hx => List.mem_cons_of_mem _ hx))
      · cases e
    · cases e
  | nw c => cases e
end
def sSeq (a b : MS) : MS := fun ρ h => match a ρ h with
  | some (.nx ρ' h') => b ρ' h'
  | x => x
def sNext : MS := fun ρ h => some (.nx ρ h)
def sNever : MS := fun _ _ => none
def sAsg (e : Mo W) (g : Tg) : MS := fun ρ h => bindS (e ρ h) fun w ρ h => (g w ρ h).map fun x => .nx x.1 x.2
def sRet (e : Mo W) : MS := fun ρ h => bindS (e ρ h) fun w ρ h => some (.rt w ρ h)
def sRetN : MS := fun ρ h => some (.rt (.cl .non) ρ h)
def sIf (c : Mo Bool) (a b : MS) : MS := fun ρ h => bindS (c ρ h) fun k ρ h => if k = true then a ρ h else b ρ h
def sDrop (e : Mo W) : MS := fun ρ h => bindS (e ρ h) fun _ ρ h => some (.nx ρ h)
def sCnt : MS := fun ρ h => some (.ct ρ h)
def sAug (g : D → D → Option W) (i : Nat) (e : Mo W) : MS := fun ρ h => bindS (mVar i ρ h) fun x ρ h => bindS (e ρ h) fun y ρ h => (deref h x).bind fun dx => (deref h y).bind fun dy => (g dx dy).bind fun w => some (.nx (ρ.set i (.cl (fzW w))) h)
/-- slots that are forgotten ahead of a statement -/
def wipeS (vs : List Nat) (ρ : List Sl) : List Sl := vs.foldr (fun i ρ => ρ.set i .un) ρ
def sFg (is : List Nat) (m : MS) : MS := fun ρ h => m (wipeS is ρ) h
section
variable {f : PySem.W.Frag} {WW : WX} {te : TE} {me : Mo W} {t u : TS} {m m' : MS} {g : TG} {mg : Tg} {tt : TT} {mt : Mo Bool} {tr : TA} {mr : Mo (List W)} {i j : Nat}
theorem sim_seq (ha : SimS f WW t m) (hb : SimS f WW u m') : SimS f WW (tSeq t u) (sSeq m m') := fun F σ H ρ h st o D E e p => by
  unfold sSeq at e
  split at e
  · rename_i ρ1 h1 q1
    exact ha F σ H ρ h st _ _ E q1 fun σ1 H1 E1 => hb F σ1 H1 ρ1 h1 st o D E1 e p
  · rename_i x hx
    refine ha F σ H ρ h st o _ E e ?_
    cases o with
    | nx ρ1 h1 => exact absurd e (fun z => hx ρ1 h1 z)
    | rt w ρ1 h1 => exact p
    | bk ρ1 h1 => exact p
    | ct ρ1 h1 => exact p
    | ex C fs ρ1 h1 => exact p
theorem sim_next : SimS f WW tNext sNext := fun F σ H ρ h st o D E e p => by
  cases e
  exact p _ _ E
theorem sim_asg (he : SimE f WW te me) (hg : SimG f g mg) : SimS f WW (tAsg te g) (sAsg me mg) := fun F σ H ρ h st o D E e p => by
  rcases bindS_some e with ⟨w1, ρ1, h1, e1, e⟩ | ⟨C, fs, ρ1, h1, e1, rfl⟩
  · refine he F σ H ρ h st _ _ E e1 fun v1 H1 E1 => ?_
    cases q : mg w1 ρ1 h1 with
    | none => rw [q] at e; cases e
    | some x =>
      rw [q] at e
      cases e
      exact hg F σ H1 ρ1 h1 x st v1 w1 _ E1 q p
  · exact he F σ H ρ h st _ _ E e1 p
theorem sim_ret (he : SimE f WW te me) : SimS f WW (tRet te) (sRet me) := fun F σ H ρ h st o D E e p => by
  rcases bindS_some e with ⟨w1, ρ1, h1, e1, e⟩ | ⟨C, fs, ρ1, h1, e1, rfl⟩
  · refine he F σ H ρ h st _ _ E e1 fun v1 H1 E1 => ?_
    cases e
    exact p _ _ _ E1
  · exact he F σ H ρ h st _ _ E e1 p
theorem sim_ifs (hc : SimT f WW tt mt) (ha : SimS f WW t m) (hb : SimS f WW u m') : SimS f WW (tIfS tt t u) (sIf mt m m') := fun F σ H ρ h st o D E e p => by
  rcases bindS_some e with ⟨b, ρ1, h1, e1, e⟩ | ⟨C, fs, ρ1, h1, e1, rfl⟩
  · refine hc F σ H ρ h st _ _ E e1 fun H1 E1 => ?_
    by_cases hk : b = true
    · rw [if_pos hk] at e ⊢
      exact ha F σ H1 ρ1 h1 st o D E1 e p
    · rw [if_neg hk] at e ⊢
      exact hb F σ H1 ρ1 h1 st o D E1 e p
  · exact hc F σ H ρ h st _ _ E e1 p
theorem sim_drop (he : SimE f WW te me) : SimS f WW (tDrop te) (sDrop me) := fun F σ H ρ h st o D E e p => by
  rcases bindS_some e with ⟨w1, ρ1, h1, e1, e⟩ | ⟨C, fs, ρ1, h1, e1, rfl⟩
  · refine he F σ H ρ h st _ _ E e1 fun v1 H1 E1 => ?_
    cases e
    exact p _ _ E1.pop
  · exact he F σ H ρ h st _ _ E e1 p
def gPut (own : Bool) (i : Nat) (w : W) (ρ : List Sl) (h : Tb) : Fr2 := match own, w with
  | true, .nw c => (ρ.set i (.cl (.ce h.length)), h ++ [c])
  | _, w => (ρ.set i (.cl (fzW w)), h)
def sPar (o1 o2 : Bool) (i j : Nat) (a : Mo (List W)) : MS := fun ρ h => bindS (a ρ h) fun ws ρ h => match ws with
  | [v, w] => let x := gPut o1 i v ρ h; let y := gPut o2 j w x.1 x.2; some (.nx y.1 y.2)
  | _ => none
theorem EnvR.gput {F : Fm} {H : Hp} {σ : L2.St} {ρ : List Sl} {h : Tb} {st : List (V × W)} {v : V} {w : W} {own : Bool} (E : EnvR f F σ H ρ h ((v, w) :: st)) : EnvR f F (σ.set i (some v)) H (gPut own i w ρ h).1 (gPut own i w ρ h).2 st := by
  obtain ⟨κ, E⟩ := E
  cases own with
  | false => exact ⟨κ, E.fz.setC⟩
  | true =>
    cases w with
    | cl d => exact ⟨κ, E.setC⟩
    | nw c =>
      obtain ⟨p, rfl, E2⟩ := E.cell
      exact ⟨_, E2.setC⟩
theorem EnvR.perm {F : Fm} {H : Hp} {σ : L2.St} {ρ : List Sl} {h : Tb} {st st' : List (V × W)} (E : EnvR f F σ H ρ h st) (q : st.Perm st') : EnvR f F σ H ρ h st' := E.elim fun κ E => ⟨κ, E.perm q⟩
theorem sim_par {o1 o2 : Bool} (ha : SimA f WW tr mr) : SimS f WW (tPar i j tr) (sPar o1 o2 i j mr) := fun F σ H ρ h st x D E e p => by
  rcases bindS_some e with ⟨ws, ρ1, h1, e1, e⟩ | ⟨C, fs, ρ1, h1, e1, rfl⟩
  · refine ha F σ H ρ h st _ _ E e1 fun vs H1 hl E1 => ?_
    split at e
    · rename_i w1 w2
      match vs, hl, E1 with
      | [v1, v2], hl, E1 =>
        refine ⟨v1, v2, rfl, ?_⟩
        cases e
        have E1 : EnvR f F σ H1 ρ1 h1 ((v1, w1) :: (v2, w2) :: st) := E1
        exact p _ _ (E1.gput.gput)
    · cases e
  · exact ha F σ H ρ h st _ _ E e1 p
end
end CM
namespace CM
open PySem PySem.Spec PyProof.Rows L2 SL
/-- the items; the cells that must hold what they held -/
structure ItM where
  ds : List D
  ck : List (Nat × D)
def ckOk (ck : List (Nat × D)) (h : Tb) : Prop := ∀ x ∈ ck, h[x.1]? = some x.2
def IterOk (f : PySem.W.Frag) (F : Fm) (J : It) (ds : List D) (ck : List (Nat × D)) (v : V) (w : W) : Prop := ∀ (κ : List Addr) (σ : L2.St) (H : Hp) (ρ : List Sl) (h : Tb) (st : List (V × W)), EnvK f κ F σ H ρ h ((v, w) :: st) → ckOk ck h →
  (∀ i, i < ds.length → J.go i H) ∧ J.stop ds.length H ∧ ∀ i x H', i < ds.length → J.yld i H x H' → ∃ d, ds[i]? = some d ∧ EnvK f κ F σ H' ρ h ((x, .cl d) :: (v, w) :: st)
def PostI (f : PySem.W.Frag) (F : Fm) (WW : WX) (σ : L2.St) (st : List (V × W)) (R' : It → Hp → Prop) : R ItM → Prop
  | .ok it ρ h => it.ds.length ≤ 90000 → ∀ v w H J, EnvR f F σ H ρ h ((v, w) :: st) → IterOk f F J it.ds it.ck v w → ckOk it.ck h → R' J H
  | .ex C fs ρ h => ExR f F WW st C fs ρ h
def SimI (f : PySem.W.Frag) (WW : WX) (t : TI) (m : Mo ItM) : Prop := ∀ (F : Fm) (σ : L2.St) (H : Hp) (ρ : List Sl) (h : Tb) (st : List (V × W)) (r : R ItM) (Q : It → Hp → Prop), EnvR f F σ H ρ h st → m ρ h = some r → PostI f F WW σ st Q r → t σ H Q
def itemsD : D → Option (List D)
  | .lst ds => some ds
  | .tup ds => some ds
  | .str z => some (z.cps.toList.map fun c => .str ⟨#[c]⟩)
  | _ => none
def ckOf (h : Tb) : W → List (Nat × D)
  | .cl (.ce n) => match h[n]? with
    | some c => [(n, c)]
    | none => []
  | _ => []
def mIU (e : Mo W) : Mo ItM := fun ρ h => bindR (e ρ h) fun w ρ h => (deref h w).bind fun d => (itemsD d.u).bind fun ds => if ds.length ≤ 90000 then some (.ok ⟨ds, ckOf h w⟩ ρ h) else none
section
variable {f : PySem.W.Frag} {κ : List Addr} {K : Kx} {F : Fm} {M : List Addr} {H H' : Hp} {p : Addr} {σ : L2.St} {ρ ρ' : List Sl} {h h' : Tb} {st l : List (V × W)} {v : V} {w w' : W} {d : D} {ds es : List D} {vs : List V} {ws : List W} {i j : Nat}
theorem nr_lst (h : Nr M K H v d) (e : d.u = .lst ds) : ∃ a xs, v = .ref a ∧ H a = some (.lst xs) ∧ RepA M K H xs ds := by
  have h := h.u
  rw [e] at h
  cases h with
  | cl r => cases r with | lst a b => exact ⟨_, _, rfl, a.at_, b⟩
  | own r => cases r with | lst a b => exact ⟨_, _, rfl, a, b⟩
theorem nr_tup (h : Nr M K H v d) (e : d.u = .tup ds) : ∃ a xs, v = .ref a ∧ SqT K H a xs ∧ RepA M K H xs ds := by
  have h := h.u
  rw [e] at h
  cases h with
  | cl r => cases r with | tup a b => exact ⟨_, _, rfl, a.sq, b⟩
  | own r => cases r
theorem nr_str {z : Str} (h : Nr M K H v d) (e : d.u = .str z) : v = .str z := by
  have h := h.u
  rw [e] at h
  exact rep_str h.rep0
theorem nr_int {z : Int} (h : Nr M K H v d) (e : d.u = .int z) : v = .int z := by
  have h := h.u
  rw [e] at h
  exact rep_int h.rep0
theorem nr_non (h : Nr M K H v d) (e : d.u = .non) : v = .non := by
  have h := h.u
  rw [e] at h
  exact rep_non h.rep0
theorem ck_of : ckOk (ckOf h w) h := fun x hx => by
  unfold ckOf at hx
  split at hx
  · split at hx
    · rw [List.mem_singleton.mp hx]
      assumption
    · cases hx
  · cases hx
/-- what was read stands, where the cells hold what they held -/
theorem deref_ck {h0 : Tb} (e : deref h0 w = some d) (ck : ckOk (ckOf h0 w) h) : deref h w = some d := by
  match w with
  | .nw c => exact e
  | .cl (.ce n) =>
    have e : h0[n]? = some d := e
    refine ck (n, d) ?_
    show (n, d) ∈ (match h0[n]? with
      | some c => [(n, c)]
      | none => [])
    rw [e]
    exact List.mem_singleton.mpr rfl
  | .cl .non => exact e
  | .cl (.bl _) => exact e
  | .cl (.int _) => exact e
  | .cl (.str _) => exact e
  | .cl (.ty _) => exact e
  | .cl (.glo _) => exact e
  | .cl (.lst _) => exact e
  | .cl (.scr _) => exact e
  | .cl (.tup _) => exact e
  | .cl (.dK _) => exact e
  | .cl (.rng _ _) => exact e
  | .cl (.ins _ _) => exact e
  | .cl (.exc _ _) => exact e
  | .cl (.tg _ _) => exact e
  | .cl (.bo _ _ _) => exact e
theorem iter_list {a : Addr} {h0 : Tb} (hw : deref h0 w = some d) (e : d.u = .lst ds) : IterOk f F (Itl f a) ds (ckOf h0 w) (.ref a) w := fun κ σ H ρ h st E ck => by
  obtain ⟨a', xs, ha, hsq, r⟩ := nr_lst (E.near (List.mem_cons_self ..) (deref_ck hw ck)) e
  cases ha
  have sq : SqL f H a xs := .inl (.inl hsq)
  refine ⟨fun i hi => ?_, ⟨xs, sq, by rw [r.len]; exact Nat.le_refl _⟩, fun i x H' hi y => ?_⟩
  · have hx : i < xs.length := by rw [r.len]; exact hi
    exact ⟨xs, xs[i], sq, List.getElem?_eq_getElem hx⟩
  · obtain ⟨rfl, y⟩ := y
    obtain ⟨d, h1, h2⟩ := r.getV (y xs sq)
    exact ⟨d, h1, E.pushC h2⟩
theorem iter_tup {a : Addr} {h0 : Tb} (hw : deref h0 w = some d) (e : d.u = .tup ds) : IterOk f F (Itt f a) ds (ckOf h0 w) (.ref a) w := fun κ σ H ρ h st E ck => by
  obtain ⟨a', xs, ha, sq, r⟩ := nr_tup (E.near (List.mem_cons_self ..) (deref_ck hw ck)) e
  cases ha
  refine ⟨fun i hi => ?_, ⟨xs, sq, by rw [r.len]; exact Nat.le_refl _⟩, fun i x H' hi y => ?_⟩
  · have hx : i < xs.length := by rw [r.len]; exact hi
    exact ⟨xs, xs[i], sq, List.getElem?_eq_getElem hx⟩
  · obtain ⟨rfl, y⟩ := y
    obtain ⟨d, h1, h2⟩ := r.getV (y xs sq)
    exact ⟨d, h1, E.pushC h2⟩
theorem iter_str {z : Str} {ck : List (Nat × D)} {v : V} : IterOk f F (Its z) (z.cps.toList.map fun c => D.str ⟨#[c]⟩) ck v w := fun κ σ H ρ h st E _ => by
  have hl : (z.cps.toList.map fun c => D.str ⟨#[c]⟩).length = z.cps.size := by simp
  rw [hl]
  refine ⟨fun i hi => hi, Nat.le_refl _, fun i x H' hi y => ?_⟩
  obtain ⟨rfl, c, hc, rfl⟩ := y
  refine ⟨.str ⟨#[c]⟩, ?_, E.pushC (.str _)⟩
  rw [List.getElem?_map, Array.getElem?_toList, hc]
  rfl
theorem sim_iU {WW : WX} {te : TE} {me : Mo W} (he : SimE f WW te me) : SimI f WW (iU f te) (mIU me) := fun F σ H ρ h st x Q E e p => by
  rcases bindR_some e with ⟨w1, ρ1, h1, e1, e⟩ | ⟨C, fs, ρ1, h1, e1, rfl⟩
  · cases q1 : deref h1 w1 with
    | none => rw [q1] at e; cases e
    | some d =>
      rw [q1] at e
      dsimp only [Option.bind_some] at e
      cases q3 : itemsD d.u with
      | none => rw [q3] at e; cases e
      | some ds =>
        rw [q3] at e
        dsimp only [Option.bind_some] at e
        split at e
        · rename_i hl
          cases e
          cases hd : d.u with
          | lst es =>
            rw [hd] at q3
            cases q3
            refine .inl (he F σ H ρ h st _ _ E e1 fun v1 H1 ⟨κ, E1⟩ => ?_)
            obtain ⟨a, xs, rfl, sq, r⟩ := nr_lst (E1.near (List.mem_cons_self ..) q1) hd
            exact ⟨a, rfl, ⟨xs, .inl (.inl sq)⟩, p hl _ _ _ _ ⟨κ, E1⟩ (iter_list q1 hd) ck_of⟩
          | tup es =>
            rw [hd] at q3
            cases q3
            refine .inr (.inl (he F σ H ρ h st _ _ E e1 fun v1 H1 ⟨κ, E1⟩ => ?_))
            obtain ⟨a, xs, rfl, sq, r⟩ := nr_tup (E1.near (List.mem_cons_self ..) q1) hd
            exact ⟨a, rfl, ⟨xs, sq⟩, p hl _ _ _ _ ⟨κ, E1⟩ (iter_tup q1 hd) ck_of⟩
          | str z =>
            rw [hd] at q3
            cases q3
            refine .inr (.inr (he F σ H ρ h st _ _ E e1 fun v1 H1 ⟨κ, E1⟩ => ?_))
            exact ⟨z, nr_str (E1.near (List.mem_cons_self ..) q1) hd, p hl _ _ _ _ ⟨κ, E1⟩ iter_str ck_of⟩
          | _ => rw [hd] at q3; cases q3
        · cases e
  · exact .inl (he F σ H ρ h st _ _ E e1 p)
def mRng1 (a : Mo (List W)) : Mo ItM := fun ρ h => bindR (a ρ h) fun ws ρ h => (derefs h ws).bind fun ds => match ds.map D.u with
  | [.int n] => if n ≤ 90000 ∧ -1000000 ≤ n then some (.ok ⟨(List.range n.toNat).map fun i => .int (i : Nat), []⟩ ρ h) else none
  | _ => none
theorem iter_rng {lo : Int} {n : Nat} {g : Nat → D} (hf : ∀ i, g i = .int (lo + (i : Nat))) : IterOk f F (Itr lo n) ((List.range n).map g) [] .non (.cl .non) := fun κ σ H ρ h st E _ => by
  have hl : ((List.range n).map g).length = n := by simp
  rw [hl]
  refine ⟨fun i hi => hi, Nat.le_refl _, fun i x H' hi y => ?_⟩
  obtain ⟨rfl, rfl⟩ := y
  exact ⟨.int (lo + (i : Nat)), by rw [List.getElem?_map, List.getElem?_range hi]; exact congrArg some (hf i), E.pushC (.int _)⟩
theorem ck_nil : ckOk [] h := fun _ z => by cases z
theorem nra_u : ∀ {vs : List V} {ds : List D}, NrA M K H vs ds → NrA M K H vs (ds.map D.u)
  | _, _, .nil => .nil
  | _, _, .cons h a => .cons h.u (nra_u a)
theorem nra1 {vs : List V} {d : D} (h : NrA M K H vs [d]) : ∃ v, vs = [v] ∧ Nr M K H v d := by
  cases h with | cons h a => cases a; exact ⟨_, rfl, h⟩
theorem nra2 {vs : List V} {d e : D} (h : NrA M K H vs [d, e]) : ∃ v w, vs = [v, w] ∧ Nr M K H v d ∧ Nr M K H w e := by
  cases h with
  | cons h a =>
    obtain ⟨w, rfl, b⟩ := nra1 a
    exact ⟨_, _, rfl, h, b⟩
theorem sim_rng1 {WW : WX} {ta : TA} {ma : Mo (List W)} (ha : SimA f WW ta ma) : SimI f WW (iRng1 ta) (mRng1 ma) := fun F σ H ρ h st x Q E e p => by
  rcases bindR_some e with ⟨ws, ρ1, h1, e1, e⟩ | ⟨C, fs, ρ1, h1, e1, rfl⟩
  · refine ha F σ H ρ h st _ _ E e1 fun vs H1 hl ⟨κ, E1⟩ => ?_
    cases q1 : derefs h1 ws with
    | none => rw [q1] at e; cases e
    | some ds =>
      rw [q1] at e
      dsimp only [Option.bind_some] at e
      have nr := nra_u (E1.nears hl (fun x hx => List.mem_append.mpr (.inl hx)) q1)
      split at e
      · rename_i n hn
        rw [hn] at nr
        obtain ⟨v, rfl, r⟩ := nra1 nr
        cases nr_int r rfl
        split at e
        · rename_i hb
          cases e
          refine ⟨n, rfl, by omega, by omega, p ?_ .non (.cl .non) H1 _ ⟨κ, E1.popL.pushC .non⟩ (iter_rng fun i => by simp) ck_nil⟩
          show ((List.range n.toNat).map _).length ≤ 90000
          simp
          omega
        · cases e
      · cases e
  · exact ha F σ H ρ h st _ _ E e1 p
def seqD : D → Option (List D)
  | .lst ds => some ds
  | .tup ds => some ds
  | _ => none
def mEnum (a : Mo (List W)) : Mo ItM := fun ρ h => bindR (a ρ h) fun ws ρ h => match ws with
  | [w] => (deref h w).bind fun d => (seqD d.u).bind fun ds => if ds.length ≤ 90000 then some (.ok ⟨(List.range ds.length).zipWith (fun i d => .tup [.int (i : Nat), d]) ds, ckOf h w⟩ ρ h) else none
  | _ => none
theorem tup_land {T : Addr} {xs : List V} {ds : List D} (E : EnvK f κ F σ H ρ h st) (hT : H T = none) (r : RepA (av F κ st) ⟨f, κ⟩ H xs ds) : EnvK f κ F σ (upd H T (.tup xs)) ρ h ((.ref T, .cl (.tup ds)) :: st) :=
  EnvK.land (l := []) E (Ex.new hT) (Nw.tup hT (av_new E hT) r)
theorem sim_enum {WW : WX} {tr : TA} {mr : Mo (List W)} (ha : SimA f WW tr mr) : SimI f WW (iEnumB f tr) (mEnum mr) := fun F σ H ρ h st x Q E e p => by
  rcases bindR_some e with ⟨ws, ρ1, h1, e1, e⟩ | ⟨C, fs, ρ1, h1, e1, rfl⟩
  · refine ha F σ H ρ h st _ _ E e1 fun vs H1 hl E1 => ?_
    split at e
    · rename_i w
      match vs, hl, E1 with
      | [v], hl, ⟨κ, E1⟩ =>
        have E1 : EnvK f κ F σ H1 ρ1 h1 ((v, w) :: st) := E1
        cases q2 : deref h1 w with
        | none => rw [q2] at e; cases e
        | some d =>
          rw [q2] at e
          dsimp only [Option.bind_some] at e
          cases q3 : seqD d.u with
          | none => rw [q3] at e; cases e
          | some ds =>
            rw [q3] at e
            dsimp only [Option.bind_some] at e
            split at e
            · rename_i hlen
              cases e
              have hz : ((List.range ds.length).zipWith (fun i d => D.tup [.int (i : Nat), d]) ds).length = ds.length := by simp
              have hz2 : ((List.range ds.length).zipWith (fun i d => D.tup [.int (i : Nat), d]) ds).length ≤ 90000 := by rw [hz]; exact hlen
              have hd : d.u = .lst ds ∨ d.u = .tup ds := by
                unfold seqD at q3
                split at q3
                · cases q3; exact .inl (by assumption)
                · cases q3; exact .inr (by assumption)
                · cases q3
              rcases hd with hd | hd
              · obtain ⟨a, xs, rfl, sq, r⟩ := nr_lst (E1.near (List.mem_cons_self ..) q2) hd
                refine ⟨a, xs, rfl, .inl ⟨.inl (.inl sq), p hz2 _ _ _ _ ⟨κ, E1⟩ ?_ ck_of⟩⟩
                intro κ σ H ρ h st E ck
                obtain ⟨a', xs, ha, sq, r⟩ := nr_lst (E.near (List.mem_cons_self ..) (deref_ck q2 ck)) hd
                cases ha
                show (∀ i, i < ((List.range ds.length).zipWith (fun i d => D.tup [.int (i : Nat), d]) ds).length → _) ∧ _
                rw [hz]
                refine ⟨fun i hi => ?_, ⟨xs, .inl (.inl sq), by rw [r.len]; exact Nat.le_refl _⟩, fun i x H' hi y => ?_⟩
                · have hx : i < xs.length := by rw [r.len]; exact hi
                  exact ⟨xs, xs[i], .inl (.inl sq), List.getElem?_eq_getElem hx⟩
                · obtain ⟨T, x', rfl, hT, rfl, hx⟩ := y
                  obtain ⟨d', g1, g2⟩ := r.getV (hx xs (.inl (.inl sq)))
                  refine ⟨.tup [.int (i : Nat), d'], ?_, tup_land E hT (.cons (.int _) (.cons g2 .nil))⟩
                  rw [List.getElem?_zipWith, List.getElem?_range hi, g1]
              · obtain ⟨a, xs, rfl, sq, r⟩ := nr_tup (E1.near (List.mem_cons_self ..) q2) hd
                refine ⟨a, xs, rfl, .inr ⟨sq, p hz2 _ _ _ _ ⟨κ, E1⟩ ?_ ck_of⟩⟩
                intro κ σ H ρ h st E ck
                obtain ⟨a', xs, ha, sq, r⟩ := nr_tup (E.near (List.mem_cons_self ..) (deref_ck q2 ck)) hd
                cases ha
                show (∀ i, i < ((List.range ds.length).zipWith (fun i d => D.tup [.int (i : Nat), d]) ds).length → _) ∧ _
                rw [hz]
                refine ⟨fun i hi => ?_, ⟨xs, sq, by rw [r.len]; exact Nat.le_refl _⟩, fun i x H' hi y => ?_⟩
                · have hx : i < xs.length := by rw [r.len]; exact hi
                  exact ⟨xs, xs[i], sq, List.getElem?_eq_getElem hx⟩
                · obtain ⟨T, x', rfl, hT, rfl, hx⟩ := y
                  obtain ⟨d', g1, g2⟩ := r.getV (hx xs sq)
                  refine ⟨.tup [.int (i : Nat), d'], ?_, tup_land E hT (.cons (.int _) (.cons g2 .nil))⟩
                  rw [List.getElem?_zipWith, List.getElem?_range hi, g1]
            · cases e
    · cases e
  · exact ha F σ H ρ h st _ _ E e1 p
open Classical in
noncomputable def loopS (g : Tg) (b : MS) (ck : List (Nat × D)) : List D → List Sl → Tb → Option Out
  | [], ρ, h => some (.nx ρ h)
  | d :: ds, ρ, h => (g (.cl d) ρ h).bind fun x => match b x.1 x.2 with
    | some (.nx ρ2 h2) => if ckOk ck h2 then loopS g b ck ds ρ2 h2 else none
    | some (.ct ρ2 h2) => if ckOk ck h2 then loopS g b ck ds ρ2 h2 else none
    | some (.bk ρ2 h2) => some (.nx ρ2 h2)
    | x => x
noncomputable def sFor (it : Mo ItM) (g : Tg) (b : MS) : MS := fun ρ h => bindS (it ρ h) fun i ρ h => loopS g b i.ck i.ds ρ h
theorem sim_for {WW : WX} {wi : TI} {mi : Mo ItM} {g : TG} {mg : Tg} {tb : TS} {mb : MS} (hi : SimI f WW wi mi) (hg : SimG f g mg) (hb : SimS f WW tb mb) : SimS f WW (tFor wi g tb) (sFor mi mg mb) := fun F σ H ρ h st o D E e p => by
  rcases bindS_some e with ⟨it, ρ1, h1, e1, e⟩ | ⟨C, fs, ρ1, h1, e1, rfl⟩
  · refine hi F σ H ρ h st _ _ E e1 fun _ v iw H1 J E1 ok ck1 => ?_
    have hpost : PostS f F WW ((v, iw) :: st) D o := by
      cases o with
      | nx ρ2 h2 => exact fun σ H E => p σ H E.pop
      | rt w ρ2 h2 => exact fun σ v' H ⟨κ, E⟩ => p σ v' H ⟨κ, E.sub (List.Sublist.cons_cons _ (List.sublist_cons_self _ _))⟩
      | bk ρ2 h2 => exact fun σ H E => p σ H E.pop
      | ct ρ2 h2 => exact fun σ H E => p σ H E.pop
      | ex C fs ρ2 h2 => exact ExR.up p
    refine ⟨fun i m σ H => m = it.ds.length - i ∧ i ≤ it.ds.length ∧ ∃ ρ h, EnvR f F σ H ρ h ((v, iw) :: st) ∧ ckOk it.ck h ∧ loopS mg mb it.ck (it.ds.drop i) ρ h = some o, ⟨_, rfl, Nat.zero_le _, ρ1, h1, E1, ck1, by rw [List.drop_zero]; exact e⟩, ?_⟩
    rintro i m σ H ⟨rfl, hi, ρ, h, ⟨κ, E⟩, ck, e⟩
    obtain ⟨k1, k2, k3⟩ := ok κ σ H ρ h st E ck
    by_cases hlt : i < it.ds.length
    · refine .inr ⟨k1 i hlt, fun σ H => ∃ ρ h, EnvR f F σ H ρ h ((v, iw) :: st) ∧ ckOk it.ck h ∧ loopS mg mb it.ck (it.ds.drop (i + 1)) ρ h = some o, fun σ' H' q => ⟨it.ds.length - (i + 1), by omega, rfl, hlt, q⟩, fun x H' y => ?_⟩
      obtain ⟨d, hd, E2⟩ := k3 i x H' hlt y
      have ed : it.ds.drop i = d :: it.ds.drop (i + 1) := by
        rw [List.drop_eq_getElem_cons hlt]
        rw [List.getElem?_eq_getElem hlt] at hd
        rw [Option.some.inj hd]
      rw [ed] at e
      unfold loopS at e
      cases q1 : mg (.cl d) ρ h with
      | none => rw [q1] at e; cases e
      | some y =>
        rw [q1] at e
        dsimp only [Option.bind_some] at e
        refine hg F σ H' ρ h y _ x (.cl d) _ ⟨κ, E2⟩ q1 fun σ2 H2 E3 => ?_
        split at e
        · rename_i ρ3 h3 q3
          split at e
          · rename_i hck
            exact hb F σ2 H2 y.1 y.2 _ _ _ E3 q3 fun σ' H' E' => ⟨ρ3, h3, E', hck, e⟩
          · cases e
        · rename_i ρ3 h3 q3
          split at e
          · rename_i hck
            exact hb F σ2 H2 y.1 y.2 _ _ _ E3 q3 fun σ' H' E' => ⟨ρ3, h3, E', hck, e⟩
          · cases e
        · rename_i ρ3 h3 q3
          cases e
          exact hb F σ2 H2 y.1 y.2 _ _ _ E3 q3 hpost
        · rename_i x y1 y2 y3
          refine hb F σ2 H2 y.1 y.2 _ o _ E3 e ?_
          cases o with
          | nx ρ4 h4 => exact absurd e (y1 ρ4 h4)
          | bk ρ4 h4 => exact absurd e (y3 ρ4 h4)
          | ct ρ4 h4 => exact absurd e (y2 ρ4 h4)
          | rt w ρ4 h4 => exact hpost
          | ex C fs ρ4 h4 => exact hpost
    · have e0 : i = it.ds.length := by omega
      subst e0
      rw [List.drop_length] at e
      cases e
      exact .inl ⟨k2, hpost σ H ⟨κ, E⟩⟩
  · exact hi F σ H ρ h st _ _ E e1 p
/-- the own slots are not in use -/
def idle (vs : List Nat) (ρ : List Sl) : Bool := vs.all fun i => match ρ[i]? with
  | some .un => true
  | _ => false
open Classical in
noncomputable def loopC (g : Tg) (t : Mo Bool) (e : Mo W) (vs : List Nat) (ck : List (Nat × D)) : List D → List Sl → Tb → List D → Option (R (List D))
  | [], ρ, h, acc => some (.ok acc ρ h)
  | d :: ds, ρ, h, acc => (g (.cl d) ρ h).bind fun x => bindR (t x.1 x.2) fun b ρ2 h2 => if b = true then bindR (e ρ2 h2) fun w ρ3 h3 => if ckOk ck h3 then loopC g t e vs ck ds (wipeS vs ρ3) h3 (acc ++ [fzW w]) else none
      else if ckOk ck h2 then loopC g t e vs ck ds (wipeS vs ρ2) h2 acc else none
noncomputable def mLc (it : Mo ItM) (g : Tg) (t : Mo Bool) (e : Mo W) (vs : List Nat) : Mo W := fun ρ h => bindR (it ρ h) fun i ρ h => if idle vs ρ = true then bindR (loopC g t e vs i.ck i.ds ρ h []) fun acc ρ2 h2 => some (.ok (.fr acc) ρ2 h2) else none
theorem EnvK.wiped (E : EnvK f κ F σ H ρ h st) : ∀ {vs : List Nat}, EnvK f κ F (wipe σ vs) H (wipeS vs ρ) h st
  | [] => E
  | i :: vs => (EnvK.wiped E (vs := vs)).forget none
theorem idle_at {vs : List Nat} (h : idle vs ρ = true) (hi : i ∈ vs) : ρ[i]? = some .un := by
  have q := List.all_eq_true.mp h i hi
  split at q
  · assumption
  · cases q
theorem idle_of {vs : List Nat} (h : ∀ i ∈ vs, ρ[i]? = some .un) : idle vs ρ = true := List.all_eq_true.mpr fun i hi => by
  rw [h i hi]
theorem wipeS_len {ρ : List Sl} : ∀ vs : List Nat, (wipeS vs ρ).length = ρ.length
  | [] => rfl
  | i :: vs => by
    show ((wipeS vs ρ).set i .un).length = _
    rw [List.length_set, wipeS_len vs]
theorem wipeS_at : ∀ {vs : List Nat} {i : Nat}, (i ∈ vs ∧ i < ρ.length) ∨ ρ[i]? = some .un → (wipeS vs ρ)[i]? = some .un
  | [], i, h => by
    rcases h with h | h
    · exact absurd h.1 List.not_mem_nil
    · exact h
  | j :: vs, i, h => by
    show ((wipeS vs ρ).set j .un)[i]? = some .un
    have hl : i < ρ.length := by
      rcases h with h | h
      · exact h.2
      · exact (List.getElem?_eq_some_iff.mp h).1
    by_cases q : j = i
    · subst q
      exact List.getElem?_set_self (by rw [wipeS_len]; exact hl)
    · rw [List.getElem?_set_ne q]
      refine wipeS_at ?_
      rcases h with h | h
      · rcases List.mem_cons.mp h.1 with z | z
        · exact absurd z.symm q
        · exact .inl ⟨z, h.2⟩
      · exact .inr h
theorem wipeS_idle {vs : List Nat} (hl : ∀ i ∈ vs, i < ρ.length) : idle vs (wipeS vs ρ) = true := idle_of fun i hi => wipeS_at (.inl ⟨hi, hl i hi⟩)
theorem EnvK.idleWipe : ∀ {vs : List Nat} {σ : L2.St}, idle vs ρ = true → EnvK f κ F σ H ρ h st → EnvK f κ F (wipe σ vs) H ρ h st
  | [], _, _, E => E
  | i :: vs, σ, hd, E => by
    have E1 := EnvK.idleWipe (vs := vs) (idle_of fun j hj => idle_at hd (List.mem_cons_of_mem _ hj)) E
    have hi := idle_at hd (List.mem_cons_self ..)
    have E2 := E1.forget (i := i) none
    rw [set_self hi] at E2
    exact E2
theorem EnvK.unwipe : ∀ {vs : List Nat} {σ : L2.St}, idle vs ρ = true → EnvK f κ F (wipe σ vs) H ρ h st → EnvK f κ F σ H ρ h st
  | [], _, _, E => E
  | i :: vs, σ, hd, E => by
    have E : EnvK f κ F ((wipe σ vs).set i none) H ρ h st := E
    have hi := idle_at hd (List.mem_cons_self ..)
    obtain ⟨o, ho, _⟩ := slot_at E hi
    have hlt : i < (wipe σ vs).length := by
      have := (List.getElem?_eq_some_iff.mp ho).1
      rwa [List.length_set] at this
    have E2 := E.forget (i := i) (wipe σ vs)[i]
    rw [set_self hi, List.set_set, set_self (List.getElem?_eq_getElem hlt)] at E2
    exact EnvK.unwipe (vs := vs) (idle_of fun j hj => idle_at hd (List.mem_cons_of_mem _ hj)) E2
/-- a target stores own slots alone -/
def GOwn (g : TG) (vs : List Nat) : Prop := ∀ v σ H (Q : L2.St → Hp → Prop), g v σ H Q → g v σ H fun σ' H' => wipe σ' vs = wipe σ vs ∧ Q σ' H'
theorem wipe_setP {o : Option V} : ∀ {vs : List Nat} {σ : L2.St}, (i ∈ vs → wipe (σ.set i o) vs = wipe σ vs) ∧ (i ∉ vs → wipe (σ.set i o) vs = (wipe σ vs).set i o)
  | [], σ => ⟨fun z => absurd z List.not_mem_nil, fun _ => rfl⟩
  | v :: vs, σ => by
    obtain ⟨a, b⟩ := wipe_setP (o := o) (vs := vs) (σ := σ)
    constructor
    · intro h
      show (wipe (σ.set i o) vs).set v none = (wipe σ vs).set v none
      by_cases q : i ∈ vs
      · rw [a q]
      · rw [b q]
        rcases List.mem_cons.mp h with rfl | h
        · rw [List.set_set]
        · exact absurd h q
    · intro h
      show (wipe (σ.set i o) vs).set v none = ((wipe σ vs).set v none).set i o
      rw [b (fun q => h (List.mem_cons_of_mem _ q))]
      exact List.set_comm _ _ (fun z => h (by rw [z]; exact List.mem_cons_self ..))
theorem g_name {vs : List Nat} (h : i ∈ vs) : GOwn (gName i) vs := fun v σ H Q q => ⟨wipe_setP.1 h, q⟩
def GMono (g : TG) : Prop := ∀ v σ H (Q Q' : L2.St → Hp → Prop), (∀ σ H, Q σ H → Q' σ H) → g v σ H Q → g v σ H Q'
theorem gm_name : GMono (gName i) := fun _ _ _ _ _ h q => h _ _ q
/-- both facts of a target -/
structure GOk (g : TG) (vs : List Nat) : Prop where
  own : GOwn g vs
  mono : GMono g
theorem ok_name {vs : List Nat} (h : i ∈ vs) : GOk (gName i) vs := ⟨g_name h, gm_name⟩
theorem wipe_idem {vs : List Nat} : wipe (wipe σ vs) vs = wipe σ vs := by
  have gen : ∀ (us : List Nat) (σ : L2.St), (∀ i ∈ us, i ∈ vs) → wipe (wipe σ us) vs = wipe σ vs := by
    intro us
    induction us with
    | nil => intro σ _; rfl
    | cons i us ih =>
      intro σ h
      show wipe ((wipe σ us).set i none) vs = wipe σ vs
      rw [wipe_setP.1 (h i (List.mem_cons_self ..))]
      exact ih σ fun j hj => h j (List.mem_cons_of_mem _ hj)
  exact gen vs σ fun _ h => h
theorem wipe_len {σ : L2.St} : ∀ vs : List Nat, (wipe σ vs).length = σ.length
  | [] => rfl
  | i :: vs => by
    show ((wipe σ vs).set i none).length = _
    rw [List.length_set, wipe_len vs]
theorem sim_lc {WW : WX} {wi : TI} {mi : Mo ItM} {g : TG} {mg : Tg} {tt : TT} {mt : Mo Bool} {te : TE} {me : Mo W} {us : List Nat} (hi : SimI f WW wi mi) (hg : SimG f g mg) (go : GOk g us) (ht : SimT f WW tt mt) (he : SimE f WW te me) :
    SimE f WW (tLc wi g tt te us) (mLc mi mg mt me us) := fun F σ H ρ h st r Q E e p => by
  rcases bindR_some e with ⟨it, ρ1, h1, e1, e⟩ | ⟨C, fs, ρ1, h1, e1, rfl⟩
  · refine hi F σ H ρ h st _ _ E e1 fun hlen v iw H1 J E1 ok ck1 => fun Da hD => ?_
    split at e
    · rename_i hid
      obtain ⟨κ1, E1⟩ := E1
      obtain ⟨r', hr', hpost⟩ : ∃ r', loopC mg mt me us it.ck it.ds ρ1 h1 [] = some r' ∧ (match r' with
          | .ok acc ρ2 h2 => ∀ H, EnvR f F σ H ρ2 h2 ((v, iw) :: (.ref Da, .fr acc) :: st) → Q (.ref Da) H
          | .ex C fs ρ2 h2 => ExR f F WW st C fs ρ2 h2) := by
        rcases bindR_some e with ⟨acc, ρ2, h2, e2, e⟩ | ⟨C, fs, ρ2, h2, e2, rfl⟩
        · cases e
          exact ⟨_, e2, fun H E => p _ _ E.pop⟩
        · exact ⟨_, e2, p⟩
      have E2 : EnvK f κ1 F (wipe σ us) (upd H1 Da (.lst [])) ρ1 h1 ((v, iw) :: (.ref Da, .fr []) :: st) := EnvK.idleWipe hid ((E1.pushN (c := .lst []) hD (Ex.new hD) (.lst upd_same .nil)).perm (List.Perm.swap _ _ _))
      have hus : ∀ i ∈ us, i < σ.length := fun i hi => by
        rw [E1.len]
        exact (List.getElem?_eq_some_iff.mp (idle_at hid hi)).1
      refine ⟨fun i m H => m = it.ds.length - i ∧ i ≤ it.ds.length ∧ ∃ ρ h acc, EnvR f F (wipe σ us) H ρ h ((v, iw) :: (.ref Da, .fr acc) :: st) ∧ ckOk it.ck h ∧ loopC mg mt me us it.ck (it.ds.drop i) ρ h acc = some r' ∧ idle us ρ = true ∧ acc.length ≤ i, ⟨_, rfl, Nat.zero_le _, ρ1, h1, [], ⟨κ1, E2⟩, ck1, by rw [List.drop_zero]; exact hr', hid, Nat.zero_le _⟩, ?_⟩
      rintro i m H ⟨rfl, hi, ρ, h, acc, ⟨κ, E⟩, ck, e, hid2, hacc⟩
      obtain ⟨k1, k2, k3⟩ := ok κ _ H ρ h _ E ck
      by_cases hlt : i < it.ds.length
      · refine .inr ⟨k1 i hlt, fun H => ∃ ρ h acc, EnvR f F (wipe σ us) H ρ h ((v, iw) :: (.ref Da, .fr acc) :: st) ∧ ckOk it.ck h ∧ loopC mg mt me us it.ck (it.ds.drop (i + 1)) ρ h acc = some r' ∧ idle us ρ = true ∧ acc.length ≤ i + 1, fun H' q => ⟨it.ds.length - (i + 1), by omega, rfl, hlt, q⟩, fun x H' y => ?_⟩
        obtain ⟨d, hd, E3⟩ := k3 i x H' hlt y
        have ed : it.ds.drop i = d :: it.ds.drop (i + 1) := by
          rw [List.drop_eq_getElem_cons hlt]
          rw [List.getElem?_eq_getElem hlt] at hd
          rw [Option.some.inj hd]
        rw [ed] at e
        unfold loopC at e
        cases q1 : mg (.cl d) ρ h with
        | none => rw [q1] at e; cases e
        | some y2 =>
          rw [q1] at e
          dsimp only [Option.bind_some] at e
          refine go.mono _ _ _ (fun σ2 H2 => wipe σ2 us = wipe (wipe σ us) us ∧ EnvR f F σ2 H2 y2.1 y2.2 ((v, iw) :: (.ref Da, .fr acc) :: st)) _ ?_ (go.own _ _ _ _ (hg F _ H' ρ h y2 _ x (.cl d) _ ⟨κ, E3⟩ q1 fun σ2 H2 E4 => E4))
          rintro σ2 H2 ⟨ew, E4⟩
          rw [wipe_idem] at ew
          refine ⟨ew, ?_⟩
          have hl2 : σ2.length = σ.length := by
            have := congrArg List.length ew
            rwa [wipe_len, wipe_len] at this
          rcases bindR_some e with ⟨b, ρ3, h3, e3, e⟩ | ⟨C, fs, ρ3, h3, e3, rfl⟩
          · refine ht F σ2 H2 y2.1 y2.2 _ _ _ E4 e3 fun H3 E5 => ?_
            by_cases hb : b = true
            · rw [if_pos hb] at e ⊢
              rcases bindR_some e with ⟨w, ρ4, h4, e4, e⟩ | ⟨C, fs, ρ4, h4, e4, rfl⟩
              · refine he F σ2 H3 ρ3 h3 _ _ _ E5 e4 fun y4 H4 ⟨κ4, E6⟩ => ?_
                split at e
                · rename_i hck
                  have E7 := E6.fz
                  have hrep := E7.rep (List.mem_cons_self ..)
                  have E8 : EnvK f κ4 F σ2 H4 ρ4 h4 ((.ref Da, .fr acc) :: (v, iw) :: st) := E7.pop.perm (List.Perm.swap _ _ _)
                  obtain ⟨p', ep, _, own, _⟩ := E8.held
                  cases ep
                  have hM : ∀ x ∈ av F κ4 ((V.ref Da, W.fr acc) :: (v, iw) :: st), x ∈ av F κ4 ((y4, W.cl (fzW w)) :: (v, iw) :: (V.ref Da, W.fr acc) :: st) := av_sub fun x hx => by
                    simp only [List.mem_cons] at hx ⊢
                    rcases hx with h | h | h
                    · exact .inr (.inr (.inl h))
                    · exact .inr (.inl h)
                    · exact .inr (.inr (.inr h))
                  cases own with
                  | @lst xs _ n2 n3 =>
                    have hlx : xs.length = acc.length := n3.len
                    have E9 := E8.app (u := .lst (xs ++ [y4])) (c' := .lst (acc ++ [fzW w])) (.lst upd_same ((n3.append (.cons (hrep.mono hM) .nil)).ex (Ex.mut (av_st (by rw [roots_nw]; exact List.mem_cons_self ..)))))
                    have E10 := E9.perm (List.Perm.swap _ _ _)
                    have E11 := E10.wiped (vs := us)
                    rw [ew] at E11
                    have hl4 : ∀ i ∈ us, i < ρ4.length := fun i hi => by
                      rw [← E6.len, hl2]
                      exact hus i hi
                    exact ⟨xs, n2, sz_lt (by omega), wipeS us ρ4, h4, acc ++ [fzW w], ⟨κ4, E11⟩, hck, e, wipeS_idle hl4, by simp; omega⟩
                · cases e
              · exact he F σ2 H3 ρ3 h3 _ _ _ E5 e4 (ExR.up (ExR.up hpost))
            · rw [if_neg hb] at e ⊢
              split at e
              · rename_i hck
                obtain ⟨κ5, E5⟩ := E5
                have E11 := E5.wiped (vs := us)
                rw [ew] at E11
                have hl4 : ∀ i ∈ us, i < ρ3.length := fun i hi => by
                  rw [← E5.len, hl2]
                  exact hus i hi
                exact ⟨wipeS us ρ3, h3, acc, ⟨κ5, E11⟩, hck, e, wipeS_idle hl4, by omega⟩
              · cases e
          · exact ht F σ2 H2 y2.1 y2.2 _ _ _ E4 e3 (ExR.up (ExR.up hpost))
      · have e0 : i = it.ds.length := by omega
        subst e0
        rw [List.drop_length] at e
        cases e
        exact .inl ⟨k2, hpost H ⟨κ, EnvK.unwipe hid2 E⟩⟩
    · cases e
  · exact hi F σ H ρ h st _ _ E e1 p
/-- g: the list, the arguments; what is handed back, the new list -/
def MutR (f : PySem.W.Frag) (rm : V → List V → Hp → VK → Prop) (g : List D → List D → Option (D × List D)) : Prop := ∀ (κ : List Addr) (M : List Addr) (H : Hp) (p : Addr) (xs as : List V) (cs ds cs' : List D) (r : D) (Q : VK),
  H p = some (.lst xs) → RepA M ⟨f, κ⟩ H xs cs → RepA M ⟨f, κ⟩ H as ds → g cs ds = some (r, cs') → (∀ v ys, RepA M ⟨f, κ⟩ H ys cs' → Rep M ⟨f, κ⟩ H v r → Q v (upd H p (.lst ys))) → rm (.ref p) as H Q
def lstAt (h : Tb) : W → Option (Nat × List D)
  | .cl (.ce n) => match h[n]? with
    | some (.lst cs) => some (n, cs)
    | _ => none
  | _ => none
def mMut (g : List D → List D → Option (D × List D)) (o : Mo W) (a : Mo (List W)) : Mo W := fun ρ h => bindR (o ρ h) fun w ρ h => (lstAt h w).bind fun _ => bindR (a ρ h) fun ws ρ h => (lstAt h w).bind fun x => (g x.2 (ws.map fzW)).map fun y => .ok (.cl y.1) ρ (h.set x.1 (.lst y.2))
def mMut0 (g : List D → List D → Option (D × List D)) (o : Mo W) : Mo W := fun ρ h => bindR (o ρ h) fun w ρ h => (lstAt h w).bind fun x => (g x.2 []).map fun y => .ok (.cl y.1) ρ (h.set x.1 (.lst y.2))
theorem EnvK.lstAt (E : EnvK f κ F σ H ρ h st) (hx : (v, w) ∈ st) {n : Nat} {cs : List D} (e : CM.lstAt h w = some (n, cs)) : ∃ q xs, v = .ref q ∧ κ[n]? = some q ∧ H q = some (.lst xs) ∧ RepA (av F κ st) ⟨f, κ⟩ H xs cs := by
  unfold CM.lstAt at e
  split at e
  · rename_i m
    split at e
    · rename_i cs' hc
      cases e
      have r := E.rep hx
      generalize hM : av F κ st = MM at r
      cases r with
      | @ce a _ hk =>
        subst hM
        have own := E.ce _ _ _ hk hc
        generalize hM : av F κ st = MM at own
        cases own with
        | lst a b => exact ⟨_, _, rfl, hk, a, b⟩
    · cases e
  · cases e
theorem EnvK.mutL {rm : V → List V → Hp → VK → Prop} {g : List D → List D → Option (D × List D)} (mr : MutR f rm g) {Q : VK} {n : Nat} {cs cs' : List D} {r : D} {q : Addr} {xs : List V} (E : EnvK f κ F σ H ρ h (vs.zip (ds.map W.cl) ++ st)) (hl : vs.length = ds.length)
    (hk : κ[n]? = some q) (hq : H q = some (.lst xs)) (ra : RepA (av F κ (vs.zip (ds.map W.cl) ++ st)) ⟨f, κ⟩ H xs cs) (e : g cs ds = some (r, cs')) (post : ∀ v H', EnvR f F σ H' ρ (h.set n (.lst cs')) ((v, .cl r) :: st) → Q v H') : rm (.ref q) vs H Q := by
  refine mr κ _ H q xs vs cs ds cs' r Q hq ra (E.repA hl fun x hx => List.mem_append.mpr (.inl hx)) e fun v ys ry rv => ?_
  refine post v _ ⟨κ, ?_⟩
  have E1 := E.pushC rv
  have er : av F κ ((v, W.cl r) :: (vs.zip (ds.map W.cl) ++ st)) = av F κ (vs.zip (ds.map W.cl) ++ st) := by
    show F.A ++ (κ ++ rootsW _) = _
    rw [roots_cl]
  have E2 := E1.mut (u := .lst ys) (c' := .lst cs') hk (.lst upd_same (by
    rw [er]
    exact ry.ex (Ex.mut (av_ka (List.mem_of_getElem? hk)))))
  exact E2.sub (List.Sublist.cons_cons _ (List.sublist_append_right _ _))
theorem sim_mut {WW : WX} {T : String} {rm : V → List V → Hp → VK → Prop} {g : List D → List D → Option (D × List D)} {to : TE} {mo : Mo W} {tr : TA} {mr : Mo (List W)} (hT : T = "list") (o : MutR f rm g) (ho : SimE f WW to mo) (ha : SimA f WW tr mr) : SimE f WW (tBM f T rm to tr) (mMut g mo mr) := fun F σ H ρ h st x Q E e p => by
  subst hT
  rcases bindR_some e with ⟨w, ρ1, h1, e1, e⟩ | ⟨C, fs, ρ1, h1, e1, rfl⟩
  · refine ho F σ H ρ h st _ _ E e1 fun v1 H1 ⟨κ1, E1⟩ => ?_
    cases q1 : lstAt h1 w with
    | none => rw [q1] at e; cases e
    | some y =>
      rw [q1] at e
      dsimp only [Option.bind_some] at e
      obtain ⟨q, xs, rfl, hk, hq, _⟩ := E1.lstAt (List.mem_cons_self ..) q1
      refine ⟨.inl ⟨rfl, _, .inl (.inl hq)⟩, ?_⟩
      rcases bindR_some e with ⟨ws, ρ2, h2, e2, e⟩ | ⟨C, fs, ρ2, h2, e2, rfl⟩
      · refine ha F σ H1 ρ1 h1 _ _ _ ⟨κ1, E1⟩ e2 fun vs H2 hl ⟨κ2, E2⟩ => ?_
        cases q2 : lstAt h2 w with
        | none => rw [q2] at e; cases e
        | some z =>
          obtain ⟨n, cs⟩ := z
          rw [q2] at e
          dsimp only [Option.bind_some] at e
          cases q3 : g cs (ws.map fzW) with
          | none => rw [q3] at e; cases e
          | some y =>
            obtain ⟨r, cs'⟩ := y
            rw [q3] at e
            cases e
            have E3 := E2.fzs hl
            obtain ⟨q', ys, eq, hk2, hq2, ra⟩ := E3.lstAt (List.mem_append.mpr (.inr (List.mem_cons_self ..))) q2
            cases eq
            exact EnvK.mutL o E3 (by simpa using hl) hk2 hq2 ra q3 fun v H' ⟨κ, E'⟩ => p v H' ⟨κ, E'.sub (List.Sublist.cons_cons _ (List.sublist_cons_self _ _))⟩
      · exact ha F σ H1 ρ1 h1 _ _ _ ⟨κ1, E1⟩ e2 (ExR.up p)
  · exact ho F σ H ρ h st _ _ E e1 p
theorem sim_mut0 {WW : WX} {T : String} {rm : V → List V → Hp → VK → Prop} {g : List D → List D → Option (D × List D)} {to : TE} {mo : Mo W} (hT : T = "list") (o : MutR f rm g) (ho : SimE f WW to mo) : SimE f WW (tBM0 f T rm to) (mMut0 g mo) := fun F σ H ρ h st x Q E e p => by
  subst hT
  rcases bindR_some e with ⟨w, ρ1, h1, e1, e⟩ | ⟨C, fs, ρ1, h1, e1, rfl⟩
  · refine ho F σ H ρ h st _ _ E e1 fun v1 H1 ⟨κ1, E1⟩ => ?_
    cases q1 : lstAt h1 w with
    | none => rw [q1] at e; cases e
    | some y =>
      obtain ⟨n, cs⟩ := y
      rw [q1] at e
      dsimp only [Option.bind_some] at e
      cases q3 : g cs [] with
      | none => rw [q3] at e; cases e
      | some y =>
        obtain ⟨r, cs'⟩ := y
        rw [q3] at e
        cases e
        obtain ⟨q, xs, rfl, hk, hq, ra⟩ := E1.lstAt (List.mem_cons_self ..) q1
        refine ⟨.inl ⟨rfl, _, .inl (.inl hq)⟩, ?_⟩
        exact EnvK.mutL (vs := []) (ds := []) o E1 rfl hk hq ra q3 fun v H' ⟨κ, E'⟩ => p v H' ⟨κ, E'.sub (List.Sublist.cons_cons _ (List.sublist_cons_self _ _))⟩
  · exact ho F σ H ρ h st _ _ E e1 p
def fAppend : List D → List D → Option (D × List D)
  | cs, [d] => if cs.length < 100000 then some (.non, cs ++ [d]) else none
  | _, _ => none
def fPopAt : List D → List D → Option (D × List D)
  | cs, [d] => match d.u with
    | .int i => if cs.length ≤ 100000 then (ixN cs.length i).bind fun k => (cs[k]?).map fun d => (d, cs.eraseIdx k) else none
    | _ => none
  | _, _ => none
def fClear : List D → List D → Option (D × List D)
  | _, [] => some (.non, [])
  | _, _ => none
theorem repA1 {d : D} (h : RepA M K H vs [d]) : ∃ v, vs = [v] ∧ Rep M K H v d := by
  cases h with | cons h a => cases a; exact ⟨_, rfl, h⟩
theorem repA0 (h : RepA M K H vs []) : vs = [] := by cases h; rfl
theorem mu_append : MutR f rAppend fAppend := fun κ M H p xs as cs ds cs' r Q h a b e q => by
  match ds, b, e with
  | [d], b, e =>
    obtain ⟨v, rfl, rv⟩ := repA1 b
    have e : (if cs.length < 100000 then some (D.non, cs ++ [d]) else none) = some (r, cs') := e
    split at e
    · cases e
      exact ⟨p, xs, v, rfl, rfl, h, sz_lt (by rw [a.len]; assumption), q _ _ (a.append (.cons rv .nil)) .non⟩
    · cases e
theorem RepA.dropLast : ∀ {vs : List V} {ds : List D}, RepA M K H vs ds → RepA M K H vs.dropLast ds.dropLast := fun {vs ds} h => by
  rw [List.dropLast_eq_take, List.dropLast_eq_take, h.len]
  exact h.take _
theorem RepA.erase : ∀ {vs : List V} {ds : List D} (n : Nat), RepA M K H vs ds → RepA M K H (vs.eraseIdx n) (ds.eraseIdx n)
  | _, _, _, .nil => .nil
  | _, _, 0, .cons _ a => a
  | _, _, n + 1, .cons h a => .cons h (RepA.erase n a)
theorem RepA.rev : ∀ {vs : List V} {ds : List D}, RepA M K H vs ds → RepA M K H vs.reverse ds.reverse
  | _, _, .nil => .nil
  | _, _, .cons h a => by
    rw [List.reverse_cons, List.reverse_cons]
    exact (RepA.rev a).append (.cons h .nil)
theorem mu_popAt : MutR f rPopAt fPopAt := fun κ M H p xs as cs ds cs' r Q h a b e q => by
  match ds, b, e with
  | [d], b, e =>
    obtain ⟨v, rfl, rv⟩ := repA1 b
    have e : (match d.u with
      | .int i => if cs.length ≤ 100000 then (ixN cs.length i).bind fun k => (cs[k]?).map fun d => (d, cs.eraseIdx k) else none
      | _ => none) = some (r, cs') := e
    split at e
    · rename_i i hi
      have rv := rv.u
      rw [hi] at rv
      cases rep_int rv
      split at e
      · rename_i hlen
        cases h1 : ixN cs.length i with
        | none => rw [h1] at e; cases e
        | some k =>
          rw [h1] at e
          dsimp only [Option.bind_some] at e
          cases h2 : cs[k]? with
          | none => rw [h2] at e; cases e
          | some d2 =>
            rw [h2] at e
            cases e
            obtain ⟨v, h3, h4⟩ := a.get h2
            obtain ⟨g1, g2, g3, g4⟩ := ixN_seq h1
            exact ⟨p, xs, i, k, v, rfl, rfl, h, by omega, by omega, by rw [a.len]; exact g1, h3, q _ _ (a.erase k) h4⟩
      · cases e
    · cases e
theorem mu_clear : MutR f rClear fClear := fun κ M H p xs as cs ds cs' r Q h a b e q => by
  match ds, b, e with
  | [], b, e =>
    cases repA0 b
    cases e
    exact ⟨p, xs, rfl, rfl, h, q _ [] .nil .non⟩
end
end CM
namespace CM
open PySem PySem.Spec PyProof.Rows L2 SL
/-- how a def ends: what it hands back, the cells; or an exception -/
inductive FR where
  | rt (w : W) (h : Tb)
  | ex (C : Str) (fs : List (Str × D)) (h : Tb)
abbrev Fnm := List D → Tb → Option FR
def PostF (f : PySem.W.Frag) (κ A : List Addr) (H : Hp) (Q : VK) (E : XK) : FR → Prop
  | .rt w h => ∀ v H', EnvR f ⟨A, κ, H⟩ [] H' [] h [(v, w)] → Q v H'
  | .ex C fs h => ∀ κ' dx H', EnvK f κ' ⟨A, κ, H⟩ [] H' [] h [] → XdR (av ⟨A, κ, H⟩ κ' []) ⟨f, κ'⟩ H' dx fs → E (.ref (He.ga f C)) (some dx) H'
/-- a def keeps the plain run m -/
def spM (f : PySem.W.Frag) (m : Fnm) : Sp := fun vs H Q E => ∃ (κ A : List Addr) (ds : List D) (h : Tb) (r : FR), EnvK f κ ⟨A, κ, H⟩ (vs.map some) H (ds.map .cl) h [] ∧ m ds h = some r ∧ PostF f κ A H Q E r
/-- the first cells are as they were, or tell of none of the later ones -/
def okCut (h0 h : Tb) : Prop := ∀ (i : Nat) (c : D), i < h0.length → h[i]? = some c → h0[i]? = some c ∨ below h0.length c = true
open Classical in
/-- the cells of a def's own end with it, where nothing tells of them -/
noncomputable def cutF (keep : Bool) (h0 : Tb) (w : W) (h : Tb) : Option (W × Tb) :=
  if keep = true ∨ h.length = h0.length then some (w, h) else if okCut h0 h then (match w with
    | .cl (.ce n) => if n < h0.length then some (.cl (.ce n), h.take h0.length) else match h[n]? with
      | some c => if below h0.length c = true then some (.nw c, h.take h0.length) else none
      | none => none
    | w => if below h0.length (fzW w) = true then some (w, h.take h0.length) else none) else none
open Classical in
noncomputable def cutX (keep : Bool) (h0 : Tb) (fs : List (Str × D)) (h : Tb) : Option Tb :=
  if keep = true ∨ h.length = h0.length then some h else if okCut h0 h ∧ belowF h0.length fs = true then some (h.take h0.length) else none
noncomputable def endF (keep : Bool) (h0 : Tb) : Option Out → Option FR
  | some (.rt w ρ h) => (cutF keep h0 w h).map fun x => .rt x.1 x.2
  | some (.nx ρ h) => (cutF keep h0 (.cl .non) h).map fun x => .rt x.1 x.2
  | some (.ex C fs ρ h) => (cutX keep h0 fs h).map fun x => .ex C fs x
  | _ => none
/-- a def of n parameters and k further names -/
noncomputable def fnM (keep : Bool) (n k : Nat) (body : MS) : Fnm := fun as h => if as.length = n then endF keep h (body (as.map Sl.cl ++ List.replicate k .un) h) else none
section
variable {f : PySem.W.Frag} {κ κ' : List Addr} {F : Fm} {M A Io : List Addr} {H H' H1 : Hp} {p q : Addr} {σ : L2.St} {ρ ρ' : List Sl} {h h' h0 : Tb} {st l : List (V × W)} {v : V} {w w' : W} {d c : D} {ds es : List D} {vs : List V} {ws : List W} {i j n k : Nat} {o o' : Option V} {keep : Bool}
theorem len_fnM {body : MS} {r : FR} (e : fnM keep n k body ds h = some r) : ds.length = n := by
  unfold fnM at e
  split at e
  · assumption
  · cases e
theorem len_spM {m : Fnm} {ps : List Str} (hm : ∀ ds h r, m ds h = some r → ds.length = ps.length) {Q : VK} {E : XK} (q : spM f m vs H Q E) : vs.length = ps.length := by
  obtain ⟨κ, A, ds, h, r, e, hr, _⟩ := q
  have := e.len
  rw [List.length_map, List.length_map] at this
  rw [this]
  exact hm ds h r hr
theorem EnvK.noframe (E : EnvK f κ F σ H ρ h st) : EnvK f κ F [] H [] h st := ⟨E.ok, rfl, E.kl, E.io, E.ex, E.tr, E.nd, fun i o s h1 _ => by simp at h1, E.ce, E.wv⟩
theorem EnvK.body (E : EnvK f κ F (vs.map some) H (ds.map .cl) h []) (k : Nat) : EnvK f κ F (vs.map some ++ List.replicate k none) H (ds.map .cl ++ List.replicate k .un) h [] := by
  have hl := E.len
  refine ⟨E.ok, by simp; simpa using hl, E.kl, E.io, E.ex, E.tr, E.nd, fun i o s h1 h2 => ?_, E.ce, E.wv⟩
  by_cases hi : i < (ds.map Sl.cl).length
  · rw [List.getElem?_append_left hi] at h2
    rw [List.getElem?_append_left (by rw [hl]; exact hi)] at h1
    exact E.sl i o s h1 h2
  · rw [List.getElem?_append_right (by omega)] at h2
    have := List.mem_of_getElem? h2
    rw [List.eq_of_mem_replicate this]
    exact .un
theorem Own.wf {d : D} (r : Own M ⟨f, κ⟩ H p d) : below κ.length d = true := by
  cases r with
  | lst a b => simp only [below]; exact b.wf
  | dK a n b => simp only [below]; rw [belowK_eq]; exact b.wf
  | ins a n b => simp only [below]; rw [belowF_eq]; exact b.wf
theorem Own.dn {l : List Addr} {d : D} (r : Own M ⟨f, κ ++ l⟩ H p d) (e : below κ.length d = true) : Own M ⟨f, κ⟩ H p d := by
  cases r with
  | lst a b => exact .lst a (b.dn (by simpa only [below] using e))
  | dK a n b => exact .dK a n (b.dn (by
      simp only [below] at e
      rw [belowK_eq] at e
      exact e))
  | ins a n b => exact .ins a n (b.dn (by
      simp only [below] at e
      rw [belowF_eq] at e
      exact e))
/-- the first cells alone -/
theorem EnvK.cut0 {l : List Addr} {h0 : Tb} (hk : κ.length = h0.length) (hw : ∀ (i : Nat) (c : D), h0[i]? = some c → below h0.length c = true) (E : EnvK f (κ ++ l) ⟨A, κ, H⟩ [] H' [] h []) (ok : okCut h0 h) : EnvK f κ ⟨A, κ, H⟩ [] H' [] (h.take h0.length) [] := by
  have hl := E.kl
  rw [List.length_append] at hl
  refine ⟨E.ok, rfl, by rw [List.length_take]; omega, ⟨[], by simp, fun _ z => by cases z⟩, E.ex, E.tr, ?_, fun i o s h1 _ => by simp at h1, fun n p c h1 h2 => ?_, fun _ z => by cases z⟩
  · have := E.nd
    rw [List.append_assoc] at this
    show (κ ++ []).Nodup
    rw [List.append_nil]
    exact (List.nodup_append.mp this).1
  · have hn : n < κ.length := (List.getElem?_eq_some_iff.mp h1).1
    rw [List.getElem?_take_of_lt (by omega)] at h2
    have own := E.ce n p c (by rw [List.getElem?_append_left hn]; exact h1) h2
    have hb : below κ.length c = true := by
      rw [hk]
      rcases ok n c (by omega) h2 with z | z
      · exact hw n c z
      · exact z
    refine (own.dn hb).mono fun x hx => ?_
    simp only [List.mem_append] at hx ⊢
    rcases hx with z | z | z
    · exact .inl z
    · exact .inr (.inl (.inl z))
    · exact .inr (.inr z)
theorem av_cut {l : List Addr} {st' : List (V × W)} (hr : ∀ x ∈ rootsW st', x ∈ l ∨ x ∈ rootsW st) : ∀ x ∈ av F κ st', x ∈ av F (κ ++ l) st := fun x hx => by
  simp only [List.mem_append] at hx ⊢
  rcases hx with z | z | z
  · exact .inl z
  · exact .inr (.inl (.inl z))
  · rcases hr x z with y | y
    · exact .inr (.inl (.inr y))
    · exact .inr (.inr y)
theorem EnvK.cutF {h0 : Tb} (hk : κ.length = h0.length) (hw : ∀ (i : Nat) (c : D), h0[i]? = some c → below h0.length c = true) {x : W × Tb} (E : EnvK f κ' ⟨A, κ, H⟩ [] H' [] h [(v, w)]) (e : CM.cutF keep h0 w h = some x) : EnvR f ⟨A, κ, H⟩ [] H' [] x.2 [(v, x.1)] := by
  unfold CM.cutF at e
  split at e
  · cases e
    exact ⟨κ', E⟩
  · rename_i hne
    split at e
    · rename_i ok
      obtain ⟨l, rfl, hf⟩ := E.io
      have E0 := E.pop.cut0 hk hw ok
      have val : ∀ d, w = .cl d → below h0.length d = true → EnvR f ⟨A, κ, H⟩ [] H' [] (h.take h0.length) [(v, .cl d)] := fun d e hb => by
        subst e
        have r := E.rep (List.mem_cons_self ..)
        rw [← hk] at hb
        refine ⟨κ, E0.pushC ((r.dn hb).mono (av_cut fun x hx => by cases hx))⟩
      split at e
      · rename_i n
        split at e
        · rename_i hn
          cases e
          exact val _ rfl (by simp only [below, decide_eq_true_eq]; exact hn)
        · rename_i hn
          split at e
          · rename_i c hc
            split at e
            · rename_i hb
              cases e
              have r := E.rep (List.mem_cons_self ..)
              generalize hM : av ⟨A, κ, H⟩ (κ ++ l) [(v, W.cl (.ce n))] = M at r
              cases r with
              | @ce q _ hq =>
                subst hM
                have own := E.ce n q c hq hc
                have hql : q ∈ l := by
                  have hq : (κ ++ l)[n]? = some q := hq
                  rw [List.getElem?_append_right (by omega)] at hq
                  exact List.mem_of_getElem? hq
                have hne2 : q ∉ κ := fun z => by
                  have nd := E.nd
                  rw [List.append_assoc] at nd
                  exact (List.nodup_append.mp nd).2.2 q z q (List.mem_append.mpr (.inl hql)) rfl
                have hm : ∀ x ∈ av (⟨A, κ, H⟩ : Fm) κ [(V.ref q, W.nw c)], x ∈ av ⟨A, κ, H⟩ (κ ++ l) [(V.ref q, W.cl (.ce n))] := av_cut fun x hx => by
                  rw [roots_nw] at hx
                  rcases List.mem_cons.mp hx with z | z
                  · rw [z]; exact .inl hql
                  · cases z
                rw [← hk] at hb
                have own2 : Own (av ⟨A, κ, H⟩ κ [(V.ref q, W.nw c)]) ⟨f, κ⟩ H' q c := (own.mono hm).dn hb
                refine ⟨κ, E0.ok, rfl, E0.kl, E0.io, E0.ex, E0.tr, ?_, fun i o s h1 _ => by simp at h1, fun m p c' h1 h2 => ?_, fun y hy => ?_⟩
                · show (κ ++ [q]).Nodup
                  rw [List.nodup_append]
                  refine ⟨?_, by simp, fun a ha b hb z => ?_⟩
                  · have nd := E0.nd
                    rwa [show rootsW ([] : List (V × W)) = [] from rfl, List.append_nil] at nd
                  · rw [List.mem_singleton.mp hb] at z
                    rw [z] at ha
                    exact hne2 ha
                · have hn : m < κ.length := (List.getElem?_eq_some_iff.mp h1).1
                  have h2' : h[m]? = some c' := by
                    rw [List.getElem?_take_of_lt (by omega)] at h2
                    exact h2
                  have own := E.ce m p c' (by rw [List.getElem?_append_left hn]; exact h1) h2'
                  have hb : below κ.length c' = true := by
                    rw [hk]
                    rcases ok m c' (by omega) h2' with z | z
                    · exact hw m c' z
                    · exact z
                  exact (own.mono hm).dn hb
                · rw [List.mem_singleton.mp hy]
                  exact .nw (hf q hql) own2
            · cases e
          · cases e
      · rename_i w0 hw0
        split at e
        · rename_i hb
          cases e
          match w, E, hb, val with
          | .cl d, E, hb, val => exact val d rfl hb
          | .nw c, E, hb, val =>
            obtain ⟨q, rfl, h0', own, hq⟩ := E.held
            have hm : ∀ x ∈ av (⟨A, κ, H⟩ : Fm) κ [(V.ref q, W.nw c)], x ∈ av ⟨A, κ, H⟩ (κ ++ l) [(V.ref q, W.nw c)] := av_cut fun x hx => .inr hx
            have hb : below κ.length c = true := by rw [hk]; exact hb
            refine ⟨κ, E0.ok, rfl, E0.kl, E0.io, E0.ex, E0.tr, ?_, fun i o s h1 _ => by simp at h1, fun m p c' h1 h2 => ?_, fun y hy => ?_⟩
            · have nd := E.nd
              refine nd.sublist ?_
              rw [List.append_assoc]
              exact List.Sublist.append_left (List.sublist_append_right _ _) _
            · have hn : m < κ.length := (List.getElem?_eq_some_iff.mp h1).1
              have h2' : h[m]? = some c' := by
                rw [List.getElem?_take_of_lt (by omega)] at h2
                exact h2
              have own := E.ce m p c' (by rw [List.getElem?_append_left hn]; exact h1) h2'
              have hb : below κ.length c' = true := by
                rw [hk]
                rcases ok m c' (by omega) h2' with z | z
                · exact hw m c' z
                · exact z
              exact (own.mono hm).dn hb
            · rw [List.mem_singleton.mp hy]
              exact .nw h0' ((own.mono hm).dn hb)
        · cases e
    · cases e
theorem EnvK.cutX {h0 : Tb} (hk : κ.length = h0.length) (hw : ∀ (i : Nat) (c : D), h0[i]? = some c → below h0.length c = true) {x : Tb} {dx : Addr} {fs : List (Str × D)} (E : EnvK f κ' ⟨A, κ, H⟩ [] H' [] h []) (xd : XdR (av ⟨A, κ, H⟩ κ' []) ⟨f, κ'⟩ H' dx fs) (e : CM.cutX keep h0 fs h = some x) :
    ∃ κ', EnvK f κ' ⟨A, κ, H⟩ [] H' [] x [] ∧ XdR (av ⟨A, κ, H⟩ κ' []) ⟨f, κ'⟩ H' dx fs := by
  unfold CM.cutX at e
  split at e
  · cases e
    exact ⟨κ', E, xd⟩
  · split at e
    · rename_i hok
      cases e
      obtain ⟨l, rfl, hf⟩ := E.io
      refine ⟨κ, E.cut0 hk hw hok.1, ?_⟩
      obtain ⟨a, b, c⟩ := xd
      have hb := hok.2
      rw [← hk, belowF_eq] at hb
      exact .mk a b ((c.dn hb).mono (av_cut fun x hx => by cases hx))
    · cases e
theorem EnvK.wfs (E : EnvK f κ F σ H ρ h st) : ∀ (i : Nat) (c : D), h[i]? = some c → below h.length c = true := fun i c hc => by
  have hi : i < κ.length := by
    rw [E.kl]
    exact (List.getElem?_eq_some_iff.mp hc).1
  rw [← E.kl]
  exact (E.ce i _ c (List.getElem?_eq_getElem hi) hc).wf
/-- a def's body keeps the def's promise -/
theorem pure_fnM {t : TS} {body : MS} {N : List Str} {Q : VK} {E : XK} (hN : N.length = n + k) (hb : SimS f (fun cls d _ H => E cls d H) t body) (s : spM f (fnM keep n k body) vs H Q E) : t { nx := fun _ H' => Q .non H', rt := Q } (L2.start N vs) H := by
  obtain ⟨κ, A, ds, h, r, e, hr, p⟩ := s
  have hlen := len_fnM hr
  have hl : vs.length = n := by
    have := e.len
    rw [List.length_map, List.length_map] at this
    omega
  have es : L2.start N vs = vs.map some ++ List.replicate k none := by
    unfold L2.start
    rw [hN, hl, Nat.add_sub_cancel_left]
  have hw := e.wfs
  have hk := e.kl
  unfold fnM at hr
  rw [if_pos hlen] at hr
  cases h1 : body (ds.map Sl.cl ++ List.replicate k .un) h with
  | none => rw [h1] at hr; cases hr
  | some o =>
    rw [h1] at hr
    rw [es]
    refine hb ⟨A, κ, H⟩ _ H _ h [] o _ ⟨κ, e.body k⟩ h1 ?_
    cases o with
    | nx ρ h' =>
      have hr : (cutF keep h (.cl .non) h').map (fun x => FR.rt x.1 x.2) = some r := hr
      cases h2 : cutF keep h (.cl .non) h' with
      | none => rw [h2] at hr; cases hr
      | some x =>
        rw [h2] at hr
        cases hr
        intro σ H' ⟨κ', E'⟩
        exact p .non H' ((E'.noframe.pushC (d := .non) .non).cutF hk hw h2)
    | rt w ρ h' =>
      have hr : (cutF keep h w h').map (fun x => FR.rt x.1 x.2) = some r := hr
      cases h2 : cutF keep h w h' with
      | none => rw [h2] at hr; cases hr
      | some x =>
        rw [h2] at hr
        cases hr
        intro σ v H' ⟨κ', E'⟩
        exact p v H' (E'.noframe.cutF hk hw h2)
    | bk ρ h' => cases hr
    | ct ρ h' => cases hr
    | ex C fs ρ h' =>
      have hr : (cutX keep h fs h').map (fun x => FR.ex C fs x) = some r := hr
      cases h2 : cutX keep h fs h' with
      | none => rw [h2] at hr; cases hr
      | some x =>
        rw [h2] at hr
        cases hr
        intro κ' σ H' dx E' xd
        obtain ⟨κ2, E2, xd2⟩ := E'.noframe.cutX hk hw xd h2
        exact p κ2 dx H' E2 xd2
theorem EnvK.call_start (E : EnvK f κ F σ H ρ h (vs.zip (ds.map W.cl) ++ st)) (hl : vs.length = ds.length) : EnvK f κ ⟨av F κ (vs.zip (ds.map W.cl) ++ st), κ, H⟩ (vs.map some) H (ds.map .cl) h [] := by
  have hm : ∀ x ∈ av (⟨av F κ (vs.zip (ds.map W.cl) ++ st), κ, H⟩ : Fm) κ [], x ∈ av F κ (vs.zip (ds.map W.cl) ++ st) := fun x hx => by
    rcases List.mem_append.mp hx with z | z
    · exact z
    · rcases List.mem_append.mp z with z | z
      · exact av_ka z
      · cases z
  refine ⟨⟨fun a ha => E.av_some ha, fun a ha => av_ka ha⟩, by simp [hl], E.kl, ⟨[], by simp, fun _ z => by cases z⟩, Ex.refl, fun _ z => z, ?_, fun i o s h1 h2 => ?_, fun n p c h1 h2 => (E.ce n p c h1 h2).mono hm, fun _ z => by cases z⟩
  · show (κ ++ []).Nodup
    rw [List.append_nil]
    exact (List.nodup_append.mp E.nd).1
  · have ra := E.repA hl fun x hx => List.mem_append.mpr (.inl hx)
    rw [List.getElem?_map] at h1 h2
    cases hd : ds[i]? with
    | none => rw [hd] at h2; cases h2
    | some d =>
      rw [hd] at h2
      cases h2
      obtain ⟨v, g1, g2⟩ := ra.get hd
      rw [g1] at h1
      cases h1
      exact .cl (g2.mono hm)
/-- the caller's frame behind a call -/
theorem EnvK.call_end {st2 : List (V × W)} {h2 : Tb} (E : EnvK f κ F σ H ρ h (l ++ st)) (hA : A = av F κ (l ++ st)) (E' : EnvK f κ' ⟨A, κ, H⟩ [] H' [] h2 st2) : EnvK f κ' F σ H' ρ h2 (st2 ++ st) := by
  subst hA
  obtain ⟨l1, e1, f1⟩ := E.io
  obtain ⟨l2, e2, f2⟩ := E'.io
  have e2 : κ' = κ ++ l2 := e2
  have f2 : ∀ p ∈ l2, H p = none := f2
  have ex : Ex κ H H' := E'.ex
  have tr : ∀ a, H a ≠ none → H' a ≠ none := E'.tr
  have rs : rootsW (st2 ++ st) = rootsW st2 ++ rootsW st := List.filterMap_append
  have h0 : ∀ p, H p = none → F.H0 p = none := fun p hp => by
    cases q : F.H0 p with
    | none => rfl
    | some u => exact absurd hp (E.tr p (by rw [q]; exact fun z => by cases z))
  have old : ∀ x ∈ av F κ' (st2 ++ st), x ∈ av F κ (l ++ st) ∨ H x = none := fun x hx => by
    rw [show av F κ' (st2 ++ st) = F.A ++ (κ' ++ rootsW (st2 ++ st)) from rfl, rs, e2] at hx
    rcases List.mem_append.mp hx with z | z
    · exact .inl (List.mem_append.mpr (.inl z))
    · rcases List.mem_append.mp z with z | z
      · rcases List.mem_append.mp z with z | z
        · exact .inl (av_ka z)
        · exact .inr (f2 x z)
      · rcases List.mem_append.mp z with z | z
        · exact .inr (E'.root_some z).2
        · exact .inl (av_st (by
            unfold rootsW
            rw [List.filterMap_append]
            exact List.mem_append.mpr (.inr z)))
  have new : ∀ x ∈ av F κ' (st2 ++ st), x ∈ av (⟨av F κ (l ++ st), κ, H⟩ : Fm) κ' st2 := fun x hx => by
    rw [show av F κ' (st2 ++ st) = F.A ++ (κ' ++ rootsW (st2 ++ st)) from rfl, rs] at hx
    rcases List.mem_append.mp hx with z | z
    · exact List.mem_append.mpr (.inl (List.mem_append.mpr (.inl z)))
    · rcases List.mem_append.mp z with z | z
      · exact av_ka z
      · rcases List.mem_append.mp z with z | z
        · exact av_st z
        · exact List.mem_append.mpr (.inl (av_st (by
            unfold rootsW
            rw [List.filterMap_append]
            exact List.mem_append.mpr (.inr z))))
  have exM : Ex (av F κ (l ++ st)) H H' := ex.mono fun x hx => av_ka hx
  have upR : ∀ {v : V} {d : D}, Rep (av F κ (l ++ st)) ⟨f, κ⟩ H v d → Rep (av F κ' (st2 ++ st)) ⟨f, κ'⟩ H' v d := fun {v d} r => by
    -- first what is kept off, then the change, then the cells
    have r1 : Rep (av F κ' (st2 ++ st)) ⟨f, κ⟩ H v d := r.frs old
    have exN : Ex (av F κ' (st2 ++ st)) H H' := ex.mono fun x hx => av_ka (by rw [e2]; exact List.mem_append.mpr (.inl hx))
    have r2 := (r1.ex exN).up (l := l2)
    rw [e2] at r2 ⊢
    exact r2
  refine ⟨E.ok, E.len, E'.kl, ⟨l1 ++ l2, by rw [e2, e1, List.append_assoc], fun p hp => ?_⟩, fun a o hn z => ?_, fun a z => tr a (E.tr a z), ?_, fun i o s g1 g2 => ?_, fun n p c g1 g2 => (E'.ce n p c g1 g2).mono new, fun x hx => ?_⟩
  · rcases List.mem_append.mp hp with z | z
    · exact f1 p z
    · exact h0 p (f2 p z)
  · refine ex a o (fun hk => ?_) (E.ex a o hn z)
    rw [e1] at hk
    rcases List.mem_append.mp hk with y | y
    · exact hn y
    · rw [f1 a y] at z
      cases z
  · rw [rs, ← List.append_assoc]
    rw [List.nodup_append]
    refine ⟨E'.nd, ?_, fun a ha b hb z => ?_⟩
    · have nd := (List.nodup_append.mp E.nd).2.1
      unfold rootsW at nd
      rw [List.filterMap_append] at nd
      exact (List.nodup_append.mp nd).2.1
    · subst z
      have hb2 : a ∈ rootsW (l ++ st) := by
        unfold rootsW
        rw [List.filterMap_append]
        exact List.mem_append.mpr (.inr hb)
      have hs := (E.root_some hb2).1
      rcases List.mem_append.mp ha with z | z
      · rw [e2] at z
        rcases List.mem_append.mp z with z | z
        · exact (List.nodup_append.mp E.nd).2.2 a z a hb2 rfl
        · exact hs (f2 a z)
      · exact hs (E'.root_some z).2
  · have q := E.sl i o s g1 g2
    cases s with
    | un => exact .un
    | cl d =>
      generalize hM : av F κ (l ++ st) = M at q
      cases q with
      | cl r => subst hM; exact .cl (upR r)
  · rcases List.mem_append.mp hx with hx | hx
    · have q := E'.wv x hx
      obtain ⟨v, w⟩ := x
      dsimp only at q ⊢
      generalize hM : av (⟨av F κ (l ++ st), κ, H⟩ : Fm) κ' st2 = M at q
      cases q with
      | cl r => subst hM; exact .cl (r.mono new)
      | nw n r => subst hM; exact .nw (h0 _ n) (r.mono new)
    · have q := E.wv x (List.mem_append.mpr (.inr hx))
      obtain ⟨v, w⟩ := x
      dsimp only at q ⊢
      generalize hM : av F κ (l ++ st) = M at q
      cases q with
      | cl r => subst hM; exact .cl (upR r)
      | @nw p c n r =>
        subst hM
        have hp : p ∈ rootsW (l ++ st) := mem_rootsW.mpr ⟨_, List.mem_append.mpr (.inr hx), rfl⟩
        have hpk : p ∉ κ := fun z => (List.nodup_append.mp E.nd).2.2 p z p hp rfl
        have e0 : H' p = H p := by
          cases q : H p with
          | none => exact absurd q r.some
          | some u => exact ex p u hpk q
        have own : Own (av F κ' (st2 ++ st)) ⟨f, κ'⟩ H' p c := by
          have upA : ∀ {vs : List V} {ds : List D}, RepA (av F κ (l ++ st)) ⟨f, κ⟩ H vs ds → RepA (av F κ' (st2 ++ st)) ⟨f, κ'⟩ H' vs ds := fun {vs ds} r => by
            induction r using RepA.rec (motive_1 := fun _ _ _ => True) with
            | nil => exact .nil
            | cons a b _ ih => exact .cons (upR a) ih
            | _ => trivial
          cases r with
          | lst a b => exact .lst (e0.trans a) (upA b)
          | dK a n b => exact .dK (e0.trans a) n (upA b)
          | ins a n b => exact .ins (e0.trans a) n (upA b)
        exact .nw n own
end
end CM
namespace CM
open PySem PySem.Spec PyProof.Rows L2 SL
/-- a call that raises nothing -/
def callT (m : Fnm) (ds : List D) (ρ : List Sl) (h : Tb) : Option (R W) := match m ds h with
  | some (.rt w h') => some (.ok w ρ h')
  | _ => none
def callN (m : Fnm) (a : Mo (List W)) : Mo W := fun ρ h => bindR (a ρ h) fun ws ρ h => callT m (ws.map fzW) ρ h
section
variable {f : PySem.W.Frag} {κ κ' : List Addr} {WW : WX} {F : Fm} {M A : List Addr} {H H' : Hp} {σ : L2.St} {ρ ρ' : List Sl} {h h' : Tb} {st : List (V × W)} {v : V} {w w' : W} {i j : Nat} {tr : TA} {mr : Mo (List W)} {te ta : TE} {me ma : Mo W} {C n : Str} {d : D} {fs : List (Str × D)} {p : Addr} {m : Fnm} {vs : List V} {ws : List W} {ds : List D} {keep : Bool}
theorem EnvK.callT {r : R W} {Q : VK} (E : EnvK f κ F σ H ρ h (vs.zip (ds.map W.cl) ++ st)) (hl : vs.length = ds.length) (e : CM.callT m ds ρ h = some r) (post : ∀ w ρ' h', r = .ok w ρ' h' → ∀ v H, EnvR f F σ H ρ' h' ((v, w) :: st) → Q v H) : spM f m vs H Q E0 := by
  unfold CM.callT at e
  split at e
  · rename_i w h' q
    cases e
    exact ⟨κ, _, ds, h, _, E.call_start hl, q, fun v H' ⟨κ', E'⟩ => post _ _ _ rfl v H' ⟨κ', EnvK.call_end (l := vs.zip (ds.map W.cl)) E rfl E'⟩⟩
  · cases e
theorem sim_call (ha : SimA f WW tr mr) : SimE f WW (tCall (spM f m) [] E0 tr) (callN m mr) := fun F σ H ρ h st x Q E e p => by
  rcases bindR_some e with ⟨ws, ρ1, h1, e1, e⟩ | ⟨C, fs, ρ1, h1, e1, rfl⟩
  · refine ha F σ H ρ h st _ _ E e1 fun vs H1 hl ⟨κ, E1⟩ => ?_
    rw [List.append_nil]
    refine EnvK.callT (E1.fzs hl) (by simpa using hl) e fun w ρ' h' hr v H' E' => ?_
    subst hr
    exact p v H' E'
  · exact ha F σ H ρ h st _ _ E e1 p
def insOf (C : Str) : D → Option (List (Str × D))
  | .ins C' fs => if C' = C then some fs else none
  | _ => none
def mFld (C n : Str) (a : Mo W) : Mo W := fun ρ h => bindR (a ρ h) fun w ρ h => (deref h w).bind fun d => (insOf C d.u).bind fun fs => (fs.lookup n).map fun d => .ok (.cl d) ρ h
def putD (n : Str) (v : D) : List (Str × D) → List (Str × D)
  | [] => [(n, v)]
  | (g, x) :: r => if g = n then (g, v) :: r else (g, x) :: putD n v r
def insAt (C : Str) (h : Tb) : W → Option (Nat × List (Str × D))
  | .cl (.ce n) => match h[n]? with
    | some (.ins C' fs) => if C' = C then some (n, fs) else none
    | _ => none
  | _ => none
/-- o.n = e; own: a new thing becomes a cell -/
def sFldM (C n : Str) (o : Mo W) (e : Mo W) : MS := fun ρ h => bindS (e ρ h) fun w ρ h => bindS (o ρ h) fun u ρ h => (insAt C h u).bind fun x => if x.2.length < 1000 then some (.nx ρ (h.set x.1 (.ins C (putD n (fzW w) x.2)))) else none
def mMeth (C : Str) (n : Str) (m : Fnm) (a : Mo W) (b : Mo (List W)) : Mo W := fun ρ h => bindR (a ρ h) fun w ρ h => (deref h w).bind fun d => (insOf C d.u).bind fun fs => if (fs.lookup n).isNone then bindR (b ρ h) fun ws ρ h => callT m (fzW w :: ws.map fzW) ρ h else none
/-- C(..): dvs are the values of what lacks -/
noncomputable def mMake (keep : Bool) (C : Str) (m : Fnm) (dvs : List D) (b : Mo (List W)) : Mo W := fun ρ h => bindR (b ρ h) fun ws ρ h => match m (.ce h.length :: (ws.map fzW ++ dvs)) (h ++ [.ins C []]) with
  | some (.rt (.cl .non) h') => (cutF keep h (.cl (.ce h.length)) h').map fun x => .ok x.1 ρ x.2
  | _ => none
theorem nr_ins {K : Kx} (q : Nr M K H v d) (e : insOf C d.u = some fs) : ∃ a dx vs, v = .ref a ∧ H a = some (.ins (He.ga K C) dx vs) ∧ vs.map (·.1) = fs.map (·.1) ∧ RepA M K H (vs.map (·.2)) (fs.map (·.2)) := by
  have q := q.u
  unfold insOf at e
  split at e
  · rename_i C' fs' hd
    split at e
    · rename_i hC
      subst hC
      cases e
      rw [hd] at q
      cases q with
      | cl r => cases r with | ins a n b => exact ⟨_, _, _, rfl, a.at_, n, b⟩
      | own r => cases r with | ins a n b => exact ⟨_, _, _, rfl, a, n, b⟩
    · cases e
  · cases e
theorem lookup_rep {K : Kx} {f : Str} : ∀ {vs : List (Str × V)} {fs : List (Str × D)}, vs.map (·.1) = fs.map (·.1) → RepA M K H (vs.map (·.2)) (fs.map (·.2)) → (∀ d, fs.lookup f = some d → ∃ v, vs.lookup f = some v ∧ Rep M K H v d) ∧ (fs.lookup f = none → vs.lookup f = none)
  | [], [], _, _ => ⟨(fun d h => by cases h), fun _ => rfl⟩
  | [], _ :: _, h, _ => by cases h
  | _ :: _, [], h, _ => by cases h
  | (a, x) :: vs, (b, y) :: fs, h, r => by
    have hab : a = b := by simpa using (List.cons.inj h).1
    subst hab
    have r : RepA M K H (x :: vs.map (·.2)) (y :: fs.map (·.2)) := r
    cases r with
    | cons r1 r2 =>
      obtain ⟨ih1, ih2⟩ := lookup_rep (List.cons.inj h).2 r2
      by_cases hf : (f == a) = true
      · refine ⟨fun d e => ?_, fun e => ?_⟩
        · have e : (match f == a with | true => some y | false => fs.lookup f) = some d := e
          rw [hf] at e
          cases e
          exact ⟨x, by show (match f == a with | true => some x | false => vs.lookup f) = _; rw [hf], r1⟩
        · have e : (match f == a with | true => some y | false => fs.lookup f) = none := e
          rw [hf] at e
          cases e
      · have hf : (f == a) = false := by simpa using hf
        refine ⟨fun d e => ?_, fun e => ?_⟩
        · have e : (match f == a with | true => some y | false => fs.lookup f) = some d := e
          rw [hf] at e
          obtain ⟨v, h1, h2⟩ := ih1 d e
          exact ⟨v, by show (match f == a with | true => some x | false => vs.lookup f) = _; rw [hf]; exact h1, h2⟩
        · have e : (match f == a with | true => some y | false => fs.lookup f) = none := e
          rw [hf] at e
          show (match f == a with | true => some x | false => vs.lookup f) = _
          rw [hf]
          exact ih2 e
theorem sim_fld (c : Cls f (He.ga f C)) (hn : NoAttr f (He.ga f C) n) (ha : SimE f WW ta ma) : SimE f WW (tFld f ta n) (mFld C n ma) := fun F σ H ρ h st x Q E e p => by
  rcases bindR_some e with ⟨w1, ρ1, h1, e1, e⟩ | ⟨C', fs, ρ1, h1, e1, rfl⟩
  · refine ha F σ H ρ h st _ _ E e1 fun v1 H1 ⟨κ, E1⟩ => ?_
    cases q1 : deref h1 w1 with
    | none => rw [q1] at e; cases e
    | some d1 =>
      rw [q1] at e
      dsimp only [Option.bind_some] at e
      cases q2 : insOf C d1.u with
      | none => rw [q2] at e; cases e
      | some fs =>
        rw [q2] at e
        dsimp only [Option.bind_some] at e
        cases q3 : fs.lookup n with
        | none => rw [q3] at e; cases e
        | some d =>
          rw [q3] at e
          cases e
          obtain ⟨a, dx, vs, rfl, ea, nm, r⟩ := nr_ins (E1.near (List.mem_cons_self ..) q1) q2
          obtain ⟨v, g1, g2⟩ := (lookup_rep nm r).1 d q3
          exact ⟨a, _, dx, vs, v, rfl, ea, c, hn, g1, p v H1 ⟨κ, E1.pop.pushC (g2.mono (av_sub fun x hx => List.mem_cons_of_mem _ hx))⟩⟩
  · exact ha F σ H ρ h st _ _ E e1 p
theorem put_rep {f : Str} {K : Kx} {x : V} {y : D} (rx : Rep M K H x y) : ∀ {vs : List (Str × V)} {fs : List (Str × D)}, vs.map (·.1) = fs.map (·.1) → RepA M K H (vs.map (·.2)) (fs.map (·.2)) →
    (putF f x vs).map (·.1) = (putD f y fs).map (·.1) ∧ RepA M K H ((putF f x vs).map (·.2)) ((putD f y fs).map (·.2))
  | [], [], _, _ => ⟨rfl, .cons rx .nil⟩
  | [], _ :: _, h, _ => by cases h
  | _ :: _, [], h, _ => by cases h
  | (a, x') :: vs, (b, y') :: fs, h, r => by
    have hab : a = b := by simpa using (List.cons.inj h).1
    subst hab
    have r : RepA M K H (x' :: vs.map (·.2)) (y' :: fs.map (·.2)) := r
    cases r with
    | cons r1 r2 =>
      have ht : vs.map (·.1) = fs.map (·.1) := (List.cons.inj h).2
      by_cases hf : a = f
      · have e1 : putF f x ((a, x') :: vs) = (a, x) :: vs := if_pos hf
        have e2 : putD f y ((a, y') :: fs) = (a, y) :: fs := if_pos hf
        rw [e1, e2]
        exact ⟨by simp [ht], .cons rx r2⟩
      · have e1 : putF f x ((a, x') :: vs) = (a, x') :: putF f x vs := if_neg hf
        have e2 : putD f y ((a, y') :: fs) = (a, y') :: putD f y fs := if_neg hf
        obtain ⟨i1, i2⟩ := put_rep rx ht r2
        rw [e1, e2]
        exact ⟨by simp [i1], .cons r1 i2⟩
theorem EnvK.insAt (E : EnvK f κ F σ H ρ h st) (hx : (v, w) ∈ st) {k : Nat} (e : CM.insAt C h w = some (k, fs)) : ∃ q dx vs, v = .ref q ∧ κ[k]? = some q ∧ H q = some (.ins (He.ga f C) dx vs) ∧ vs.map (·.1) = fs.map (·.1) ∧ RepA (av F κ st) ⟨f, κ⟩ H (vs.map (·.2)) (fs.map (·.2)) := by
  unfold CM.insAt at e
  split at e
  · rename_i m
    split at e
    · rename_i C' fs' hc
      split at e
      · rename_i hC
        subst hC
        cases e
        have r := E.rep hx
        generalize hM : av F κ st = MM at r
        cases r with
        | @ce a _ hk =>
          subst hM
          have own := E.ce _ _ _ hk hc
          generalize hM : av F κ st = MM at own
          cases own with
          | ins a b c => exact ⟨_, _, _, rfl, hk, a, b, c⟩
      · cases e
    · cases e
  · cases e
theorem sim_sfld {to : TE} {mo : Mo W} (c : Cls f (He.ga f C)) (hn : NoAttr f (He.ga f C) n) (ho : SimE f WW to mo) (he : SimE f WW te me) : SimS f WW (sFld f to te n) (sFldM C n mo me) := fun F σ H ρ h st o D E e p => by
  rcases bindS_some e with ⟨w1, ρ1, h1, e1, e⟩ | ⟨C', fs, ρ1, h1, e1, rfl⟩
  · refine he F σ H ρ h st _ _ E e1 fun v1 H1 E1 => ?_
    rcases bindS_some e with ⟨w2, ρ2, h2, e2, e⟩ | ⟨C', fs, ρ2, h2, e2, rfl⟩
    · refine ho F σ H1 ρ1 h1 _ _ _ E1 e2 fun v2 H2 ⟨κ, E2⟩ => ?_
      cases q1 : insAt C h2 w2 with
      | none => rw [q1] at e; cases e
      | some x =>
        obtain ⟨k, fs⟩ := x
        rw [q1] at e
        dsimp only [Option.bind_some] at e
        split at e
        · rename_i hlen
          cases e
          have E3 : EnvK f κ F σ H2 ρ2 h2 ((v1, .cl (fzW w1)) :: (v2, w2) :: st) := (E2.perm (List.Perm.swap _ _ _)).fz
          obtain ⟨q, dx, vs, rfl, hk, hq, nm, r⟩ := E3.insAt (List.mem_cons_of_mem _ (List.mem_cons_self ..)) q1
          have rv := E3.rep (List.mem_cons_self ..)
          refine ⟨q, _, dx, vs, rfl, hq, c, hn, ?_, ?_⟩
          · have := congrArg List.length nm
            rw [List.length_map, List.length_map] at this
            omega
          · obtain ⟨i1, i2⟩ := put_rep (f := n) rv nm r
            have E4 := E3.mut (u := .ins (He.ga f C) dx (putF n v1 vs)) (c' := .ins C (putD n (fzW w1) fs)) hk (.ins upd_same i1 (i2.ex (Ex.mut (av_ka (List.mem_of_getElem? hk)))))
            exact p _ _ ⟨κ, E4.pop.pop⟩
        · cases e
    · exact ho F σ H1 ρ1 h1 _ _ _ E1 e2 (ExR.up p)
  · exact he F σ H ρ h st _ _ E e1 p
theorem sim_meth (ha : SimE f WW ta ma) (hb : SimA f WW tr mr) : SimE f WW (tMeth (He.ga f C) n (spM f m) [] E0 ta tr) (mMeth C n m ma mr) := fun F σ H ρ h st x Q E e p => by
  rcases bindR_some e with ⟨w1, ρ1, h1, e1, e⟩ | ⟨C', fs, ρ1, h1, e1, rfl⟩
  · refine ha F σ H ρ h st _ _ E e1 fun v1 H1 ⟨κ, E1⟩ => ?_
    cases q1 : deref h1 w1 with
    | none => rw [q1] at e; cases e
    | some d1 =>
      rw [q1] at e
      dsimp only [Option.bind_some] at e
      cases q2 : insOf C d1.u with
      | none => rw [q2] at e; cases e
      | some fs =>
        rw [q2] at e
        dsimp only [Option.bind_some] at e
        split at e
        · rename_i h3
          obtain ⟨a, dx, vs, rfl, ea, nm, r⟩ := nr_ins (E1.near (List.mem_cons_self ..) q1) q2
          refine ⟨a, dx, vs, rfl, ea, (lookup_rep nm r).2 (by simpa using h3), ?_⟩
          rcases bindR_some e with ⟨ws, ρ2, h2, e2, e⟩ | ⟨C', fs, ρ2, h2, e2, rfl⟩
          · refine hb F σ H1 ρ1 h1 _ _ _ ⟨κ, E1⟩ e2 fun us H2 hl ⟨κ2, E2⟩ => ?_
            rw [List.append_nil]
            have E3 : EnvK f κ2 F σ H2 ρ2 h2 ((V.ref a :: us).zip (w1 :: ws) ++ st) := E2.perm List.perm_middle
            refine EnvK.callT (vs := V.ref a :: us) (ds := fzW w1 :: ws.map fzW) (E3.fzs (by simp [hl])) (by simp [hl]) e fun w ρ' h' hr v H' E' => ?_
            subst hr
            exact p v H' E'
          · exact hb F σ H1 ρ1 h1 _ _ _ ⟨κ, E1⟩ e2 (ExR.up p)
        · cases e
  · exact ha F σ H ρ h st _ _ E e1 p
theorem keep_new {x dx : Addr} {o u : HO} (hx : H x = none) (hdx : H dx = none) (hne : dx ≠ x) : Ex [] H (upd (upd H dx o) x u) := (Ex.new hdx).trans (fun a o _ z => by
    have hax : a ≠ x := by
      rintro rfl
      by_cases q : a = dx
      · exact hne q.symm
      · rw [upd_ne q, hx] at z
        cases z
    rw [upd_ne hax]
    exact z)
/-- a new instance is one more cell -/
theorem EnvK.self {x dx : Addr} {us : List V} {es : List D} (E : EnvK f κ F σ H ρ h (vs.zip (ds.map W.cl) ++ st)) (hl : vs.length = ds.length) (hx : H x = none) (hdx : H dx = none) (hne : dx ≠ x) (hr : ∀ M, RepA M ⟨f, κ ++ [x]⟩ (upd (upd H dx (.own x)) x (.ins (He.ga f C) dx [])) us es) :
    EnvK f (κ ++ [x]) ⟨x :: av F κ (vs.zip (ds.map W.cl) ++ st), κ ++ [x], upd (upd H dx (.own x)) x (.ins (He.ga f C) dx [])⟩ ((V.ref x :: (vs ++ us)).map some) (upd (upd H dx (.own x)) x (.ins (He.ga f C) dx [])) ((D.ce h.length :: (ds ++ es)).map .cl) (h ++ [.ins C []]) [] := by
  have keep := keep_new (o := .own x) (u := .ins (He.ga f C) dx []) hx hdx hne
  have hm : ∀ y ∈ av (⟨x :: av F κ (vs.zip (ds.map W.cl) ++ st), κ ++ [x], upd (upd H dx (.own x)) x (.ins (He.ga f C) dx [])⟩ : Fm) (κ ++ [x]) [], y ∈ av F κ (vs.zip (ds.map W.cl) ++ st) ∨ H y = none := fun y hy => by
    rcases List.mem_append.mp hy with z | z
    · rcases List.mem_cons.mp z with z | z
      · rw [z]; exact .inr hx
      · exact .inl z
    · rcases List.mem_append.mp z with z | z
      · rcases List.mem_append.mp z with z | z
        · exact .inl (av_ka z)
        · rw [List.mem_singleton.mp z]; exact .inr hx
      · cases z
  have alive : ∀ a, H a ≠ none → upd (upd H dx (.own x)) x (.ins (He.ga f C) dx []) a ≠ none := fun a ha => by
    rw [ex_same keep ha]
    exact ha
  have xk : x ∉ κ := fun z => E.ka_some z hx
  refine ⟨⟨fun a ha => ?_, fun a ha => ?_⟩, by simp [hl, (hr []).len], by simp [E.kl], ⟨[], by simp, fun _ z => by cases z⟩, Ex.refl, fun _ z => z, ?_, fun i o s g1 g2 => ?_, fun n p c g1 g2 => ?_, fun _ z => by cases z⟩
  · rcases List.mem_cons.mp ha with z | z
    · rw [z]
      show upd _ x _ x ≠ none
      rw [upd_same]
      exact fun z => by cases z
    · exact alive a (E.av_some z)
  · rcases List.mem_append.mp ha with z | z
    · exact List.mem_cons_of_mem _ (av_ka z)
    · rw [List.mem_singleton.mp z]
      exact List.mem_cons_self ..
  · show (κ ++ [x] ++ []).Nodup
    rw [List.append_nil, List.nodup_append]
    refine ⟨(List.nodup_append.mp E.nd).1, by simp, fun a ha b hb z => ?_⟩
    rw [List.mem_singleton.mp hb] at z
    rw [z] at ha
    exact xk ha
  · cases i with
    | zero =>
      simp at g1 g2
      subst g1 g2
      refine .cl (.ce ?_)
      show (κ ++ [x])[h.length]? = some x
      rw [← E.kl]
      simp
    | succ i =>
      have g1 : ((vs ++ us).map some)[i]? = some o := by simpa using g1
      have g2 : ((ds ++ es).map Sl.cl)[i]? = some s := by simpa using g2
      rw [List.getElem?_map] at g1 g2
      cases hd : (ds ++ es)[i]? with
      | none => rw [hd] at g2; cases g2
      | some d =>
        rw [hd] at g2
        cases g2
        have ra := E.repA hl fun x hx => List.mem_append.mpr (.inl hx)
        by_cases hi : i < ds.length
        · rw [List.getElem?_append_left hi] at hd
          obtain ⟨v, k1, k2⟩ := ra.get hd
          rw [List.getElem?_append_left (by omega), k1] at g1
          cases g1
          exact .cl (((k2.frs hm).ex keep.nil).up (l := [x]))
        · rw [List.getElem?_append_right (by omega)] at hd
          obtain ⟨v, k1, k2⟩ := (hr _).get hd
          rw [List.getElem?_append_right (by omega), hl, k1] at g1
          cases g1
          exact .cl k2
  · by_cases hk : n < κ.length
    · rw [List.getElem?_append_left hk] at g1
      rw [List.getElem?_append_left (by rw [← E.kl]; exact hk)] at g2
      have own := E.ce n p c g1 g2
      have own2 : Own (av (⟨x :: av F κ (vs.zip (ds.map W.cl) ++ st), κ ++ [x], upd (upd H dx (.own x)) x (.ins (He.ga f C) dx [])⟩ : Fm) (κ ++ [x]) []) ⟨f, κ⟩ H p c := by
        cases own with
        | lst a b => exact .lst a (b.frs hm)
        | dK a n b => exact .dK a n (b.frs hm)
        | ins a n b => exact .ins a n (b.frs hm)
      exact (own2.ex keep.nil (ex_same keep own.some)).up (l := [x])
    · rw [List.getElem?_append_right (by omega)] at g1
      rw [List.getElem?_append_right (by rw [← E.kl]; omega)] at g2
      have hz : n - κ.length = 0 := by
        have := (List.getElem?_eq_some_iff.mp g1).1
        simp at this
        omega
      have hz2 : n - h.length = 0 := by rw [← E.kl]; exact hz
      rw [hz] at g1
      rw [hz2] at g2
      simp at g1 g2
      subst g1 g2
      exact .ins (vs := []) (ds := []) upd_same rfl .nil
theorem sim_make {dvs : List D} {dvv : List V} (hd : ∀ M κ H, RepA M ⟨f, κ⟩ H dvv dvs) (hb : SimA f WW tr mr) : SimE f WW (tMake (He.ga f C) (spM f m) dvv E0 tr) (mMake keep C m dvs mr) := fun F σ H ρ h st r Q E e p => by
  rcases bindR_some e with ⟨ws, ρ1, h1, e1, e⟩ | ⟨C', fs, ρ1, h1, e1, rfl⟩
  · refine hb F σ H ρ h st _ _ E e1 fun vs H1 hl ⟨κ, E1⟩ => fun x dx hx hdx hne => ?_
    split at e
    · rename_i h' q
      cases q2 : CM.cutF keep h1 (.cl (.ce h1.length)) h' with
      | none => rw [q2] at e; cases e
      | some y =>
        rw [q2] at e
        cases e
        have E2 := E1.fzs hl
        have hl2 : vs.length = (ws.map fzW).length := by simpa using hl
        have S := E2.self (C := C) (us := dvv) (es := dvs) hl2 hx hdx hne fun M => hd M _ _
        refine ⟨_, _, _, _, _, S, q, fun v H3 ⟨κ', E3⟩ => ?_⟩
        have rv := E3.rep (List.mem_cons_self ..)
        refine ⟨rep_non rv, ?_⟩
        have keep0 := keep_new (o := .own x) (u := .ins (He.ga f C) dx []) hx hdx hne
        obtain ⟨l, e4, f4⟩ := E3.io
        have e4 : κ' = κ ++ [x] ++ l := e4
        have f4 : ∀ p ∈ l, upd (upd H1 dx (.own x)) x (.ins (He.ga f C) dx []) p = none := f4
        have h0 : ∀ p, upd (upd H1 dx (.own x)) x (.ins (He.ga f C) dx []) p = none → H1 p = none := fun p hp => by
          cases q : H1 p with
          | none => rfl
          | some u =>
            rw [ex_same keep0 (by rw [q]; exact fun z => by cases z), q] at hp
            cases hp
        -- the same, seen from ahead of the new instance
        have E4 : EnvK f κ' ⟨av F κ (vs.zip ((ws.map fzW).map W.cl) ++ st), κ, H1⟩ [] H3 [] h' [(.ref x, .cl (.ce h1.length))] := by
          have hm : ∀ y ∈ av (⟨av F κ (vs.zip ((ws.map fzW).map W.cl) ++ st), κ, H1⟩ : Fm) κ' [(V.ref x, W.cl (.ce h1.length))], y ∈ av (⟨x :: av F κ (vs.zip ((ws.map fzW).map W.cl) ++ st), κ ++ [x], upd (upd H1 dx (.own x)) x (.ins (He.ga f C) dx [])⟩ : Fm) κ' [(v, W.cl .non)] := fun y hy => by
            rcases List.mem_append.mp hy with z | z
            · exact List.mem_append.mpr (.inl (List.mem_cons_of_mem _ z))
            · rcases List.mem_append.mp z with z | z
              · exact av_ka z
              · rw [roots_cl] at z
                cases z
          refine ⟨⟨fun a ha => E2.av_some ha, fun a ha => av_ka ha⟩, rfl, E3.kl, ⟨[x] ++ l, by rw [e4, List.append_assoc], fun q hq => ?_⟩, fun a o hn z => ?_, fun a z => ?_, ?_, fun i o s g1 _ => by simp at g1, fun n p c g1 g2 => (E3.ce n p c g1 g2).mono hm, fun y hy => ?_⟩
          · rcases List.mem_append.mp hq with z | z
            · rw [List.mem_singleton.mp z]; exact hx
            · exact h0 q (f4 q z)
          · have z : H1 a = some o := z
            have hax : a ≠ x := by
              rintro rfl
              rw [hx] at z
              cases z
            exact E3.ex a o (fun z => (List.mem_append.mp z).elim hn fun z => hax (List.mem_singleton.mp z)) (keep0 a o List.not_mem_nil z)
          · exact E3.tr a (by
              show upd _ x _ a ≠ none
              rw [ex_same keep0 z]
              exact z)
          · have nd := E3.nd
            rw [roots_cl] at nd ⊢
            exact nd
          · rw [List.mem_singleton.mp hy]
            refine .cl (.ce ?_)
            show κ'[h1.length]? = some x
            rw [e4, ← E2.kl, List.append_assoc, List.getElem?_append_right (Nat.le_refl _), Nat.sub_self]
            rfl
        obtain ⟨κ5, E5⟩ := E4.cutF E2.kl E2.wfs q2
        exact p _ _ ⟨κ5, EnvK.call_end (l := vs.zip ((ws.map fzW).map W.cl)) E2 rfl E5⟩
    · cases e
  · exact hb F σ H ρ h st _ _ E e1 p
end
end CM
namespace CM
open PySem PySem.Spec PyProof.Rows L2 SL
mutual
def pd : D → Option PyData
  | .non => some .none
  | .bl b => some (.bool b)
  | .int i => some (.int i)
  | .str z => some (.str z)
  | .lst xs => (pds xs).map .list
  | .tup xs => (pds xs).map .tuple
  | .tg _ d => pd d
  | _ => none
def pds : List D → Option (List PyData)
  | [] => some []
  | d :: ds => (pd d).bind fun x => (pds ds).map (x :: ·)
end
section
variable {f : PySem.W.Frag} {K : Kx} {M : List Addr} {H H' : Hp} {p : Addr}
theorem pd_lst {xs : List D} : pd (.lst xs) = (pds xs).map .list := by simp only [pd]
theorem pd_tup {xs : List D} : pd (.tup xs) = (pds xs).map .tuple := by simp only [pd]
mutual
theorem pd_dp : ∀ {v : V} {d : D} {x : PyData}, Rep M K H v d → pd d = some x → Dp K H v x
  | _, _, _, .non, e => by simp only [pd] at e; cases e; exact .non
  | _, _, _, .bl b, e => by simp only [pd] at e; cases e; exact .bl b
  | _, _, _, .int i, e => by simp only [pd] at e; cases e; exact .int i
  | _, _, _, .str z, e => by simp only [pd] at e; cases e; exact .str z
  | _, _, _, .ty n, e => by simp only [pd] at e; cases e
  | _, _, _, .glo n, e => by simp only [pd] at e; cases e
  | _, _, _, .scr n, e => by simp only [pd] at e; cases e
  | _, _, _, .dK h n a, e => by simp only [pd] at e; cases e
  | _, _, _, .rng h, e => by simp only [pd] at e; cases e
  | _, _, _, .bo h h2, e => by simp only [pd] at e; cases e
  | _, _, _, .ce h, e => by simp only [pd] at e; cases e
  | _, _, _, .ins h n a, e => by simp only [pd] at e; cases e
  | _, _, _, .exc h h2 n a, e => by simp only [pd] at e; cases e
  | _, _, _, .lst (ds := ds) h a, e => by
    rw [pd_lst] at e
    cases h1 : pds ds with
    | none => rw [h1] at e; cases e
    | some ys =>
      rw [h1] at e
      cases e
      exact .lst (.inl (.inl h.at_)) (pds_dp a h1)
  | _, _, _, .tup (ds := ds) h a, e => by
    rw [pd_tup] at e
    cases h1 : pds ds with
    | none => rw [h1] at e; cases e
    | some ys =>
      rw [h1] at e
      cases e
      exact .tup h.sq (pds_dp a h1)
  | _, _, _, .tg h, e => by simp only [pd] at e; exact pd_dp h e
theorem pds_dp : ∀ {vs : List V} {ds : List D} {xs : List PyData}, RepA M K H vs ds → pds ds = some xs → DpAll K H vs xs
  | _, _, _, .nil, e => by simp only [pds] at e; cases e; exact .nil
  | _, _, _, .cons (d := d) (ds := ds) h a, e => by
    simp only [pds] at e
    cases h1 : pd d with
    | none => rw [h1] at e; cases e
    | some x =>
      rw [h1] at e
      dsimp only [Option.bind_some] at e
      cases h2 : pds ds with
      | none => rw [h2] at e; cases e
      | some ys =>
        rw [h2] at e
        cases e
        exact .cons (pd_dp h h1) (pds_dp a h2)
end
theorem nr_dp {v : V} {d : D} {x : PyData} (h : Nr M K H v d) (e : pd d = some x) : Dp K H v x := pd_dp h.rep0 e
end
def big : Int := 10000000000000000000000000000000000000000
def dAdd (a b : D) : Option W := match a.u, b.u with
  | .int i, .int j => some (.cl (.int (i + j)))
  | .str x, .str y => if x.length + y.length ≤ 100000 then some (.cl (.str (x ++ y))) else none
  | .lst xs, .lst ys => if xs.length + ys.length ≤ 100000 then some (.fr (xs ++ ys)) else none
  | .tup xs, .tup ys => if xs.length + ys.length ≤ 100000 then some (.cl (.tup (xs ++ ys))) else none
  | _, _ => none
def dSub (a b : D) : Option W := match a.u, b.u with
  | .int i, .int j => some (.cl (.int (i - j)))
  | _, _ => none
def dMul (a b : D) : Option W := match a.u, b.u with
  | .int i, .int j => if -big < i ∧ i < big ∧ -big < j ∧ j < big then some (.cl (.int (i * j))) else none
  | .lst xs, .int n => if 0 ≤ n ∧ n ≤ 100000 ∧ xs.length * n.toNat ≤ 100000 then some (.fr (List.replicate n.toNat xs).flatten) else none
  | .tup xs, .int n => if 2 ≤ n ∧ n ≤ 1000 ∧ xs.length ≤ 1000 ∧ xs.isEmpty = false then some (.cl (.tup (List.replicate n.toNat xs).flatten)) else none
  | _, _ => none
def dMod (a b : D) : Option W := match a.u, b.u with
  | .int i, .int j => if 0 < j then some (.cl (.int (i % j))) else none
  | _, _ => none
def dDiv (a b : D) : Option W := match a.u, b.u with
  | .int i, .int j => if 0 < j ∧ j < big then some (.cl (.int (i / j))) else none
  | _, _ => none
def dPow (a b : D) : Option W := match a.u, b.u with
  | .int i, .int j => if 0 ≤ j ∧ j ≤ 1000000 ∧ -18446744073709551616 < i ∧ i < 18446744073709551616 then some (.cl (.int (i ^ j.toNat))) else none
  | _, _ => none
def dNeg (a : D) : Option W := match a.u with
  | .int i => some (.cl (.int (-i)))
  | _ => none
def dEqB0 (a b : D) : Option Bool := (pd a).bind fun x => (pd b).bind fun y => if SeqAt.shaped x = true ∧ SeqAt.shaped y = true then some (PyData.eqv x y) else none
def dEqB (a b : D) : Option Bool := match a.u, b.u with
  | .str x, .str y => some (decide (x = y))
  | _, _ => dEqB0 a b
def dEq (a b : D) : Option W := (dEqB a b).map fun b => .cl (.bl b)
def dNe (a b : D) : Option W := (dEqB a b).map fun b => .cl (.bl (!b))
def intsOf : List D → Option (List Int)
  | [] => some []
  | d :: ds => match d.u with
    | .int i => (intsOf ds).map (i :: ·)
    | _ => none
def strsOf : List D → Option (List Str)
  | [] => some []
  | d :: ds => match d.u with
    | .str i => (strsOf ds).map (i :: ·)
    | _ => none
def blsOf : List D → Option (List Bool)
  | [] => some []
  | d :: ds => match d.u with
    | .bl i => (blsOf ds).map (i :: ·)
    | _ => none
def dLt (a b : D) : Option W := match a.u, b.u with
  | .int i, .int j => some (.cl (.bl (decide (i < j))))
  | .str x, .str y => some (.cl (.bl (decide (x.cps.toList < y.cps.toList))))
  | .tup xs, .tup ys => (intsOf xs).bind fun ns => (intsOf ys).map fun ms => .cl (.bl (HT.lexLt ns ms))
  | _, _ => none
def dLe (a b : D) : Option W := match a.u, b.u with
  | .int i, .int j => some (.cl (.bl (decide (i ≤ j))))
  | _, _ => none
def dGt (a b : D) : Option W := match a.u, b.u with
  | .int i, .int j => some (.cl (.bl (decide (j < i))))
  | _, _ => none
def dGe (a b : D) : Option W := match a.u, b.u with
  | .int i, .int j => some (.cl (.bl (decide (j ≤ i))))
  | _, _ => none
def dIs (a b : D) : Option W := match a.u, b.u with
  | .non, .non => some (.cl (.bl true))
  | _, .non => some (.cl (.bl false))
  | _, _ => none
def dIsnt (a b : D) : Option W := match a.u, b.u with
  | .non, .non => some (.cl (.bl false))
  | _, .non => some (.cl (.bl true))
  | _, _ => none
/-- a flat value -/
def flat : D → Option V
  | .non => some .non
  | .bl b => some (.bl b)
  | .int i => some (.int i)
  | .str z => some (.str z)
  | .tg _ d => flat d
  | _ => none
def flats : List D → Option (List V)
  | [] => some []
  | d :: ds => (flat d).bind fun v => (flats ds).map (v :: ·)
def dInB (a b : D) : Option Bool := match b.u with
  | .str z => match a.u with
    | .str x => match x.cps.toList with
      | [c] => some (decide (c ∈ z.cps.toList))
      | _ => none
    | _ => none
  | .lst ds => (flat a).bind fun v => (flats ds).map fun vs => inV v vs
  | .tup ds => (flat a).bind fun v => (flats ds).map fun vs => inV v vs
  | .rng lo hi => match a.u with
    | .int i => some (decide (lo ≤ i ∧ i < hi))
    | _ => none
  | _ => none
def dIn (a b : D) : Option W := (dInB a b).map fun b => .cl (.bl b)
def dNi (a b : D) : Option W := match b.u with
  | .rng _ _ => none
  | _ => (dInB a b).map fun b => .cl (.bl (!b))
def dIx (a b : D) : Option W := match a.u, b.u with
  | .lst ds, .int i => (atI ds i).map .cl
  | .tup ds, .int i => (atI ds i).map .cl
  | .scr ns, .int i => (atI ns i).map fun n => .cl (.int n)
  | .str z, .int i => if z.length ≤ 100000 then (atI z.cps.toList i).map fun c => .cl (.str ⟨#[c]⟩) else none
  | _, _ => none
def cutL {α : Type} (xs : List α) (lo hi : Option Int) : List α := (xs.drop (HT.sIx xs.length 0 lo)).take (HT.sIx xs.length xs.length hi - HT.sIx xs.length 0 lo)
def dSl (a : D) (lo hi : Option Int) : Option W := match a.u with
  | .str z => if z.length ≤ 100000 then some (.cl (.str (cutS z lo hi))) else none
  | .lst ds => some (.fr (cutL ds lo hi))
  | .tup ds => some (.cl (.tup (cutL ds lo hi)))
  | _ => none
def dLen : List D → Option W
  | [a] => match a.u with
    | .str z => if z.length ≤ 100000 then some (.cl (.int z.length)) else none
    | .lst ds => some (.cl (.int ds.length))
    | .tup ds => some (.cl (.int ds.length))
    | .scr ds => some (.cl (.int ds.length))
    | _ => none
  | _ => none
def dMax2 : List D → Option W
  | [a, b] => match a.u, b.u with
    | .int i, .int j => some (.cl (.int (if j > i then j else i)))
    | _, _ => none
  | _ => none
def dMin2 : List D → Option W
  | [a, b] => match a.u, b.u with
    | .int i, .int j => some (.cl (.int (if j < i then j else i)))
    | _, _ => none
  | _ => none
def dAll : List D → Option W
  | [a] => match a.u with
    | .lst ds => (blsOf ds).map fun bs => .cl (.bl (bs.all id))
    | _ => none
  | _ => none
def dList : List D → Option W
  | [a] => match a.u with
    | .lst ds => some (.fr ds)
    | .tup ds => some (.fr ds)
    | _ => none
  | _ => none
def dTuple : List D → Option W
  | [a] => match a.u with
    | .lst ds => some (.cl (.tup ds))
    | .tup ds => some (.cl (.tup ds))
    | _ => none
  | _ => none
/-- data whose repr is told -/
def showsB (x : PyData) : Bool := x.showable && (x.leavesShort 60 && (decide (x.bulk ≤ 200000) && decide (x.depth ≤ 60)))
def dRepr : List D → Option W
  | [a] => (pd a).bind fun x => if showsB x = true then some (.cl (.str x.shown)) else none
  | _ => none
def insS (z : Str) : List Str → List Str
  | [] => [z]
  | y :: ys => if z.cps.toList < y.cps.toList then z :: y :: ys else y :: insS z ys
def sortS : List Str → List Str
  | [] => []
  | z :: zs => insS z (sortS zs)
section
variable {f : PySem.W.Frag} {K : Kx} {M : List Addr} {H H' : Hp} {p : Addr} {v : V} {d : D} {vs : List V} {ds : List D}
theorem ints_of : ∀ {vs : List V} {ds : List D} {ns : List Int}, RepA M K H vs ds → intsOf ds = some ns → vs = ns.map V.int
  | _, _, _, .nil, e => by cases e; rfl
  | _, _, ns, .cons (v := v) (vs := vs) (d := d) (ds := ds) h a, e => by
    have e : (match d.u with
      | .int i => (intsOf ds).map (i :: ·)
      | _ => none) = some ns := e
    have h := h.u
    split at e
    · rename_i i hi
      rw [hi] at h
      cases h1 : intsOf ds with
      | none => rw [h1] at e; cases e
      | some ms =>
        rw [h1] at e
        cases e
        rw [rep_int h, ints_of a h1]
        rfl
    · cases e
theorem strs_of : ∀ {vs : List V} {ds : List D} {ns : List Str}, RepA M K H vs ds → strsOf ds = some ns → vs = ns.map V.str
  | _, _, _, .nil, e => by cases e; rfl
  | _, _, ns, .cons (v := v) (vs := vs) (d := d) (ds := ds) h a, e => by
    have e : (match d.u with
      | .str i => (strsOf ds).map (i :: ·)
      | _ => none) = some ns := e
    have h := h.u
    split at e
    · rename_i i hi
      rw [hi] at h
      cases h1 : strsOf ds with
      | none => rw [h1] at e; cases e
      | some ms =>
        rw [h1] at e
        cases e
        rw [rep_str h, strs_of a h1]
        rfl
    · cases e
theorem bls_of : ∀ {vs : List V} {ds : List D} {ns : List Bool}, RepA M K H vs ds → blsOf ds = some ns → vs = ns.map V.bl
  | _, _, _, .nil, e => by cases e; rfl
  | _, _, ns, .cons (v := v) (vs := vs) (d := d) (ds := ds) h a, e => by
    have e : (match d.u with
      | .bl i => (blsOf ds).map (i :: ·)
      | _ => none) = some ns := e
    have h := h.u
    split at e
    · rename_i i hi
      rw [hi] at h
      cases h1 : blsOf ds with
      | none => rw [h1] at e; cases e
      | some ms =>
        rw [h1] at e
        cases e
        rw [rep_bl h, bls_of a h1]
        rfl
    · cases e
theorem flat_of : ∀ {v : V} {d : D} {x : V}, Rep M K H v d → flat d = some x → v = x ∧ flatV x = true
  | _, _, _, .non, e => by simp only [flat] at e; cases e; exact ⟨rfl, rfl⟩
  | _, _, _, .bl b, e => by simp only [flat] at e; cases e; exact ⟨rfl, rfl⟩
  | _, _, _, .int i, e => by simp only [flat] at e; cases e; exact ⟨rfl, rfl⟩
  | _, _, _, .str z, e => by simp only [flat] at e; cases e; exact ⟨rfl, rfl⟩
  | _, _, _, .tg h, e => by simp only [flat] at e; exact flat_of h e
  | _, _, _, .ty n, e => by simp only [flat] at e; cases e
  | _, _, _, .glo n, e => by simp only [flat] at e; cases e
  | _, _, _, .scr n, e => by simp only [flat] at e; cases e
  | _, _, _, .lst n a, e => by simp only [flat] at e; cases e
  | _, _, _, .tup n a, e => by simp only [flat] at e; cases e
  | _, _, _, .dK h n a, e => by simp only [flat] at e; cases e
  | _, _, _, .rng h, e => by simp only [flat] at e; cases e
  | _, _, _, .bo h h2, e => by simp only [flat] at e; cases e
  | _, _, _, .ce h, e => by simp only [flat] at e; cases e
  | _, _, _, .ins h n a, e => by simp only [flat] at e; cases e
  | _, _, _, .exc h h2 n a, e => by simp only [flat] at e; cases e
theorem flats_of : ∀ {vs : List V} {ds : List D} {xs : List V}, RepA M K H vs ds → flats ds = some xs → vs = xs ∧ xs.all flatV = true
  | _, _, _, .nil, e => by cases e; exact ⟨rfl, rfl⟩
  | _, _, xs, .cons (v := v) (vs := vs) (d := d) (ds := ds) h a, e => by
    have e : ((flat d).bind fun v => (flats ds).map (v :: ·)) = some xs := e
    cases h1 : flat d with
    | none => rw [h1] at e; cases e
    | some x =>
      rw [h1] at e
      dsimp only [Option.bind_some] at e
      cases h2 : flats ds with
      | none => rw [h2] at e; cases e
      | some ys =>
        rw [h2] at e
        cases e
        obtain ⟨a1, a2⟩ := flat_of h h1
        obtain ⟨b1, b2⟩ := flats_of a h2
        rw [a1, b1]
        exact ⟨rfl, by rw [List.all_cons, a2, b2]; rfl⟩
theorem RepA.cut {lo hi : Option Int} (h : RepA M K H vs ds) : RepA M K H (cutV vs lo hi) (cutL ds lo hi) := by
  unfold cutV cutL
  rw [h.len]
  exact (h.drop _).take _
theorem RepA.rep : ∀ (n : Nat), RepA M K H vs ds → RepA M K H (List.replicate n vs).flatten (List.replicate n ds).flatten
  | 0, _ => .nil
  | n + 1, h => by
    rw [List.replicate_succ, List.replicate_succ, List.flatten_cons, List.flatten_cons]
    exact h.append (RepA.rep n h)
theorem RepA.atI {i : Int} (h : RepA M K H vs ds) (e : atI ds i = some d) : ∃ v, L2.atI vs i = some v ∧ Rep M K H v d := by
  unfold L2.atI at e ⊢
  rw [h.len]
  cases h1 : ixN ds.length i with
  | none => rw [h1] at e; cases e
  | some k =>
    rw [h1] at e
    exact h.get e
theorem wmul {i j : Int} (h : -big < i ∧ i < big ∧ -big < j ∧ j < big) : CMulW i j := by
  unfold big at h
  refine wide_mul (a := 140) (b := 140) ?_ ?_ (by decide) (by decide) (by decide)
  · have : (2 : Nat) ^ 140 = 1393796574908163946345982392040522594123776 := by decide
    omega
  · have : (2 : Nat) ^ 140 = 1393796574908163946345982392040522594123776 := by decide
    omega
theorem wdiv {i j : Int} (h : 0 < j ∧ j < big) : CDivW i j := by
  unfold big at h
  refine wide_div (b := 140) h.1 ?_ (by decide) (by decide)
  have : (2 : Nat) ^ 140 = 1393796574908163946345982392040522594123776 := by decide
  omega
theorem o_add : Op2 f (uAdd f) dAdd := fun κ M H x y dx dy w Q hM nx ny e q => by
  unfold dAdd at e
  split at e
  · rename_i i j h1 h2
    cases e
    rw [nr_int nx h1, nr_int ny h2]
    exact u_add_i (q _ _ Ex.refl (.cl (.int _)))
  · rename_i i j h1 h2
    split at e
    · cases e
      rw [nr_str nx h1, nr_str ny h2]
      exact u_add_s (sz_le ‹_›) (q _ _ Ex.refl (.cl (.str _)))
    · cases e
  · rename_i i j h1 h2
    obtain ⟨a, xs, rfl, s1, r1⟩ := nr_lst nx h1
    obtain ⟨b, ys, rfl, s2, r2⟩ := nr_lst ny h2
    split at e
    · cases e
      exact u_add_l s1 s2 (sz_le (by rw [r1.len, r2.len]; assumption)) fun p hp => q _ _ (Ex.new hp) (Nw.new hp (r1.append r2))
    · cases e
  · rename_i i j h1 h2
    have ux := nx.u
    have uy := ny.u
    rw [h1] at ux
    rw [h2] at uy
    cases ux with
    | own r => cases r
    | cl rx =>
      cases uy with
      | own r => cases r
      | cl ry =>
        cases rx with
        | @tup a xs _ s1 r1 =>
          cases ry with
          | @tup b ys _ s2 r2 =>
            split at e
            · cases e
              refine u_add_t s1.sq s2.sq (sz_le (by rw [r1.len, r2.len]; assumption)) (fun h => ?_) (fun _ h => ?_) fun _ _ p hp => q _ _ (Ex.new hp) (Nw.tup hp (hM p hp) (r1.append r2))
              · subst h
                cases r1
                exact q _ _ Ex.refl (.cl (.tup s2 r2))
              · subst h
                cases r2
                rw [List.append_nil] at q
                exact q _ _ Ex.refl (.cl (.tup s1 r1))
            · cases e
  · cases e
theorem o_sub : Op2 f SL.rSub dSub := fun κ M H x y dx dy w Q hM nx ny e q => by
  unfold dSub at e
  split at e
  · rename_i i j h1 h2
    cases e
    rw [nr_int nx h1, nr_int ny h2]
    exact u_sub (q _ _ Ex.refl (.cl (.int _)))
  · cases e
theorem o_mul : Op2 f (uMul f) dMul := fun κ M H x y dx dy w Q hM nx ny e q => by
  unfold dMul at e
  split at e
  · rename_i i j h1 h2
    split at e
    · cases e
      rw [nr_int nx h1, nr_int ny h2]
      exact u_mul (wmul ‹_›) (q _ _ Ex.refl (.cl (.int _)))
    · cases e
  · rename_i xs n h1 h2
    obtain ⟨a, xs, rfl, s1, r1⟩ := nr_lst nx h1
    rw [nr_int ny h2]
    split at e
    · rename_i hb
      cases e
      exact u_mul_l s1 hb.1 (by omega) (sz_le (by rw [r1.len]; exact hb.2.2)) fun p hp => q _ _ (Ex.new hp) (Nw.new hp (r1.rep _))
    · cases e
  · rename_i xs n h1 h2
    obtain ⟨a, xs, rfl, s1, r1⟩ := nr_tup nx h1
    rw [nr_int ny h2]
    split at e
    · rename_i hb
      cases e
      refine .inr (.inr ⟨a, n, xs, rfl, rfl, s1, ?_, hb.1, hb.2.1, by rw [r1.len]; exact hb.2.2.1, fun p hp => q _ _ (Ex.new hp) (Nw.tup hp (hM p hp) (r1.rep _))⟩)
      intro z
      subst z
      cases r1
      exact absurd hb.2.2.2 (by simp)
    · cases e
  · cases e
theorem o_mod : Op2 f SL.rMod dMod := fun κ M H x y dx dy w Q hM nx ny e q => by
  unfold dMod at e
  split at e
  · rename_i i j h1 h2
    split at e
    · cases e
      rw [nr_int nx h1, nr_int ny h2]
      exact u_modp ‹_› (q _ _ Ex.refl (.cl (.int _)))
    · cases e
  · cases e
theorem o_div : Op2 f SL.rDiv dDiv := fun κ M H x y dx dy w Q hM nx ny e q => by
  unfold dDiv at e
  split at e
  · rename_i i j h1 h2
    split at e
    · cases e
      rw [nr_int nx h1, nr_int ny h2]
      exact u_div (wdiv ‹_›) (q _ _ Ex.refl (.cl (.int _)))
    · cases e
  · cases e
theorem o_pow : Op2 f SL.rPow dPow := fun κ M H x y dx dy w Q hM nx ny e q => by
  unfold dPow at e
  split at e
  · rename_i i j h1 h2
    split at e
    · rename_i hb
      cases e
      rw [nr_int nx h1, nr_int ny h2]
      exact u_pow ⟨hb.1, hb.2.1, by
        have : (2 : Nat) ^ 64 = 18446744073709551616 := by decide
        omega⟩ (q _ _ Ex.refl (.cl (.int _)))
    · cases e
  · cases e
theorem o_neg : Op1 f SL.rNeg dNeg := fun κ M H x dx w Q hM nx e q => by
  unfold dNeg at e
  split at e
  · rename_i i h1
    cases e
    rw [nr_int nx h1]
    exact u_neg (q _ _ Ex.refl (.cl (.int _)))
  · cases e
theorem eqB {M : List Addr} {H : Hp} {x y : V} {dx dy : D} {b : Bool} (nx : Nr M K H x dx) (ny : Nr M K H y dy) (e : dEqB0 dx dy = some b) : ∃ d e, Dp K H x d ∧ Dp K H y e ∧ SeqAt.shaped d = true ∧ SeqAt.shaped e = true ∧ PyData.eqv d e = b := by
  unfold dEqB0 at e
  cases h1 : pd dx with
  | none => rw [h1] at e; cases e
  | some d1 =>
    rw [h1] at e
    dsimp only [Option.bind_some] at e
    cases h2 : pd dy with
    | none => rw [h2] at e; cases e
    | some d2 =>
      rw [h2] at e
      dsimp only [Option.bind_some] at e
      split at e
      · rename_i hs
        cases e
        exact ⟨d1, d2, nr_dp nx h1, nr_dp ny h2, hs.1, hs.2, rfl⟩
      · cases e
theorem eqC {dx dy : D} {b : Bool} (e : dEqB dx dy = some b) : (∃ x y, dx.u = .str x ∧ dy.u = .str y ∧ b = decide (x = y)) ∨ dEqB0 dx dy = some b := by
  unfold dEqB at e
  split at e
  · rename_i x y h1 h2
    cases e
    exact .inl ⟨x, y, h1, h2, rfl⟩
  · exact .inr e
theorem o_eq : Op2 f (uEq f) dEq := fun κ M H x y dx dy w Q hM nx ny e q => by
  unfold dEq at e
  cases h : dEqB dx dy with
  | none => rw [h] at e; cases e
  | some b =>
    rw [h] at e
    cases e
    rcases eqC h with ⟨s, t, h1, h2, rfl⟩ | h
    · rw [nr_str nx h1, nr_str ny h2]
      exact u_eq_s (q _ _ Ex.refl (.cl (.bl _)))
    · obtain ⟨d1, d2, a1, a2, a3, a4, rfl⟩ := eqB nx ny h
      exact u_eq_d a1 a2 a3 a4 (q _ _ Ex.refl (.cl (.bl _)))
theorem o_ne : Op2 f (uNe f) dNe := fun κ M H x y dx dy w Q hM nx ny e q => by
  unfold dNe at e
  cases h : dEqB dx dy with
  | none => rw [h] at e; cases e
  | some b =>
    rw [h] at e
    cases e
    rcases eqC h with ⟨s, t, h1, h2, rfl⟩ | h
    · rw [nr_str nx h1, nr_str ny h2]
      exact u_ne_s (q _ _ Ex.refl (.cl (.bl _)))
    · obtain ⟨d1, d2, a1, a2, a3, a4, rfl⟩ := eqB nx ny h
      exact u_ne_d a1 a2 a3 a4 (q _ _ Ex.refl (.cl (.bl _)))
theorem o_lt : Op2 f (uLt f) dLt := fun κ M H x y dx dy w Q hM nx ny e q => by
  unfold dLt at e
  split at e
  · rename_i i j h1 h2
    cases e
    rw [nr_int nx h1, nr_int ny h2]
    exact u_lt_i (q _ _ Ex.refl (.cl (.bl _)))
  · rename_i i j h1 h2
    cases e
    rw [nr_str nx h1, nr_str ny h2]
    exact u_lt_s (q _ _ Ex.refl (.cl (.bl _)))
  · rename_i i j h1 h2
    obtain ⟨a, xs, rfl, s1, r1⟩ := nr_tup nx h1
    obtain ⟨b, ys, rfl, s2, r2⟩ := nr_tup ny h2
    cases h3 : intsOf i with
    | none => rw [h3] at e; cases e
    | some ns =>
      rw [h3] at e
      dsimp only [Option.bind_some] at e
      cases h4 : intsOf j with
      | none => rw [h4] at e; cases e
      | some ms =>
        rw [h4] at e
        cases e
        rw [ints_of r1 h3] at s1
        rw [ints_of r2 h4] at s2
        exact .inr (.inr ⟨a, b, ns, ms, rfl, rfl, s1, s2, q _ _ Ex.refl (.cl (.bl _))⟩)
  · cases e
theorem o_le : Op2 f uLe dLe := fun κ M H x y dx dy w Q hM nx ny e q => by
  unfold dLe at e
  split at e
  · rename_i i j h1 h2
    cases e
    rw [nr_int nx h1, nr_int ny h2]
    exact u_le_i (q _ _ Ex.refl (.cl (.bl _)))
  · cases e
theorem o_gt : Op2 f SL.rGt dGt := fun κ M H x y dx dy w Q hM nx ny e q => by
  unfold dGt at e
  split at e
  · rename_i i j h1 h2
    cases e
    rw [nr_int nx h1, nr_int ny h2]
    exact u_gt_i (q _ _ Ex.refl (.cl (.bl _)))
  · cases e
theorem rep_vnon : ∀ (d : D), Rep M K H .non d → d.u = .non
  | .tg v d, h => by
    cases h with
    | tg h => exact rep_vnon d h
  | .non, _ => rfl
  | .bl _, h => by cases h
  | .int _, h => by cases h
  | .str _, h => by cases h
  | .ty _, h => by cases h
  | .glo _, h => by cases h
  | .lst _, h => by cases h
  | .scr _, h => by cases h
  | .tup _, h => by cases h
  | .dK _, h => by cases h
  | .rng _ _, h => by cases h
  | .bo w d e, h => by cases h
  | .ce n, h => by cases h
  | .ins _ _, h => by cases h
  | .exc _ _, h => by cases h
theorem rep_ne_non {x : V} (h : Rep M K H x d) (hd : d.u = .non → False) : x ≠ .non := fun z => hd (rep_vnon d (by rw [← z]; exact h))
theorem o_is : Op2 f uIs dIs := fun κ M H x y dx dy w Q hM nx ny e q => by
  unfold dIs at e
  split at e
  · rename_i h1 h2
    cases e
    rw [nr_non nx h1, nr_non ny h2]
    exact ⟨rfl, q _ _ Ex.refl (.cl (.bl _))⟩
  · rename_i h2 h0
    cases e
    rw [nr_non ny h2]
    refine ⟨rfl, ?_⟩
    rw [decide_eq_false (rep_ne_non nx.rep0 h0)]
    exact q _ _ Ex.refl (.cl (.bl _))
  · cases e
theorem o_isnt : Op2 f uIsnt dIsnt := fun κ M H x y dx dy w Q hM nx ny e q => by
  unfold dIsnt at e
  split at e
  · rename_i h1 h2
    cases e
    rw [nr_non nx h1, nr_non ny h2]
    exact ⟨rfl, q _ _ Ex.refl (.cl (.bl _))⟩
  · rename_i h2 h0
    cases e
    rw [nr_non ny h2]
    refine ⟨rfl, ?_⟩
    rw [decide_eq_false (rep_ne_non nx.rep0 h0)]
    exact q _ _ Ex.refl (.cl (.bl _))
  · cases e
theorem nr_rng {M : List Addr} {v : V} {d : D} {lo hi : Int} (h : Nr M K H v d) (e : d.u = .rng lo hi) : ∃ a, v = .ref a ∧ H a = some (.rng lo hi) := by
  have h := h.u
  rw [e] at h
  cases h with
  | cl r => cases r with | rng a => exact ⟨_, rfl, a.at_⟩
  | own r => cases r
theorem nr_scr {M : List Addr} {v : V} {d : D} {ns : List Int} (h : Nr M K H v d) (e : d.u = .scr ns) : ∃ a, v = .ref a ∧ SqL K H a (ns.map V.int) := by
  have h := h.u
  rw [e] at h
  cases h with
  | cl r => cases r with | scr a => exact ⟨_, rfl, a.sq⟩
  | own r => cases r
theorem nr_flat {M : List Addr} {v x : V} {d : D} (h : Nr M K H v d) (e : flat d = some x) : v = x ∧ flatV x = true := flat_of h.rep0 e
theorem str1 {x : Str} {c : Nat} (h : x.cps.toList = [c]) : x = ⟨#[c]⟩ := str_ext h
theorem inB {neg : Bool} {M : List Addr} {x y : V} {dx dy : D} {b : Bool} (nx : Nr M K H x dx) (ny : Nr M K H y dy) (e : dInB dx dy = some b) :
    (∃ (c : Nat) (z : Str), x = .str ⟨#[c]⟩ ∧ y = .str z ∧ b = decide (c ∈ z.cps.toList)) ∨ (∃ p xs, y = .ref p ∧ (SqL K H p xs ∨ SqT K H p xs) ∧ flatV x = true ∧ xs.all flatV = true ∧ b = inV x xs) ∨ (∃ i a lo hi, x = V.int i ∧ y = V.ref a ∧ H a = some (.rng lo hi) ∧ b = decide (lo ≤ i ∧ i < hi) ∧ dy.u = .rng lo hi) := by
  unfold dInB at e
  split at e
  · rename_i z h2
    split at e
    · rename_i x' h1
      split at e
      · rename_i c hc
        cases e
        exact .inl ⟨c, z, by rw [nr_str nx h1, str1 hc], nr_str ny h2, rfl⟩
      · cases e
    · cases e
  · rename_i ds h2
    obtain ⟨a, xs, rfl, s1, r1⟩ := nr_lst ny h2
    cases h3 : flat dx with
    | none => rw [h3] at e; cases e
    | some v =>
      rw [h3] at e
      dsimp only [Option.bind_some] at e
      cases h4 : flats ds with
      | none => rw [h4] at e; cases e
      | some vs =>
        rw [h4] at e
        cases e
        obtain ⟨a1, a2⟩ := nr_flat nx h3
        obtain ⟨b1, b2⟩ := flats_of r1 h4
        subst a1 b1
        exact .inr (.inl ⟨a, xs, rfl, .inl (.inl (.inl s1)), a2, b2, rfl⟩)
  · rename_i ds h2
    obtain ⟨a, xs, rfl, s1, r1⟩ := nr_tup ny h2
    cases h3 : flat dx with
    | none => rw [h3] at e; cases e
    | some v =>
      rw [h3] at e
      dsimp only [Option.bind_some] at e
      cases h4 : flats ds with
      | none => rw [h4] at e; cases e
      | some vs =>
        rw [h4] at e
        cases e
        obtain ⟨a1, a2⟩ := nr_flat nx h3
        obtain ⟨b1, b2⟩ := flats_of r1 h4
        subst a1 b1
        exact .inr (.inl ⟨a, xs, rfl, .inr s1, a2, b2, rfl⟩)
  · rename_i lo hi h2
    obtain ⟨a, rfl, s1⟩ := nr_rng ny h2
    split at e
    · rename_i i h1
      cases e
      exact .inr (.inr ⟨i, a, lo, hi, nr_int nx h1, rfl, s1, rfl, h2⟩)
    · cases e
  · cases e
theorem o_in : Op2 f (uIn f) dIn := fun κ M H x y dx dy w Q hM nx ny e q => by
  unfold dIn at e
  cases h : dInB dx dy with
  | none => rw [h] at e; cases e
  | some b =>
    rw [h] at e
    cases e
    rcases inB (neg := false) nx ny h with ⟨c, z, rfl, rfl, rfl⟩ | ⟨p, xs, rfl, s, f1, f2, rfl⟩ | ⟨i, a, lo, hi, rfl, rfl, s, rfl, _⟩
    · exact u_in_s (q _ _ Ex.refl (.cl (.bl _)))
    · exact u_in_l s f1 f2 (q _ _ Ex.refl (.cl (.bl _)))
    · exact u_in_r s (q _ _ Ex.refl (.cl (.bl _)))
theorem o_ni : Op2 f (uNi f) dNi := fun κ M H x y dx dy w Q hM nx ny e q => by
  unfold dNi at e
  split at e
  · cases e
  · rename_i hr
    cases h : dInB dx dy with
    | none => rw [h] at e; cases e
    | some b =>
      rw [h] at e
      cases e
      rcases inB (neg := true) nx ny h with ⟨c, z, rfl, rfl, rfl⟩ | ⟨p, xs, rfl, s, f1, f2, rfl⟩ | ⟨i, a, lo, hi, rfl, rfl, s, rfl, h2⟩
      · exact u_ni_s (q _ _ Ex.refl (.cl (.bl _)))
      · exact u_ni_l s f1 f2 (q _ _ Ex.refl (.cl (.bl _)))
      · exact absurd h2 (fun z => hr _ _ z)
theorem o_ix : Op2 f (uIx f) dIx := fun κ M H x y dx dy w Q hM nx ny e q => by
  unfold dIx at e
  split at e
  · rename_i ds i h1 h2
    obtain ⟨a, xs, rfl, s1, r1⟩ := nr_lst nx h1
    rw [nr_int ny h2]
    cases h3 : L2.atI ds i with
    | none => rw [h3] at e; cases e
    | some d =>
      rw [h3] at e
      cases e
      obtain ⟨v, h4, h5⟩ := r1.atI h3
      exact u_ix_l (.inl (.inl s1)) h4 (q _ _ Ex.refl (.cl h5))
  · rename_i ds i h1 h2
    obtain ⟨a, xs, rfl, s1, r1⟩ := nr_tup nx h1
    rw [nr_int ny h2]
    cases h3 : L2.atI ds i with
    | none => rw [h3] at e; cases e
    | some d =>
      rw [h3] at e
      cases e
      obtain ⟨v, h4, h5⟩ := r1.atI h3
      exact u_ix_t s1 h4 (q _ _ Ex.refl (.cl h5))
  · rename_i ns i h1 h2
    obtain ⟨a, rfl, s1⟩ := nr_scr nx h1
    rw [nr_int ny h2]
    cases h3 : L2.atI ns i with
    | none => rw [h3] at e; cases e
    | some n =>
      rw [h3] at e
      cases e
      refine u_ix_l s1 (v := .int n) ?_ (q _ _ Ex.refl (.cl (.int _)))
      unfold L2.atI at h3 ⊢
      rw [List.length_map]
      cases h4 : ixN ns.length i with
      | none => rw [h4] at h3; cases h3
      | some k =>
        rw [h4] at h3
        have h3 : ns[k]? = some n := h3
        show (ns.map V.int)[k]? = some (V.int n)
        rw [List.getElem?_map, h3]
        rfl
  · rename_i z i h1 h2
    rw [nr_str nx h1, nr_int ny h2]
    split at e
    · rename_i hl
      cases h3 : L2.atI z.cps.toList i with
      | none => rw [h3] at e; cases e
      | some c =>
        rw [h3] at e
        cases e
        exact u_ix_s (sz_le hl) h3 (q _ _ Ex.refl (.cl (.str _)))
    · cases e
  · cases e
theorem o_len : OpN f (uLen f) dLen := fun κ M H xs ds w Q hM nr e q => by
  unfold dLen at e
  split at e
  · rename_i a
    obtain ⟨v, rfl, n⟩ := nra1 nr
    split at e
    · rename_i z h
      rw [nr_str n h]
      split at e
      · cases e
        exact u_len_s (sz_le ‹_›) (q _ _ Ex.refl (.cl (.int _)))
      · cases e
    · rename_i ds h
      obtain ⟨a, xs, rfl, s1, r1⟩ := nr_lst n h
      cases e
      refine u_len_q (.inl (.inl (.inl s1))) ?_
      rw [r1.len]
      exact q _ _ Ex.refl (.cl (.int _))
    · rename_i ds h
      obtain ⟨a, xs, rfl, s1, r1⟩ := nr_tup n h
      cases e
      refine u_len_q (.inr s1) ?_
      rw [r1.len]
      exact q _ _ Ex.refl (.cl (.int _))
    · rename_i ds h
      obtain ⟨a, rfl, s1⟩ := nr_scr n h
      cases e
      refine u_len_q (.inl s1) ?_
      rw [List.length_map]
      exact q _ _ Ex.refl (.cl (.int _))
    · cases e
  · cases e
theorem o_max2 : OpN f SL.rMax2 dMax2 := fun κ M H xs ds w Q hM nr e q => by
  unfold dMax2 at e
  split at e
  · obtain ⟨v, u, rfl, n, m⟩ := nra2 nr
    split at e
    · rename_i i j h1 h2
      cases e
      rw [nr_int n h1, nr_int m h2]
      exact u_max2 (q _ _ Ex.refl (.cl (.int _)))
    · cases e
  · cases e
theorem o_min2 : OpN f SL.rMin2 dMin2 := fun κ M H xs ds w Q hM nr e q => by
  unfold dMin2 at e
  split at e
  · obtain ⟨v, u, rfl, n, m⟩ := nra2 nr
    split at e
    · rename_i i j h1 h2
      cases e
      rw [nr_int n h1, nr_int m h2]
      exact u_min2 (q _ _ Ex.refl (.cl (.int _)))
    · cases e
  · cases e
theorem o_all : OpN f (SL.rAllL f) dAll := fun κ M H xs ds w Q hM nr e q => by
  unfold dAll at e
  split at e
  · obtain ⟨v, rfl, n⟩ := nra1 nr
    split at e
    · rename_i ds h1
      obtain ⟨a, xs, rfl, s1, r1⟩ := nr_lst n h1
      cases h2 : blsOf ds with
      | none => rw [h2] at e; cases e
      | some bs =>
        rw [h2] at e
        cases e
        rw [bls_of r1 h2] at s1
        exact u_all (.inl (.inl s1)) (q _ _ Ex.refl (.cl (.bl _)))
    · cases e
  · cases e
theorem o_list : OpN f (SL.uList f) dList := fun κ M H xs ds w Q hM nr e q => by
  unfold dList at e
  split at e
  · obtain ⟨v, rfl, n⟩ := nra1 nr
    split at e
    · rename_i ds h1
      obtain ⟨a, xs, rfl, s1, r1⟩ := nr_lst n h1
      cases e
      exact u_list (.inl (.inl (.inl s1))) fun p hp => q _ _ (Ex.new hp) (Nw.new hp r1)
    · rename_i ds h1
      obtain ⟨a, xs, rfl, s1, r1⟩ := nr_tup n h1
      cases e
      exact u_list (.inr s1) fun p hp => q _ _ (Ex.new hp) (Nw.new hp r1)
    · cases e
  · cases e
theorem o_tuple : OpN f (SL.uTuple f) dTuple := fun κ M H xs ds w Q hM nr e q => by
  unfold dTuple at e
  split at e
  · obtain ⟨v, rfl, n⟩ := nra1 nr
    split at e
    · rename_i ds h1
      obtain ⟨a, xs, rfl, s1, r1⟩ := nr_lst n h1
      cases e
      exact ⟨a, xs, rfl, .inl ⟨.inl (.inl s1), fun p hp => q _ _ (Ex.new hp) (Nw.tup hp (hM p hp) r1)⟩⟩
    · rename_i ds h1
      cases e
      have n := n.u
      rw [h1] at n
      cases n with
      | own r => cases r
      | cl r =>
        cases r with
        | @tup a xs _ s1 r1 => exact ⟨a, xs, rfl, .inr ⟨s1.sq, q _ _ Ex.refl (.cl (.tup s1 r1))⟩⟩
    · cases e
  · cases e
theorem o_repr : OpN f (SL.uRepr f) dRepr := fun κ M H xs ds w Q hM nr e q => by
  unfold dRepr at e
  split at e
  · obtain ⟨v, rfl, n⟩ := nra1 nr
    rename_i a
    cases h1 : pd a with
    | none => rw [h1] at e; cases e
    | some x =>
      rw [h1] at e
      dsimp only [Option.bind_some] at e
      split at e
      · rename_i hs
        cases e
        unfold showsB at hs
        simp only [Bool.and_eq_true, decide_eq_true_eq] at hs
        obtain ⟨s1, s2, s3, s4⟩ := hs
        exact u_repr (nr_dp n h1) ⟨s1, ⟨60, by decide, s2, by omega⟩, s4⟩ (q _ _ Ex.refl (.cl (.str _)))
      · cases e
  · cases e
end
abbrev MO := Mo (Option Int)
def mNoPart : MO := fun ρ h => some (.ok none ρ h)
def mPart (a : Mo W) : MO := fun ρ h => bindR (a ρ h) fun w ρ h => match (deref h w).map D.u with
  | some (.int i) => some (.ok (some i) ρ h)
  | _ => none
def mSl (a : Mo W) (lo hi : MO) : Mo W := fun ρ h => bindR (a ρ h) fun w ρ h => bindR (lo ρ h) fun l ρ h => bindR (hi ρ h) fun u ρ h => (deref h w).bind fun d => (dSl d l u).map fun w => .ok w ρ h
def SimO (f : PySem.W.Frag) (WW : WX) (t : TO) (m : MO) : Prop := ∀ (F : Fm) (σ : L2.St) (H : Hp) (ρ : List Sl) (h : Tb) (st : List (V × W)) (r : R (Option Int)) (Q : Option Int → Hp → Prop), EnvR f F σ H ρ h st → m ρ h = some r → (match r with
  | .ok b ρ h => ∀ H, EnvR f F σ H ρ h st → Q b H
  | .ex C fs ρ h => ExR f F WW st C fs ρ h) → t σ H Q
section
variable {f : PySem.W.Frag} {WW : WX} {te ta tb tc : TE} {me ma mb mc : Mo W} {tl th : TO} {ml mh : MO} {tr : TA} {mr : Mo (List W)}
theorem sim_nopart : SimO f WW tNoPart mNoPart := fun F σ H ρ h st x Q E e p => by
  cases e
  exact p H E
theorem sim_part (he : SimE f WW te me) : SimO f WW (tPart te) (mPart me) := fun F σ H ρ h st x Q E e p => by
  rcases bindR_some e with ⟨w1, ρ1, h1, e1, e⟩ | ⟨C, fs, ρ1, h1, e1, rfl⟩
  · refine he F σ H ρ h st _ _ E e1 fun v1 H1 ⟨κ, E1⟩ => ?_
    cases q1 : deref h1 w1 with
    | none => rw [q1] at e; cases e
    | some d1 =>
      rw [q1] at e
      dsimp only [Option.map_some] at e
      have nr := E1.near (List.mem_cons_self ..) q1
      split at e
      · rename_i b hb
        cases e
        exact ⟨b, nr_int nr (Option.some.inj hb), p H1 ⟨κ, E1.pop⟩⟩
      · cases e
  · exact he F σ H ρ h st _ _ E e1 p
theorem sim_sl (he : SimE f WW te me) (hl : SimO f WW tl ml) (hh : SimO f WW th mh) : SimE f WW (tSl (uSl f) te tl th) (mSl me ml mh) := fun F σ H ρ h st x Q E e p => by
  rcases bindR_some e with ⟨w1, ρ1, h1, e1, e⟩ | ⟨C, fs, ρ1, h1, e1, rfl⟩
  · refine he F σ H ρ h st _ _ E e1 fun v1 H1 E1 => ?_
    rcases bindR_some e with ⟨l, ρ2, h2, e2, e⟩ | ⟨C, fs, ρ2, h2, e2, rfl⟩
    · refine hl F σ H1 ρ1 h1 _ _ _ E1 e2 fun H2 E2 => ?_
      rcases bindR_some e with ⟨u, ρ3, h3, e3, e⟩ | ⟨C, fs, ρ3, h3, e3, rfl⟩
      · refine hh F σ H2 ρ2 h2 _ _ _ E2 e3 fun H3 ⟨κ, E3⟩ => ?_
        cases q1 : deref h3 w1 with
        | none => rw [q1] at e; cases e
        | some d1 =>
          rw [q1] at e
          dsimp only [Option.bind_some] at e
          cases q2 : dSl d1 l u with
          | none => rw [q2] at e; cases e
          | some w =>
            rw [q2] at e
            cases e
            have nr := E3.near (List.mem_cons_self ..) q1
            have hM := fun q hq => av_new E3 (p := q) hq
            have land : ∀ v H', Ex [] H3 H' → Nw (av F κ ((v1, w1) :: st)) ⟨f, κ⟩ H3 H' v w → Q v H' := fun v H' ex nw => p v H' ⟨κ, EnvK.land (l := [(v1, w1)]) E3 ex nw⟩
            unfold dSl at q2
            split at q2
            · rename_i z hz
              rw [nr_str nr hz]
              split at q2
              · cases q2
                exact u_sl_s (sz_le ‹_›) (land _ _ Ex.refl (.cl (.str _)))
              · cases q2
            · rename_i ds hz
              obtain ⟨a, xs, rfl, s1, r1⟩ := nr_lst nr hz
              cases q2
              exact u_sl_l (.inl (.inl s1)) fun q hq => land _ _ (Ex.new hq) (Nw.new hq r1.cut)
            · rename_i ds hz
              cases q2
              have nr := nr.u
              rw [hz] at nr
              cases nr with
              | own r => cases r
              | cl r =>
                cases r with
                | @tup a xs _ s1 r1 =>
                  refine .inr (.inr ⟨a, xs, rfl, s1.sq, fun hw => ?_, fun _ q hq => land _ _ (Ex.new hq) (Nw.tup hq (hM q hq) r1.cut)⟩)
                  have ec : cutL ds l u = ds := by
                    unfold cutL
                    rw [← r1.len, hw.1, hw.2, List.drop_zero, Nat.sub_zero, r1.len]
                    exact List.take_length
                  rw [ec] at land
                  exact land _ _ Ex.refl (.cl (.tup s1 r1))
            · cases q2
      · exact hh F σ H2 ρ2 h2 _ _ _ E2 e3 (ExR.up p)
    · exact hl F σ H1 ρ1 h1 _ _ _ E1 e2 (ExR.up p)
  · exact he F σ H ρ h st _ _ E e1 p
def mChain (f g : D → D → Option W) (a b c : Mo W) : Mo W := fun ρ h => bindR (a ρ h) fun x ρ h => bindR (b ρ h) fun y ρ h => (deref h x).bind fun dx => (deref h y).bind fun dy => match f dx dy with
  | some (.cl (.bl true)) => bindR (c ρ h) fun z ρ h => (deref h y).bind fun dy => (deref h z).bind fun dz => (g dy dz).map fun w => .ok w ρ h
  | some (.cl (.bl false)) => some (.ok (.cl (.bl false)) ρ h)
  | _ => none
theorem sim_chain {r r' : R2} {g1 g2 : D → D → Option W} (o : Op2 f r g1) (o' : Op2 f r' g2) (ha : SimE f WW ta ma) (hb : SimE f WW tb mb) (hc : SimE f WW tc mc) : SimE f WW (tChain r r' ta tb tc) (mChain g1 g2 ma mb mc) := fun F σ H ρ h st x Q E e p => by
  rcases bindR_some e with ⟨w1, ρ1, h1, e1, e⟩ | ⟨C, fs, ρ1, h1, e1, rfl⟩
  · refine ha F σ H ρ h st _ _ E e1 fun v1 H1 E1 => ?_
    rcases bindR_some e with ⟨w2, ρ2, h2, e2, e⟩ | ⟨C, fs, ρ2, h2, e2, rfl⟩
    · refine hb F σ H1 ρ1 h1 _ _ _ E1 e2 fun v2 H2 ⟨κ, E2⟩ => ?_
      cases q1 : deref h2 w1 with
      | none => rw [q1] at e; cases e
      | some d1 =>
        rw [q1] at e
        dsimp only [Option.bind_some] at e
        cases q2 : deref h2 w2 with
        | none => rw [q2] at e; cases e
        | some d2 =>
          rw [q2] at e
          dsimp only [Option.bind_some] at e
          have n1 := E2.near (List.mem_cons_of_mem _ (List.mem_cons_self ..)) q1
          have n2 := E2.near (List.mem_cons_self ..) q2
          have hM := fun q hq => av_new E2 (p := q) hq
          split at e
          · rename_i h3
            refine o κ _ H2 v1 v2 d1 d2 _ _ hM n1 n2 h3 fun v H' ex nw => ?_
            cases nw with
            | cl r =>
              cases rep_bl r
              refine ⟨true, rfl, ?_⟩
              rw [if_pos rfl]
              have E3 := E2.grow ex
              rcases bindR_some e with ⟨w3, ρ3, h3, e3, e⟩ | ⟨C, fs, ρ3, h3, e3, rfl⟩
              · refine hc F σ H' ρ2 h2 _ _ _ ⟨κ, E3⟩ e3 fun v3 H3 ⟨κ4, E4⟩ => ?_
                cases q4 : deref h3 w2 with
                | none => rw [q4] at e; cases e
                | some d4 =>
                  rw [q4] at e
                  dsimp only [Option.bind_some] at e
                  cases q5 : deref h3 w3 with
                  | none => rw [q5] at e; cases e
                  | some d5 =>
                    rw [q5] at e
                    dsimp only [Option.bind_some] at e
                    cases q6 : g2 d4 d5 with
                    | none => rw [q6] at e; cases e
                    | some w =>
                      rw [q6] at e
                      cases e
                      exact o' κ4 _ H3 v2 v3 d4 d5 w Q (fun q hq => av_new E4 hq) (E4.near (List.mem_cons_of_mem _ (List.mem_cons_self ..)) q4) (E4.near (List.mem_cons_self ..) q5) q6
                        fun v H' ex nw => p v H' ⟨κ4, EnvK.land (l := [(v3, w3), (v2, w2), (v1, w1)]) E4 ex nw⟩
              · exact hc F σ H' ρ2 h2 _ _ _ ⟨κ, E3⟩ e3 (ExR.up (ExR.up p))
          · rename_i h3
            refine o κ _ H2 v1 v2 d1 d2 _ _ hM n1 n2 h3 fun v H' ex nw => ?_
            cases nw with
            | cl r =>
              cases rep_bl r
              refine ⟨false, rfl, ?_⟩
              rw [if_neg Bool.false_ne_true]
              cases e
              exact p _ _ ⟨κ, (E2.grow ex).pop.pop.pushC (.bl _)⟩
          · cases e
    · exact hb F σ H1 ρ1 h1 _ _ _ E1 e2 (ExR.up p)
  · exact ha F σ H ρ h st _ _ E e1 p
/-- xs[i] = e -/
def gSubL (o : Mo W) (e : Mo W) : Tg := fun w ρ h => match o ρ h with
  | some (.ok u ρ h) => match e ρ h with
    | some (.ok k ρ h) => match (deref h k).map D.u with
      | some (.int n) => (lstAt h u).bind fun x => (ixN x.2.length n).map fun j => (ρ, h.set x.1 (.lst (x.2.set j (fzW w))))
      | _ => none
    | _ => none
  | _ => none
theorem sim_gsub (ho : SimE f (fun _ _ _ _ => False) ta ma) (he : SimE f (fun _ _ _ _ => False) te me) : SimG f (gSub ta te rSetL) (gSubL ma me) := fun F σ H ρ h x st v w Q ⟨κ, E⟩ e q => by
  unfold gSubL at e
  have E1 := E.fz
  split at e
  · rename_i u ρ1 h1 e1
    split at e
    · rename_i k ρ2 h2 e2
      split at e
      · rename_i n hn
        cases g4 : lstAt h2 u with
        | none => rw [g4] at e; cases e
        | some y =>
          obtain ⟨c, cs⟩ := y
          rw [g4] at e
          dsimp only [Option.bind_some] at e
          cases g5 : ixN cs.length n with
          | none => rw [g5] at e; cases e
          | some j =>
            rw [g5] at e
            cases e
            refine ho F σ H ρ h _ _ _ ⟨κ, E1⟩ e1 fun vo Ho Eo => ?_
            refine he F σ Ho ρ1 h1 _ _ _ Eo e2 fun vk Hk ⟨κk, Ek⟩ => ?_
            obtain ⟨p, xs, rfl, hk, hp, r⟩ := Ek.lstAt (List.mem_cons_of_mem _ (List.mem_cons_self ..)) g4
            cases hd : deref h2 k with
            | none => rw [hd] at hn; cases hn
            | some dk =>
              rw [hd] at hn
              have nr := Ek.near (List.mem_cons_self ..) hd
              cases nr_int nr (Option.some.inj hn)
              refine ⟨p, xs, n, j, rfl, rfl, hp, by rw [r.len]; exact g5, ?_⟩
              have rv := Ek.rep (List.mem_cons_of_mem _ (List.mem_cons_of_mem _ (List.mem_cons_self ..)))
              have E3 := Ek.mut (u := .lst (xs.set j v)) (c' := .lst (cs.set j (fzW w))) hk (.lst upd_same ((r.set j rv).ex (Ex.mut (av_ka (List.mem_of_getElem? hk)))))
              exact q _ _ ⟨κk, E3.pop.pop.pop⟩
      · cases e
    · cases e
  · cases e
/-- a method of a text -/
def mBS (g : Str → List D → Option W) (a : Mo W) (b : Mo (List W)) : Mo W := fun ρ h => bindR (a ρ h) fun x ρ h => match (deref h x).map D.u with
  | some (.str z) => bindR (b ρ h) fun ws ρ h => (derefs h ws).bind fun ds => (g z ds).map fun w => .ok w ρ h
  | _ => none
def OpS (f : PySem.W.Frag) (rm : V → List V → Hp → VK → Prop) (g : Str → List D → Option W) : Prop := ∀ (κ : List Addr) (M : List Addr) (H : Hp) (z : Str) (xs : List V) (ds : List D) (w : W) (Q : VK), (∀ p, H p = none → p ∉ M) → NrA M ⟨f, κ⟩ H xs ds → g z ds = some w →
  (∀ v H', Ex [] H H' → Nw M ⟨f, κ⟩ H H' v w → Q v H') → rm (.str z) xs H Q
theorem sim_bs {T : String} {rm : V → List V → Hp → VK → Prop} {g : Str → List D → Option W} (hT : T = "str") (o : OpS f rm g) (ha : SimE f WW te me) (hb : SimA f WW tr mr) : SimE f WW (tBM f T rm te tr) (mBS g me mr) := fun F σ H ρ h st x Q E e p => by
  subst hT
  rcases bindR_some e with ⟨w1, ρ1, h1, e1, e⟩ | ⟨C, fs, ρ1, h1, e1, rfl⟩
  · refine ha F σ H ρ h st _ _ E e1 fun v1 H1 ⟨κ, E1⟩ => ?_
    cases q1 : deref h1 w1 with
    | none => rw [q1] at e; cases e
    | some d1 =>
      rw [q1] at e
      dsimp only [Option.map_some] at e
      have nr := E1.near (List.mem_cons_self ..) q1
      split at e
      · rename_i z hz
        cases nr_str nr (Option.some.inj hz)
        refine ⟨rfl, ?_⟩
        rcases bindR_some e with ⟨ws, ρ2, h2, e2, e⟩ | ⟨C, fs, ρ2, h2, e2, rfl⟩
        · refine hb F σ H1 ρ1 h1 _ _ _ ⟨κ, E1⟩ e2 fun vs H2 hl ⟨κ2, E2⟩ => ?_
          cases q2 : derefs h2 ws with
          | none => rw [q2] at e; cases e
          | some ds =>
            rw [q2] at e
            dsimp only [Option.bind_some] at e
            cases q3 : g z ds with
            | none => rw [q3] at e; cases e
            | some w =>
              rw [q3] at e
              cases e
              exact o κ2 _ H2 z vs ds w Q (fun q hq => av_new E2 hq) (E2.nears hl (fun x hx => List.mem_append.mpr (.inl hx)) q2) q3 fun v H' ex nw => p v H' ⟨κ2, by
                have E3 : EnvK f κ2 F σ H2 ρ2 h2 ((vs.zip ws ++ [(V.str z, w1)]) ++ st) := by
                  rw [List.append_assoc]
                  exact E2
                refine EnvK.land (l := vs.zip ws ++ [(V.str z, w1)]) E3 ex ?_
                rw [List.append_assoc]
                exact nw⟩
        · exact hb F σ H1 ρ1 h1 _ _ _ ⟨κ, E1⟩ e2 (ExR.up p)
      · cases e
  · exact ha F σ H ρ h st _ _ E e1 p
def fJoin (s : Str) : List D → Option W
  | [b] => match b.u with
    | .lst ds => (strsOf ds).bind fun zs => if (zs.map (·.length)).sum + zs.length * s.length ≤ 16777216 then some (.cl (.str (Txt.join s zs))) else none
    | .tup ds => (strsOf ds).bind fun zs => if (zs.map (·.length)).sum + zs.length * s.length ≤ 16777216 then some (.cl (.str (Txt.join s zs))) else none
    | _ => none
  | _ => none
theorem o_join : OpS f (SL.rJoin f) fJoin := fun κ M H z xs ds w Q hM nr e q => by
  unfold fJoin at e
  split at e
  · obtain ⟨v, rfl, n⟩ := nra1 nr
    split at e
    · rename_i ds h1
      obtain ⟨a, xs, rfl, s1, r1⟩ := nr_lst n h1
      cases h2 : strsOf ds with
      | none => rw [h2] at e; cases e
      | some zs =>
        rw [h2] at e
        dsimp only [Option.bind_some] at e
        split at e
        · cases e
          rw [strs_of r1 h2] at s1
          exact ⟨z, a, zs, rfl, rfl, .inl (.inl (.inl s1)), by assumption, q _ _ Ex.refl (.cl (.str _))⟩
        · cases e
    · rename_i ds h1
      obtain ⟨a, xs, rfl, s1, r1⟩ := nr_tup n h1
      cases h2 : strsOf ds with
      | none => rw [h2] at e; cases e
      | some zs =>
        rw [h2] at e
        dsimp only [Option.bind_some] at e
        split at e
        · cases e
          rw [strs_of r1 h2] at s1
          exact ⟨z, a, zs, rfl, rfl, .inr s1, by assumption, q _ _ Ex.refl (.cl (.str _))⟩
        · cases e
    · cases e
  · cases e
end
end CM
namespace CM
open PySem PySem.Spec PyProof.Rows L2 SL
inductive Kd where
  | b (T : String) | own (C : Str) | exc (C : Str) | fn
  deriving DecidableEq
def kd : D → Option Kd
  | .non => some (.b "NoneType")
  | .bl _ => some (.b "bool")
  | .int _ => some (.b "int")
  | .str _ => some (.b "str")
  | .lst _ => some (.b "list")
  | .scr _ => some (.b "list")
  | .tup _ => some (.b "tuple")
  | .dK _ => some (.b "dict")
  | .ins C _ => some (.own C)
  | .exc C _ => some (.exc C)
  | .glo _ => some .fn
  | _ => none
def kdV (K : PySem.W.Frag) : Kd → Value
  | .b T => .type T
  | .own C => .ref (He.ga K C)
  | .exc C => .ref (He.ga K C)
  | .fn => .type "function"
/-- what is asked of the written part for a kind -/
structure OwnK (K : PySem.W.Frag) (C : Str) : Prop where
  cls : Cls K (He.ga K C)
  ha : PySem.W.findIn K (.ref (He.ga K C)) "__class__" = some (some (.builtin "object.__class__"))
  hn : PySem.W.specialIn K (.builtin "object.__class__") "__get__" = some (some (.builtin "getset_descriptor.__get__"))
  htk : PySem.W.takesIn K (.builtin "object.__class__") = some true
  hm : PySem.W.mroIn K (He.ga K C) (.type "object") = some true
def ownB (K : PySem.W.Frag) (C : Str) : Bool := (He.Fa.cls C).ok K && (decide (PySem.W.findIn K (.ref (He.ga K C)) "__class__" = some (some (.builtin "object.__class__"))) && (decide (PySem.W.specialIn K (.builtin "object.__class__") "__get__" = some (some (.builtin "getset_descriptor.__get__"))) &&
  (decide (PySem.W.takesIn K (.builtin "object.__class__") = some true) && decide (PySem.W.mroIn K (He.ga K C) (.type "object") = some true))))
theorem ownB_ok {K : PySem.W.Frag} {C : Str} (h : ownB K C = true) : OwnK K C := by
  simp only [ownB, Bool.and_eq_true, decide_eq_true_eq] at h
  exact ⟨He.cls_ok h.1, h.2.1, h.2.2.1, h.2.2.2.1, h.2.2.2.2⟩
def KdOk (K : PySem.W.Frag) : Kd → Prop
  | .b _ => True
  | .own C => OwnK K C
  | .exc C => isiB K (He.ga K C) = true
  | .fn => False
inductive Cd where
  | ty (T : String) | own (C : Str)
def cdV (K : PySem.W.Frag) : Cd → Value
  | .ty T => .type T
  | .own C => .ref (He.ga K C)
def cdIs : Cd → D → Bool
  | .ty T, .ty T' => decide (T' = T)
  | .own C, .glo C' => decide (C' = C)
  | _, _ => false
def cdsAre : List Cd → List D → Bool
  | [], [] => true
  | c :: cs, d :: ds => cdIs c d.u && cdsAre cs ds
  | _, _ => false
def lookK (k : Kd) : List (Kd × Bool) → Option Bool
  | [] => none
  | (k', b) :: r => if k' = k then some b else lookK k r
def dIsi (c : Cd) (tab : List (Kd × Bool)) : List D → Option W
  | [a, x] => if cdIs c x.u = true then (kd a.u).bind fun k => (lookK k tab).map fun b => .cl (.bl b) else none
  | _ => none
def dIsiT (cs : List Cd) (tab : List (Kd × Bool)) : List D → Option W
  | [a, x] => match x.u with
    | .tup ds => if cdsAre cs ds = true then (kd a.u).bind fun k => (lookK k tab).map fun b => .cl (.bl b) else none
    | _ => none
  | _ => none
inductive Tab (K : PySem.W.Frag) (ev : Value → Option Bool) : List (Kd × Bool) → Prop
  | nil : Tab K ev []
  | cons {k : Kd} {b : Bool} {r : List (Kd × Bool)} : KdOk K k → ev (kdV K k) = some b → Tab K ev r → Tab K ev ((k, b) :: r)
section
variable {K : Kx} {M : List Addr} {H H' : Hp} {p : Addr} {v : V} {d : D} {vs : List V} {ds : List D} {k : Kd} {b : Bool} {ev : Value → Option Bool}
theorem tab_at {K : PySem.W.Frag} : ∀ {tab : List (Kd × Bool)}, Tab K ev tab → lookK k tab = some b → KdOk K k ∧ ev (kdV K k) = some b
  | [], _, h => by cases h
  | (k', b') :: r, .cons a e t, h => by
    unfold lookK at h
    split at h
    · rename_i hk
      subst hk
      cases h
      exact ⟨a, e⟩
    · exact tab_at t h
theorem ty_of (h : Nr M K H v d) (e : kd d.u = some k) (ok : KdOk K k) : TyY K H v (kdV K k) := by
  have h := h.u.rep0
  generalize d.u = x at h e
  cases h with
  | non => cases e; exact .base (.base .non)
  | bl b => cases e; exact .base (.base (.bl b))
  | int b => cases e; exact .base (.base (.int b))
  | str b => cases e; exact .base (.base (.str b))
  | ty n => cases e
  | glo x => cases e; exact ok.elim
  | lst a _ => cases e; exact .base (.base (.lst a.at_))
  | scr a =>
    cases e
    rcases a with ⟨a, _⟩ | ⟨o, its, n, h1, h2, _⟩
    · rcases a with a | ⟨o, a⟩
      · exact .base (.base (.lst a))
      · exact .base (.base (.frz a))
    · exact .base (.kList h1 h2)
  | tup a _ =>
    cases e
    exact .base (.base (.tup a.1))
  | dK a _ _ => cases e; exact .base (.base (.dK a.at_))
  | rng a => cases e
  | ins a _ _ =>
    cases e
    have ok : OwnK K _ := ok
    exact .base (.base (.ins a.at_ ok.cls ok.ha ok.hn ok.htk ok.hm))
  | exc a a2 _ _ =>
    cases e
    exact .exc a.at_ _ a2.at_ ok
  | ce _ => cases e
  | tg _ => cases e
  | bo _ _ => cases e
theorem cd_of {c : Cd} {x : V} (h : Nr M K H x d) (e : cdIs c d.u = true) : ClsV x (cdV K c) := by
  have h := h.u.rep0
  generalize d.u = y at h e
  cases c with
  | ty T =>
    cases h <;> try cases e
    rename_i n
    have : n = T := of_decide_eq_true e
    subst this
    exact .ty _
  | own C =>
    cases h <;> try cases e
    rename_i n
    have : n = C := of_decide_eq_true e
    subst this
    exact .own _
theorem cds_of : ∀ {cs : List Cd} {vs : List V} {ds : List D}, RepA M K H vs ds → cdsAre cs ds = true → Paired ClsV vs (cs.map (cdV K))
  | [], _, _, .nil, _ => .nil
  | c :: cs, _, _, .cons h a, e => by
    have e : (cdIs c _ && cdsAre cs _) = true := e
    rw [Bool.and_eq_true] at e
    exact .cons (cd_of (.cl h) e.1) (cds_of a e.2)
  | [], _, _, .cons _ _, e => by cases e
  | _ :: _, _, _, .nil, e => by cases e
theorem o_isi {K : PySem.W.Frag} {c : Cd} {tab : List (Kd × Bool)} (t : Tab K (fun t => PySem.W.kitOne K t (cdV K c)) tab) : OpN K (vIsi K) (dIsi c tab) := fun κ M H xs ds w Q hM nr e q => by
  unfold dIsi at e
  split at e
  · obtain ⟨x, y, rfl, n1, n2⟩ := nra2 nr
    split at e
    · rename_i a x' hc
      cases h1 : kd a.u with
      | none => rw [h1] at e; cases e
      | some k =>
        rw [h1] at e
        dsimp only [Option.bind_some] at e
        cases h2 : lookK k tab with
        | none => rw [h2] at e; cases e
        | some b =>
          rw [h2] at e
          cases e
          obtain ⟨o1, o2⟩ := tab_at t h2
          exact v_isi (cd_of n2 hc) (ty_of n1 h1 o1) o2 (q _ _ Ex.refl (.cl (.bl _)))
    · cases e
  · cases e
theorem o_isiT {K : PySem.W.Frag} {cs : List Cd} {tab : List (Kd × Bool)} (t : Tab K (fun t => PySem.W.kitAny K t (cs.map (cdV K))) tab) : OpN K (vIsi K) (dIsiT cs tab) := fun κ M H xs ds w Q hM nr e q => by
  unfold dIsiT at e
  split at e
  · rename_i a a2
    obtain ⟨x, y, rfl, n1, n2⟩ := nra2 nr
    split at e
    · rename_i ds hx
      split at e
      · rename_i hc
        cases h1 : kd a.u with
        | none => rw [h1] at e; cases e
        | some k =>
          rw [h1] at e
          dsimp only [Option.bind_some] at e
          cases h2 : lookK k tab with
          | none => rw [h2] at e; cases e
          | some b =>
            rw [h2] at e
            cases e
            obtain ⟨o1, o2⟩ := tab_at t h2
            have n2 := n2.u
            rw [hx] at n2
            cases n2 with
            | own r => cases r
            | cl r =>
              cases r with
              | @tup tp cv _ s1 r1 =>
                exact v_isiT s1.1 (cds_of r1 hc) (ty_of n1 h1 o1) o2 (q _ _ Ex.refl (.cl (.bl _)))
      · cases e
    · cases e
  · cases e
end
def sortI (ns : List Int) : List Int := ns.mergeSort (fun a b => decide (a ≤ b))
def rSrt (K : PySem.W.Frag) : List V → Hp → VK → Prop := fun xs H Q => (rSorted K xs H Q ∨ rSortedS K xs H Q) ∨ (rSortedIT K xs H Q ∨ rSortedST K xs H Q)
theorem call_srt {X : Cx} : CallR X (.builtin "sorted") (rSrt X.K) := (cr_sorted.or cr_sortedS).or (cr_sortedIT.or cr_sortedST)
def dSrt : List D → Option W
  | [a] => (seqD a.u).bind fun ds => match strsOf ds with
      | some zs => if zs.length < 64 then some (.fr ((sortS zs).map .str)) else none
      | none => (intsOf ds).bind fun ns => if ns.length < 64 then some (.fr ((sortI ns).map .int)) else none
  | _ => none
theorem str_lt_asymm {a b : List Nat} (h : a < b) : ¬ b < a := fun h2 => List.lt_asymm h h2
theorem insS_perm (z : Str) : ∀ ys : List Str, (insS z ys).Perm (z :: ys)
  | [] => List.Perm.refl _
  | y :: ys => by
    unfold insS
    split
    · exact List.Perm.refl _
    · exact ((insS_perm z ys).cons y).trans (List.Perm.swap _ _ _)
theorem sortS_perm : ∀ zs : List Str, (sortS zs).Perm zs
  | [] => List.Perm.refl _
  | z :: zs => (insS_perm z _).trans ((sortS_perm zs).cons z)
abbrev leS (a b : Str) : Prop := ¬ b.cps.toList < a.cps.toList
theorem insS_sorted {z : Str} : ∀ {ys : List Str}, ys.Pairwise leS → (insS z ys).Pairwise leS
  | [], _ => by unfold insS; exact List.pairwise_singleton _ _
  | y :: ys, h => by
    unfold insS
    obtain ⟨h1, h2⟩ := List.pairwise_cons.mp h
    split
    · rename_i hlt
      refine List.pairwise_cons.mpr ⟨fun x hx => ?_, h⟩
      rcases List.mem_cons.mp hx with rfl | hx
      · exact str_lt_asymm hlt
      · exact fun q => h1 x hx (List.lt_trans q hlt)
    · rename_i hge
      refine List.pairwise_cons.mpr ⟨fun x hx => ?_, insS_sorted h2⟩
      rcases List.mem_cons.mp ((insS_perm z ys).mem_iff.mp hx) with rfl | hx
      · exact hge
      · exact h1 x hx
theorem sortS_sorted : ∀ zs : List Str, (sortS zs).Pairwise leS
  | [] => .nil
  | z :: zs => insS_sorted (sortS_sorted zs)
theorem leS_antisymm {a b : Str} (h1 : leS a b) (h2 : leS b a) : a = b := str_ext (List.le_antisymm (show a.cps.toList ≤ b.cps.toList from h1) (show b.cps.toList ≤ a.cps.toList from h2))
theorem leS_trans {a b c : Str} (h1 : leS a b) (h2 : leS b c) : leS a c := List.le_trans (show a.cps.toList ≤ b.cps.toList from h1) (show b.cps.toList ≤ c.cps.toList from h2)
theorem perm_eq {α : Type} {R : α → α → Prop} (anti : ∀ a b, R a b → R b a → a = b) : ∀ {l1 l2 : List α}, l1.Perm l2 → l1.Pairwise R → l2.Pairwise R → l1 = l2
  | [], l2, h, _, _ => (List.Perm.nil_eq h)
  | a :: l1, [], h, _, _ => by
    have := h.length_eq
    simp at this
  | a :: l1, b :: l2, h, p1, p2 => by
    obtain ⟨q1, q2⟩ := List.pairwise_cons.mp p1
    obtain ⟨r1, r2⟩ := List.pairwise_cons.mp p2
    have e : a = b := by
      have ha : a ∈ b :: l2 := h.mem_iff.mp (List.mem_cons_self ..)
      have hb : b ∈ a :: l1 := h.mem_iff.mpr (List.mem_cons_self ..)
      rcases List.mem_cons.mp ha with e | ha
      · exact e
      · rcases List.mem_cons.mp hb with e | hb
        · exact e.symm
        · exact anti _ _ (q1 b hb) (r1 a ha)
    subst e
    rw [perm_eq anti (List.Perm.cons_inv h) q2 r2]
theorem rising_le : ∀ {p : Str} {r : List Str}, risingS p r = true → (∀ x ∈ r, leS p x) ∧ r.Pairwise leS
  | p, [], _ => ⟨fun x h => absurd h List.not_mem_nil, .nil⟩
  | p, x :: r, h => by
    have h : (!ltCps x.cps.toList p.cps.toList && risingS x r) = true := h
    rw [Bool.and_eq_true] at h
    have hx : leS p x := by
      intro z
      have h1 := h.1
      rw [PyProof.Rows.ltCps_eq, decide_eq_true z] at h1
      cases h1
    obtain ⟨i1, i2⟩ := rising_le h.2
    refine ⟨fun y hy => ?_, List.pairwise_cons.mpr ⟨i1, i2⟩⟩
    rcases List.mem_cons.mp hy with rfl | hy
    · exact hx
    · exact leS_trans hx (i1 y hy)
theorem sortedS_pw : ∀ {ys : List Str}, sortedS ys = true → ys.Pairwise leS
  | [], _ => .nil
  | x :: r, h => List.pairwise_cons.mpr (rising_le h)
theorem o_srt {K : PySem.W.Frag} : OpN K (rSrt K) dSrt := fun κ M H xs ds w Q hM nr e q => by
  unfold dSrt at e
  split at e
  · obtain ⟨v, rfl, n⟩ := nra1 nr
    rename_i a0
    cases q3 : seqD a0.u with
    | none => rw [q3] at e; cases e
    | some ds =>
      rw [q3] at e
      dsimp only [Option.bind_some] at e
      have hd : a0.u = .lst ds ∨ a0.u = .tup ds := by
        unfold seqD at q3
        split at q3
        · cases q3; exact .inl (by assumption)
        · cases q3; exact .inr (by assumption)
        · cases q3
      have get : ∃ a xs, v = .ref a ∧ (SqL K H a xs ∨ SqT K H a xs) ∧ RepA M ⟨K, κ⟩ H xs ds := by
        rcases hd with hd | hd
        · obtain ⟨a, xs, rfl, s1, r1⟩ := nr_lst n hd
          exact ⟨a, xs, rfl, .inl (.inl (.inl s1)), r1⟩
        · obtain ⟨a, xs, rfl, s1, r1⟩ := nr_tup n hd
          exact ⟨a, xs, rfl, .inr s1, r1⟩
      obtain ⟨a, xs, rfl, s1, r1⟩ := get
      split at e
      · rename_i zs hz
        split at e
        · rename_i hl
          cases e
          rw [strs_of r1 hz] at s1
          have fin : ∀ (ys : List Str) (p : Addr), ys.Perm zs → sortedS ys = true → H p = none → Q (.ref p) (upd H p (.lst (ys.map V.str))) := fun ys p hp hs hn => by
            have ey : ys = sortS zs := perm_eq (fun _ _ => leS_antisymm) (hp.trans (sortS_perm zs).symm) (sortedS_pw hs) (sortS_sorted zs)
            rw [ey]
            exact q _ _ (Ex.new hn) (Nw.new hn (RepA.strs _))
          rcases s1 with s1 | s1
          · exact .inl (.inr ⟨a, zs, rfl, s1, hl, fin⟩)
          · exact .inr (.inr ⟨a, zs, rfl, s1, hl, fin⟩)
        · cases e
      · rename_i hz
        cases h2 : intsOf ds with
        | none => rw [h2] at e; cases e
        | some ns =>
          rw [h2] at e
          dsimp only [Option.bind_some] at e
          split at e
          · rename_i hl
            cases e
            rw [ints_of r1 h2] at s1
            have fin : ∀ (ns' : List Int) (p : Addr), ns'.Perm ns → ns'.Pairwise (· ≤ ·) → H p = none → Q (.ref p) (upd H p (.lst (ns'.map V.int))) := fun ns' p hp hs hn => by
              have ey : ns' = sortI ns := perm_eq (fun _ _ h1 h2 => Int.le_antisymm h1 h2) (hp.trans (List.mergeSort_perm ns _).symm) hs (by
                have := List.pairwise_mergeSort (le := fun a b : Int => decide (a ≤ b)) (fun a b c h1 h2 => by
                  simp only [decide_eq_true_eq] at *
                  omega) (fun a b => by
                  simp only [Bool.or_eq_true, decide_eq_true_eq]
                  omega) ns
                exact this.imp (fun h => of_decide_eq_true h))
              rw [ey]
              exact q _ _ (Ex.new hn) (Nw.new hn (RepA.ints _))
            rcases s1 with s1 | s1
            · exact .inl (.inl ⟨a, ns, rfl, s1, hl, fin⟩)
            · exact .inr (.inl ⟨a, ns, rfl, s1, hl, fin⟩)
          · cases e
  · cases e
def mJs : List (Mo W) → Str → Mo W
  | [], acc => fun ρ h => some (.ok (.cl (.str acc)) ρ h)
  | m :: ms, acc => fun ρ h => bindR (m ρ h) fun w ρ h => match (deref h w).map D.u with
    | some (.str y) => if (acc ++ y).length ≤ 100000 then mJs ms (acc ++ y) ρ h else none
    | _ => none
inductive SimEs (f : PySem.W.Frag) (WW : WX) : List TE → List (Mo W) → Prop
  | nil : SimEs f WW [] []
  | cons {t : TE} {ts : List TE} {m : Mo W} {ms : List (Mo W)} : SimE f WW t m → SimEs f WW ts ms → SimEs f WW (t :: ts) (m :: ms)
section
variable {f : PySem.W.Frag} {WW : WX} {F : Fm} {κ M : List Addr} {H H' : Hp} {σ : L2.St} {ρ ρ' : List Sl} {h : Tb} {st : List (V × W)} {tr : TA} {mr : Mo (List W)} {te ta tb : TE} {me ma mb : Mo W} {C : Str} {m : Fnm}
theorem sim_js : ∀ {ts : List TE} {ms : List (Mo W)}, SimEs f WW ts ms → ∀ (acc : Str), SimE f WW (fun σ H Q => tJs ts acc σ H fun out H1 => Q (.str out) H1) (mJs ms acc)
  | _, _, .nil, acc => fun F σ H ρ h st x Q E e p => by
    cases e
    exact p _ _ (E.pushC0 fun _ _ => .str _)
  | _, _, .cons (t := t) (ts := ts) (m := m) (ms := ms) hm r, acc => fun F σ H ρ h st x Q E e p => by
    have e : (bindR (m ρ h) fun w ρ h => match (deref h w).map D.u with
      | some (.str y) => if (acc ++ y).length ≤ 100000 then mJs ms (acc ++ y) ρ h else none
      | _ => none) = some x := e
    show t σ H _
    rcases bindR_some e with ⟨w1, ρ1, h1, e1, e⟩ | ⟨C', fs, ρ1, h1, e1, rfl⟩
    · refine hm F σ H ρ h st _ _ E e1 fun v1 H1 ⟨κ, E1⟩ => ?_
      cases q1 : deref h1 w1 with
      | none => rw [q1] at e; cases e
      | some d1 =>
        rw [q1] at e
        dsimp only [Option.map_some] at e
        split at e
        · rename_i z hz
          split at e
          · rename_i hl
            refine ⟨z, nr_str (E1.near (List.mem_cons_self ..) q1) (Option.some.inj hz), sz_le hl, ?_⟩
            exact sim_js r (acc ++ z) F σ H1 ρ1 h1 st x Q ⟨κ, E1.pop⟩ e p
          · cases e
        · cases e
    · exact hm F σ H ρ h st _ _ E e1 p
def chkS : R W → Bool
  | .ok (.cl (.str _)) _ _ => true
  | _ => false
def chkN : R W → Bool
  | .ok (.cl (.int i)) _ _ => decide (0 ≤ i ∧ i < 1000000)
  | _ => false
def chkB : R W → Bool
  | .ok (.cl (.bl _)) _ _ => true
  | _ => false
def callC (chk : R W → Bool) (C : Str) (m : Fnm) (ws : List W) (ρ : List Sl) (h : Tb) : Option (R W) := match ws with
  | w :: _ => (deref h w).bind fun d => (insOf C d.u).bind fun _ => (callT m (ws.map fzW) ρ h).bind fun r => if chk r = true then some r else none
  | [] => none
def mStrO (C : Str) (m : Fnm) (a : Mo (List W)) : Mo W := fun ρ h => bindR (a ρ h) fun ws ρ h => match ws with
  | [w] => callC chkS C m [w] ρ h
  | _ => none
def mLenO (C : Str) (m : Fnm) (a : Mo (List W)) : Mo W := fun ρ h => bindR (a ρ h) fun ws ρ h => match ws with
  | [w] => callC chkN C m [w] ρ h
  | _ => none
theorem callC_ok {chk : R W → Bool} {ws : List W} {vs : List V} {r : R W} (E : EnvK f κ F σ H ρ h (vs.zip ws ++ st)) (hl : vs.length = ws.length) (e : callC chk C m ws ρ h = some r) :
    (∃ a dx fs, vs.head? = some (V.ref a) ∧ H a = some (.ins (He.ga f C) dx fs)) ∧ chk r = true ∧ callT m (ws.map fzW) ρ h = some r := by
  unfold callC at e
  split at e
  · rename_i w ws'
    match vs, hl, E with
    | v :: vs', hl, E =>
      cases h1 : deref h w with
      | none => rw [h1] at e; cases e
      | some d =>
        rw [h1] at e
        dsimp only [Option.bind_some] at e
        cases h2 : insOf C d.u with
        | none => rw [h2] at e; cases e
        | some fs =>
          rw [h2] at e
          dsimp only [Option.bind_some] at e
          obtain ⟨a, dx, gs, rfl, ea, _⟩ := nr_ins (E.near (v := v) (w := w) (List.mem_cons_self ..) h1) h2
          cases h3 : callT m (List.map fzW (w :: ws')) ρ h with
          | none => rw [h3] at e; cases e
          | some r' =>
            rw [h3] at e
            dsimp only [Option.bind_some] at e
            split at e
            · rename_i hc
              cases e
              exact ⟨⟨a, dx, gs, rfl, ea⟩, hc, rfl⟩
            · cases e
  · cases e
theorem EnvR.reps {v : V} {d : D} (E : EnvR f F σ H ρ h ((v, W.cl d) :: st)) : ∃ κ, Rep (av F κ ((v, W.cl d) :: st)) ⟨f, κ⟩ H v d := E.elim fun κ E => ⟨κ, E.rep (List.mem_cons_self ..)⟩
theorem sim_strO (ha : SimA f WW tr mr) : SimE f WW (tCB (rStrO (He.ga f C) (spM f m) E0) tr) (mStrO C m mr) := fun F σ H ρ h st x Q E e p => by
  rcases bindR_some e with ⟨ws, ρ1, h1, e1, e⟩ | ⟨C', fs, ρ1, h1, e1, rfl⟩
  · refine ha F σ H ρ h st _ _ E e1 fun vs H1 hl E1 => ?_
    split at e
    · rename_i w
      match vs, hl, E1 with
      | [v], hl, ⟨κ, E1⟩ =>
        obtain ⟨⟨a, dx, fs, hv, ea⟩, hc, hcall⟩ := callC_ok E1 hl e
        cases hv
        refine ⟨a, dx, fs, rfl, ea, EnvK.callT (vs := [V.ref a]) (ds := [w].map fzW) (E1.fzs rfl) rfl hcall fun w ρ' h' hr v H' E' => ?_⟩
        subst hr
        have hcl : ∃ y, w = .cl (.str y) := by
          cases w with
          | cl d => cases d <;> first | exact ⟨_, rfl⟩ | cases hc
          | _ => cases hc
        obtain ⟨y, rfl⟩ := hcl
        obtain ⟨_, r⟩ := E'.reps
        exact ⟨y, rep_str r, p v H' E'⟩
    · cases e
  · exact ha F σ H ρ h st _ _ E e1 p
theorem sim_lenO (ha : SimA f WW tr mr) : SimE f WW (tCB (rLenO (He.ga f C) (spM f m) E0) tr) (mLenO C m mr) := fun F σ H ρ h st x Q E e p => by
  rcases bindR_some e with ⟨ws, ρ1, h1, e1, e⟩ | ⟨C', fs, ρ1, h1, e1, rfl⟩
  · refine ha F σ H ρ h st _ _ E e1 fun vs H1 hl E1 => ?_
    split at e
    · rename_i w
      match vs, hl, E1 with
      | [v], hl, ⟨κ, E1⟩ =>
        obtain ⟨⟨a, dx, fs, hv, ea⟩, hc, hcall⟩ := callC_ok E1 hl e
        cases hv
        refine ⟨a, dx, fs, rfl, ea, EnvK.callT (vs := [V.ref a]) (ds := [w].map fzW) (E1.fzs rfl) rfl hcall fun w ρ' h' hr v H' E' => ?_⟩
        subst hr
        have hcl : ∃ i, w = .cl (.int i) ∧ 0 ≤ i ∧ i < 1000000 := by
          cases w with
          | cl d => cases d <;> first | exact ⟨_, rfl, of_decide_eq_true hc⟩ | cases hc
          | _ => cases hc
        obtain ⟨i, rfl, h0, h1⟩ := hcl
        obtain ⟨_, r⟩ := E'.reps
        exact ⟨i, rep_int r, h0, by omega, p v H' E'⟩
    · cases e
  · exact ha F σ H ρ h st _ _ E e1 p
/-- own == anything of the kinds ks -/
def mEqO (C : Str) (ks : List Kd) (m : Fnm) (a b : Mo W) : Mo W := fun ρ h => bindR (a ρ h) fun x ρ h => bindR (b ρ h) fun y ρ h => (deref h y).bind fun dy => (kd dy.u).bind fun k => if decide (k ∈ ks) = true then callC chkB C m [x, y] ρ h else none
def mNeO (C : Str) (ks : List Kd) (m : Fnm) (a b : Mo W) : Mo W := fun ρ h => bindR (mEqO C ks m a b ρ h) fun w ρ h => match w with
  | .cl (.bl b) => some (.ok (.cl (.bl (!b))) ρ h)
  | _ => none
structure EqKs (K : PySem.W.Frag) (C : Str) (ks : List Kd) : Prop where
  ok : ∀ k ∈ ks, KdOk K k ∧ PySem.W.notFirst K (He.ga K C) (kdV K k) = true
theorem eqO_core {ks : List Kd} (hk : EqKs f C ks) (ha : SimE f WW ta ma) (hb : SimE f WW tb mb) (F : Fm) (σ : L2.St) (H : Hp) (ρ : List Sl) (h : Tb) (st : List (V × W)) (r : R W) (Q : VK) (G : V → V → Hp → Prop)
    (hG : ∀ x y H (a dx : Addr) (fs : List (Str × V)) (t : Value), x = .ref a → H a = some (.ins (He.ga f C) dx fs) → TyY f H y t → PySem.W.notFirst f (He.ga f C) t = true → spM f m [x, y] H (fun z H' => ∃ b, z = .bl b ∧ Q z H') E0 → G x y H)
    (E : EnvR f F σ H ρ h st) (e : mEqO C ks m ma mb ρ h = some r) (p : PostE f F WW σ st Q r) : ta σ H fun x H1 => tb σ H1 fun y H2 => G x y H2 := by
  rcases bindR_some e with ⟨w1, ρ1, h1, e1, e⟩ | ⟨C', fs, ρ1, h1, e1, rfl⟩
  · refine ha F σ H ρ h st _ _ E e1 fun v1 H1 E1 => ?_
    rcases bindR_some e with ⟨w2, ρ2, h2, e2, e⟩ | ⟨C', fs, ρ2, h2, e2, rfl⟩
    · refine hb F σ H1 ρ1 h1 _ _ _ E1 e2 fun v2 H2 ⟨κ, E2⟩ => ?_
      cases q1 : deref h2 w2 with
      | none => rw [q1] at e; cases e
      | some d2 =>
        rw [q1] at e
        dsimp only [Option.bind_some] at e
        cases q2 : kd d2.u with
        | none => rw [q2] at e; cases e
        | some k =>
          rw [q2] at e
          dsimp only [Option.bind_some] at e
          split at e
          · rename_i hm
            obtain ⟨o1, o2⟩ := hk.ok k (of_decide_eq_true hm)
            have E3 : EnvK f κ F σ H2 ρ2 h2 ([v1, v2].zip [w1, w2] ++ st) := E2.perm (List.Perm.swap _ _ _)
            obtain ⟨⟨a, dx, fs, hv, ea⟩, hc, hcall⟩ := callC_ok E3 rfl e
            cases hv
            refine hG _ _ _ a dx fs _ rfl ea (ty_of (K := ⟨f, κ⟩) (E2.near (List.mem_cons_self ..) q1) q2 o1) o2 (EnvK.callT (vs := [V.ref a, v2]) (ds := [w1, w2].map fzW) (E3.fzs rfl) rfl hcall fun w ρ' h' hr v H' E' => ?_)
            subst hr
            have hcl : ∃ y, w = .cl (.bl y) := by
              cases w with
              | cl d => cases d <;> first | exact ⟨_, rfl⟩ | cases hc
              | _ => cases hc
            obtain ⟨y, rfl⟩ := hcl
            obtain ⟨_, r⟩ := E'.reps
            exact ⟨y, rep_bl r, p v H' E'⟩
          · cases e
    · exact hb F σ H1 ρ1 h1 _ _ _ E1 e2 (ExR.up p)
  · exact ha F σ H ρ h st _ _ E e1 p
theorem sim_eqO {ks : List Kd} (hk : EqKs f C ks) (ha : SimE f WW ta ma) (hb : SimE f WW tb mb) : SimE f WW (tOp (rEqO f (He.ga f C) (spM f m) E0) ta tb) (mEqO C ks m ma mb) := fun F σ H ρ h st x Q E e p =>
  eqO_core hk ha hb F σ H ρ h st x Q _ (fun x y H a dx fs t h1 h2 h3 h4 h5 => ⟨a, dx, fs, t, h1, h2, h3, h4, h5⟩) E e p
theorem sim_neO {ks : List Kd} (hk : EqKs f C ks) (ha : SimE f WW ta ma) (hb : SimE f WW tb mb) : SimE f WW (tOp (rNeO f (He.ga f C) (spM f m) E0) ta tb) (mNeO C ks m ma mb) := fun F σ H ρ h st x Q E e p => by
  have hG : ∀ x y H (a dx : Addr) (fs : List (Str × V)) (t : Value), x = .ref a → H a = some (.ins (He.ga f C) dx fs) → TyY f H y t → PySem.W.notFirst f (He.ga f C) t = true → spM f m [x, y] H (fun z H' => ∃ b, z = .bl b ∧ ∃ b', z = .bl b' ∧ Q (.bl (!b')) H') E0 → rNeO f (He.ga f C) (spM f m) E0 x y H Q := fun x y H a dx fs t h1 h2 h3 h4 h5 => by
    refine ⟨a, dx, fs, t, h1, h2, h3, h4, ?_⟩
    obtain ⟨κ, A, ds, h, r, s1, s3, s4⟩ := h5
    refine ⟨κ, A, ds, h, r, s1, s3, ?_⟩
    cases r with
    | rt w h' =>
      intro v H' E'
      obtain ⟨b, rfl, b', hb', q⟩ := s4 v H' E'
      cases hb'
      exact ⟨b, rfl, q⟩
    | ex C fs h' => exact s4
  rcases bindR_some e with ⟨w1, ρ1, h1, e1, e⟩ | ⟨C', fs, ρ1, h1, e1, rfl⟩
  · refine eqO_core hk ha hb F σ H ρ h st _ (fun z H' => ∃ b, z = .bl b ∧ Q (.bl (!b)) H') (rNeO f (He.ga f C) (spM f m) E0 · · · Q) hG E e1 fun v H1 E1 => ?_
    split at e
    · rename_i b
      cases e
      obtain ⟨_, r⟩ := E1.reps
      cases rep_bl r
      exact ⟨b, rfl, p _ _ (E1.pop.pushC0 fun _ _ => .bl _)⟩
    · cases e
  · exact eqO_core hk ha hb F σ H ρ h st _ (fun z H' => ∃ b, z = .bl b ∧ Q (.bl (!b)) H') (rNeO f (He.ga f C) (spM f m) E0 · · · Q) hG E e1 p
end
def dAddI (a b : D) : Option W := match a.u, b.u with
  | .int i, .int j => some (.cl (.int (i + j)))
  | _, _ => none
structure DA where
  ad : PySem.W.Frag → Addr
  d : He.DefD
def fnA (K : PySem.W.Frag) (a : Addr) : He.FnW := match K.lookup a with
  | some ⟨_, _, .func fd, _⟩ => some (fd.name, fd.qualname, fd.params, fd.body, fd.scope, fd.globals, fd.closure, fd.builtins)
  | _ => none
def okA (K : PySem.W.Frag) (a : Addr) (d : He.DefD) : Bool := PySem.W.keepIn K (.ref a) && (match K.lookup a with
  | some ⟨_, _, .func fd, _⟩ => PySem.W.codeIn K fd.code d.qual && (He.dflB K fd.defaults (d.dvs K) && He.kwdB K fd.kwdefaults (d.kws K))
  | _ => false)
theorem funA {K : PySem.W.Frag} {d : He.DefD} {a : Addr} (e : fnA K a = d.val) (c : okA K a d = true) : ∃ fd, FunD K d.name d.qual d.params d.body d.scope (d.dvs K) (d.kws K) a fd := by
  obtain ⟨kp, c⟩ := He.ba c
  unfold fnA at e
  rcases q : K.lookup a with _ | ⟨oc, od, dt, osl⟩ <;> rw [q] at c e
  · cases c
  · cases dt
    case func fd =>
      rcases fd with ⟨a1, a2, a3, a4, a5, a6, a7, a8, a9, a10, a11, a12, a13, a14, a15⟩
      cases (show (some (a1, a2, a3, a4, a5, a6, a7, a15) : He.FnW) = some (d.name, d.qual, d.params, .stmts d.body, d.scope, mainGlobals, [], builtinsNs) from e)
      obtain ⟨code, c⟩ := He.ba c
      obtain ⟨dfl, kwd⟩ := He.ba c
      exact ⟨_, ⟨oc, od, a8, a9, a10, a11, a12, a13, a14, osl, rfl, q, code, He.dflB_ok dfl, He.kwdB_ok kwd⟩, kp⟩
    all_goals cases c
abbrev AlA : Type := Bool × List He.FnW
def obsA (ok : Looks) (fn : List DA) (K : PySem.W.Frag) : AlA := ((ok.all fun f => f K) && fn.all fun d => okA K (d.ad K) d.d, fn.map fun d => fnA K (d.ad K))
def valA (fn : List DA) : AlA := (true, fn.map fun d => d.d.val)
def SaysA (ok : Looks) (fn : List DA) (K : PySem.W.Frag) : Prop := obsA ok fn K = valA fn
def obsAG (n : Nat) (ok : Looks) (fn : List DA) (g : Addr → Option Obj) : AlA := obsA ok fn (He.frG g (cStatics :: He.asD g n))
def hookA (n : Nat) (ok : Looks) (fn : List DA) : PySem.W.Hook where
  α := AlA
  obs s := obsAG n ok fn s.heap.get?
  val _ := valA fn
  says _ h := ∃ K : PySem.W.Frag, K.In h ∧ SaysA ok fn K
  of _ _ e := ⟨_, He.frG_in, e⟩
  keeps _ _ _ := fun ⟨K, hK, c⟩ k => ⟨K, PySem.W.Frag.In.keeps hK k, c⟩
theorem obsAG_eq {n : Nat} {ok : Looks} {fn : List DA} {g : Addr → Option Obj} {s : Shared} (h : ∀ a, g a = s.heap.get? a) : obsAG n ok fn g = (hookA n ok fn).obs s := by
  rw [show g = s.heap.get? from funext h]
  rfl
section
variable {ok : Looks} {fn : List DA} {K : PySem.W.Frag}
theorem SaysA.look (c : SaysA ok fn K) (i : Nat) {f : PySem.W.Frag → Bool} (h : ok[i]? = some f := by rfl) : f K = true := by
  have c1 : ((ok.all fun f => f K) && fn.all fun d => okA K (d.ad K) d.d) = true := congrArg Prod.fst c
  exact List.all_eq_true.mp (Bool.and_eq_true_iff.mp c1).1 f (List.mem_of_getElem? h)
theorem SaysA.defn (c : SaysA ok fn K) (i : Nat) {d : DA} (h : fn[i]? = some d := by rfl) : ∃ fd, FunD K d.d.name d.d.qual d.d.params d.d.body d.d.scope (d.d.dvs K) (d.d.kws K) (d.ad K) fd := by
  have c1 : ((ok.all fun f => f K) && fn.all fun d => okA K (d.ad K) d.d) = true := congrArg Prod.fst c
  have c2 : (fn.map fun d => fnA K (d.ad K)) = fn.map fun d => d.d.val := congrArg Prod.snd c
  have c3 : (fn.map fun d => fnA K (d.ad K))[i]? = (fn.map fun d => d.d.val)[i]? := congrArg (fun l => l[i]?) c2
  rw [List.getElem?_map, List.getElem?_map, h] at c3
  exact funA (Option.some.inj c3) (List.all_eq_true.mp (Bool.and_eq_true_iff.mp c1).2 d (List.mem_of_getElem? h))
end
/-- a special method of an own class -/
def specB (K : PySem.W.Frag) (C m : Str) : Bool := decide (PySem.W.findIn K (.ref (He.ga K C)) m = some (some (.ref (He.ma K (He.ga K C) m)))) && PySem.W.isFn K (.ref (He.ma K (He.ga K C) m))
theorem specB_ok {K : PySem.W.Frag} {C m : Str} (h : specB K C m = true) : PySem.W.findIn K (.ref (He.ga K C)) m = some (some (.ref (He.ma K (He.ga K C) m))) ∧ PySem.W.isFn K (.ref (He.ma K (He.ga K C) m)) = true := by
  simpa only [specB, Bool.and_eq_true, decide_eq_true_eq] using h
def kdOkB (K : PySem.W.Frag) : Kd → Bool
  | .b _ => true
  | .own C => ownB K C
  | .exc C => isiB K (He.ga K C)
  | .fn => false
theorem kdOkB_ok {K : PySem.W.Frag} : ∀ {k : Kd}, kdOkB K k = true → KdOk K k
  | .b _, _ => trivial
  | .own _, h => ownB_ok h
  | .exc _, h => h
def eqKsB (K : PySem.W.Frag) (C : Str) (ks : List Kd) : Bool := ks.all fun k => kdOkB K k && PySem.W.notFirst K (He.ga K C) (kdV K k)
theorem eqKsB_ok {K : PySem.W.Frag} {C : Str} {ks : List Kd} (h : eqKsB K C ks = true) : EqKs K C ks := ⟨fun k hk => by
  have := List.all_eq_true.mp h k hk
  rw [Bool.and_eq_true] at this
  exact ⟨kdOkB_ok this.1, this.2⟩⟩
/-- isinstance by a table of kinds -/
def tabB (K : PySem.W.Frag) (c : Cd) (tab : List (Kd × Bool)) : Bool := tab.all fun p => kdOkB K p.1 && decide (PySem.W.kitOne K (kdV K p.1) (cdV K c) = some p.2)
theorem tabB_ok {K : PySem.W.Frag} {c : Cd} : ∀ {tab : List (Kd × Bool)}, tabB K c tab = true → Tab K (fun t => PySem.W.kitOne K t (cdV K c)) tab
  | [], _ => .nil
  | (k, b) :: r, h => by
    unfold tabB at h
    rw [List.all_cons, Bool.and_eq_true, Bool.and_eq_true] at h
    exact .cons (kdOkB_ok h.1.1) (of_decide_eq_true h.1.2) (tabB_ok h.2)
def tabBT (K : PySem.W.Frag) (cs : List Cd) (tab : List (Kd × Bool)) : Bool := tab.all fun p => kdOkB K p.1 && decide (PySem.W.kitAny K (kdV K p.1) (cs.map (cdV K)) = some p.2)
theorem tabBT_ok {K : PySem.W.Frag} {cs : List Cd} : ∀ {tab : List (Kd × Bool)}, tabBT K cs tab = true → Tab K (fun t => PySem.W.kitAny K t (cs.map (cdV K))) tab
  | [], _ => .nil
  | (k, b) :: r, h => by
    unfold tabBT at h
    rw [List.all_cons, Bool.and_eq_true, Bool.and_eq_true] at h
    exact .cons (kdOkB_ok h.1.1) (of_decide_eq_true h.1.2) (tabBT_ok h.2)
theorem raw0 {P : Program} {w : World} {K : PySem.W.Frag} {mg : Str → Option Value} {base : Heap} {CX : CXT} {k : Nat} {f : Addr} {fd : FuncData} {ps : List Str} {sp : Sp} (F : FnOk P w K mg base CX k f fd ps sp) (hb : Binds K fd ps []) : FnR P w K mg base CX k f sp := by
  have h := F.raw hb .nil
  have e : (fun (vs : List V) (H : Hp) (Q : VK) (E : XK) => sp (vs ++ []) H Q E) = sp := by
    funext vs H Q E
    rw [List.append_nil]
  rw [e] at h
  exact h
open PySem.Calls PyProof in
theorem law_sp {f : PySem.W.Frag} {m : Fnm} {ns : List Int} {o : Tb} (hm : m [.scr ns] [] = some (.rt (.cl (.bl true)) o)) {H : Hp} {a : Addr} (hS : SqL f H a (ns.map V.int)) :
    spM f m [.ref a] H (fun v _ => v = .bl true) fun _ _ _ => False := by
  refine ⟨[], [], [.scr ns], [], _, ⟨⟨fun a h => absurd h List.not_mem_nil, fun a h => absurd h List.not_mem_nil⟩, rfl, rfl, ⟨[], rfl, fun _ z => absurd z List.not_mem_nil⟩, Ex.refl, fun _ z => z, .nil, fun i x s h1 h2 => ?_, fun n p c h1 _ => by simp at h1, fun x hx => by cases hx⟩, hm, ?_⟩
  · match i with
    | 0 =>
      cases h1
      cases h2
      refine .cl (.scr ?_)
      exact hS.imp (fun z => ⟨z, fun q => nomatch q⟩) id
    | i + 1 => simp at h1
  · intro v H' ⟨κ', E'⟩
    exact rep_bl (E'.rep (List.mem_cons_self ..))
open PySem.Calls PyProof
section
variable {K : PySem.W.Frag} {x qual : Str} {params : Arguments} {body : List Stmt} {scope : Scope} {dvs : List V} {kws : List (Str × V)} {f : Addr} {fd : FuncData} {ps : List Str}
/-- all is written, though defaults stand -/
theorem binds_all (F : FunD K x qual params body scope dvs kws f fd) (hd : dvs ≠ [])
    (h : ∀ (T : Addr) (kV doc pm : Value) (an : Option Addr) (cdv ct : Value) (us its : List Value), us.length = ps.length → its.length = dvs.length →
      ∃ k, bindArgs (PySem.W.fnOf x qual params body scope (.ref T) kV doc pm an cdv ct) ⟨us, []⟩ = seqItems? (.ref T) >>= k ∧ k (some its.toArray) = pure (ps.zip us)) : Binds K fd ps [] := by
  obtain ⟨ds, hv, hb⟩ := FunD.binds1 (ps := ps) F ps.length dvs.length hd (by rw [Nat.sub_self]; rfl) (fun T kV doc pm an cdv ct us its h1 h2 => by
    obtain ⟨k, e1, e2⟩ := h T kV doc pm an cdv ct us its h1 h2
    refine ⟨k, e1, ?_⟩
    rw [e2, ← h2, List.drop_length, List.append_nil])
  rw [List.drop_length] at hv
  cases hv
  exact hb
/-- what lacks is filled up -/
theorem binds_fill (F : FunD K x qual params body scope dvs kws f fd) (n j : Nat) (hd : dvs ≠ []) (hn : n + (dvs.length - j) = ps.length) {dd : List V} (hq : dvs.drop j = dd)
    (h : ∀ (T : Addr) (kV doc pm : Value) (an : Option Addr) (cdv ct : Value) (us its : List Value), us.length = n → its.length = dvs.length →
      ∃ k, bindArgs (PySem.W.fnOf x qual params body scope (.ref T) kV doc pm an cdv ct) ⟨us, []⟩ = seqItems? (.ref T) >>= k ∧ k (some its.toArray) = pure (ps.zip (us ++ its.drop j))) : ∃ ds, Vals dd ds ∧ Binds K fd ps ds := by
  obtain ⟨ds, hv, hb⟩ := FunD.binds1 (ps := ps) F n j hd hn h
  exact ⟨ds, hq ▸ hv, hb⟩
end
end CM
namespace CM
open PySem PySem.Spec PyProof.Rows L2 SL
/-- the bases of the package's exceptions -/
def missing : List Str := ["UnknownColumn", "UnknownShape", "UnknownRow", "UnknownOrder", "UnknownMoment", "UnknownName"]
def state : List Str := ["ShapeWanted", "RowPresent", "NotServed", "NotPossible", "NameTaken", "NothingToUndo", "NothingToRedo", "NotLast", "NotFewest"]
def basesX (C : Str) : List Str := if C ∈ missing ∨ C = "MissingError" then ["MissingError"] else if C ∈ state ∨ C = "StateError" then ["StateError"] else ["SearchError"]
def basesT (C : Str) : List String := if C ∈ missing ∨ C = "MissingError" then ["KeyError", "LookupError"] else if C ∈ state ∨ C = "StateError" then ["LookupError"] else ["ValueError"]
def insK : Kd → Cd → Bool
  | .b T, .ty T' => decide (T = T') || (decide (T = "bool") && decide (T' = "int"))
  | .b _, .own _ => false
  | .own C, .own C' => decide (C = C')
  | .own _, .ty _ => false
  | .exc C, .own C' => decide (C = C') || decide (C' ∈ basesX C)
  | .exc C, .ty T => decide (T ∈ basesT C)
  | .fn, _ => false
def tabK (ks : List Kd) (c : Cd) : List (Kd × Bool) := ks.map fun k => (k, insK k c)
def tabKT (ks : List Kd) (cs : List Cd) : List (Kd × Bool) := ks.map fun k => (k, cs.any (insK k))
theorem look_map {g : Kd → Bool} {k : Kd} : ∀ {ks : List Kd}, k ∈ ks → lookK k (ks.map fun k => (k, g k)) = some (g k)
  | [], h => by cases h
  | k' :: ks, h => by
    show (if k' = k then some (g k') else lookK k (ks.map fun k => (k, g k))) = _
    by_cases e : k' = k
    · rw [if_pos e, e]
    · rw [if_neg e]
      rcases List.mem_cons.mp h with z | z
      · exact absurd z.symm e
      · exact look_map z
/-- a raise: never reached, or so -/
def sRaise (C : Str) (fs : List Str) (a : Mo (List W)) : MS := fun ρ h => bindS (a ρ h) fun ws ρ h => if ws.length = fs.length then some (.ex C (fs.zip (ws.map fzW)) ρ h) else none
def sRz (rz : Bool) (m : MS) : MS := if rz = true then m else sNever
theorem sim_rz0 {f : PySem.W.Frag} {WW : WX} {t : TS} {m : MS} : SimS f WW t (sRz false m) := fun F σ H ρ h st x D E e p => by cases e
section
variable {X : Cx}
/-- {x!r}: any data -/
theorem pe_fmtRU {e : Expr} {te : TE} {pos : Pos} (hg : X.A.guards = some []) (hu : X.A.units + 130 < cLine) (he : PE X e te) : PE X (.FormattedValue e 114 none pos) (tCB (SL.uRepr X.K) (tCons te tNil)) := by
  refine ⟨fun pins s σ H Q I h => ?_⟩
  refine wpAny_FormattedValue_repr (thn (he.run pins s σ H _ I h) fun v s1 hv => ?_)
  obtain ⟨x, H1, I1, r1, q⟩ := hv
  obtain ⟨v', d, e, hd, sh, q⟩ := q
  cases e
  obtain ⟨as, rd⟩ := Dp.reads I1 d x v hd r1
  have nd := dp_noDict hd
  cases hd with
  | non =>
    cases (show v = Value.none from r1)
    rw [PyData.shown_none] at q
    exact pyReprObj_none (wpAny_formatField_str ⟨.str _, H1, I1.tok _, ⟨_, rfl⟩, q⟩ ⟨.str _, H1, I1.tok _, ⟨_, rfl⟩, q⟩ (by decide +kernel))
  | bl b =>
    cases (show v = Value.bool b from r1)
    rw [PyData.shown_bool] at q
    refine pyReprObj_bool ?_
    cases b
    · exact wpAny_formatField_str ⟨.str _, H1, I1.tok _, ⟨_, rfl⟩, q⟩ ⟨.str _, H1, I1.tok _, ⟨_, rfl⟩, q⟩ (by decide +kernel)
    · exact wpAny_formatField_str ⟨.str _, H1, I1.tok _, ⟨_, rfl⟩, q⟩ ⟨.str _, H1, I1.tok _, ⟨_, rfl⟩, q⟩ (by decide +kernel)
  | int i =>
    obtain ⟨t, rfl⟩ := r1
    rw [PyData.shown_int] at q
    have z := sh.sh
    simp only [PyData.showable, decide_eq_true_eq] at z
    exact pyReprObj_int z (wpAny_formatField_str ⟨.str _, H1, I1.tok _, ⟨_, rfl⟩, q⟩ ⟨.str _, H1, I1.tok _, ⟨_, rfl⟩, q⟩ (int_text_fits z))
  | str y =>
    obtain ⟨t, rfl⟩ := r1
    have z := sh.fits
    rw [PyData.shown_str] at q z
    exact pyReprObj_str (wpAny_formatField_str ⟨.str _, H1, I1.tok _, ⟨_, rfl⟩, q⟩ ⟨.str _, H1, I1.tok _, ⟨_, rfl⟩, q⟩ z) z
  | lst _ _ =>
    cases (show v = Value.ref _ from r1)
    exact pyReprObj_of_reads rd sh.sh (PyData.noDict_hsm nd) hg (by have := sh.dp; omega) (fun _ _ e => e) (fun h' t tk k => wpAny_formatField_str ⟨.str _, H1, I1.kept k, ⟨_, rfl⟩, q⟩ ⟨.str _, H1, (I1.kept k).tok _, ⟨_, rfl⟩, q⟩ sh.fits) sh.fits
  | tup _ _ =>
    cases (show v = Value.ref _ from r1)
    exact pyReprObj_of_reads rd sh.sh (PyData.noDict_hsm nd) hg (by have := sh.dp; omega) (fun _ _ e => e) (fun h' t tk k => wpAny_formatField_str ⟨.str _, H1, I1.kept k, ⟨_, rfl⟩, q⟩ ⟨.str _, H1, (I1.kept k).tok _, ⟨_, rfl⟩, q⟩ sh.fits) sh.fits
end
/-- repr of an own instance, where no guard stands around -/
def FnRg (P : Program) (w : World) (K : PySem.W.Frag) (mg : Str → Option Value) (base : Heap) (CX : CXT) (k : Nat) (f : Addr) (sp : Sp) : Prop := ∀ (A : Around), A.guards = some [] → ∀ (outer : List Env) (s : Shared) (H : Hp) (us : List Value) (vs : List V) (Q : VK) (E : XK), Room k A → Env0 P w K mg base A outer s H → Vals vs us → sp vs H Q E → codeAny (model P w) A (.call (.ref f) ⟨us, []⟩) (CR CX outer P w H s Q E) s
theorem raw0G {P : Program} {w : World} {K : PySem.W.Frag} {mg : Str → Option Value} {base : Heap} {CX : CXT} {k : Nat} {f : Addr} {fd : FuncData} {ps : List Str} {sp : Sp} (F : SL.FnG P w K mg base CX k f fd ps sp) (hb : Binds K fd ps []) : FnRg P w K mg base CX k f sp := by
  intro A hg outer s H us vs Q E hr e0 r hs
  have hl : (us ++ []).length = ps.length := by
    rw [List.append_nil, ← r.length]
    exact F.len _ _ _ _ hs
  have h := hb s us (e0.mod.kin.keeps fun b o e => (e0.bs b o e).1) hl
  rw [List.append_nil] at h
  exact F.go A hg outer s H ⟨us, []⟩ us vs Q E hr e0 h r hs
section
variable {X : Cx} {CX : CXT} {C g : Addr} {n : Nat} {sp : Sp} {E : XK}
/-- the own def, run under no guard, answers as it promises -/
theorem own_saysG {pins : List (Addr × Obj)} {s : Shared} {σ : L2.St} {H : Hp} {A : Around} {us : List Value} {xs : List V} {P : VK} {Q : Value → Shared → Prop} (F : FnRg X.prog X.w X.K X.mg X.base CX n g sp) (none_ : A.guards = some []) (room : Room n A) (e0 : Env0 X.prog X.w X.K X.mg X.base A X.stack s H) (hx : Passes CX X E) (I : Inv X pins σ H s) (rs : Vals xs us) (q : sp xs H P E)
    (to : ∀ z H' u s', Inv X pins σ H' s' → RelV z u → P z H' → Q u s') : wpAny (model X.prog X.w) A (call (.ref g) us) Q X.xe s := by
  refine wpAny_call (codeAny_mono (F A none_ X.stack s H us xs P E room e0 rs q) ?_)
  rintro (e | _ | _ | _ | u) s' told
  case error => exact hx pins σ H s e s' I told
  case ok.ret =>
    obtain ⟨z, H', J, rz, p⟩ := I.after told
    exact to z H' u s' J rz p
  all_goals exact told.elim
theorem call_reprOG (hg : X.A.guards = some []) (hs : PySem.W.findIn X.K (.ref C) "__repr__" = some (some (.ref g))) (hf : PySem.W.isFn X.K (.ref g) = true) (F : FnRg X.prog X.w X.K X.mg X.base CX n g sp) (hr : Room (n + 1) X.A) (hx : Passes CX X E) : CallR X (.builtin "repr") (rReprO C sp E) := by
  rintro pins s σ H _ us Q I r ⟨a, dx, fs, rfl, hi, q⟩
  obtain rfl := only_ref r
  obtain ⟨ox, od, J⟩ := hi.at_ I
  refine PySem.W.repr_K (Room.in1 hr).units0 I.fr.choose_spec I.ok.mod.kin J hs hf (own_saysG (xs := [.ref a]) F hg (Room.in1 hr) I.env0.in1 hx I (.cons rfl .nil) q ?_)
  rintro _ H' u s' J' rz ⟨y, rfl, q'⟩
  obtain ⟨t, rfl⟩ := rz
  exact ⟨.str y, H', J', ⟨_, rfl⟩, q'⟩
end
section
variable {f : PySem.W.Frag} {WW : WX} {F : Fm} {κ M : List Addr} {H H' : Hp} {σ : L2.St} {ρ ρ' : List Sl} {h : Tb} {st : List (V × W)} {tr : TA} {mr : Mo (List W)} {te ta tb : TE} {me ma mb : Mo W} {C : Str} {m : Fnm}
theorem sim_reprO (ha : SimA f WW tr mr) : SimE f WW (tCB (rReprO (He.ga f C) (spM f m) E0) tr) (mStrO C m mr) := fun F σ H ρ h st x Q E e p => by
  rcases bindR_some e with ⟨ws, ρ1, h1, e1, e⟩ | ⟨C', fs, ρ1, h1, e1, rfl⟩
  · refine ha F σ H ρ h st _ _ E e1 fun vs H1 hl E1 => ?_
    split at e
    · rename_i w
      match vs, hl, E1 with
      | [v], hl, ⟨κ, E1⟩ =>
        obtain ⟨⟨a, dx, fs, hv, ea⟩, hc, hcall⟩ := callC_ok E1 hl e
        cases hv
        refine ⟨a, dx, fs, rfl, ea, EnvK.callT (vs := [V.ref a]) (ds := [w].map fzW) (E1.fzs rfl) rfl hcall fun w ρ' h' hr v H' E' => ?_⟩
        subst hr
        have hcl : ∃ y, w = .cl (.str y) := by
          cases w with
          | cl d => cases d <;> first | exact ⟨_, rfl⟩ | cases hc
          | _ => cases hc
        obtain ⟨y, rfl⟩ := hcl
        obtain ⟨_, r⟩ := E'.reps
        exact ⟨y, rep_str r, p v H' E'⟩
    · cases e
  · exact ha F σ H ρ h st _ _ E e1 p
def dRev (a : D) : Option W := match a.u with
  | .lst ds => some (.fr ds.reverse)
  | _ => none
theorem o_rev : Op1 f (fun x H Q => ∃ a xs, x = .ref a ∧ SqL f H a xs ∧ ∀ p, H p = none → Q (.ref p) (upd H p (.lst xs.reverse))) dRev := fun κ M H x dx w Q hM nx e q => by
  unfold dRev at e
  split at e
  · rename_i ds hd
    cases e
    obtain ⟨a, xs, rfl, sq, r⟩ := nr_lst nx hd
    exact ⟨a, xs, rfl, .inl (.inl sq), fun p hp => q _ _ (Ex.new hp) (Nw.new hp r.rev)⟩
  · cases e
theorem sim_rev (ha : SimE f WW ta ma) : SimE f WW (tRevL f ta) (mUn dRev ma) := sim_un o_rev ha
def mDNew : Mo W := fun ρ h => some (.ok (.nw (.dK [])) ρ h)
theorem sim_dnew : SimE f WW tDNewK mDNew := fun F σ H ρ h st x Q ⟨κ, E⟩ e p => by
  cases e
  exact fun q hq => p _ _ ⟨κ, E.pushN hq (Ex.new hq) (.dK (kvs := []) upd_same rfl .nil)⟩
end
end CM
namespace SL
open PySem PySem.Spec PyProof.Rows L2
end SL
namespace CM
open PySem PySem.Spec PyProof.Rows L2 SL
section
variable {f : PySem.W.Frag} {κ : List Addr} {F : Fm} {WW : WX} {M : List Addr} {K : Kx} {H H' : Hp} {σ : L2.St} {ρ ρ' : List Sl} {h h' : Tb} {st l : List (V × W)} {v : V} {w : W} {d : D} {tr : TA} {mr : Mo (List W)} {C n : Str} {i : Nat}
/-- an error's fields, held -/
abbrev held (vs : List (Str × V)) (fs : List (Str × D)) : List (V × W) := (vs.map (·.2)).zip ((fs.map (·.2)).map W.cl)
structure XEnv (f : PySem.W.Frag) (κ : List Addr) (F : Fm) (σ : L2.St) (H : Hp) (ρ : List Sl) (h : Tb) (st : List (V × W)) (i : Nat) (a dx : Addr) (vs : List (Str × V)) (fs : List (Str × D)) : Prop where
  env : EnvK f κ F σ H ρ h st
  at_ : σ[i]? = some (some (.ref a))
  dict : H dx = some (.xd vs) ∨ H dx = some (exd dx vs)
  nms : vs.map (·.1) = fs.map (·.1)
  mem : ∀ x ∈ held vs fs, x ∈ st
theorem XEnv.pushC {a dx : Addr} {vs : List (Str × V)} {fs : List (Str × D)} (X : XEnv f κ F σ H ρ h st i a dx vs fs) (r : Rep (av F κ st) ⟨f, κ⟩ H v d) : XEnv f κ F σ H ρ h ((v, .cl d) :: st) i a dx vs fs :=
  ⟨X.env.pushC r, X.at_, X.dict, X.nms, fun x hx => List.mem_cons_of_mem _ (X.mem x hx)⟩
end
end CM
namespace CM
open PySem PySem.Spec PyProof.Rows L2 SL
def scKvs : List (L2.Key × D) → Option (List (PyData × PyData))
  | [] => some []
  | (k, d) :: r => match d with
    | .non => (scKvs r).map ((pdKey k, .none) :: ·)
    | .bl b => (scKvs r).map ((pdKey k, .bool b) :: ·)
    | .int i => (scKvs r).map ((pdKey k, .int i) :: ·)
    | .str x => (scKvs r).map ((pdKey k, .str x) :: ·)
    | _ => none
def dReprX : List D → Option W
  | [a] => match a.u with
    | .dK kvs => (scKvs kvs).bind fun x => if showsB (.dict x) = true then some (.cl (.str (PyData.dict x).shown)) else none
    | _ => dRepr [a]
  | _ => none
def putKD (cs : List (L2.Key × D)) (k : L2.Key) (d : D) : List (L2.Key × D) := if (cs.any fun kv => decide (kv.1 = k)) = true then cs.map (fun kv => if kv.1 = k then (kv.1, d) else kv) else cs ++ [(k, d)]
end CM
namespace SL
open PySem PySem.Spec PyProof.Rows L2
theorem dict_declines {K : PySem.W.Frag} (a : Addr) (es : Array DictEntry) (n : Nat) (dd : Option Addr) (sl : Array (Option Value)) (l C dx : Addr) (e : PySem.W.subIn K (.ref C) (.type "dict") = some false) :
    Meets (Builtin.«dict.__eq__» ⟨[.ref a, .ref l], []⟩) (fun _ R s => s.heap.get? a = some { cls := .type "dict", dict := dd, data := .dict es n, slots := sl } ∧ K.In s.heap ∧ s.heap.get? l = some (PySem.W.instObj C dx) ∧ R (.ok (.ret .notImplemented)) s) :=
  .of_wp fun prog w A R s q => by
    obtain ⟨hp, g, d, tk, os⟩ := s
    obtain ⟨ha, X, hl, q⟩ := q
    wp_walk using wpAny_loadPart' ha, wpAny_load ha, wpAny_loadPart' hl, wpAny_load hl
    first
      | exact ⟨_, rfl, q⟩
      | (refine (PySem.W.looks_subIn X e).here ?_
         first
           | exact ⟨_, rfl, q⟩
           | (wp_walk using wpAny_loadPart' ha, wpAny_load ha, wpAny_loadPart' hl, wpAny_load hl
              exact ⟨_, rfl, q⟩))
section
variable {prog : Program} {w : World} {A : Around} {E : Value → Shared → Prop} {s : Shared} {K : PySem.W.Frag} {x C dx : Addr} {Q' : Option Value → Shared → Prop}
theorem dec_bool {b : Bool} (X : K.In s.heap) (hl : s.heap.get? x = some (PySem.W.instObj C dx)) (e : PySem.W.subIn K (.ref C) (.type "int") = some false) (q : Q' none s) : wpAny (model prog w) A (tryCompare (.bool b) "__eq__" (.ref x)) Q' E s :=
  wpAny_tryCompare_declines (T := "bool") (show s.TypeIs (.bool b) "bool" from rfl) F.slot_bool_eq (call_meets F.slot_bool_eq (show s.TypeIs (.bool b) "bool" from rfl) F.entry_int_eq (F.args_int_eq_2 _ _) (bool_declines b x C dx e) ⟨X, hl, rfl, q⟩)
theorem dec_dict {a : Addr} {es : Array DictEntry} {n : Nat} {dd : Option Addr} {sl : Array (Option Value)} (ha : s.heap.get? a = some { cls := .type "dict", dict := dd, data := .dict es n, slots := sl }) (X : K.In s.heap) (hl : s.heap.get? x = some (PySem.W.instObj C dx)) (e : PySem.W.subIn K (.ref C) (.type "dict") = some false) (q : Q' none s) : wpAny (model prog w) A (tryCompare (.ref a) "__eq__" (.ref x)) Q' E s :=
  wpAny_tryCompare_declines (T := "dict") ⟨_, ha, rfl⟩ F.slot_dict_eq (call_meets F.slot_dict_eq ⟨_, ha, rfl⟩ F.entry_dict_eq (F.args_dict_eq_2 _ _) (dict_declines a es n dd sl x C dx e) ⟨ha, X, hl, rfl, q⟩)
end
/-- a value of one of Python's own kinds -/
inductive Blt (K : PySem.W.Frag) (H : Hp) : V → String → Prop
  | non : Blt K H .non "NoneType"
  | bl (b : Bool) : Blt K H (.bl b) "bool"
  | int (i : Int) : Blt K H (.int i) "int"
  | str (z : Str) : Blt K H (.str z) "str"
  | lst {a : Addr} {xs : List V} (h : H a = some (.lst xs)) : Blt K H (.ref a) "list"
  | tup {a : Addr} {xs : List V} (h : H a = some (.tup xs)) : Blt K H (.ref a) "tuple"
  | dK {a : Addr} {kvs : List (L2.Key × V)} (h : H a = some (.dK kvs)) : Blt K H (.ref a) "dict"
def bltS : List String := ["NoneType", "bool", "int", "str", "list", "tuple", "dict"]
/-- the class is below none of Python's own kinds -/
def notBlt (K : PySem.W.Frag) (C : Addr) : Bool := bltS.all fun T => decide (PySem.W.subIn K (.ref C) (.type T) = some false)
theorem notBlt_ok {K : PySem.W.Frag} {C : Addr} (h : notBlt K C = true) {T : String} (ht : T ∈ bltS) : PySem.W.subIn K (.ref C) (.type T) = some false := of_decide_eq_true (List.all_eq_true.mp h T ht)
def rRevO (K : PySem.W.Frag) (C : Addr) (sp : Sp) (E : XK) : R2 := fun x y H Q => ∃ (a dx : Addr) (fs : List (Str × V)) (T : String), y = .ref a ∧ Ins H a C dx fs ∧ Blt K H x T ∧ sp [y, x] H (fun z H' => ∃ b, z = .bl b ∧ Q z H') E
theorem op_revO {X : Cx} {CX : CXT} {C g : Addr} {n : Nat} {sp : Sp} {E : XK} (nb : notBlt X.K C = true) (hs : PySem.W.findIn X.K (.ref C) "__eq__" = some (some (.ref g))) (hf : PySem.W.isFn X.K (.ref g) = true) (F : FnR X.prog X.w X.K X.mg X.base CX n g sp) (hr : Room n X.A) (hx : Passes CX X E) : OpR X (compareOp .Eq) (rRevO X.K C sp E) := by
  intro pins s σ H x y v u Q I rx ry h
  obtain ⟨a, dx, fs, T, rfl, hi, bt, q⟩ := h
  cases (show u = Value.ref a from ry)
  obtain ⟨mA, J, _⟩ := ins_get I.hok hi
  have hl : s.heap.get? a = some (PySem.W.instObj C dx) := J.1
  obtain ⟨od, J, _⟩ := J.look
  have back : wpAny (model X.prog X.w) X.A (call (.ref g) [.ref a, v]) (PySem.W.CmpBack fun w s' => EP X pins σ Q w s') X.xe s := by
    refine wpAny_mono (wpAny_call (run_fnR (us := [.ref a, v]) (vs := [.ref a, x]) F hr hx I (.cons rfl (.cons rx .nil)) q)) (fun w s' z => ?_) fun _ _ x => x
    obtain ⟨z', H', I', rz, b, eb, qz⟩ := z
    subst eb
    cases (show w = Value.bool b from rz)
    exact ⟨.bl b, H', I', rfl, qz⟩
  have go : ∀ {T : String}, T ∈ bltS → TyY X.K H x (.type T) → oneThing? .Eq v (.ref a) = none → (∀ Q' : Option Value → Shared → Prop, Q' none s → wpAny (model X.prog X.w) X.A (tryCompare v "__eq__" (.ref a)) Q' X.xe s) → wpAny (model X.prog X.w) X.A (richCompare .Eq v (.ref a)) (fun w s' => EP X pins σ Q w s') X.xe s := fun {T} ht ty ho dec => by
    obtain ⟨P, Z, p, _⟩ := kit_y I rx ty
    exact cmp_rev hr.units0 I.kIn J ho (Z.ty _ _ I.kIn p) rfl (notBlt_ok nb ht) hs hf dec back
  cases bt with
  | non =>
    cases (show v = Value.none from rx)
    exact go (by decide) (.base (.base .non)) rfl fun Q' q => dec_none q
  | bl b =>
    cases (show v = Value.bool b from rx)
    exact go (by decide) (.base (.base (.bl b))) rfl fun Q' q => dec_bool I.kIn hl (notBlt_ok nb (by decide)) q
  | int i =>
    obtain ⟨t, e⟩ := (show ∃ t, v = Value.int i t from rx)
    cases e
    exact go (by decide) (.base (.base (.int i))) rfl fun Q' q => dec_int I.kIn hl (notBlt_ok nb (by decide)) q
  | str z =>
    obtain ⟨t, e⟩ := (show ∃ t, v = Value.str z t from rx)
    cases e
    exact go (by decide) (.base (.base (.str z))) rfl fun Q' q => dec_str I.kIn hl (notBlt_ok nb (by decide)) q
  | lst h =>
    rename_i b xs
    cases (show v = Value.ref b from rx)
    obtain ⟨its, ⟨oc, od', odt, osl⟩, n, _, ho, hc, hd⟩ := sqL_at I.hok I.kIn (SqL.of h)
    dsimp only at hc hd
    subst hc hd
    have ne : b ≠ a := fun z => by
      rw [z, hl] at ho
      cases ho
    exact go (by decide) (.base (.base (.lst h))) (by simp [oneThing?, ne]) fun Q' q => dec_list ho I.kIn hl (notBlt_ok nb (by decide)) q
  | tup h =>
    rename_i b xs
    cases (show v = Value.ref b from rx)
    obtain ⟨its, ⟨oc, od', odt, osl⟩, n, _, ho, hc, hd⟩ := sqT_at I.hok I.kIn (SqT.of h)
    dsimp only at hc hd
    subst hc hd
    have ne : b ≠ a := fun z => by
      rw [z, hl] at ho
      cases ho
    exact go (by decide) (.base (.base (.tup h))) (by simp [oneThing?, ne]) fun Q' q => dec_tuple ho I.kIn hl (notBlt_ok nb (by decide)) q
  | dK h =>
    rename_i b kvs
    cases (show v = Value.ref b from rx)
    obtain ⟨_, _, vs, _, dd⟩ := dk_of I.hok h
    obtain ⟨⟨oc, od', odt, osl⟩, es, ep, ho, ex, hd, _⟩ := dd
    obtain ⟨hc, _⟩ := ex
    dsimp only at hc hd
    subst hc hd
    have ne : b ≠ a := fun z => by
      rw [z, hl] at ho
      cases ho
    exact go (by decide) (.base (.base (.dK h))) (by simp [oneThing?, ne]) fun Q' q => dec_dict ho I.kIn hl (notBlt_ok nb (by decide)) q
end SL
namespace K10
open PySem PySem.Spec PySem.Calls PyProof PyProof.Rows L2 SL CM
abbrev KS : List Kd := [.b "NoneType", .b "bool", .b "int", .b "str", .b "list", .b "tuple", .b "dict", .own "Shape", .own "Order", .own "Blocks"]
def top0 (i : Nat) : Stmt := PySem.Challenge.pw_searchorders_k10_orders_told.main.body.getD i (.Pass ⟨0, 0, 0, 0⟩)
abbrev s_is_name : Stmt := (top0 12)
def d_is_name : He.DefD := ⟨("is_name", none), "is_name", "is_name", defArgs s_is_name, defBody s_is_name, defScope s_is_name, [], []⟩
abbrev s_is_list : Stmt := (top0 13)
def d_is_list : He.DefD := ⟨("is_list", none), "is_list", "is_list", defArgs s_is_list, defBody s_is_list, defScope s_is_list, [], []⟩
abbrev s_split_words : Stmt := (top0 14)
def d_split_words : He.DefD := ⟨("split_words", none), "split_words", "split_words", defArgs s_split_words, defBody s_split_words, defScope s_split_words, [], [("separator", .str " ")]⟩
abbrev s_Shape_D_init_D : Stmt := (inClass (top0 18) 0)
def d_Shape_D_init_D : He.DefD := ⟨("Shape", some "__init__"), "__init__", "Shape.__init__", defArgs s_Shape_D_init_D, defBody s_Shape_D_init_D, defScope s_Shape_D_init_D, [.non], []⟩
abbrev s_Shape_D_eq_D : Stmt := (inClass (top0 18) 7)
def d_Shape_D_eq_D : He.DefD := ⟨("Shape", some "__eq__"), "__eq__", "Shape.__eq__", defArgs s_Shape_D_eq_D, defBody s_Shape_D_eq_D, defScope s_Shape_D_eq_D, [], []⟩
abbrev s_checked_columns : Stmt := (top0 21)
def d_checked_columns : He.DefD := ⟨("checked_columns", none), "checked_columns", "checked_columns", defArgs s_checked_columns, defBody s_checked_columns, defScope s_checked_columns, [], []⟩
abbrev s_Order_D_init_D : Stmt := (inClass (top0 22) 0)
def d_Order_D_init_D : He.DefD := ⟨("Order", some "__init__"), "__init__", "Order.__init__", defArgs s_Order_D_init_D, defBody s_Order_D_init_D, defScope s_Order_D_init_D, [], []⟩
abbrev s_Order_columns : Stmt := (inClass (top0 22) 1)
def d_Order_columns : He.DefD := ⟨("Order", some "columns"), "columns", "Order.columns", defArgs s_Order_columns, defBody s_Order_columns, defScope s_Order_columns, [], []⟩
abbrev s_Order_D_len_D : Stmt := (inClass (top0 22) 4)
def d_Order_D_len_D : He.DefD := ⟨("Order", some "__len__"), "__len__", "Order.__len__", defArgs s_Order_D_len_D, defBody s_Order_D_len_D, defScope s_Order_D_len_D, [], []⟩
abbrev s_Order_D_eq_D : Stmt := (inClass (top0 22) 5)
def d_Order_D_eq_D : He.DefD := ⟨("Order", some "__eq__"), "__eq__", "Order.__eq__", defArgs s_Order_D_eq_D, defBody s_Order_D_eq_D, defScope s_Order_D_eq_D, [], []⟩
abbrev s_Order_D_str_D : Stmt := (inClass (top0 22) 6)
def d_Order_D_str_D : He.DefD := ⟨("Order", some "__str__"), "__str__", "Order.__str__", defArgs s_Order_D_str_D, defBody s_Order_D_str_D, defScope s_Order_D_str_D, [], []⟩
abbrev s_Order_D_repr_D : Stmt := (inClass (top0 22) 7)
def d_Order_D_repr_D : He.DefD := ⟨("Order", some "__repr__"), "__repr__", "Order.__repr__", defArgs s_Order_D_repr_D, defBody s_Order_D_repr_D, defScope s_Order_D_repr_D, [], []⟩
abbrev s_parse_order : Stmt := (top0 23)
def d_parse_order : He.DefD := ⟨("parse_order", none), "parse_order", "parse_order", defArgs s_parse_order, defBody s_parse_order, defScope s_parse_order, [], []⟩
abbrev s_checked_parts : Stmt := (top0 24)
def d_checked_parts : He.DefD := ⟨("checked_parts", none), "checked_parts", "checked_parts", defArgs s_checked_parts, defBody s_checked_parts, defScope s_checked_parts, [], []⟩
abbrev s_Blocks_D_init_D : Stmt := (inClass (top0 25) 0)
def d_Blocks_D_init_D : He.DefD := ⟨("Blocks", some "__init__"), "__init__", "Blocks.__init__", defArgs s_Blocks_D_init_D, defBody s_Blocks_D_init_D, defScope s_Blocks_D_init_D, [], []⟩
abbrev s_Blocks_parts : Stmt := (inClass (top0 25) 1)
def d_Blocks_parts : He.DefD := ⟨("Blocks", some "parts"), "parts", "Blocks.parts", defArgs s_Blocks_parts, defBody s_Blocks_parts, defScope s_Blocks_parts, [], []⟩
abbrev s_Blocks_D_eq_D : Stmt := (inClass (top0 25) 9)
def d_Blocks_D_eq_D : He.DefD := ⟨("Blocks", some "__eq__"), "__eq__", "Blocks.__eq__", defArgs s_Blocks_D_eq_D, defBody s_Blocks_D_eq_D, defScope s_Blocks_D_eq_D, [], []⟩
abbrev s_l_law_cell : Stmt := (top0 27)
def d_l_law_cell : He.DefD := ⟨("_law_cell", none), "_law_cell", "_law_cell", defArgs s_l_law_cell, defBody s_l_law_cell, defScope s_l_law_cell, [], []⟩
abbrev s_l_law_box : Stmt := (top0 28)
def d_l_law_box : He.DefD := ⟨("_law_box", none), "_law_box", "_law_box", defArgs s_l_law_box, defBody s_l_law_box, defScope s_l_law_box, [], []⟩
abbrev s_l_law_take : Stmt := (top0 29)
def d_l_law_take : He.DefD := ⟨("_law_take", none), "_law_take", "_law_take", defArgs s_l_law_take, defBody s_l_law_take, defScope s_l_law_take, [], []⟩
abbrev s_l_law_mixed : Stmt := (top0 30)
def d_l_law_mixed : He.DefD := ⟨("_law_mixed", none), "_law_mixed", "_law_mixed", defArgs s_l_law_mixed, defBody s_l_law_mixed, defScope s_l_law_mixed, [], []⟩
abbrev s_l_law_columns : Stmt := (top0 31)
def d_l_law_columns : He.DefD := ⟨("_law_columns", none), "_law_columns", "_law_columns", defArgs s_l_law_columns, defBody s_l_law_columns, defScope s_l_law_columns, [], []⟩
abbrev s_l_law_told_right : Stmt := (top0 32)
def d_l_law_told_right : He.DefD := ⟨("_law_told_right", none), "_law_told_right", "_law_told_right", defArgs s_l_law_told_right, defBody s_l_law_told_right, defScope s_l_law_told_right, [], []⟩
abbrev s_l_law_others : Stmt := (top0 33)
def d_l_law_others : He.DefD := ⟨("_law_others", none), "_law_others", "_law_others", defArgs s_l_law_others, defBody s_l_law_others, defScope s_l_law_others, [], []⟩
abbrev s_law : Stmt := (top0 34)
def d_law : He.DefD := ⟨("law", none), "law", "law", defArgs s_law, defBody s_law, defScope s_law, [], []⟩
abbrev Fun_is_name (K : PySem.W.Frag) (fd : FuncData) : Prop := FunD K d_is_name.name d_is_name.qual d_is_name.params d_is_name.body d_is_name.scope (d_is_name.dvs K) (d_is_name.kws K) (He.fAd K d_is_name.at_) fd
theorem bind_is_name {K : PySem.W.Frag} {fd : FuncData} (F : Fun_is_name K fd) : Binds K fd ["value"] [] := FunD.bindsN F fun _ _ _ _ _ _ us hl => match us, hl with | [_], _ => rfl
abbrev Fun_is_list (K : PySem.W.Frag) (fd : FuncData) : Prop := FunD K d_is_list.name d_is_list.qual d_is_list.params d_is_list.body d_is_list.scope (d_is_list.dvs K) (d_is_list.kws K) (He.fAd K d_is_list.at_) fd
theorem bind_is_list {K : PySem.W.Frag} {fd : FuncData} (F : Fun_is_list K fd) : Binds K fd ["value"] [] := FunD.bindsN F fun _ _ _ _ _ _ us hl => match us, hl with | [_], _ => rfl
abbrev Fun_split_words (K : PySem.W.Frag) (fd : FuncData) : Prop := FunD K d_split_words.name d_split_words.qual d_split_words.params d_split_words.body d_split_words.scope (d_split_words.dvs K) (d_split_words.kws K) (He.fAd K d_split_words.at_) fd
abbrev Fun_Shape_D_init_D (K : PySem.W.Frag) (fd : FuncData) : Prop := FunD K d_Shape_D_init_D.name d_Shape_D_init_D.qual d_Shape_D_init_D.params d_Shape_D_init_D.body d_Shape_D_init_D.scope (d_Shape_D_init_D.dvs K) (d_Shape_D_init_D.kws K) (He.fAd K d_Shape_D_init_D.at_) fd
theorem bind_Shape_D_init_D {K : PySem.W.Frag} {fd : FuncData} (F : Fun_Shape_D_init_D K fd) : Binds K fd ["self", "fixed", "span"] [] := binds_all F (fun z => nomatch z) fun _ _ _ _ _ _ _ us its h1 h2 => match us, its, h1, h2 with | [x0, x1, x2], [y0], _, _ => ⟨_, rfl, rfl⟩
theorem bindD1_Shape_D_init_D {K : PySem.W.Frag} {fd : FuncData} (F : Fun_Shape_D_init_D K fd) : ∃ us, Vals [V.non] us ∧ Binds K fd ["self", "fixed", "span"] us := binds_fill F 2 0 (fun z => nomatch z) rfl rfl fun _ _ _ _ _ _ _ us its h1 h2 => match us, its, h1, h2 with | [x0, x1], [y0], _, _ => ⟨_, rfl, rfl⟩
abbrev Fun_Shape_D_eq_D (K : PySem.W.Frag) (fd : FuncData) : Prop := FunD K d_Shape_D_eq_D.name d_Shape_D_eq_D.qual d_Shape_D_eq_D.params d_Shape_D_eq_D.body d_Shape_D_eq_D.scope (d_Shape_D_eq_D.dvs K) (d_Shape_D_eq_D.kws K) (He.fAd K d_Shape_D_eq_D.at_) fd
theorem bind_Shape_D_eq_D {K : PySem.W.Frag} {fd : FuncData} (F : Fun_Shape_D_eq_D K fd) : Binds K fd ["self", "other"] [] := FunD.bindsN F fun _ _ _ _ _ _ us hl => match us, hl with | [_, _], _ => rfl
abbrev Fun_checked_columns (K : PySem.W.Frag) (fd : FuncData) : Prop := FunD K d_checked_columns.name d_checked_columns.qual d_checked_columns.params d_checked_columns.body d_checked_columns.scope (d_checked_columns.dvs K) (d_checked_columns.kws K) (He.fAd K d_checked_columns.at_) fd
theorem bind_checked_columns {K : PySem.W.Frag} {fd : FuncData} (F : Fun_checked_columns K fd) : Binds K fd ["columns"] [] := FunD.bindsN F fun _ _ _ _ _ _ us hl => match us, hl with | [_], _ => rfl
abbrev Fun_Order_D_init_D (K : PySem.W.Frag) (fd : FuncData) : Prop := FunD K d_Order_D_init_D.name d_Order_D_init_D.qual d_Order_D_init_D.params d_Order_D_init_D.body d_Order_D_init_D.scope (d_Order_D_init_D.dvs K) (d_Order_D_init_D.kws K) (He.fAd K d_Order_D_init_D.at_) fd
theorem bind_Order_D_init_D {K : PySem.W.Frag} {fd : FuncData} (F : Fun_Order_D_init_D K fd) : Binds K fd ["self", "columns"] [] := FunD.bindsN F fun _ _ _ _ _ _ us hl => match us, hl with | [_, _], _ => rfl
abbrev Fun_Order_columns (K : PySem.W.Frag) (fd : FuncData) : Prop := FunD K d_Order_columns.name d_Order_columns.qual d_Order_columns.params d_Order_columns.body d_Order_columns.scope (d_Order_columns.dvs K) (d_Order_columns.kws K) (He.fAd K d_Order_columns.at_) fd
theorem bind_Order_columns {K : PySem.W.Frag} {fd : FuncData} (F : Fun_Order_columns K fd) : Binds K fd ["self"] [] := FunD.bindsN F fun _ _ _ _ _ _ us hl => match us, hl with | [_], _ => rfl
abbrev Fun_Order_D_len_D (K : PySem.W.Frag) (fd : FuncData) : Prop := FunD K d_Order_D_len_D.name d_Order_D_len_D.qual d_Order_D_len_D.params d_Order_D_len_D.body d_Order_D_len_D.scope (d_Order_D_len_D.dvs K) (d_Order_D_len_D.kws K) (He.fAd K d_Order_D_len_D.at_) fd
theorem bind_Order_D_len_D {K : PySem.W.Frag} {fd : FuncData} (F : Fun_Order_D_len_D K fd) : Binds K fd ["self"] [] := FunD.bindsN F fun _ _ _ _ _ _ us hl => match us, hl with | [_], _ => rfl
abbrev Fun_Order_D_eq_D (K : PySem.W.Frag) (fd : FuncData) : Prop := FunD K d_Order_D_eq_D.name d_Order_D_eq_D.qual d_Order_D_eq_D.params d_Order_D_eq_D.body d_Order_D_eq_D.scope (d_Order_D_eq_D.dvs K) (d_Order_D_eq_D.kws K) (He.fAd K d_Order_D_eq_D.at_) fd
theorem bind_Order_D_eq_D {K : PySem.W.Frag} {fd : FuncData} (F : Fun_Order_D_eq_D K fd) : Binds K fd ["self", "other"] [] := FunD.bindsN F fun _ _ _ _ _ _ us hl => match us, hl with | [_, _], _ => rfl
abbrev Fun_Order_D_str_D (K : PySem.W.Frag) (fd : FuncData) : Prop := FunD K d_Order_D_str_D.name d_Order_D_str_D.qual d_Order_D_str_D.params d_Order_D_str_D.body d_Order_D_str_D.scope (d_Order_D_str_D.dvs K) (d_Order_D_str_D.kws K) (He.fAd K d_Order_D_str_D.at_) fd
theorem bind_Order_D_str_D {K : PySem.W.Frag} {fd : FuncData} (F : Fun_Order_D_str_D K fd) : Binds K fd ["self"] [] := FunD.bindsN F fun _ _ _ _ _ _ us hl => match us, hl with | [_], _ => rfl
abbrev Fun_Order_D_repr_D (K : PySem.W.Frag) (fd : FuncData) : Prop := FunD K d_Order_D_repr_D.name d_Order_D_repr_D.qual d_Order_D_repr_D.params d_Order_D_repr_D.body d_Order_D_repr_D.scope (d_Order_D_repr_D.dvs K) (d_Order_D_repr_D.kws K) (He.fAd K d_Order_D_repr_D.at_) fd
theorem bind_Order_D_repr_D {K : PySem.W.Frag} {fd : FuncData} (F : Fun_Order_D_repr_D K fd) : Binds K fd ["self"] [] := FunD.bindsN F fun _ _ _ _ _ _ us hl => match us, hl with | [_], _ => rfl
abbrev Fun_parse_order (K : PySem.W.Frag) (fd : FuncData) : Prop := FunD K d_parse_order.name d_parse_order.qual d_parse_order.params d_parse_order.body d_parse_order.scope (d_parse_order.dvs K) (d_parse_order.kws K) (He.fAd K d_parse_order.at_) fd
theorem bind_parse_order {K : PySem.W.Frag} {fd : FuncData} (F : Fun_parse_order K fd) : Binds K fd ["text"] [] := FunD.bindsN F fun _ _ _ _ _ _ us hl => match us, hl with | [_], _ => rfl
abbrev Fun_checked_parts (K : PySem.W.Frag) (fd : FuncData) : Prop := FunD K d_checked_parts.name d_checked_parts.qual d_checked_parts.params d_checked_parts.body d_checked_parts.scope (d_checked_parts.dvs K) (d_checked_parts.kws K) (He.fAd K d_checked_parts.at_) fd
theorem bind_checked_parts {K : PySem.W.Frag} {fd : FuncData} (F : Fun_checked_parts K fd) : Binds K fd ["parts"] [] := FunD.bindsN F fun _ _ _ _ _ _ us hl => match us, hl with | [_], _ => rfl
abbrev Fun_Blocks_D_init_D (K : PySem.W.Frag) (fd : FuncData) : Prop := FunD K d_Blocks_D_init_D.name d_Blocks_D_init_D.qual d_Blocks_D_init_D.params d_Blocks_D_init_D.body d_Blocks_D_init_D.scope (d_Blocks_D_init_D.dvs K) (d_Blocks_D_init_D.kws K) (He.fAd K d_Blocks_D_init_D.at_) fd
theorem bind_Blocks_D_init_D {K : PySem.W.Frag} {fd : FuncData} (F : Fun_Blocks_D_init_D K fd) : Binds K fd ["self", "parts"] [] := FunD.bindsN F fun _ _ _ _ _ _ us hl => match us, hl with | [_, _], _ => rfl
abbrev Fun_Blocks_parts (K : PySem.W.Frag) (fd : FuncData) : Prop := FunD K d_Blocks_parts.name d_Blocks_parts.qual d_Blocks_parts.params d_Blocks_parts.body d_Blocks_parts.scope (d_Blocks_parts.dvs K) (d_Blocks_parts.kws K) (He.fAd K d_Blocks_parts.at_) fd
theorem bind_Blocks_parts {K : PySem.W.Frag} {fd : FuncData} (F : Fun_Blocks_parts K fd) : Binds K fd ["self"] [] := FunD.bindsN F fun _ _ _ _ _ _ us hl => match us, hl with | [_], _ => rfl
abbrev Fun_Blocks_D_eq_D (K : PySem.W.Frag) (fd : FuncData) : Prop := FunD K d_Blocks_D_eq_D.name d_Blocks_D_eq_D.qual d_Blocks_D_eq_D.params d_Blocks_D_eq_D.body d_Blocks_D_eq_D.scope (d_Blocks_D_eq_D.dvs K) (d_Blocks_D_eq_D.kws K) (He.fAd K d_Blocks_D_eq_D.at_) fd
theorem bind_Blocks_D_eq_D {K : PySem.W.Frag} {fd : FuncData} (F : Fun_Blocks_D_eq_D K fd) : Binds K fd ["self", "other"] [] := FunD.bindsN F fun _ _ _ _ _ _ us hl => match us, hl with | [_, _], _ => rfl
abbrev Fun_l_law_cell (K : PySem.W.Frag) (fd : FuncData) : Prop := FunD K d_l_law_cell.name d_l_law_cell.qual d_l_law_cell.params d_l_law_cell.body d_l_law_cell.scope (d_l_law_cell.dvs K) (d_l_law_cell.kws K) (He.fAd K d_l_law_cell.at_) fd
theorem bind_l_law_cell {K : PySem.W.Frag} {fd : FuncData} (F : Fun_l_law_cell K fd) : Binds K fd ["_law_script", "_law_k"] [] := FunD.bindsN F fun _ _ _ _ _ _ us hl => match us, hl with | [_, _], _ => rfl
abbrev Fun_l_law_box (K : PySem.W.Frag) (fd : FuncData) : Prop := FunD K d_l_law_box.name d_l_law_box.qual d_l_law_box.params d_l_law_box.body d_l_law_box.scope (d_l_law_box.dvs K) (d_l_law_box.kws K) (He.fAd K d_l_law_box.at_) fd
theorem bind_l_law_box {K : PySem.W.Frag} {fd : FuncData} (F : Fun_l_law_box K fd) : Binds K fd ["_law_cell_here"] [] := FunD.bindsN F fun _ _ _ _ _ _ us hl => match us, hl with | [_], _ => rfl
abbrev Fun_l_law_take (K : PySem.W.Frag) (fd : FuncData) : Prop := FunD K d_l_law_take.name d_l_law_take.qual d_l_law_take.params d_l_law_take.body d_l_law_take.scope (d_l_law_take.dvs K) (d_l_law_take.kws K) (He.fAd K d_l_law_take.at_) fd
theorem bind_l_law_take {K : PySem.W.Frag} {fd : FuncData} (F : Fun_l_law_take K fd) : Binds K fd ["_law_box_here", "_law_many"] [] := FunD.bindsN F fun _ _ _ _ _ _ us hl => match us, hl with | [_, _], _ => rfl
abbrev Fun_l_law_mixed (K : PySem.W.Frag) (fd : FuncData) : Prop := FunD K d_l_law_mixed.name d_l_law_mixed.qual d_l_law_mixed.params d_l_law_mixed.body d_l_law_mixed.scope (d_l_law_mixed.dvs K) (d_l_law_mixed.kws K) (He.fAd K d_l_law_mixed.at_) fd
theorem bind_l_law_mixed {K : PySem.W.Frag} {fd : FuncData} (F : Fun_l_law_mixed K fd) : Binds K fd ["_law_box_here", "_law_some"] [] := FunD.bindsN F fun _ _ _ _ _ _ us hl => match us, hl with | [_, _], _ => rfl
abbrev Fun_l_law_columns (K : PySem.W.Frag) (fd : FuncData) : Prop := FunD K d_l_law_columns.name d_l_law_columns.qual d_l_law_columns.params d_l_law_columns.body d_l_law_columns.scope (d_l_law_columns.dvs K) (d_l_law_columns.kws K) (He.fAd K d_l_law_columns.at_) fd
theorem bind_l_law_columns {K : PySem.W.Frag} {fd : FuncData} (F : Fun_l_law_columns K fd) : Binds K fd ["_law_box_here", "_law_many"] [] := FunD.bindsN F fun _ _ _ _ _ _ us hl => match us, hl with | [_, _], _ => rfl
abbrev Fun_l_law_told_right (K : PySem.W.Frag) (fd : FuncData) : Prop := FunD K d_l_law_told_right.name d_l_law_told_right.qual d_l_law_told_right.params d_l_law_told_right.body d_l_law_told_right.scope (d_l_law_told_right.dvs K) (d_l_law_told_right.kws K) (He.fAd K d_l_law_told_right.at_) fd
theorem bind_l_law_told_right {K : PySem.W.Frag} {fd : FuncData} (F : Fun_l_law_told_right K fd) : Binds K fd ["_law_order", "_law_columns_here"] [] := FunD.bindsN F fun _ _ _ _ _ _ us hl => match us, hl with | [_, _], _ => rfl
abbrev Fun_l_law_others (K : PySem.W.Frag) (fd : FuncData) : Prop := FunD K d_l_law_others.name d_l_law_others.qual d_l_law_others.params d_l_law_others.body d_l_law_others.scope (d_l_law_others.dvs K) (d_l_law_others.kws K) (He.fAd K d_l_law_others.at_) fd
theorem bind_l_law_others {K : PySem.W.Frag} {fd : FuncData} (F : Fun_l_law_others K fd) : Binds K fd ["_law_box_here", "_law_columns_here"] [] := FunD.bindsN F fun _ _ _ _ _ _ us hl => match us, hl with | [_, _], _ => rfl
abbrev Fun_law (K : PySem.W.Frag) (fd : FuncData) : Prop := FunD K d_law.name d_law.qual d_law.params d_law.body d_law.scope (d_law.dvs K) (d_law.kws K) (He.fAd K d_law.at_) fd
theorem kl_split_words {K : PySem.W.Frag} {fd : FuncData} (F : Fun_split_words K fd) : KBl K fd ["text", "separator"] 1 [] [.pos 0, .low 0] [(V.str " ")] :=
  kb_low (kws := ([("separator", (V.str " "))] : List (Str × V))) (ms := ([("separator", (V.str " "))] : List (Str × V))) F (fun z => nomatch z) (fun q hq => by
    simp only [List.mem_cons, List.not_mem_nil, or_false] at hq
    rcases hq with rfl
    · exact (.head _)) fun _ _ _ _ _ _ us mv ws h1 h2 h3 => match us, mv, ws, h1, h2, h3 with | [_], [_], [], _, _, _ => ⟨_, _, _, _, _, _, rfl, rfl, rfl⟩
def defs0 : List DA := [⟨fun K => (He.fAd K d_is_name.at_), d_is_name⟩, ⟨fun K => (He.fAd K d_is_list.at_), d_is_list⟩, ⟨fun K => (He.fAd K d_split_words.at_), d_split_words⟩, ⟨fun K => (He.fAd K d_Shape_D_init_D.at_), d_Shape_D_init_D⟩, ⟨fun K => (He.fAd K d_Shape_D_eq_D.at_), d_Shape_D_eq_D⟩, ⟨fun K => (He.fAd K d_checked_columns.at_), d_checked_columns⟩, ⟨fun K => (He.fAd K d_Order_D_init_D.at_), d_Order_D_init_D⟩, ⟨fun K => (He.fAd K d_Order_columns.at_), d_Order_columns⟩, ⟨fun K => (He.fAd K d_Order_D_len_D.at_), d_Order_D_len_D⟩, ⟨fun K => (He.fAd K d_Order_D_eq_D.at_), d_Order_D_eq_D⟩, ⟨fun K => (He.fAd K d_Order_D_str_D.at_), d_Order_D_str_D⟩, ⟨fun K => (He.fAd K d_Order_D_repr_D.at_), d_Order_D_repr_D⟩, ⟨fun K => (He.fAd K d_parse_order.at_), d_parse_order⟩, ⟨fun K => (He.fAd K d_checked_parts.at_), d_checked_parts⟩, ⟨fun K => (He.fAd K d_Blocks_D_init_D.at_), d_Blocks_D_init_D⟩, ⟨fun K => (He.fAd K d_Blocks_parts.at_), d_Blocks_parts⟩, ⟨fun K => (He.fAd K d_Blocks_D_eq_D.at_), d_Blocks_D_eq_D⟩, ⟨fun K => (He.fAd K d_l_law_cell.at_), d_l_law_cell⟩, ⟨fun K => (He.fAd K d_l_law_box.at_), d_l_law_box⟩, ⟨fun K => (He.fAd K d_l_law_take.at_), d_l_law_take⟩, ⟨fun K => (He.fAd K d_l_law_mixed.at_), d_l_law_mixed⟩, ⟨fun K => (He.fAd K d_l_law_columns.at_), d_l_law_columns⟩, ⟨fun K => (He.fAd K d_l_law_told_right.at_), d_l_law_told_right⟩, ⟨fun K => (He.fAd K d_l_law_others.at_), d_l_law_others⟩, ⟨fun K => (He.fAd K d_law.at_), d_law⟩]
def looks0 : SL.Looks := [fun K => (He.Fa.free "isinstance").ok K,
  fun K => (He.Fa.free "str").ok K,
  fun K => tabB K (.ty "str") (tabK KS (.ty "str")),
  fun K => (He.Fa.glo "is_name").ok K,
  fun K => (He.Fa.free "all").ok K,
  fun K => (He.Fa.str "LETTERS" "abcdefghijklmnopqrstuvwxyz").ok K,
  fun K => (He.Fa.free "len").ok K,
  fun K => (He.Fa.int "LONGEST_NAME" (8)).ok K,
  fun K => (He.Fa.free "tuple").ok K,
  fun K => (He.Fa.free "list").ok K,
  fun K => tabBT K [.ty "list", .ty "tuple"] (tabKT KS [.ty "list", .ty "tuple"]),
  fun K => ownB K "Shape",
  fun K => (He.Fa.noat "Shape" "span_column").ok K,
  fun K => (He.Fa.free "sorted").ok K,
  fun K => (He.Fa.noat "Shape" "fixed_columns").ok K,
  fun K => (He.Fa.int "MAX_COLUMNS" (5)).ok K,
  fun K => (He.Fa.free "enumerate").ok K,
  fun K => (He.Fa.glo "is_list").ok K,
  fun K => (He.Fa.glo "Shape").ok K,
  fun K => tabB K (.own "Shape") (tabK KS (.own "Shape")),
  fun K => (He.Fa.int "MOST_COLUMNS" (5)).ok K,
  fun K => (He.Fa.glo "checked_columns").ok K,
  fun K => ownB K "Order",
  fun K => (He.Fa.noat "Order" "own_columns").ok K,
  fun K => (He.Fa.meth "Order" "columns").ok K,
  fun K => (He.Fa.glo "Order").ok K,
  fun K => tabB K (.own "Order") (tabK KS (.own "Order")),
  fun K => (He.Fa.mkr "Order").ok K,
  fun K => (He.Fa.glo "split_words").ok K,
  fun K => (He.Fa.glo "checked_parts").ok K,
  fun K => ownB K "Blocks",
  fun K => (He.Fa.noat "Blocks" "own_parts").ok K,
  fun K => (He.Fa.meth "Blocks" "parts").ok K,
  fun K => (He.Fa.glo "Blocks").ok K,
  fun K => tabB K (.own "Blocks") (tabK KS (.own "Blocks")),
  fun K => (He.Fa.free "max").ok K,
  fun K => (He.Fa.free "range").ok K,
  fun K => (He.Fa.glo "_law_take").ok K,
  fun K => (He.Fa.glo "_law_mixed").ok K,
  fun K => (He.Fa.free "repr").ok K,
  fun K => specB K "Order" "__repr__",
  fun K => specB K "Order" "__str__",
  fun K => specB K "Order" "__len__",
  fun K => (He.Fa.free "min").ok K,
  fun K => specB K "Shape" "__eq__",
  fun K => eqKsB K "Shape" KS,
  fun K => specB K "Order" "__eq__",
  fun K => eqKsB K "Order" KS,
  fun K => specB K "Blocks" "__eq__",
  fun K => eqKsB K "Blocks" KS,
  fun K => SL.notBlt K (He.ga K "Order"),
  fun K => (He.Fa.mkr "Blocks").ok K,
  fun K => (He.Fa.mkr "Shape").ok K,
  fun K => (He.Fa.glo "_law_others").ok K,
  fun K => (He.Fa.glo "_law_told_right").ok K,
  fun K => decide (PySem.W.findIn K (.ref (He.ga K "Order")) "__ne__" = some (some (.builtin "object.__ne__"))),
  fun K => (He.Fa.glo "parse_order").ok K,
  fun K => (He.Fa.glo "_law_columns").ok K,
  fun K => (He.Fa.glo "_law_box").ok K,
  fun K => (He.Fa.glo "_law_cell").ok K,
  fun K => (He.Fa.glo "law").ok K]
abbrev loose0 : List Str := "_wall" :: "__name__" :: "SearchError" :: "InvalidName" :: "InvalidText" :: "InvalidColumns" :: "DuplicateName" :: "InvalidBlocks" :: "TooMany" :: "LETTERS" :: "LONGEST_NAME" :: "is_name" :: "is_list" :: "split_words" :: "MAX_COLUMNS" :: "NOTHING" :: "Shape" :: "MOST_COLUMNS" :: "checked_columns" :: "Order" :: "parse_order" :: "checked_parts" :: "Blocks" :: "_law_cell" :: "_law_box" :: "_law_take" :: "_law_mixed" :: "_law_columns" :: "_law_told_right" :: "_law_others" :: []
abbrev R0 : PySem.W.OpenRow := PySem.W.OpenLaw.row PySem.Challenge.rw_searchorders_k10_orders_told
abbrev hk0 : PySem.W.Hook := CM.hookA 6 looks0 defs0
def ob0 (s : PySem.W.SharedT) : CM.AlA := CM.obsAG 6 looks0 defs0 (HandSHeadRun.getT s)
theorem ob_eq0 (s : PySem.W.SharedT) : ob0 s = hk0.obs s.abs := CM.obsAG_eq (HandSHeadRun.getT_eq s)
theorem run0 (w : World) : HandSHeadRun.RunEq R0 (PySem.W.view R0.prog [34]) hk0 ob0 12000 loose0 w := by
  intro os
  kernel_rfl
end K10
namespace CP
open PySem PySem.Spec PyProof.Rows L2 SL CM
noncomputable def b_is_name (ks : List Kd) (rz : Bool) : MS := (sSeq (sIf (mOr (mNot (mTru (mCB (dIsi (.ty "str") (tabK ks (.ty "str"))) (mCons (mVar 0) (mCons (mC (.ty "str")) mNil))))) (mNot (mTest (mChain dLt dLe (mC (.int 0)) (mCB dLen (mCons (mVar 0) mNil)) (mC (.int (8))))))) (sRet (mC (.bl false))) sNext)
    (sRet (mCB dAll (mCons (mLc (mIU (mVar 0)) (gSetC 1) mYes (mOp dIn (mVar 1) (mC (.str "abcdefghijklmnopqrstuvwxyz"))) [1]) mNil))))
noncomputable def m_is_name (ks : List Kd) (rz : Bool) : Fnm := fnM false 1 1 (b_is_name ks rz)
noncomputable def b_is_list (ks : List Kd) (rz : Bool) : MS := (sRet (mCB (dIsiT [.ty "list", .ty "tuple"] (tabKT ks [.ty "list", .ty "tuple"])) (mCons (mVar 0) (mCons (mTup (mCons (mC (.ty "list")) (mCons (mC (.ty "tuple")) mNil))) mNil))))
noncomputable def m_is_list (ks : List Kd) (rz : Bool) : Fnm := fnM false 1 0 (b_is_list ks rz)
noncomputable def b_Shape_D_init_D (ks : List Kd) (rz : Bool) : MS := (sSeq (sIf (mOr (mNot (mTru (callN (m_is_list ks rz) (mCons (mFr (mVar 1)) mNil)))) (mTest (mOp dGt (mCB dLen (mCons (mVar 1) mNil)) (mC (.int (5)))))) (sRz rz (sRaise "InvalidColumns" ["value"] (mCons (mFr (mVar 1)) mNil))) sNext)
    (sSeq (sFor (mEnum (mCons (mVar 1) mNil)) (gTupM 2 (gsCons (gSetC 3) (gsCons (gSetC 4) gsNil))) (sSeq (sIf (mNot (mTru (callN (m_is_name ks rz) (mCons (mFr (mVar 4)) mNil)))) (sRz rz (sRaise "InvalidName" ["value"] (mCons (mFr (mVar 4)) mNil))) sNext)
    (sIf (mTest (mOp dIn (mVar 4) (mSl (mVar 1) mNoPart (mPart (mVar 3))))) (sRz rz (sRaise "DuplicateName" ["name"] (mCons (mFr (mVar 4)) mNil))) sNext)))
    (sSeq (sIf (mAnd (mTest (mOp dIsnt (mVar 2) (mC .non))) (mNot (mTru (callN (m_is_name ks rz) (mCons (mFr (mVar 2)) mNil))))) (sRz rz (sRaise "InvalidName" ["value"] (mCons (mFr (mVar 2)) mNil))) sNext)
    (sSeq (sIf (mTest (mOp dIn (mVar 2) (mVar 1))) (sRz rz (sRaise "DuplicateName" ["name"] (mCons (mFr (mVar 2)) mNil))) sNext)
    (sSeq (sIf (mAnd (mTest (mOp dIsnt (mVar 2) (mC .non))) (mTest (mOp dEq (mCB dLen (mCons (mVar 1) mNil)) (mC (.int (5)))))) (sRz rz (sRaise "TooMany" ["count"] (mCons (mFr (mOp dAdd (mC (.int (5))) (mC (.int 1)))) mNil))) sNext)
    (sSeq (sFldM "Shape" "fixed_columns" (mVar 0) (mCB dSrt (mCons (mVar 1) mNil)))
    (sFldM "Shape" "span_column" (mVar 0) (mVar 2))))))))
noncomputable def m_Shape_D_init_D (ks : List Kd) (rz : Bool) : Fnm := fnM false 3 2 (b_Shape_D_init_D ks rz)
noncomputable def b_Shape_D_eq_D (ks : List Kd) (rz : Bool) : MS := (sSeq (sIf (mNot (mTru (mCB (dIsi (.own "Shape") (tabK ks (.own "Shape"))) (mCons (mVar 1) (mCons (mC (.glo "Shape")) mNil))))) (sRet (mC (.bl false))) sNext)
    (sRet (mAndV (mOp dEq (mFld "Shape" "fixed_columns" (mVar 0)) (mFld "Shape" "fixed_columns" (mVar 1))) (mOp dEq (mFld "Shape" "span_column" (mVar 0)) (mFld "Shape" "span_column" (mVar 1))))))
noncomputable def m_Shape_D_eq_D (ks : List Kd) (rz : Bool) : Fnm := fnM false 2 0 (b_Shape_D_eq_D ks rz)
end CP
namespace CM
open PySem PySem.Spec PyProof.Rows L2 SL
abbrev Ps (α : Type) := α → List Sl → Tb → Prop
abbrev Px := Str → List (Str × D) → List Sl → Tb → Prop
def okR {α : Type} (P : Ps α) (X : Px) : R α → Prop
  | .ok w ρ h => P w ρ h
  | .ex C fs ρ h => X C fs ρ h
def okE {α : Type} (x : Option (R α)) (P : Ps α) (X : Px) : Prop := ∃ r, x = some r ∧ okR P X r
def okG (x : Option Fr2) (N : List Sl → Tb → Prop) : Prop := ∃ y, x = some y ∧ N y.1 y.2
def okW {α : Type} (x : Option α) (P : α → Prop) : Prop := ∃ w, x = some w ∧ P w
def okO (N : List Sl → Tb → Prop) (T : Ps W) (L : Bool → List Sl → Tb → Prop) (X : Px) : Out → Prop
  | .nx ρ h => N ρ h
  | .rt w ρ h => T w ρ h
  | .ct ρ h => L false ρ h
  | .bk ρ h => L true ρ h
  | .ex C fs ρ h => X C fs ρ h
def okS (x : Option Out) (N : List Sl → Tb → Prop) (T : Ps W) (L : Bool → List Sl → Tb → Prop) (X : Px) : Prop := ∃ o, x = some o ∧ okO N T L X o
def okFR (P : W → Tb → Prop) (X : Str → List (Str × D) → Tb → Prop) : FR → Prop
  | .rt w h => P w h
  | .ex C fs h => X C fs h
def okF (x : Option FR) (P : W → Tb → Prop) (X : Str → List (Str × D) → Tb → Prop) : Prop := ∃ r, x = some r ∧ okFR P X r
def noX : Str → List (Str × D) → Tb → Prop := fun _ _ _ => False
def nox : Px := fun _ _ _ _ => False
section
variable {α β : Type} {ρ ρ' : List Sl} {h h' : Tb} {P P' : Ps W} {N N' : List Sl → Tb → Prop} {T T' : Ps W} {L L' : Bool → List Sl → Tb → Prop} {X X' : Px} {a b e : Mo W} {es : Mo (List W)} {c c' : Mo Bool} {m m' body : MS} {g : Tg} {f : D → D → Option W} {fl : List D → Option W} {w : W} {d : D} {ds as : List D} {i j n k : Nat} {keep : Bool}
theorem okE_eq {x : Option (R α)} {P : Ps α} {w : α} (e : x = some (.ok w ρ h)) (p : P w ρ h) : okE x P X := ⟨_, e, p⟩
theorem okG_eq {x : Option Fr2} (e : x = some (ρ, h)) (p : N ρ h) : okG x N := ⟨_, e, p⟩
theorem okW_eq {x : Option α} {P : α → Prop} {w : α} (e : x = some w) (p : P w) : okW x P := ⟨w, e, p⟩
theorem okE.mono {x : Option (R α)} {P P' : Ps α} (q : okE x P X) (i : ∀ w ρ h, P w ρ h → P' w ρ h) : okE x P' X := by
  obtain ⟨r, e, p⟩ := q
  refine ⟨r, e, ?_⟩
  cases r with
  | ok w ρ h => exact i _ _ _ p
  | ex C fs ρ h => exact p
theorem okF.mono {x : Option FR} {P P' : W → Tb → Prop} {X : Str → List (Str × D) → Tb → Prop} (q : okF x P X) (i : ∀ w h, P w h → P' w h) : okF x P' X := by
  obtain ⟨r, e, p⟩ := q
  refine ⟨r, e, ?_⟩
  cases r with
  | rt w h => exact i _ _ p
  | ex C fs h => exact p
theorem okF.rt {x : Option FR} {P : W → Tb → Prop} (q : okF x P noX) : ∃ w h, x = some (.rt w h) ∧ P w h := by
  obtain ⟨r, e, p⟩ := q
  cases r with
  | rt w h => exact ⟨w, h, e, p⟩
  | ex C fs h => exact p.elim
theorem okS.mono {x : Option Out} (q : okS x N T L X) (hN : ∀ ρ h, N ρ h → N' ρ h) (hT : ∀ w ρ h, T w ρ h → T' w ρ h) (hL : ∀ b ρ h, L b ρ h → L' b ρ h) (hX : ∀ C fs ρ h, X C fs ρ h → X' C fs ρ h) : okS x N' T' L' X' := by
  obtain ⟨o, e, p⟩ := q
  refine ⟨o, e, ?_⟩
  cases o with
  | nx ρ h => exact hN _ _ p
  | rt w ρ h => exact hT _ _ _ p
  | ct ρ h => exact hL _ _ _ p
  | bk ρ h => exact hL _ _ _ p
  | ex C fs ρ h => exact hX _ _ _ _ p
theorem okE_bind {x : Option (R α)} {f : α → List Sl → Tb → Option (R β)} {P : Ps β} (q : okE x (fun w ρ h => okE (f w ρ h) P X) X) : okE (bindR x f) P X := by
  obtain ⟨r, e, p⟩ := q
  rw [e]
  cases r with
  | ok w ρ h => exact p
  | ex C fs ρ h => exact ⟨_, rfl, p⟩
theorem okE_opt {x : Option α} {f : α → Option (R β)} {P : Ps β} (q : okW x fun w => okE (f w) P X) : okE (x.bind f) P X := by
  obtain ⟨w, e, p⟩ := q
  rw [e]
  exact p
theorem okE_map {x : Option α} {f : α → R β} {P : Ps β} (q : okW x fun w => okE (some (f w)) P X) : okE (x.map f) P X := by
  obtain ⟨w, e, p⟩ := q
  rw [e]
  exact p
theorem okE_some {w : α} {P : Ps α} (p : P w ρ h) : okE (some (.ok w ρ h)) P X := ⟨_, rfl, p⟩
theorem okS_bind {x : Option (R α)} {f : α → List Sl → Tb → Option Out} (q : okE x (fun w ρ h => okS (f w ρ h) N T L X) X) : okS (bindS x f) N T L X := by
  obtain ⟨r, e, p⟩ := q
  rw [e]
  cases r with
  | ok w ρ h => exact p
  | ex C fs ρ h => exact ⟨_, rfl, p⟩
theorem okS_opt {x : Option α} {f : α → Option Out} (q : okW x fun w => okS (f w) N T L X) : okS (x.bind f) N T L X := by
  obtain ⟨w, e, p⟩ := q
  rw [e]
  exact p
theorem okS_seq (q : okS (m ρ h) (fun ρ h => okS (m' ρ h) N T L X) T L X) : okS (sSeq m m' ρ h) N T L X := by
  obtain ⟨o, e, p⟩ := q
  unfold sSeq
  rw [e]
  cases o with
  | nx ρ h => exact p
  | rt w ρ h => exact ⟨_, rfl, p⟩
  | ct ρ h => exact ⟨_, rfl, p⟩
  | bk ρ h => exact ⟨_, rfl, p⟩
  | ex C fs ρ h => exact ⟨_, rfl, p⟩
theorem okS_seqM (I : List Sl → Tb → Prop) (h1 : okS (m ρ h) I T L X) (h2 : ∀ ρ h, I ρ h → okS (m' ρ h) N T L X) : okS (sSeq m m' ρ h) N T L X := okS_seq (h1.mono h2 (fun _ _ _ h => h) (fun _ _ _ h => h) fun _ _ _ _ h => h)
theorem okS_next (q : N ρ h) : okS (sNext ρ h) N T L X := ⟨_, rfl, q⟩
theorem okS_asg (q : okE (e ρ h) (fun w ρ h => okG (g w ρ h) N) X) : okS (sAsg e g ρ h) N T L X := okS_bind (q.mono fun _ _ _ q => by
  obtain ⟨y, e, p⟩ := q
  rw [e]
  exact ⟨_, rfl, p⟩)
theorem okS_ret (q : okE (e ρ h) T X) : okS (sRet e ρ h) N T L X := okS_bind (q.mono fun _ _ _ q => ⟨_, rfl, q⟩)
theorem okS_retN (q : T (.cl .non) ρ h) : okS (sRetN ρ h) N T L X := ⟨_, rfl, q⟩
theorem okS_drop (q : okE (e ρ h) (fun _ ρ h => N ρ h) X) : okS (sDrop e ρ h) N T L X := okS_bind (q.mono fun _ _ _ q => ⟨_, rfl, q⟩)
theorem okS_cnt (q : L false ρ h) : okS (sCnt ρ h) N T L X := ⟨_, rfl, q⟩
theorem okS_if (q : okE (c ρ h) (fun k ρ h => (k = true → okS (m ρ h) N T L X) ∧ (k = false → okS (m' ρ h) N T L X)) X) : okS (sIf c m m' ρ h) N T L X := okS_bind (q.mono fun k ρ h q => by
  cases k with
  | true => exact q.1 rfl
  | false => exact q.2 rfl)
theorem okS_yes (q : okE (c ρ h) (fun k ρ h => k = true ∧ okS (m ρ h) N T L X) X) : okS (sIf c m m' ρ h) N T L X := okS_bind (q.mono fun k ρ h q => by
  obtain ⟨rfl, q⟩ := q
  exact q)
theorem okS_no (q : okE (c ρ h) (fun k ρ h => k = false ∧ okS (m' ρ h) N T L X) X) : okS (sIf c m m' ρ h) N T L X := okS_bind (q.mono fun k ρ h q => by
  obtain ⟨rfl, q⟩ := q
  exact q)
theorem okS_aug (q : okE (mVar i ρ h) (fun x ρ h => okE (e ρ h) (fun y ρ h => okW (deref h x) fun dx => okW (deref h y) fun dy => okW (f dx dy) fun w => N (ρ.set i (.cl (fzW w))) h) X) X) : okS (sAug f i e ρ h) N T L X :=
  okS_bind (q.mono fun _ _ _ q => okS_bind (q.mono fun _ _ _ q => okS_opt (q.elim fun _ q => ⟨_, q.1, okS_opt (q.2.elim fun _ q => ⟨_, q.1, okS_opt (q.2.elim fun _ q => ⟨_, q.1, _, rfl, q.2⟩)⟩)⟩)))
theorem okS_fg {is : List Nat} (q : okS (m (wipeS is ρ) h) N T L X) : okS (sFg is m ρ h) N T L X := q
theorem okS_par {o1 o2 : Bool} {i j : Nat} (q : okE (es ρ h) (fun ws ρ h => ∃ v w, ws = [v, w] ∧ N (gPut o2 j w (gPut o1 i v ρ h).1 (gPut o1 i v ρ h).2).1 (gPut o2 j w (gPut o1 i v ρ h).1 (gPut o1 i v ρ h).2).2) X) : okS (sPar o1 o2 i j es ρ h) N T L X := okS_bind (q.mono fun ws ρ h q => by
  obtain ⟨v, w, rfl, p⟩ := q
  exact ⟨_, rfl, p⟩)
/-- a loop, by what holds ahead of each turn -/
theorem okS_loop {ck : List (Nat × D)} (I : Nat → List Sl → Tb → Prop) (hck : ∀ k ρ h, I k ρ h → ckOk ck h) : ∀ (ds : List D) (i : Nat) {ρ : List Sl} {h : Tb}, I i ρ h → (∀ (j : Nat) (d : D) (ρ : List Sl) (h : Tb), ds[j]? = some d → I (i + j) ρ h → okG (g (.cl d) ρ h) fun ρ h => okS (m ρ h) (fun ρ h => I (i + j + 1) ρ h) T (fun b ρ h => if b = true then N ρ h else I (i + j + 1) ρ h) X) → (∀ ρ h, I (i + ds.length) ρ h → N ρ h) → okS (loopS g m ck ds ρ h) N T L X
  | [], i, ρ, h, h0, hs, he => ⟨_, rfl, he ρ h h0⟩
  | d :: ds, i, ρ, h, h0, hs, he => by
    obtain ⟨y, e1, o, e2, p⟩ := hs 0 d ρ h rfl h0
    have ih : ∀ ρ h, I (i + 1) ρ h → okS (loopS g m ck ds ρ h) N T L X := fun ρ h q => okS_loop I hck ds (i + 1) q (fun j d ρ h hj hI => by
      have := hs (j + 1) d ρ h (by simpa using hj) (by rw [show i + (j + 1) = i + 1 + j by omega]; exact hI)
      rw [show i + (j + 1) + 1 = i + 1 + j + 1 by omega] at this
      exact this) (fun ρ h q => he ρ h (by rw [show i + (d :: ds).length = i + 1 + ds.length by simp; omega]; exact q))
    unfold loopS
    rw [e1]
    dsimp only [Option.bind_some]
    rw [e2]
    cases o with
    | nx ρ h =>
      dsimp only
      rw [if_pos (hck _ _ _ p)]
      exact ih _ _ p
    | rt w ρ h => exact ⟨_, rfl, p⟩
    | ct ρ h =>
      have p : I (i + 1) ρ h := by simpa [okO] using p
      dsimp only
      rw [if_pos (hck _ _ _ p)]
      exact ih _ _ p
    | bk ρ h => exact ⟨_, rfl, by simpa [okO] using p⟩
    | ex C fs ρ h => exact ⟨_, rfl, p⟩
/-- a loop over what stays -/
theorem okS_loop0 (I : Nat → List Sl → Tb → Prop) (ds : List D) (i : Nat) {ρ : List Sl} {h : Tb} (h0 : I i ρ h) (hs : ∀ (j : Nat) (d : D) (ρ : List Sl) (h : Tb), ds[j]? = some d → I (i + j) ρ h → okG (g (.cl d) ρ h) fun ρ h => okS (m ρ h) (fun ρ h => I (i + j + 1) ρ h) T (fun b ρ h => if b = true then N ρ h else I (i + j + 1) ρ h) X) (he : ∀ ρ h, I (i + ds.length) ρ h → N ρ h) : okS (loopS g m [] ds ρ h) N T L X :=
  okS_loop I (fun _ _ _ _ x z => absurd z List.not_mem_nil) ds i h0 hs he
theorem okS_for {it : Mo ItM} (q : okE (it ρ h) (fun i ρ h => okS (loopS g m i.ck i.ds ρ h) N T L X) X) : okS (sFor it g m ρ h) N T L X := okS_bind q
theorem okE_op (q : okE (a ρ h) (fun x ρ h => okE (b ρ h) (fun y ρ h => okW (deref h x) fun dx => okW (deref h y) fun dy => okW (f dx dy) fun w => P w ρ h) X) X) : okE (mOp f a b ρ h) P X :=
  okE_bind (q.mono fun _ _ _ q => okE_bind (q.mono fun _ _ _ q => okE_opt (q.elim fun _ q => ⟨_, q.1, okE_opt (q.2.elim fun _ q => ⟨_, q.1, okE_map (q.2.elim fun _ q => ⟨_, q.1, okE_some q.2⟩)⟩)⟩)))
theorem okE_un {f : D → Option W} (q : okE (a ρ h) (fun x ρ h => okW (deref h x) fun dx => okW (f dx) fun w => P w ρ h) X) : okE (mUn f a ρ h) P X :=
  okE_bind (q.mono fun _ _ _ q => okE_opt (q.elim fun _ q => ⟨_, q.1, okE_map (q.2.elim fun _ q => ⟨_, q.1, okE_some q.2⟩)⟩))
theorem okE_cb (q : okE (es ρ h) (fun ws ρ h => okW (derefs h ws) fun ds => okW (fl ds) fun w => P w ρ h) X) : okE (mCB fl es ρ h) P X :=
  okE_bind (q.mono fun _ _ _ q => okE_opt (q.elim fun _ q => ⟨_, q.1, okE_map (q.2.elim fun _ q => ⟨_, q.1, okE_some q.2⟩)⟩))
theorem okE_cbS (q : okE (es ρ h) (fun ws ρ h => okW (snaps h ws) fun ds => okW (fl ds) fun w => scl w = true ∧ P w ρ h) X) : okE (mCBS fl es ρ h) P X :=
  okE_bind (q.mono fun _ _ _ q => okE_opt (q.elim fun _ q => ⟨_, q.1, okE_opt (q.2.elim fun _ q => ⟨_, q.1, by dsimp only; rw [if_pos q.2.1]; exact okE_some q.2.2⟩)⟩))
theorem okE_cons {P : Ps (List W)} (q : okE (e ρ h) (fun w ρ h => okE (es ρ h) (fun ws ρ h => P (w :: ws) ρ h) X) X) : okE (mCons e es ρ h) P X :=
  okE_bind (q.mono fun _ _ _ q => okE_bind (q.mono fun _ _ _ q => okE_some q))
theorem okE_nil {P : Ps (List W)} (q : P [] ρ h) : okE (mNil ρ h) P X := okE_some q
theorem okE_tup (q : okE (es ρ h) (fun ws ρ h => ws.length ≤ 100000 ∧ P (.cl (.tup (ws.map fzW))) ρ h) X) : okE (mTup es ρ h) P X :=
  okE_bind (q.mono fun _ _ _ q => by rw [if_pos q.1]; exact okE_some q.2)
theorem okE_lst (q : okE (es ρ h) (fun ws ρ h => ws.length ≤ 100000 ∧ P (.fr (ws.map fzW)) ρ h) X) : okE (mLst es ρ h) P X :=
  okE_bind (q.mono fun _ _ _ q => by rw [if_pos q.1]; exact okE_some q.2)
theorem okE_c (q : P (.cl d) ρ h) : okE (mC d ρ h) P X := ⟨_, rfl, q⟩
theorem okE_var {k : Nat} {d : D} (e : ρ[k]? = some (.cl d)) (q : P (.cl d) ρ h) : okE (mVar k ρ h) P X := ⟨.ok (.cl d) ρ h, by unfold mVar; rw [e], q⟩
theorem okE_ce (q : okE (e ρ h) (fun w ρ h => match w with | .nw c => P (.cl (.ce h.length)) ρ (h ++ [c]) | .cl d => P (.cl d) ρ h) X) : okE (mCe e ρ h) P X := okE_bind (q.mono fun w ρ h q => by
  cases w with
  | nw c => exact okE_some q
  | cl d => exact okE_some q)
theorem okE_fr (q : okE (e ρ h) (fun w ρ h => P (.cl (fzW w)) ρ h) X) : okE (mFr e ρ h) P X := okE_bind (q.mono fun w ρ h q => okE_some q)
theorem okB_test {P : Ps Bool} (q : okE (e ρ h) (fun w ρ h => ∃ b, deref h w = some (.bl b) ∧ P b ρ h) X) : okE (mTest e ρ h) P X := okE_bind (q.mono fun w ρ h q => by
  obtain ⟨b, e, p⟩ := q
  rw [e]
  exact okE_some p)
theorem okB_tru {P : Ps Bool} (q : okE (e ρ h) (fun w ρ h => ∃ d b, deref h w = some d ∧ dTru d.u = some b ∧ P b ρ h) X) : okE (mTru e ρ h) P X := okE_bind (q.mono fun w ρ h q => by
  obtain ⟨d, b, e, e2, p⟩ := q
  rw [e]
  dsimp only [Option.bind_some]
  rw [e2]
  exact okE_some p)
theorem okE_if (q : okE (c ρ h) (fun k ρ h => (k = true → okE (a ρ h) P X) ∧ (k = false → okE (b ρ h) P X)) X) : okE (mIf c a b ρ h) P X := okE_bind (q.mono fun k ρ h q => by
  cases k with
  | true => exact q.1 rfl
  | false => exact q.2 rfl)
theorem okB_and {P : Ps Bool} (q : okE (c ρ h) (fun k ρ h => (k = true → okE (c' ρ h) P X) ∧ (k = false → P false ρ h)) X) : okE (mAnd c c' ρ h) P X := okE_bind (q.mono fun k ρ h q => by
  cases k with
  | true => exact q.1 rfl
  | false => exact okE_some (q.2 rfl))
theorem okB_or {P : Ps Bool} (q : okE (c ρ h) (fun k ρ h => (k = true → P true ρ h) ∧ (k = false → okE (c' ρ h) P X)) X) : okE (mOr c c' ρ h) P X := okE_bind (q.mono fun k ρ h q => by
  cases k with
  | true => exact okE_some (q.1 rfl)
  | false => exact q.2 rfl)
theorem okB_not {P : Ps Bool} (q : okE (c ρ h) (fun k ρ h => P (!k) ρ h) X) : okE (mNot c ρ h) P X := okE_bind (q.mono fun _ _ _ q => okE_some q)
theorem okE_notV (q : okE (mTest e ρ h) (fun b ρ h => P (.cl (.bl (!b))) ρ h) X) : okE (mNotV e ρ h) P X := okE_bind (q.mono fun _ _ _ q => okE_some q)
theorem okE_andV (q : okE (mTest a ρ h) (fun k ρ h => (k = true → okE (b ρ h) P X) ∧ (k = false → P (.cl (.bl false)) ρ h)) X) : okE (mAndV a b ρ h) P X := okE_bind (q.mono fun k ρ h q => by
  cases k with
  | true => exact q.1 rfl
  | false => exact okE_some (q.2 rfl))
theorem okE_call {mf : Fnm} (q : okE (es ρ h) (fun ws ρ h => okF (mf (ws.map fzW) h) (fun w h => P w ρ h) noX) X) : okE (callN mf es ρ h) P X := okE_bind (q.mono fun ws ρ h q => by
  obtain ⟨w, h', e, p⟩ := q.rt
  unfold callT
  rw [e]
  exact okE_some p)
/-- a display over items -/
theorem okE_loopC {ck : List (Nat × D)} {t : Mo Bool} {vs : List Nat} {Q : Ps (List D)} (I : Nat → List Sl → Tb → List D → Prop) (hck : ∀ k ρ h acc, I k ρ h acc → ckOk ck h) : ∀ (ds : List D) (i : Nat) {ρ : List Sl} {h : Tb} {acc : List D}, I i ρ h acc → (∀ (j : Nat) (d : D) (ρ : List Sl) (h : Tb) (acc : List D), ds[j]? = some d → I (i + j) ρ h acc →
    okG (g (.cl d) ρ h) fun ρ h => okE (t ρ h) (fun b ρ h => (b = true → okE (e ρ h) (fun w ρ h => I (i + j + 1) (wipeS vs ρ) h (acc ++ [fzW w])) X) ∧ (b = false → I (i + j + 1) (wipeS vs ρ) h acc)) X) → (∀ ρ h acc, I (i + ds.length) ρ h acc → Q acc ρ h) → okE (loopC g t e vs ck ds ρ h acc) Q X
  | [], i, ρ, h, acc, h0, hs, he => ⟨_, rfl, he ρ h acc h0⟩
  | d :: ds, i, ρ, h, acc, h0, hs, he => by
    obtain ⟨y, e1, r, e2, p⟩ := hs 0 d ρ h acc rfl h0
    have ih : ∀ ρ h acc, I (i + 1) ρ h acc → okE (loopC g t e vs ck ds ρ h acc) Q X := fun ρ h acc q => okE_loopC I hck ds (i + 1) q (fun j d ρ h acc hj hI => by
      have := hs (j + 1) d ρ h acc (by simpa using hj) (by rw [show i + (j + 1) = i + 1 + j by omega]; exact hI)
      rw [show i + (j + 1) + 1 = i + 1 + j + 1 by omega] at this
      exact this) (fun ρ h acc q => he ρ h acc (by rw [show i + (d :: ds).length = i + 1 + ds.length by simp; omega]; exact q))
    unfold loopC
    refine okE_opt ⟨_, e1, okE_bind ⟨_, e2, ?_⟩⟩
    cases r with
    | ex C fs ρ h => exact p
    | ok b ρ2 h2 =>
      cases b with
      | true =>
        show okE _ Q X
        rw [if_pos rfl]
        refine okE_bind ((p.1 rfl).mono fun w ρ h q => ?_)
        rw [if_pos (hck _ _ _ _ q)]
        exact ih _ _ _ q
      | false =>
        show okE _ Q X
        rw [if_neg (by decide), if_pos (hck _ _ _ _ (p.2 rfl))]
        exact ih _ _ _ (p.2 rfl)
theorem okE_loopC0 {t : Mo Bool} {vs : List Nat} {Q : Ps (List D)} (I : Nat → List Sl → Tb → List D → Prop) (ds : List D) (i : Nat) {ρ : List Sl} {h : Tb} {acc : List D} (h0 : I i ρ h acc) (hs : ∀ (j : Nat) (d : D) (ρ : List Sl) (h : Tb) (acc : List D), ds[j]? = some d → I (i + j) ρ h acc →
    okG (g (.cl d) ρ h) fun ρ h => okE (t ρ h) (fun b ρ h => (b = true → okE (e ρ h) (fun w ρ h => I (i + j + 1) (wipeS vs ρ) h (acc ++ [fzW w])) X) ∧ (b = false → I (i + j + 1) (wipeS vs ρ) h acc)) X) (he : ∀ ρ h acc, I (i + ds.length) ρ h acc → Q acc ρ h) : okE (loopC g t e vs [] ds ρ h acc) Q X :=
  okE_loopC I (fun _ _ _ _ _ x z => absurd z List.not_mem_nil) ds i h0 hs he
theorem okE_lc {it : Mo ItM} {t : Mo Bool} {vs : List Nat} (q : okE (it ρ h) (fun i ρ h => idle vs ρ = true ∧ okE (loopC g t e vs i.ck i.ds ρ h []) (fun acc ρ h => P (.fr acc) ρ h) X) X) : okE (mLc it g t e vs ρ h) P X := okE_bind (q.mono fun i ρ h q => by
  rw [if_pos q.1]
  exact okE_bind (q.2.mono fun acc ρ h q => okE_some q))
/-- what is walked stays -/
theorem okE_iU {P : Ps ItM} (q : okE (e ρ h) (fun w ρ h => okW (deref h w) fun d => okW (itemsD d.u) fun ds => ds.length ≤ 90000 ∧ P ⟨ds, ckOf h w⟩ ρ h) X) : okE (mIU e ρ h) P X := okE_bind (q.mono fun w ρ h q => okE_opt (q.elim fun _ q => ⟨_, q.1, okE_opt (q.2.elim fun _ q => ⟨_, q.1, by dsimp only; rw [if_pos q.2.1]; exact okE_some q.2.2⟩)⟩))
theorem okE_rng1 {P : Ps ItM} (q : okE (es ρ h) (fun ws ρ h => okW (derefs h ws) fun ds => ∃ n : Int, ds = [.int n] ∧ n ≤ 90000 ∧ -1000000 ≤ n ∧ P ⟨(List.range n.toNat).map fun i => .int (i : Nat), []⟩ ρ h) X) : okE (mRng1 es ρ h) P X := okE_bind (q.mono fun ws ρ h q => by
  obtain ⟨ds, e, n, rfl, h1, h2, p⟩ := q
  refine okE_opt ⟨_, e, ?_⟩
  show okE (if n ≤ 90000 ∧ -1000000 ≤ n then some (.ok ⟨(List.range n.toNat).map fun i => .int (i : Nat), []⟩ ρ h) else none) P X
  rw [if_pos ⟨h1, h2⟩]
  exact okE_some p)
theorem okE_mut {fm : List D → List D → Option (D × List D)} (q : okE (e ρ h) (fun u ρ h => okW (lstAt h u) fun _ => okE (es ρ h) (fun ws ρ h => okW (lstAt h u) fun x => okW (fm x.2 (ws.map fzW)) fun y => P (.cl y.1) ρ (h.set x.1 (.lst y.2))) X) X) : okE (mMut fm e es ρ h) P X :=
  okE_bind (q.mono fun u ρ h q => okE_opt (q.elim fun _ q => ⟨_, q.1, okE_bind (q.2.mono fun ws ρ h q => okE_opt (q.elim fun _ q => ⟨_, q.1, okE_map (q.2.elim fun _ q => ⟨_, q.1, okE_some q.2⟩)⟩))⟩))
theorem okE_mut0 {fm : List D → List D → Option (D × List D)} (q : okE (e ρ h) (fun u ρ h => okW (lstAt h u) fun x => okW (fm x.2 []) fun y => P (.cl y.1) ρ (h.set x.1 (.lst y.2))) X) : okE (mMut0 fm e ρ h) P X :=
  okE_bind (q.mono fun u ρ h q => okE_opt (q.elim fun _ q => ⟨_, q.1, okE_map (q.2.elim fun _ q => ⟨_, q.1, okE_some q.2⟩)⟩))
theorem okG_set {k : Nat} (q : match w with | .nw c => N (ρ.set k (.cl (.ce h.length))) (h ++ [c]) | .cl d => N (ρ.set k (.cl d)) h) : okG (gSet k w ρ h) N := by
  cases w with
  | nw c => exact ⟨_, rfl, q⟩
  | cl d => exact ⟨_, rfl, q⟩
theorem okG_setC {k : Nat} (q : N (ρ.set k (.cl (fzW w))) h) : okG (gSetC k w ρ h) N := ⟨_, rfl, q⟩
theorem okG_sub {o : Mo W} (q : okE (o ρ h) (fun u ρ h => okE (e ρ h) (fun k ρ h => ∃ n : Int, deref h k = some (.int n) ∧ okW (lstAt h u) fun x => okW (ixN x.2.length n) fun j => N ρ (h.set x.1 (.lst (x.2.set j (fzW w))))) nox) nox) : okG (gSubL o e w ρ h) N := by
  obtain ⟨r, e1, p⟩ := q
  cases r with
  | ex C fs ρ h => exact p.elim
  | ok u ρ1 h1 =>
    obtain ⟨r, e2, p⟩ := p
    cases r with
    | ex C fs ρ h => exact p.elim
    | ok k ρ2 h2 =>
      obtain ⟨n, e3, x, e4, j, e5, p⟩ := p
      refine ⟨(ρ2, h2.set x.1 (.lst (x.2.set j (fzW w)))), ?_, p⟩
      unfold gSubL
      rw [e1]
      dsimp only
      rw [e2]
      dsimp only
      rw [e3]
      show ((lstAt h2 u).bind fun x => (ixN x.2.length n).map fun j => (ρ2, h2.set x.1 (.lst (x.2.set j (fzW w))))) = _
      rw [e4]
      dsimp only [Option.bind_some]
      rw [e5]
      rfl
theorem okE_sl {lo hi : MO} (q : okE (a ρ h) (fun w ρ h => okE (lo ρ h) (fun l ρ h => okE (hi ρ h) (fun u ρ h => okW (deref h w) fun d => okW (dSl d l u) fun w => P w ρ h) X) X) X) : okE (mSl a lo hi ρ h) P X :=
  okE_bind (q.mono fun _ _ _ q => okE_bind (q.mono fun _ _ _ q => okE_bind (q.mono fun _ _ _ q => okE_opt (q.elim fun _ q => ⟨_, q.1, okE_map (q.2.elim fun _ q => ⟨_, q.1, okE_some q.2⟩)⟩))))
theorem okE_nopart {P : Ps (Option Int)} (q : P none ρ h) : okE (mNoPart ρ h) P X := okE_some q
theorem okE_part {P : Ps (Option Int)} (q : okE (a ρ h) (fun w ρ h => ∃ n : Int, deref h w = some (.int n) ∧ P (some n) ρ h) X) : okE (mPart a ρ h) P X := okE_bind (q.mono fun w ρ h q => by
  obtain ⟨n, e, p⟩ := q
  rw [e]
  exact okE_some p)
theorem okE_bs {fs : Str → List D → Option W} (q : okE (a ρ h) (fun x ρ h => ∃ z, deref h x = some (.str z) ∧ okE (es ρ h) (fun ws ρ h => okW (derefs h ws) fun ds => okW (fs z ds) fun w => P w ρ h) X) X) : okE (mBS fs a es ρ h) P X := okE_bind (q.mono fun x ρ h q => by
  obtain ⟨z, e, q⟩ := q
  rw [e]
  exact okE_bind (q.mono fun ws ρ h q => okE_opt (q.elim fun _ q => ⟨_, q.1, okE_map (q.2.elim fun _ q => ⟨_, q.1, okE_some q.2⟩)⟩)))
theorem okF_fn {P : W → Tb → Prop} {X : Str → List (Str × D) → Tb → Prop} (hl : as.length = n) (q : okS (body (as.map Sl.cl ++ List.replicate k .un) h) (fun ρ h' => okW (cutF keep h (.cl .non) h') fun x => P x.1 x.2) (fun w ρ h' => okW (cutF keep h w h') fun x => P x.1 x.2) (fun _ _ _ => False) (fun C fs ρ h' => okW (cutX keep h fs h') fun x => X C fs x)) : okF (fnM keep n k body as h) P X := by
  obtain ⟨o, e, p⟩ := q
  unfold fnM
  rw [if_pos hl, e]
  cases o with
  | nx ρ h' =>
    obtain ⟨x, e, p⟩ := p
    exact ⟨.rt x.1 x.2, by show (cutF keep h (.cl .non) h').map _ = _; rw [e]; rfl, p⟩
  | rt w ρ h' =>
    obtain ⟨x, e, p⟩ := p
    exact ⟨.rt x.1 x.2, by show (cutF keep h w h').map _ = _; rw [e]; rfl, p⟩
  | ct ρ h' => exact p.elim
  | bk ρ h' => exact p.elim
  | ex C fs ρ h' =>
    obtain ⟨x, e, p⟩ := p
    exact ⟨.ex C fs x, by show (cutX keep h fs h').map _ = _; rw [e]; rfl, p⟩
/-- no cell came to it -/
theorem cut_same {Q : W × Tb → Prop} (hl : h'.length = h.length) (q : Q (w, h')) : okW (cutF keep h w h') Q := ⟨_, by unfold cutF; rw [if_pos (.inr hl)], q⟩
/-- own cells go; what is handed back tells of none of them -/
theorem cut_app {h1 g : Tb} {Q : W × Tb → Prop} (hl : h1.length = h.length) (ok : okCut h h1) (hw : ∀ n, w ≠ .cl (.ce n)) (hb : below h.length (fzW w) = true) (q : Q (w, h1)) : okW (cutF false h w (h1 ++ g)) Q := by
  have e0 : (h1 ++ g).take h.length = h1 := by rw [← hl, List.take_left]
  have ok2 : okCut h (h1 ++ g) := fun i c hi hc => by
    rw [List.getElem?_append_left (by omega)] at hc
    exact ok i c hi hc
  unfold cutF
  by_cases hs : (h1 ++ g).length = h.length
  · have : g = [] := by
      rw [List.length_append, hl] at hs
      exact List.eq_nil_of_length_eq_zero (by omega)
    subst this
    rw [List.append_nil, if_pos (.inr hl)]
    exact ⟨_, rfl, q⟩
  · rw [if_neg (fun z => z.elim (fun z => by cases z) hs), if_pos ok2]
    refine ⟨(w, h1), ?_, q⟩
    cases w with
    | nw c =>
      show (if below h.length (fzW (.nw c)) = true then some ((W.nw c), (h1 ++ g).take h.length) else none) = _
      rw [if_pos hb, e0]
    | cl d =>
      cases d with
      | ce n => exact absurd rfl (hw n)
      | _ => (first | (rw [e0]; exact if_pos hb) | skip)
/-- an own cell is handed back: it is a new thing -/
theorem cut_own {h1 g : Tb} {c : D} {n : Nat} {Q : W × Tb → Prop} (hl : h1.length = h.length) (ok : okCut h h1) (hn : h.length ≤ n) (hc : (h1 ++ g)[n]? = some c) (hb : below h.length c = true) (q : Q (.nw c, h1)) : okW (cutF false h (.cl (.ce n)) (h1 ++ g)) Q := by
  have e0 : (h1 ++ g).take h.length = h1 := by rw [← hl, List.take_left]
  have ok2 : okCut h (h1 ++ g) := fun i c hi hc => by
    rw [List.getElem?_append_left (by omega)] at hc
    exact ok i c hi hc
  have hs : (h1 ++ g).length ≠ h.length := fun z => by
    have := (List.getElem?_eq_some_iff.mp hc).1
    omega
  unfold cutF
  rw [if_neg (fun z => z.elim (fun z => by cases z) hs), if_pos ok2]
  refine ⟨_, ?_, q⟩
  show (if n < h.length then some (W.cl (D.ce n), (h1 ++ g).take h.length) else match (h1 ++ g)[n]? with
      | some c => if below h.length c = true then some (W.nw c, (h1 ++ g).take h.length) else none
      | none => none) = _
  rw [if_neg (by omega), hc]
  show (if below h.length c = true then some (W.nw c, (h1 ++ g).take h.length) else none) = _
  rw [if_pos hb, e0]
theorem okCut_refl : okCut h h := fun i c _ hc => .inl hc
end
theorem below_lst {k : Nat} {ds : List D} : below k (.lst ds) = ds.all (below k) := by simp only [below, belows_eq]
theorem below_ins {k : Nat} {C : Str} {fs : List (Str × D)} : below k (.ins C fs) = (fs.map (·.2)).all (below k) := by simp only [below, belowF_eq, belows_eq]
theorem below_int {k : Nat} {i : Int} : below k (.int i) = true := by simp only [below]
theorem below_str {k : Nat} {i : Str} : below k (.str i) = true := by simp only [below]
theorem below_bl {k : Nat} {i : Bool} : below k (.bl i) = true := by simp only [below]
theorem below_non {k : Nat} : below k .non = true := by simp only [below]
theorem below_strs {k : Nat} (zs : List Str) : below k (.lst (zs.map .str)) = true := by
  rw [below_lst, List.all_eq_true]
  intro d hd
  obtain ⟨z, _, rfl⟩ := List.mem_map.mp hd
  exact below_str
end CM
namespace CM
open PySem PySem.Spec PyProof.Rows L2 SL
/-- the box: what is left of a cell, a seed, how often was drawn -/
def BoxL (n : Nat) (ds : List D) : Prop := ∃ a s c : Int, ds = [.int a, .int s, .int c] ∧ 0 ≤ a ∧ 0 ≤ s ∧ s < 2147483648 ∧ 0 ≤ c ∧ c ≤ n
theorem BoxL.mono {m n : Nat} {ds : List D} (h : BoxL m ds) (k : m ≤ n) : BoxL n ds := by
  obtain ⟨a, s, c, e, h1, h2, h3, h4, h5⟩ := h
  exact ⟨a, s, c, e, h1, h2, h3, h4, by omega⟩
/-- h is h0 but for the box at b, from which was drawn at most n times -/
def Bx (b n : Nat) (h0 h : Tb) : Prop := ∃ ds, BoxL n ds ∧ b < h0.length ∧ h = h0.set b (.lst ds)
section
variable {b n m : Nat} {h0 h h' h1 g : Tb} {ds : List D}
theorem Bx.len (q : Bx b n h0 h) : h.length = h0.length := by
  obtain ⟨ds, _, _, rfl⟩ := q
  exact List.length_set ..
theorem Bx.lt (q : Bx b n h0 h) : b < h.length := by
  obtain ⟨ds, _, k, rfl⟩ := q
  rwa [List.length_set]
theorem Bx.at_ (q : Bx b n h0 h) : ∃ ds, BoxL n ds ∧ h[b]? = some (.lst ds) := by
  obtain ⟨ds, a, k, rfl⟩ := q
  exact ⟨ds, a, List.getElem?_set_self k⟩
theorem Bx.put (q : Bx b n h0 h) (k : BoxL m ds) : Bx b m h0 (h.set b (.lst ds)) := by
  obtain ⟨_, _, k2, rfl⟩ := q
  exact ⟨ds, k, k2, by rw [List.set_set]⟩
theorem Bx.refl (e : h[b]? = some (.lst ds)) (k : BoxL n ds) : Bx b n h h := ⟨ds, k, (List.getElem?_eq_some_iff.mp e).1, (set_self e).symm⟩
theorem Bx.mono (q : Bx b m h0 h) (k : m ≤ n) : Bx b n h0 h := by
  obtain ⟨ds, a, c, e⟩ := q
  exact ⟨ds, a.mono k, c, e⟩
theorem Bx.ne {i : Nat} (q : Bx b n h0 h) (hi : i ≠ b) : h[i]? = h0[i]? := by
  obtain ⟨ds, _, _, rfl⟩ := q
  exact List.getElem?_set_ne (fun z => hi z.symm)
theorem Bx.app (q : Bx b n h0 h) : Bx b n (h0 ++ g) (h ++ g) := by
  obtain ⟨ds, a, k, rfl⟩ := q
  exact ⟨ds, a, by rw [List.length_append]; omega, by rw [List.set_append_left _ _ k]⟩
theorem Bx.unapp (q : Bx b n (h0 ++ g) h) (k : b < h0.length) : ∃ h1, h = h1 ++ g ∧ Bx b n h0 h1 := by
  obtain ⟨ds, a, _, rfl⟩ := q
  exact ⟨h0.set b (.lst ds), List.set_append_left _ _ k, ds, a, k, rfl⟩
theorem Bx.trans (q : Bx b n h0 h) (r : Bx b m h h') : Bx b m h0 h' := by
  obtain ⟨ds, a, k, rfl⟩ := q
  obtain ⟨es, c, _, rfl⟩ := r
  exact ⟨es, c, k, by rw [List.set_set]⟩
theorem boxL_below {k : Nat} (a : BoxL n ds) : below k (.lst ds) = true := by
  obtain ⟨a, s, c, rfl, _⟩ := a
  rw [below_lst]
  simp [below_int]
theorem Bx.cut (q : Bx b n h0 h) (r : Bx b m h0 h1) : okCut h h1 := fun i c hi hc => by
  by_cases e : i = b
  · subst e
    obtain ⟨ds, a, hb⟩ := r.at_
    rw [hb] at hc
    cases hc
    exact .inr (boxL_below a)
  · rw [r.ne e] at hc
    rw [q.ne e]
    exact .inl hc
/-- the box of a table that goes on -/
theorem Bx.self (q : Bx b n h0 h) : Bx b n h h := by
  obtain ⟨ds, a, e⟩ := q.at_
  exact Bx.refl e a
end
def cellM (A B : Int) : MS := (sSeq (sIf (mTest (mOp dLt (mVar 1) (mCB dLen (mCons (mVar 0) mNil)))) (sRet (mOp dIx (mVar 0) (mVar 1))) sNext)
    (sRet (mOp dAdd (mOp dMul (mC (.int A)) (mVar 1)) (mC (.int B)))))
def boxM : MS := (sRet (mLst (mCons (mCB dMax2 (mCons (mC (.int 0)) (mCons (mOp dSub (mVar 0) (mOp dPow (mC (.int 10)) (mC (.int 18)))) mNil))) (mCons (mOp dMod (mVar 0) (mC (.int 2147483629))) (mCons (mC (.int 0)) mNil)))))
def takeM (A B : Int) : MS := (sSeq (sIf (mTest (mOp dGt (mOp dIx (mVar 0) (mC (.int 0))) (mC (.int 0)))) (sSeq (sAsg (mOp dMod (mOp dIx (mVar 0) (mC (.int 0))) (mVar 1)) (gSetC 4))
    (sSeq (sAsg (mOp dDiv (mOp dIx (mVar 0) (mC (.int 0))) (mVar 1)) (gSubL (mVar 0) (mC (.int 0))))
    (sRet (mVar 4)))) sNext)
    (sSeq (sAsg (mOp dAdd (mOp dIx (mVar 0) (mC (.int 2))) (mC (.int 1))) (gSubL (mVar 0) (mC (.int 2))))
    (sSeq (sAsg (mOp dMod (mOp dAdd (mOp dAdd (mOp dMul (mOp dIx (mVar 0) (mC (.int 1))) (mC (.int 48271))) (mOp dMul (mC (.int A)) (mOp dIx (mVar 0) (mC (.int 2))))) (mC (.int B))) (mC (.int 2147483647))) (gSetC 2))
    (sSeq (sAsg (mOp dMod (mOp dPow (mOp dAdd (mVar 2) (mOp dMul (mC (.int 15485863)) (mOp dIx (mVar 0) (mC (.int 2))))) (mC (.int 2))) (mC (.int 2147483629))) (gSetC 3))
    (sRet (mOp dMod (mOp dAdd (mOp dDiv (mOp dMod (mOp dPow (mVar 3) (mC (.int 2))) (mC (.int 2147483587))) (mC (.int 16))) (mOp dDiv (mVar 2) (mC (.int 64)))) (mVar 1)))))))
section
variable {ρ : List Sl} {h : Tb} {P : Ps W} {X : Px} {A B i j : Int} {n k : Nat} {d e : D} {ds : List D} {m : Int}
theorem w_mod {Q : W → Prop} (h : 0 < j) (q : Q (.cl (.int (i % j)))) : okW (dMod (.int i) (.int j)) Q := ⟨_, by show (if 0 < j then some (W.cl (.int (i % j))) else none) = _; rw [if_pos h], q⟩
theorem w_div {Q : W → Prop} (h : 0 < j) (h2 : j < big) (q : Q (.cl (.int (i / j)))) : okW (dDiv (.int i) (.int j)) Q := ⟨_, by show (if 0 < j ∧ j < big then some (W.cl (.int (i / j))) else none) = _; rw [if_pos ⟨h, h2⟩], q⟩
theorem w_mul {Q : W → Prop} (h1 : -big < i) (h2 : i < big) (h3 : -big < j) (h4 : j < big) (q : Q (.cl (.int (i * j)))) : okW (dMul (.int i) (.int j)) Q := ⟨_, by show (if -big < i ∧ i < big ∧ -big < j ∧ j < big then some (W.cl (.int (i * j))) else none) = _; rw [if_pos ⟨h1, h2, h3, h4⟩], q⟩
theorem w_sq {Q : W → Prop} (h1 : -18446744073709551616 < i) (h2 : i < 18446744073709551616) (q : Q (.cl (.int (i ^ 2)))) : okW (dPow (.int i) (.int 2)) Q := ⟨_, by show (if (0 : Int) ≤ 2 ∧ (2 : Int) ≤ 1000000 ∧ -18446744073709551616 < i ∧ i < 18446744073709551616 then some (W.cl (.int (i ^ 2))) else none) = _; rw [if_pos ⟨by decide, by decide, h1, h2⟩], q⟩
theorem w_add {Q : W → Prop} (q : Q (.cl (.int (i + j)))) : okW (dAdd (.int i) (.int j)) Q := ⟨_, rfl, q⟩
theorem w_addI {Q : W → Prop} (q : Q (.cl (.int (i + j)))) : okW (dAddI (.int i) (.int j)) Q := ⟨_, rfl, q⟩
theorem w_sub {Q : W → Prop} (q : Q (.cl (.int (i - j)))) : okW (dSub (.int i) (.int j)) Q := ⟨_, rfl, q⟩
theorem w_lt {Q : W → Prop} (q : Q (.cl (.bl (decide (i < j))))) : okW (dLt (.int i) (.int j)) Q := ⟨_, rfl, q⟩
theorem w_le {Q : W → Prop} (q : Q (.cl (.bl (decide (i ≤ j))))) : okW (dLe (.int i) (.int j)) Q := ⟨_, rfl, q⟩
theorem w_gt {Q : W → Prop} (q : Q (.cl (.bl (decide (j < i))))) : okW (dGt (.int i) (.int j)) Q := ⟨_, rfl, q⟩
theorem w_ge {Q : W → Prop} (q : Q (.cl (.bl (decide (j ≤ i))))) : okW (dGe (.int i) (.int j)) Q := ⟨_, rfl, q⟩
theorem w_max2 {Q : W → Prop} (q : Q (.cl (.int (if j > i then j else i)))) : okW (dMax2 [.int i, .int j]) Q := ⟨_, rfl, q⟩
theorem w_min2 {Q : W → Prop} (q : Q (.cl (.int (if j < i then j else i)))) : okW (dMin2 [.int i, .int j]) Q := ⟨_, rfl, q⟩
theorem w_lenL {Q : W → Prop} (q : Q (.cl (.int ds.length))) : okW (dLen [.lst ds]) Q := ⟨_, rfl, q⟩
theorem w_lenT {Q : W → Prop} (q : Q (.cl (.int ds.length))) : okW (dLen [.tup ds]) Q := ⟨_, rfl, q⟩
theorem w_lenC {ns : List Int} {Q : W → Prop} (q : Q (.cl (.int ns.length))) : okW (dLen [.scr ns]) Q := ⟨_, rfl, q⟩
theorem w_listL {Q : W → Prop} (q : Q (W.fr ds)) : okW (dList [.lst ds]) Q := ⟨_, rfl, q⟩
theorem w_listT {Q : W → Prop} (q : Q (W.fr ds)) : okW (dList [.tup ds]) Q := ⟨_, rfl, q⟩
theorem w_tupL {Q : W → Prop} (q : Q (.cl (.tup ds))) : okW (dTuple [.lst ds]) Q := ⟨_, rfl, q⟩
theorem w_tupT {Q : W → Prop} (q : Q (.cl (.tup ds))) : okW (dTuple [.tup ds]) Q := ⟨_, rfl, q⟩
theorem okE_eqn {x : Option (R W)} (q : okE x P X) : okE x P X := q
theorem okW_deref {w : W} {Q : D → Prop} (e : deref h w = some d) (q : Q d) : okW (deref h w) Q := ⟨_, e, q⟩
theorem okW_derefs {ws : List W} {Q : List D → Prop} (e : derefs h ws = some ds) (q : Q ds) : okW (derefs h ws) Q := ⟨_, e, q⟩
theorem okW_derefC {c : Nat} {Q : List D → Prop} (e : h[c]? = some d) (q : Q [d]) : okW (derefs h [.cl (.ce c)]) Q := ⟨[d], by
  show ((h[c]?).bind fun d => (some []).bind fun ds => some (d :: ds)) = _
  rw [e]
  rfl, q⟩
theorem okW_lstAt {c : Nat} {Q : Nat × List D → Prop} (e : h[c]? = some (.lst ds)) (q : Q (c, ds)) : okW (lstAt h (.cl (.ce c))) Q := ⟨_, by
  show (match h[c]? with
    | some (.lst cs) => some (c, cs)
    | _ => none) = _
  rw [e], q⟩
theorem okW_ix {b : D} {w : W} {Q : W → Prop} (e : dIx d b = some w) (q : Q w) : okW (dIx d b) Q := ⟨_, e, q⟩
theorem okB_testd {e : Mo W} {P : Ps Bool} (q : ∃ b, (e ρ h) = some (.ok (.cl (.bl b)) ρ h) ∧ P b ρ h) : okE (mTest e ρ h) P X := by
  obtain ⟨b, e, p⟩ := q
  exact okB_test (okE_eq e ⟨b, rfl, p⟩)
theorem big_eq : big = 10000000000000000000000000000000000000000 := rfl
local macro_rules | `(tactic| walk_at "hv") => `(tactic| first | rfl | assumption | (exact (by assumption : _)))
local macro_rules | `(tactic| walk_at "p1") => `(tactic| first
  | with_reducible refine CM.okS_seq ?_ | with_reducible refine CM.okS_next ?_ | with_reducible refine CM.okS_asg ?_ | with_reducible refine CM.okS_ret ?_ | with_reducible refine CM.okS_drop ?_ | with_reducible refine CM.okS_aug ?_ | with_reducible refine CM.okS_cnt ?_ | with_reducible refine CM.okS_fg ?_ | with_reducible refine CM.okS_retN ?_
  | with_reducible refine CM.okE_op ?_ | with_reducible refine CM.okE_cb ?_ | with_reducible refine CM.okE_cons ?_ | with_reducible refine CM.okE_nil ?_ | with_reducible refine CM.okB_not ?_ | with_reducible refine CM.okE_c ?_ | with_reducible refine CM.okE_fr ?_ | with_reducible refine CM.okE_ce ?_ | with_reducible refine CM.okE_notV ?_ | with_reducible refine CM.okE_un ?_
  | with_reducible refine CM.okE_sl ?_ | with_reducible refine CM.okE_nopart ?_
  | ((with_reducible refine' CM.okE_var ?hv ?_); (case hv => rfl))
  | ((with_reducible refine' CM.okE_part (CM.okE_var ?hv ⟨_, ?hv2, ?_⟩)); (case hv => rfl); (case hv2 => rfl))
  | ((with_reducible refine' CM.okE_part (CM.okE_c ⟨_, ?hv2, ?_⟩)); (case hv2 => rfl))
  | ((with_reducible refine' CM.okW_eq (w := _) ?hv ?_); (case hv => (with_reducible rfl)))
  | ((with_reducible refine' CM.okW_deref ?hv ?_); (case hv => walk_at "hv")) | ((with_reducible refine' CM.okW_derefs ?hv ?_); (case hv => rfl)) | ((with_reducible refine' CM.okW_derefC ?hv ?_); (case hv => walk_at "hv")) | ((with_reducible refine' CM.okW_lstAt ?hv ?_); (case hv => walk_at "hv"))
  | with_reducible refine CM.w_add ?_ | with_reducible refine CM.w_sub ?_ | with_reducible refine CM.w_lt ?_ | with_reducible refine CM.w_le ?_ | with_reducible refine CM.w_gt ?_ | with_reducible refine CM.w_ge ?_ | with_reducible refine CM.w_addI ?_
  | with_reducible refine CM.w_mod (by omega) ?_ | with_reducible refine CM.w_div (by omega) (by rw [CM.big_eq]; omega) ?_ | with_reducible refine CM.w_mul (by rw [CM.big_eq]; omega) (by rw [CM.big_eq]; omega) (by rw [CM.big_eq]; omega) (by rw [CM.big_eq]; omega) ?_ | with_reducible refine CM.w_sq (by omega) (by omega) ?_
  | with_reducible refine CM.w_max2 ?_ | with_reducible refine CM.w_min2 ?_ | with_reducible refine CM.w_lenL ?_ | with_reducible refine CM.w_lenT ?_ | with_reducible refine CM.w_lenC ?_ | with_reducible refine CM.w_listL ?_ | with_reducible refine CM.w_listT ?_ | with_reducible refine CM.w_tupL ?_ | with_reducible refine CM.w_tupT ?_
  | ((with_reducible refine CM.okG_setC ?_); (try dsimp only [List.set, CM.fzW]))
  | ((with_reducible refine' CM.okW_ix ?hv ?_); (case hv => rfl))
  | ((with_reducible refine' CM.okB_test (CM.okE_eqn ⟨_, ?hv, ?_⟩)); (case hv => rfl))
  | ((with_reducible refine' CM.okB_testd ⟨_, ?hv, ?_⟩); (case hv => rfl)))
local macro_rules | `(tactic| walk_at "p") => `(tactic| repeat walk_at "p1")
theorem take_ok {b : Nat} {h0 : Tb} {P : W → Tb → Prop} {X : Str → List (Str × D) → Tb → Prop} (hA : 0 ≤ A) (hA2 : A ≤ 1000000) (hB : 0 ≤ B) (hB2 : B ≤ 1000000) (hb : Bx b n h0 h) (hn : n ≤ 100000000) (hm : 0 < m) (hm2 : m ≤ 1000000) (q : ∀ v h', 0 ≤ v → v < m → Bx b (n + 1) h0 h' → P (.cl (.int v)) h') :
    okF (fnM false 2 3 (takeM A B) [.ce b, .int m] h) P X := by
  obtain ⟨ds, hl, hc⟩ := hb.at_
  obtain ⟨a, s, c, rfl, h1, h2, h3, h4, h5⟩ := hl
  refine okF_fn rfl ?_
  show okS (takeM A B [.cl (.ce b), .cl (.int m), .un, .un, .un] h) _ _ _ _
  refine okS_seq (okS_if (okB_test (okE_op ?_)))
  walk_at "p"
  refine ⟨_, rfl, fun ht => ?_, fun ht => ?_⟩
  · have ht := of_decide_eq_true ht
    walk_at "p"
    refine okG_sub (okE_var rfl (okE_c ⟨0, rfl, ⟨_, (by show (match h[b]? with | some (.lst cs) => some (b, cs) | _ => none) = _; rw [hc]), ⟨0, rfl, ?_⟩⟩⟩))
    have hb2 : Bx b (n + 1) h0 (h.set b (.lst [.int (a / m), .int s, .int c])) := hb.put ⟨a / m, s, c, rfl, Int.ediv_nonneg h1 (by omega), h2, h3, h4, by omega⟩
    walk_at "p"
    exact cut_same (by rw [List.length_set]) (q _ _ (Int.emod_nonneg _ (by omega)) (Int.emod_lt_of_pos _ hm) hb2)
  · refine okS_next ?_
    walk_at "p"
    refine okG_sub (okE_var rfl (okE_c ⟨2, rfl, ⟨_, (by show (match h[b]? with | some (.lst cs) => some (b, cs) | _ => none) = _; rw [hc]), ⟨2, rfl, ?_⟩⟩⟩))
    have hb2 : Bx b (n + 1) h0 (h.set b (.lst [.int a, .int s, .int (c + 1)])) := hb.put ⟨a, s, c + 1, rfl, h1, h2, h3, by omega, by omega⟩
    have hc2 : (h.set b (.lst [.int a, .int s, .int (c + 1)]))[b]? = some (.lst [.int a, .int s, .int (c + 1)]) := List.getElem?_set_self hb.lt
    have hl2 : (h.set b (.lst [.int a, .int s, .int (c + 1)])).length = h.length := List.length_set ..
    show okS _ _ _ _ _
    dsimp only [fzW, List.set] at hb2 hc2 hl2 ⊢
    generalize h.set b (.lst [.int a, .int s, .int (c + 1)]) = h9 at hb2 hc2 hl2 ⊢
    generalize hcc : c + 1 = c1 at hb2 hc2 ⊢
    have k1 : 0 ≤ c1 := by omega
    have k2 : c1 ≤ 100000001 := by omega
    have k3 : 0 ≤ A * c1 := Int.mul_nonneg hA k1
    have k4 : A * c1 ≤ 1000000 * 100000001 := Int.mul_le_mul hA2 k2 k1 (by decide)
    walk_at "p"
    exact cut_same hl2 (q _ _ (Int.emod_nonneg _ (by omega)) (Int.emod_lt_of_pos _ hm) hb2)
theorem okE_take {mf : Fnm} {b : Nat} {h0 : Tb} {k : Nat} {e : Mo W} (hmf : mf = fnM false 2 3 (takeM A B)) (hA : 0 ≤ A) (hA2 : A ≤ 1000000) (hB : 0 ≤ B) (hB2 : B ≤ 1000000) (hs : ρ[k]? = some (.cl (.ce b))) (hb : Bx b n h0 h) (hn : n ≤ 100000000)
    (he : okE (e ρ h) (fun w ρ' h' => ρ' = ρ ∧ h' = h ∧ w = .cl (.int m)) X) (hm : 0 < m) (hm2 : m ≤ 1000000) (q : ∀ v h', 0 ≤ v → v < m → Bx b (n + 1) h0 h' → P (.cl (.int v)) ρ h') :
    okE (callN mf (mCons (mCe (mVar k)) (mCons (mFr e) mNil)) ρ h) P X := by
  subst hmf
  refine okE_call (okE_cons (okE_ce (okE_var hs (okE_cons (okE_fr (he.mono ?_))))))
  rintro w ρ' h' ⟨rfl, rfl, rfl⟩
  exact okE_nil (take_ok hA hA2 hB hB2 hb hn hm hm2 fun v h' v0 v1 hb' => q v h' v0 v1 hb')
theorem box_ok {v : Int} {P : W → Tb → Prop} {X : Str → List (Str × D) → Tb → Prop} (q : ∀ ds, BoxL 0 ds → P (W.fr ds) h) : okF (fnM false 1 0 boxM [.int v] h) P X := by
  refine okF_fn rfl ?_
  show okS (boxM [.cl (.int v)] h) _ _ _ _
  refine okS_ret (okE_eq (w := W.fr [.int (if v - 10 ^ 18 > 0 then v - 10 ^ 18 else 0), .int (v % 2147483629), .int 0]) rfl ?_)
  refine cut_same rfl (q _ ⟨_, _, _, rfl, ?_, Int.emod_nonneg _ (by decide), ?_, by decide, by decide⟩)
  · split
    · omega
    · exact Int.le_refl _
  · have := Int.emod_lt_of_pos v (b := 2147483629) (by decide)
    omega
theorem cell_ok {ns : List Int} {k : Nat} {P : W → Tb → Prop} {X : Str → List (Str × D) → Tb → Prop} (hk : k < 1000000) (hA : 0 ≤ A) (hA2 : A ≤ 100000000) (q : ∀ v, P (.cl (.int v)) h) : okF (fnM false 2 0 (cellM A B) [.scr ns, .int k] h) P X := by
  refine okF_fn rfl ?_
  show okS (cellM A B [.cl (.scr ns), .cl (.int k)] h) _ _ _ _
  refine okS_seq (okS_if (okE_eq (w := decide ((k : Int) < ns.length)) rfl ⟨fun ht => ?_, fun ht => ?_⟩))
  · have ht := of_decide_eq_true ht
    refine okS_ret (okE_op ?_)
    walk_at "p"
    have hk : k < ns.length := by omega
    refine okW_eq (w := .cl (.int (ns[k]))) ?_ ?_
    · show (atI ns (k : Int)).map (fun n => W.cl (.int n)) = _
      have : atI ns (k : Int) = some ns[k] := by
        unfold atI ixN
        rw [if_pos (by omega), if_pos ht]
        show ns[(k : Int).toNat]? = _
        rw [Int.toNat_natCast]
        exact List.getElem?_eq_getElem hk
      rw [this]
      rfl
    · exact cut_same rfl (q _)
  · refine okS_next (okS_ret (okE_op (okE_op ?_)))
    walk_at "p"
    exact cut_same rfl (q _)
end
end CM
namespace CM
open PySem PySem.Spec PyProof.Rows L2 SL
theorem perm_pop {α : Type} : ∀ (l : List α) (v : Nat) (h : v < l.length), (l[v] :: l.eraseIdx v).Perm l
  | [], v, h => absurd h (Nat.not_lt_zero v)
  | a :: l, 0, _ => .refl _
  | a :: l, v + 1, h => have hv : v < l.length := by simpa using h
    (List.Perm.swap a (l[v]'hv) (l.eraseIdx v)).trans ((perm_pop l v hv).cons a)
/-- a text by its signs -/
def S (l : List Nat) : Str := ⟨l.toArray⟩
theorem S_cps (l : List Nat) : (S l).cps.toList = l := rfl
theorem S_len (l : List Nat) : (S l).length = l.length := by rw [SL.len_str]; rfl
theorem S_inj {a b : List Nat} (h : S a = S b) : a = b := by
  have := congrArg (fun z : Str => z.cps.toList) h
  exact this
theorem S_add (a b : List Nat) : S a ++ S b = S (a ++ b) := by
  apply SL.str_ext
  rw [cps_add]
  rfl
theorem S_of (z : Str) : ∃ l, z = S l := ⟨z.cps.toList, by cases z; rfl⟩
theorem S_take (l : List Nat) (k : Nat) : cutS (S l) none (some (k : Int)) = S (l.take k) := by
  unfold cutS
  rw [HT.sIx_none, HT.sIx_nat, S_cps, S_len]
  show S _ = S _
  rw [List.drop_zero, Nat.sub_zero]
  congr 1
  rcases Nat.le_total k l.length with h | h
  · rw [Nat.min_eq_left h]
  · rw [Nat.min_eq_right h, List.take_of_length_le (Nat.le_refl _), List.take_of_length_le h]
theorem S_drop (l : List Nat) (k : Nat) : cutS (S l) (some (k : Int)) none = S (l.drop k) := by
  unfold cutS
  rw [HT.sIx_none, HT.sIx_nat, S_cps, S_len]
  show S _ = S _
  congr 1
  rcases Nat.le_total k l.length with h | h
  · rw [Nat.min_eq_left h]
    exact List.take_of_length_le (by rw [List.length_drop]; exact Nat.le_refl _)
  · rw [Nat.min_eq_right h, List.drop_of_length_le (Nat.le_refl _), List.drop_of_length_le h, List.take_nil]
theorem S_join (ls : List (List Nat)) : Txt.join "" (ls.map S) = S ls.flatten := by
  apply SL.str_ext
  rw [TL.join_eq]
  have e := TL.tl_join "" (ls.map S)
  have e2 : TL.tl ("" : Str) = [] := by decide +kernel
  rw [e2, joinL_nil, List.map_map] at e
  have e3 : (Str.join "" (ls.map S)).cps.toList = (ls.map (TL.tl ∘ S)).flatten := e
  rw [e3]
  have : ls.map (TL.tl ∘ S) = ls := by
    conv => rhs; rw [← List.map_id ls]
    rfl
  rw [this]
  rfl
def lets : List Nat := [97,98,99,100,101,102,103,104,105,106,107,108,109,110,111,112,113,114,115,116,117,118,119,120,121,122]
theorem letters_eq : ("abcdefghijklmnopqrstuvwxyz" : Str) = S lets := by decide +kernel
/-- the signs of a name -/
def NmL (l : List Nat) : Prop := 1 ≤ l.length ∧ l.length ≤ 8 ∧ ∀ c ∈ l, c ∈ lets
def Nm (z : Str) : Prop := NmL z.cps.toList
/-- a letter by its number -/
def lt (i : Int) : Nat := lets.getD i.toNat 0
theorem lt_mem {i : Int} (h0 : 0 ≤ i) (h1 : i < 26) : lt i ∈ lets := by
  unfold lt
  have h : i.toNat < lets.length := by show i.toNat < 26; omega
  rw [List.getD_eq_getElem?_getD, List.getElem?_eq_getElem h]
  exact List.getElem_mem h
theorem lt_at {i : Int} (h0 : 0 ≤ i) (h1 : i < 26) : atI lets i = some (lt i) := by
  have h : i.toNat < lets.length := by show i.toNat < 26; omega
  unfold atI ixN
  rw [if_pos h0, if_pos (by show i < 26; exact h1)]
  show lets[i.toNat]? = _
  unfold lt
  rw [List.getD_eq_getElem?_getD, List.getElem?_eq_getElem h]
  rfl
theorem lets_get : ∀ i < 26, lets.getD i 0 = 97 + i := by decide +kernel
theorem lt_eq {i : Int} (h0 : 0 ≤ i) (h1 : i < 26) : (lt i : Int) = 97 + i := by
  unfold lt
  rw [lets_get i.toNat (by omega)]
  omega
theorem lt_inj {i j : Int} (h0 : 0 ≤ i) (h1 : i < 26) (k0 : 0 ≤ j) (k1 : j < 26) (h : lt i = lt j) : i = j := by
  have a := lt_eq h0 h1
  have b := lt_eq k0 k1
  rw [h] at a
  omega
theorem w_letter {i : Int} {Q : W → Prop} (h0 : 0 ≤ i) (h1 : i < 26) (q : Q (.cl (.str (S [lt i])))) : okW (dIx (.str (S lets)) (.int i)) Q := by
  refine ⟨_, ?_, q⟩
  show (if (S lets).length ≤ 100000 then (atI (S lets).cps.toList i).map (fun c => W.cl (.str ⟨#[c]⟩)) else none) = _
  rw [if_pos (by decide +kernel), S_cps, lt_at h0 h1]
  rfl
theorem w_adds {a b : List Nat} {Q : W → Prop} (h : a.length + b.length ≤ 100000) (q : Q (.cl (.str (S (a ++ b))))) : okW (dAdd (.str (S a)) (.str (S b))) Q := by
  refine ⟨_, ?_, q⟩
  show (if (S a).length + (S b).length ≤ 100000 then some (W.cl (.str (S a ++ S b))) else none) = _
  rw [S_len, S_len, if_pos h, S_add]
theorem w_take {a : List Nat} {k : Nat} {Q : W → Prop} (h : a.length ≤ 100000) (q : Q (.cl (.str (S (a.take k))))) : okW (dSl (.str (S a)) none (some (k : Int))) Q := by
  refine ⟨_, ?_, q⟩
  show (if (S a).length ≤ 100000 then some (W.cl (.str (cutS (S a) none (some (k : Int))))) else none) = _
  rw [S_len, if_pos h, S_take]
theorem w_drop {a : List Nat} {k : Nat} {Q : W → Prop} (h : a.length ≤ 100000) (q : Q (.cl (.str (S (a.drop k))))) : okW (dSl (.str (S a)) (some (k : Int)) none) Q := by
  refine ⟨_, ?_, q⟩
  show (if (S a).length ≤ 100000 then some (W.cl (.str (cutS (S a) (some (k : Int)) none))) else none) = _
  rw [S_len, if_pos h, S_drop]
theorem strsOf_map (zs : List Str) : strsOf (zs.map D.str) = some zs := by
  induction zs with
  | nil => rfl
  | cons z zs ih =>
    show (strsOf (zs.map D.str)).map (z :: ·) = _
    rw [ih]
    rfl
theorem w_join {ls : List (List Nat)} {Q : W → Prop} (h : ls.flatten.length ≤ 100000) (q : Q (.cl (.str (S ls.flatten)))) : okW (fJoin "" [.lst ((ls.map S).map .str)]) Q := by
  refine ⟨_, ?_, q⟩
  show ((strsOf ((ls.map S).map .str)).bind fun zs => if (zs.map (·.length)).sum + zs.length * (("" : Str).length) ≤ 16777216 then some (W.cl (.str (Txt.join "" zs))) else none) = _
  rw [strsOf_map]
  show (if ((ls.map S).map (·.length)).sum + (ls.map S).length * (("" : Str).length) ≤ 16777216 then some (W.cl (.str (Txt.join "" (ls.map S)))) else none) = _
  rw [S_join]
  have e : (((ls.map S).map (·.length)).sum + (ls.map S).length * (("" : Str).length)) ≤ 16777216 := by
    have e2 : (("" : Str).length) = 0 := by decide +kernel
    rw [e2, Nat.mul_zero, Nat.add_zero]
    have : ((ls.map S).map (·.length)).sum = ls.flatten.length := by
      clear h q
      induction ls with
      | nil => rfl
      | cons l ls ih => rw [List.map_cons, List.map_cons, List.sum_cons, ih, List.flatten_cons, List.length_append, S_len]
    omega
  rw [if_pos e]
/-- words that fit, each its own -/
theorem words_ok {R : Nat → List Nat → Prop} {m : Nat} {ls : List (List Nat)} (hl : ls.length = m) (hR : ∀ (i : Nat) (h : i < ls.length), R i ls[i]) (hi : ∀ i j l, i < m → j < m → R i l → R j l → i = j) (hN : ∀ i l, i < m → R i l → NmL l) : ls.Nodup ∧ ∀ l ∈ ls, NmL l := by
  constructor
  · unfold List.Nodup
    rw [List.pairwise_iff_getElem]
    intro i j h1 h2 h e
    have a := hR i h1
    rw [e] at a
    have := hi i j _ (by omega) (by omega) a (hR j h2)
    omega
  · intro l h
    obtain ⟨i, h1, rfl⟩ := List.getElem_of_mem h
    exact hN i _ (by omega) (hR i h1)
section
variable {ρ : List Sl} {h h0 : Tb} {N : List Sl → Tb → Prop} {T : Ps W} {L : Bool → List Sl → Tb → Prop} {P : Ps W} {X : Px} {A B : Int} {i b n k : Nat} {d e : D} {ds cs xs ys : List D} {m : Int} {es : Mo (List W)} {m1 m2 : MS} {it : Mo ItM} {t : Mo Bool} {el : Mo W}
theorem wipe1 {s : Sl} (hi : ρ[i]? = some .un) : wipeS [i] (ρ.set i s) = ρ := by
  show (ρ.set i s).set i .un = ρ
  rw [List.set_set]
  exact set_self hi
/-- [el for x in items if t], x in slot i -/
theorem okE_lcF (I : Nat → Tb → List D → Prop) (hi : ρ[i]? = some .un) (q : okE (it ρ h) (fun y ρ' h' => ρ' = ρ ∧ y = ⟨ds, []⟩ ∧ I 0 h' []) X)
    (hs : ∀ j d h acc, ds[j]? = some d → I j h acc → okE (t (ρ.set i (.cl d)) h) (fun b ρ' h => ρ' = ρ.set i (.cl d) ∧ (b = true → okE (el (ρ.set i (.cl d)) h) (fun w ρ' h' => ρ' = ρ.set i (.cl d) ∧ I (j + 1) h' (acc ++ [fzW w])) X) ∧ (b = false → I (j + 1) h acc)) X)
    (hp : ∀ h acc, I ds.length h acc → P (W.fr acc) ρ h) : okE (mLc it (gSetC i) t el [i] ρ h) P X := by
  refine okE_lc (q.mono ?_)
  rintro y ρ' h' ⟨rfl, rfl, h0⟩
  refine ⟨?_, okE_loopC0 (fun j ρ'' h acc => ρ'' = ρ' ∧ I j h acc) _ 0 ⟨rfl, h0⟩ ?_ ?_⟩
  · exact idle_of fun j hj => by rw [List.mem_singleton.mp hj]; exact hi
  · rintro j d ρ'' h acc hj ⟨rfl, hI⟩
    rw [Nat.zero_add] at hI ⊢
    refine okG_setC ((hs j d h acc hj hI).mono ?_)
    rintro b ρ2 h2 ⟨rfl, hT, hF⟩
    refine ⟨fun hb => (hT hb).mono ?_, fun hb => ?_⟩
    · rintro w ρ3 h3 ⟨rfl, hI⟩
      exact ⟨wipe1 hi, hI⟩
    · exact ⟨wipe1 hi, hF hb⟩
  · rintro ρ'' h acc ⟨rfl, hI⟩
    rw [Nat.zero_add] at hI
    exact hp h acc hI
theorem okE_lc1 (I : Nat → Tb → List D → Prop) (hi : ρ[i]? = some .un) (q : okE (it ρ h) (fun y ρ' h' => ρ' = ρ ∧ y = ⟨ds, []⟩ ∧ I 0 h' []) X)
    (hs : ∀ j d h acc, ds[j]? = some d → I j h acc → okE (el (ρ.set i (.cl d)) h) (fun w ρ' h' => ρ' = ρ.set i (.cl d) ∧ I (j + 1) h' (acc ++ [fzW w])) X)
    (hp : ∀ h acc, I ds.length h acc → P (W.fr acc) ρ h) : okE (mLc it (gSetC i) mYes el [i] ρ h) P X :=
  okE_lcF I hi q (fun j d h acc hj hI => okE_eq rfl ⟨rfl, fun _ => hs j d h acc hj hI, fun z => by cases z⟩) hp
/-- items by their numbers: the same table -/
theorem popAt_ok {Q : D × List D → Prop} {v : Int} (h0 : 0 ≤ v) (h1 : v < cs.length) (h2 : cs.length ≤ 100000) (q : ∀ hv : v.toNat < cs.length, Q (cs[v.toNat], cs.eraseIdx v.toNat)) : okW (fPopAt cs [.int v]) Q := by
  have hv : v.toNat < cs.length := by omega
  refine ⟨_, ?_, q hv⟩
  show (if cs.length ≤ 100000 then (ixN cs.length v).bind fun k => (cs[k]?).map fun d => (d, cs.eraseIdx k) else none) = _
  rw [if_pos h2]
  have : ixN cs.length v = some v.toNat := by
    unfold ixN
    rw [if_pos h0, if_pos h1]
  rw [this]
  show (cs[v.toNat]?).map (fun d => (d, cs.eraseIdx v.toNat)) = _
  rw [List.getElem?_eq_getElem hv]
  rfl
theorem rng_ok {m : Nat} {it : ItM} {P : Ps ItM} (hm : m ≤ 1000) (hes : okE (es ρ h) (fun ws ρ' h' => ws = [.cl (.int m)] ∧ ρ' = ρ ∧ h' = h) X) (p : P ⟨(List.range m).map fun i => .int (i : Nat), []⟩ ρ h) : okE (mRng1 es ρ h) P X := okE_rng1 (hes.mono (by
  rintro ws ρ' h' ⟨rfl, rfl, rfl⟩
  exact okW_derefs rfl ⟨(m : Int), rfl, by omega, by omega, p⟩))
theorem rng_at {m j : Nat} {d : D} (h : ((List.range m).map fun i => D.int (i : Nat))[j]? = some d) : j < m ∧ d = .int (j : Nat) := by
  obtain ⟨h1, h2⟩ := List.getElem?_eq_some_iff.mp h
  rw [List.length_map, List.length_range] at h1
  rw [List.getElem_map, List.getElem_range] at h2
  exact ⟨h1, h2.symm⟩
noncomputable def mixedM (tk : Fnm) : MS := (sSeq (sAsg (mCB dList (mCons (mVar 1) mNil)) (gSet 2))
    (sRet (mLc (mRng1 (mCons (mCB dLen (mCons (mVar 1) mNil)) mNil)) (gSetC 3) mYes (mMut fPopAt (mVar 2) (mCons (callN tk (mCons (mCe (mVar 0)) (mCons (mFr (mCB dLen (mCons (mVar 2) mNil))) mNil))) mNil)) [3])))
local macro_rules | `(tactic| walk_at "hv") => `(tactic| first | rfl | assumption | (exact (by assumption : _)))
local macro_rules | `(tactic| walk_at "p1") => `(tactic| first
  | with_reducible refine CM.okS_seq ?_ | with_reducible refine CM.okS_next ?_ | with_reducible refine CM.okS_asg ?_ | with_reducible refine CM.okS_ret ?_ | with_reducible refine CM.okS_drop ?_ | with_reducible refine CM.okS_aug ?_ | with_reducible refine CM.okS_cnt ?_ | with_reducible refine CM.okS_fg ?_ | with_reducible refine CM.okS_retN ?_
  | with_reducible refine CM.okE_op ?_ | with_reducible refine CM.okE_cb ?_ | with_reducible refine CM.okE_cons ?_ | with_reducible refine CM.okE_nil ?_ | with_reducible refine CM.okB_not ?_ | with_reducible refine CM.okE_c ?_ | with_reducible refine CM.okE_fr ?_ | with_reducible refine CM.okE_ce ?_ | with_reducible refine CM.okE_notV ?_ | with_reducible refine CM.okE_un ?_
  | with_reducible refine CM.okE_sl ?_ | with_reducible refine CM.okE_nopart ?_
  | ((with_reducible refine' CM.okE_var ?hv ?_); (case hv => rfl))
  | ((with_reducible refine' CM.okE_part (CM.okE_var ?hv ⟨_, ?hv2, ?_⟩)); (case hv => rfl); (case hv2 => rfl))
  | ((with_reducible refine' CM.okE_part (CM.okE_c ⟨_, ?hv2, ?_⟩)); (case hv2 => rfl))
  | ((with_reducible refine' CM.okW_eq (w := _) ?hv ?_); (case hv => (with_reducible rfl)))
  | ((with_reducible refine' CM.okW_deref ?hv ?_); (case hv => walk_at "hv")) | ((with_reducible refine' CM.okW_derefs ?hv ?_); (case hv => rfl)) | ((with_reducible refine' CM.okW_derefC ?hv ?_); (case hv => walk_at "hv")) | ((with_reducible refine' CM.okW_lstAt ?hv ?_); (case hv => walk_at "hv"))
  | with_reducible refine CM.w_add ?_ | with_reducible refine CM.w_sub ?_ | with_reducible refine CM.w_lt ?_ | with_reducible refine CM.w_le ?_ | with_reducible refine CM.w_gt ?_ | with_reducible refine CM.w_ge ?_ | with_reducible refine CM.w_addI ?_
  | with_reducible refine CM.w_mod (by omega) ?_ | with_reducible refine CM.w_div (by omega) (by rw [CM.big_eq]; omega) ?_ | with_reducible refine CM.w_mul (by rw [CM.big_eq]; omega) (by rw [CM.big_eq]; omega) (by rw [CM.big_eq]; omega) (by rw [CM.big_eq]; omega) ?_ | with_reducible refine CM.w_sq (by omega) (by omega) ?_
  | with_reducible refine CM.w_max2 ?_ | with_reducible refine CM.w_min2 ?_ | with_reducible refine CM.w_lenL ?_ | with_reducible refine CM.w_lenT ?_ | with_reducible refine CM.w_lenC ?_ | with_reducible refine CM.w_listL ?_ | with_reducible refine CM.w_listT ?_ | with_reducible refine CM.w_tupL ?_ | with_reducible refine CM.w_tupT ?_
  | ((with_reducible refine CM.okG_setC ?_); (try dsimp only [List.set, CM.fzW]))
  | ((with_reducible refine' CM.okW_ix ?hv ?_); (case hv => rfl))
  | ((with_reducible refine' CM.okB_test (CM.okE_eqn ⟨_, ?hv, ?_⟩)); (case hv => rfl))
  | ((with_reducible refine' CM.okB_testd ⟨_, ?hv, ?_⟩); (case hv => rfl)))
local macro_rules | `(tactic| walk_at "p") => `(tactic| repeat walk_at "p1")
theorem mixed_ok {h0 : Tb} {P : W → Tb → Prop} {X : Str → List (Str × D) → Tb → Prop} (hA : 0 ≤ A) (hA2 : A ≤ 1000000) (hB : 0 ≤ B) (hB2 : B ≤ 1000000) (hb : Bx b n h0 h) (hn : n ≤ 90000000) (hx : xs.length ≤ 1000) (hbl : ∀ x ∈ xs, below h.length x = true) (q : ∀ ys h', ys.Perm xs → Bx b (n + xs.length) h0 h' → P (W.fr ys) h') :
    okF (fnM false 2 2 (mixedM (fnM false 2 3 (takeM A B))) [.ce b, .lst xs] h) P X := by
  refine okF_fn rfl ?_
  show okS (mixedM (fnM false 2 3 (takeM A B)) [.cl (.ce b), .cl (.lst xs), .un, .un] h) _ _ _ _
  refine okS_seq (okS_asg (okE_cb ?_))
  walk_at "p"
  refine okG_set ?_
  show okS _ _ _ _ _
  dsimp only [List.set]
  refine okS_ret ?_
  have hbh := hb.self
  refine okE_lc1 (ds := (List.range xs.length).map fun i => .int (i : Nat)) (fun j h' acc => ∃ ls h1, h' = h1 ++ [.lst ls] ∧ ls.length + j = xs.length ∧ (acc ++ ls).Perm xs ∧ Bx b (n + j) h h1) rfl ?_ ?_ ?_
  · refine rng_ok (m := xs.length) (it := ⟨[], []⟩) hx ?_ ⟨rfl, rfl, xs, h, rfl, by omega, .refl _, hbh⟩
    walk_at "p"
    exact ⟨rfl, rfl, rfl⟩
  · rintro j d h' acc hj ⟨ls, h1, rfl, g1, g2, g3⟩
    obtain ⟨hj2, rfl⟩ := rng_at hj
    dsimp only [List.set]
    have hlen := g3.len
    have hcell : (h1 ++ [D.lst ls])[h.length]? = some (.lst ls) := by
      rw [List.getElem?_append_right (by omega), hlen, Nat.sub_self]
      rfl
    refine okE_mut (okE_var rfl (okW_lstAt hcell ?_))
    refine okE_cons (okE_take (m := ls.length) rfl hA hA2 hB hB2 rfl (g3.app (g := [D.lst ls])) (by omega) ?_ (by omega) (by omega) fun v h2 v0 v1 hb2 => ?_)
    · walk_at "p"
      exact ⟨rfl, rfl, rfl⟩
    obtain ⟨h3, rfl, hb3⟩ := hb2.unapp hbh.lt
    have hlen3 := hb3.len
    have hcell2 : (h3 ++ [D.lst ls])[h.length]? = some (.lst ls) := by
      rw [List.getElem?_append_right (by omega), hlen3, Nat.sub_self]
      rfl
    refine okE_nil (okW_lstAt hcell2 (popAt_ok (cs := ls) v0 v1 (by omega) fun hv => ⟨rfl, ls.eraseIdx v.toNat, h3, ?_, ?_, ?_, ?_⟩))
    · rw [List.set_append_right _ _ (by omega), hlen3, Nat.sub_self]
      rfl
    · rw [List.length_eraseIdx_of_lt hv]
      omega
    · rw [List.append_assoc]
      exact (List.Perm.append_left acc (perm_pop ls v.toNat hv)).trans g2
    · exact hb3
  · rintro h' acc ⟨ls, h1, rfl, g1, g2, g3⟩
    have g1 : ls = [] := by
      rw [List.length_map, List.length_range] at g1
      have : ls.length = 0 := by omega
      exact List.eq_nil_of_length_eq_zero this
    subst g1
    rw [List.append_nil] at g2
    rw [List.length_map, List.length_range] at g3
    refine cut_app g3.len (Bx.cut hbh g3) (fun _ z => by cases z) ?_ (q _ _ g2 (hb.trans g3))
    show below h.length (.lst acc) = true
    rw [below_lst, List.all_eq_true]
    exact fun x hx => hbl x (g2.mem_iff.mp hx)
theorem okE_mixed {mf : Fnm} {h0 : Tb} {k : Nat} {e : Mo W} (hmf : mf = fnM false 2 2 (mixedM (fnM false 2 3 (takeM A B)))) (hA : 0 ≤ A) (hA2 : A ≤ 1000000) (hB : 0 ≤ B) (hB2 : B ≤ 1000000) (hs : ρ[k]? = some (.cl (.ce b))) (hb : Bx b n h0 h) (hn : n ≤ 90000000)
    (he : okE (e ρ h) (fun w ρ' h' => ρ' = ρ ∧ h' = h ∧ fzW w = .lst xs) X) (hx : xs.length ≤ 1000) (hbl : ∀ x ∈ xs, below h.length x = true) (q : ∀ ys h', ys.Perm xs → Bx b (n + xs.length) h0 h' → P (W.fr ys) ρ h') :
    okE (callN mf (mCons (mCe (mVar k)) (mCons (mFr e) mNil)) ρ h) P X := by
  subst hmf
  refine okE_call (okE_cons (okE_ce (okE_var hs (okE_cons (okE_fr (he.mono ?_))))))
  rintro w ρ' h' ⟨rfl, rfl, ew⟩
  refine okE_nil ?_
  show okF (fnM false 2 2 (mixedM (fnM false 2 3 (takeM A B))) [.ce b, fzW w] h') _ _
  rw [ew]
  exact mixed_ok hA hA2 hB hB2 hb hn hx hbl fun ys h' v0 hb' => q ys h' v0 hb'
/-- [e for k in range(..)], e a text by k: the box may be drawn from -/
theorem okE_words {e : Mo W} {R : Nat → List Nat → Prop} {h0 : Tb} {q m : Nat} {es : Mo (List W)} (hi : ρ[i]? = some .un) (hb : Bx b n h0 h) (hm : m ≤ 1000)
    (hes : okE (es ρ h) (fun ws ρ' h' => ws = [.cl (.int m)] ∧ ρ' = ρ ∧ h' = h) X)
    (he : ∀ k h, k < m → Bx b (n + q * k) h0 h → okE (e (ρ.set i (.cl (.int k))) h) (fun w ρ' h' => ∃ l, w = .cl (.str (S l)) ∧ ρ' = ρ.set i (.cl (.int k)) ∧ Bx b (n + q * k + q) h0 h' ∧ R k l) X)
    (p : ∀ (ls : List (List Nat)) (h' : Tb), ls.length = m → (∀ (i : Nat) (h : i < ls.length), R i ls[i]) → Bx b (n + q * m) h0 h' → P (W.fr ((ls.map S).map .str)) ρ h') :
    okE (mLc (mRng1 es) (gSetC i) mYes e [i] ρ h) P X := by
  refine okE_lc1 (ds := (List.range m).map fun i => .int (i : Nat)) (fun j h' acc => ∃ ls : List (List Nat), acc = (ls.map S).map .str ∧ ls.length = j ∧ (∀ (i : Nat) (h : i < ls.length), R i ls[i]) ∧ Bx b (n + q * j) h0 h') hi ?_ ?_ ?_
  · exact rng_ok (it := ⟨[], []⟩) hm hes ⟨rfl, rfl, [], rfl, rfl, fun i h => absurd h (Nat.not_lt_zero i), hb⟩
  · rintro j d h' acc hj ⟨ls, rfl, g1, g2, g3⟩
    obtain ⟨hj2, rfl⟩ := rng_at hj
    refine (he j h' hj2 g3).mono ?_
    rintro w ρ' h2 ⟨l, rfl, rfl, g4, g5⟩
    refine ⟨rfl, ls ++ [l], ?_, ?_, ?_, ?_⟩
    · simp [fzW]
    · rw [List.length_append, g1]
      rfl
    · intro i h
      rw [List.getElem_append]
      split
      · exact g2 i _
      · have : i = j := by
          rw [List.length_append] at h
          have : i < ls.length + 1 := h
          omega
        subst this
        simpa [g1] using g5
    · rw [show n + q * (j + 1) = n + q * j + q by rw [Nat.mul_add, Nat.mul_one]; omega]
      exact g4
  · rintro h' acc ⟨ls, rfl, g1, g2, g3⟩
    rw [List.length_map, List.length_range] at g1 g3
    exact p _ _ g1 g2 g3
theorem w_eqi {i j : Int} {Q : W → Prop} (q : Q (.cl (.bl (decide (i = j))))) : okW (dEq (.int i) (.int j)) Q := by
  refine ⟨_, ?_, q⟩
  have h1 : ∀ x : Int, SeqAt.shaped (.int x) = true := fun x => by simp [SeqAt.shaped, PyData.canLay0, PyData.depth]
  show (if SeqAt.shaped (.int i) = true ∧ SeqAt.shaped (.int j) = true then some (PyData.eqv (.int i) (.int j)) else none).map (fun b => W.cl (.bl b)) = _
  rw [if_pos ⟨h1 _, h1 _⟩]
  have : PyData.eqv (.int i) (.int j) = decide (i = j) := by
    unfold PyData.eqv
    by_cases h : i = j
    · subst h
      simp
    · simp [h]
  rw [this]
  rfl
theorem okE_test_eqi {P : Ps Bool} {k : Nat} {i j : Int} (e : ρ[k]? = some (.cl (.int i))) (q : P (decide (i = j)) ρ h) : okE (mTest (mOp dEq (mVar k) (mC (.int j))) ρ h) P X :=
  okB_test (okE_op (okE_var e (okE_c (okW_eq rfl (okW_eq rfl (w_eqi ⟨_, rfl, q⟩))))))
end
section
variable {ρ : List Sl} {h : Tb} {P : Ps W} {X : Px} {A B : Int} {i j : Int} {b n k : Nat} {d e : D} {ds cs xs ys : List D}
local macro_rules | `(tactic| walk_at "hv") => `(tactic| first | rfl | assumption | (exact (by assumption : _)))
local macro_rules | `(tactic| walk_at "p1") => `(tactic| first
  | with_reducible refine CM.okS_seq ?_ | with_reducible refine CM.okS_next ?_ | with_reducible refine CM.okS_asg ?_ | with_reducible refine CM.okS_ret ?_ | with_reducible refine CM.okS_drop ?_ | with_reducible refine CM.okS_aug ?_ | with_reducible refine CM.okS_cnt ?_ | with_reducible refine CM.okS_fg ?_ | with_reducible refine CM.okS_retN ?_
  | with_reducible refine CM.okE_op ?_ | with_reducible refine CM.okE_cb ?_ | with_reducible refine CM.okE_cons ?_ | with_reducible refine CM.okE_nil ?_ | with_reducible refine CM.okB_not ?_ | with_reducible refine CM.okE_c ?_ | with_reducible refine CM.okE_fr ?_ | with_reducible refine CM.okE_ce ?_ | with_reducible refine CM.okE_notV ?_ | with_reducible refine CM.okE_un ?_
  | with_reducible refine CM.okE_sl ?_ | with_reducible refine CM.okE_nopart ?_
  | ((with_reducible refine' CM.okE_var ?hv ?_); (case hv => rfl))
  | ((with_reducible refine' CM.okE_part (CM.okE_var ?hv ⟨_, ?hv2, ?_⟩)); (case hv => rfl); (case hv2 => rfl))
  | ((with_reducible refine' CM.okE_part (CM.okE_c ⟨_, ?hv2, ?_⟩)); (case hv2 => rfl))
  | ((with_reducible refine' CM.okW_eq (w := _) ?hv ?_); (case hv => (with_reducible rfl)))
  | ((with_reducible refine' CM.okW_deref ?hv ?_); (case hv => walk_at "hv")) | ((with_reducible refine' CM.okW_derefs ?hv ?_); (case hv => rfl)) | ((with_reducible refine' CM.okW_derefC ?hv ?_); (case hv => walk_at "hv")) | ((with_reducible refine' CM.okW_lstAt ?hv ?_); (case hv => walk_at "hv"))
  | with_reducible refine CM.w_add ?_ | with_reducible refine CM.w_sub ?_ | with_reducible refine CM.w_lt ?_ | with_reducible refine CM.w_le ?_ | with_reducible refine CM.w_gt ?_ | with_reducible refine CM.w_ge ?_ | with_reducible refine CM.w_addI ?_
  | with_reducible refine CM.w_mod (by omega) ?_ | with_reducible refine CM.w_div (by omega) (by rw [CM.big_eq]; omega) ?_ | with_reducible refine CM.w_mul (by rw [CM.big_eq]; omega) (by rw [CM.big_eq]; omega) (by rw [CM.big_eq]; omega) (by rw [CM.big_eq]; omega) ?_ | with_reducible refine CM.w_sq (by omega) (by omega) ?_
  | with_reducible refine CM.w_max2 ?_ | with_reducible refine CM.w_min2 ?_ | with_reducible refine CM.w_lenL ?_ | with_reducible refine CM.w_lenT ?_ | with_reducible refine CM.w_lenC ?_ | with_reducible refine CM.w_listL ?_ | with_reducible refine CM.w_listT ?_ | with_reducible refine CM.w_tupL ?_ | with_reducible refine CM.w_tupT ?_
  | ((with_reducible refine CM.okG_setC ?_); (try dsimp only [List.set, CM.fzW]))
  | ((with_reducible refine' CM.okW_ix ?hv ?_); (case hv => rfl))
  | ((with_reducible refine' CM.okB_test (CM.okE_eqn ⟨_, ?hv, ?_⟩)); (case hv => rfl))
  | ((with_reducible refine' CM.okB_testd ⟨_, ?hv, ?_⟩); (case hv => rfl)))
local macro_rules | `(tactic| walk_at "p") => `(tactic| repeat walk_at "p1")
/-- what the columns are: names, each its own -/
def Cols (m : Nat) (ls : List (List Nat)) : Prop := ls.length = m ∧ ls.Nodup ∧ ∀ l ∈ ls, NmL l
def colF (b : Nat) (m : Nat) (w f : Int) (st : List Nat) (t : Nat) (ls : List (List Nat)) (s8 : Sl) : List Sl := [.cl (.ce b), .cl (.int m), .cl (.str (S lets)), .cl (.int w), .cl (.int f), .cl (.str (S st)), .cl (.int t), .cl (.lst ((ls.map S).map .str)), s8, .un]
theorem flat_one : ∀ (ls : List (List Nat)), (∀ (i : Nat) (h : i < ls.length), ls[i].length = 1 ∧ ∀ c ∈ ls[i], c ∈ lets) → ls.flatten.length = ls.length ∧ ∀ c ∈ ls.flatten, c ∈ lets
  | [], _ => ⟨rfl, fun c h => by cases h⟩
  | l :: ls, h => by
    have h0 := h 0 (Nat.zero_lt_succ _)
    obtain ⟨a, b⟩ := flat_one ls fun i hi => h (i + 1) (by simpa using hi)
    rw [List.flatten_cons]
    constructor
    · rw [List.length_append, a]
      have : l.length = 1 := h0.1
      rw [this, List.length_cons]
      omega
    · intro c hc
      rcases List.mem_append.mp hc with q | q
      · exact h0.2 c q
      · exact b c q
theorem perm_map {α β : Type} {f : α → β} (g : β → α) (hg : ∀ x, g (f x) = x) {xs : List α} {ys : List β} (h : ys.Perm (xs.map f)) : ∃ zs : List α, ys = zs.map f ∧ zs.Perm xs := by
  refine ⟨ys.map g, ?_, ?_⟩
  · rw [List.map_map]
    conv => lhs; rw [← List.map_id ys]
    refine List.map_congr_left fun y hy => ?_
    obtain ⟨x, _, rfl⟩ := List.mem_map.mp (h.mem_iff.mp hy)
    show f x = f (g (f x))
    rw [hg]
  · have z := h.map g
    rw [List.map_map] at z
    have e : xs.map (g ∘ f) = xs := by
      conv => rhs; rw [← List.map_id xs]
      exact List.map_congr_left fun x _ => hg x
    rw [e] at z
    exact z
def unS : D → List Nat
  | .str z => z.cps.toList
  | _ => []
end
end CM
namespace CM
open PySem PySem.Spec PyProof.Rows L2 SL
abbrev LS (zs : List Str) : List D := zs.map .str
theorem pds_strs : ∀ zs : List Str, pds (LS zs) = some (zs.map PyData.str)
  | [] => rfl
  | z :: zs => by
    show (pd (.str z)).bind (fun x => (pds (LS zs)).map (x :: ·)) = _
    rw [pds_strs zs]
    rfl
theorem pd_strs (zs : List Str) : pd (.lst (LS zs)) = some (.list (zs.map PyData.str)) := by
  show (pds (LS zs)).map PyData.list = _
  rw [pds_strs]
  rfl
theorem eqv_strs : ∀ zs ws : List Str, PyData.eqvAll (zs.map PyData.str) (ws.map PyData.str) = decide (zs = ws)
  | [], [] => by simp [PyData.eqvAll]
  | [], w :: ws => by simp [PyData.eqvAll]
  | z :: zs, [] => by simp [PyData.eqvAll]
  | z :: zs, w :: ws => by
    rw [List.map_cons, List.map_cons, PyData.eqvAll, eqv_strs zs ws, PyData.eqv]
    by_cases h : z = w
    · subst h
      simp
    · simp [h]
def Ascs (zs : List Str) : Prop := ∀ z ∈ zs, Asc z
theorem dEqB_L {zs ws : List Str} (h1 : Ascs zs) (h2 : Ascs ws) : dEqB (.lst (LS zs)) (.lst (LS ws)) = some (decide (zs = ws)) := by
  show dEqB0 _ _ = _
  unfold dEqB0
  rw [pd_strs, pd_strs]
  show (if _ ∧ _ then some _ else none) = _
  rw [if_pos ⟨shaped_strs h1, shaped_strs h2⟩, PyData.eqv, eqv_strs]
theorem w_eq {a b : D} {c : Bool} {Q : W → Prop} (h : dEqB a b = some c) (q : Q (.cl (.bl c))) : okW (dEq a b) Q := ⟨_, by unfold dEq; rw [h]; rfl, q⟩
theorem w_ne {a b : D} {c : Bool} {Q : W → Prop} (h : dEqB a b = some c) (q : Q (.cl (.bl (!c)))) : okW (dNe a b) Q := ⟨_, by unfold dNe; rw [h]; rfl, q⟩
theorem flats_strs : ∀ zs : List Str, flats (LS zs) = some (zs.map V.str)
  | [] => rfl
  | z :: zs => by
    show (flat (.str z)).bind (fun v => (flats (LS zs)).map (v :: ·)) = _
    rw [flats_strs zs]
    rfl
theorem inV_strs {x : Str} {ys : List Str} : inV (.str x) (ys.map V.str) = decide (x ∈ ys) := by
  unfold inV
  rw [Bool.eq_iff_iff, List.any_eq_true, decide_eq_true_eq]
  constructor
  · rintro ⟨v, hv, e⟩
    obtain ⟨y, hy, rfl⟩ := List.mem_map.mp hv
    have : y = x := by simpa [eqV] using e
    rw [← this]
    exact hy
  · intro h
    exact ⟨.str x, List.mem_map.mpr ⟨x, h, rfl⟩, by simp [eqV]⟩
theorem inV_non {ys : List Str} : inV .non (ys.map V.str) = false := by
  unfold inV
  rw [List.any_eq_false]
  intro v hv
  obtain ⟨y, _, rfl⟩ := List.mem_map.mp hv
  simp [eqV]
theorem dInB_L {z : Str} {zs : List Str} : dInB (.str z) (.lst (LS zs)) = some (decide (z ∈ zs)) := by
  show (flat (.str z)).bind (fun v => (flats (LS zs)).map fun vs => inV v vs) = _
  rw [flats_strs]
  show some (inV (.str z) (zs.map V.str)) = _
  rw [inV_strs]
theorem w_in {a b : D} {c : Bool} {Q : W → Prop} (h : dInB a b = some c) (q : Q (.cl (.bl c))) : okW (dIn a b) Q := ⟨_, by unfold dIn; rw [h]; rfl, q⟩
theorem w_niL {z : Str} {zs : List Str} {Q : W → Prop} (q : Q (.cl (.bl (!decide (z ∈ zs))))) : okW (dNi (.str z) (.lst (LS zs))) Q := ⟨_, by
  show (dInB (.str z) (.lst (LS zs))).map (fun b => W.cl (.bl (!b))) = _
  rw [dInB_L]
  rfl, q⟩
theorem w_srtQ {d : D} {zs : List Str} {Q : W → Prop} (hd : seqD d.u = some (LS zs)) (h : zs.length < 64) (q : Q (W.fr (LS (sortS zs)))) : okW (dSrt [d]) Q := ⟨_, by
  show ((seqD d.u).bind fun ds => match strsOf ds with
      | some zs => if zs.length < 64 then some (W.fr ((sortS zs).map .str)) else none
      | none => (intsOf ds).bind fun ns => if ns.length < 64 then some (W.fr ((sortI ns).map .int)) else none) = _
  rw [hd]
  show (match strsOf (LS zs) with
      | some zs => if zs.length < 64 then some (W.fr ((sortS zs).map .str)) else none
      | none => (intsOf (LS zs)).bind fun ns => if ns.length < 64 then some (W.fr ((sortI ns).map .int)) else none) = _
  rw [strsOf_map]
  show (if _ then _ else _) = _
  rw [if_pos h], q⟩
theorem w_srt {zs : List Str} {Q : W → Prop} (h : zs.length < 64) (q : Q (W.fr (LS (sortS zs)))) : okW (dSrt [.lst (LS zs)]) Q := w_srtQ rfl h q
theorem lets_asc : ∀ c ∈ lets, c < 128 := by decide +kernel
theorem Nm.asc {z : Str} (h : Nm z) : Asc z := fun c hc => lets_asc c (h.2.2 c hc)
theorem cut_take {α : Type} (xs : List α) (k : Nat) : cutL xs none (some (k : Int)) = xs.take k := by
  unfold cutL
  rw [HT.sIx_none, HT.sIx_nat, List.drop_zero, Nat.sub_zero]
  rcases Nat.le_total k xs.length with h | h
  · rw [Nat.min_eq_left h]
  · rw [Nat.min_eq_right h, List.take_of_length_le (Nat.le_refl _), List.take_of_length_le h]
theorem cut_drop {α : Type} (xs : List α) (k : Nat) : cutL xs (some (k : Int)) none = xs.drop k := by
  unfold cutL
  rw [HT.sIx_none, HT.sIx_nat]
  rcases Nat.le_total k xs.length with h | h
  · rw [Nat.min_eq_left h]
    exact List.take_of_length_le (by rw [List.length_drop]; exact Nat.le_refl _)
  · rw [Nat.min_eq_right h, List.drop_of_length_le (Nat.le_refl _), List.drop_of_length_le h, List.take_nil]
theorem cut_mid {α : Type} (xs : List α) (a b : Nat) : cutL xs (some (a : Int)) (some (b : Int)) = (xs.drop a).take (b - a) := by
  unfold cutL
  rw [HT.sIx_nat, HT.sIx_nat]
  rcases Nat.le_total a xs.length with h | h
  · rw [Nat.min_eq_left h]
    rcases Nat.le_total b xs.length with h2 | h2
    · rw [Nat.min_eq_left h2]
    · rw [Nat.min_eq_right h2, List.take_of_length_le (by rw [List.length_drop]; exact Nat.le_refl _), List.take_of_length_le (by rw [List.length_drop]; omega)]
  · rw [Nat.min_eq_right h, List.drop_of_length_le (Nat.le_refl _), List.drop_of_length_le h, List.take_nil, List.take_nil]
theorem w_sl {ds : List D} {lo hi : Option Int} {Q : W → Prop} (q : Q (W.fr (cutL ds lo hi))) : okW (dSl (.lst ds) lo hi) Q := ⟨_, rfl, q⟩
def PI (xs : List Nat) : List D := xs.map fun i : Nat => .int (i : Int)
theorem pds_PI : ∀ xs : List Nat, pds (PI xs) = some (xs.map fun i : Nat => PyData.int (i : Int))
  | [] => rfl
  | x :: xs => by
    show (pd (.int (x : Int))).bind (fun y => (pds (PI xs)).map (y :: ·)) = _
    rw [pds_PI xs]
    rfl
theorem pd_PI (xs : List Nat) : pd (.lst (PI xs)) = some (.list (xs.map fun i : Nat => PyData.int (i : Int))) := by
  show (pds (PI xs)).map PyData.list = _
  rw [pds_PI]
  rfl
theorem canLay_ints : ∀ xs : List Nat, PyData.canLayAll0 (xs.map fun i : Nat => PyData.int (i : Int)) = true
  | [] => by simp [PyData.canLayAll0]
  | x :: xs => by simp [PyData.canLayAll0, PyData.canLay0, canLay_ints xs]
theorem depth_ints : ∀ xs : List Nat, PyData.depthAll (xs.map fun i : Nat => PyData.int (i : Int)) = 0
  | [] => by simp [PyData.depthAll]
  | x :: xs => by simp [PyData.depthAll, PyData.depth, depth_ints xs]
theorem shaped_ints (xs : List Nat) : SeqAt.shaped (.list (xs.map fun i : Nat => PyData.int (i : Int))) = true := by
  simp only [SeqAt.shaped, PyData.canLay0, PyData.depth, canLay_ints, depth_ints]
  decide
theorem eqv_ints : ∀ xs ys : List Nat, PyData.eqvAll (xs.map fun i : Nat => PyData.int (i : Int)) (ys.map fun i : Nat => PyData.int (i : Int)) = decide (xs = ys)
  | [], [] => by simp [PyData.eqvAll]
  | [], w :: ws => by simp [PyData.eqvAll]
  | z :: zs, [] => by simp [PyData.eqvAll]
  | z :: zs, w :: ws => by
    rw [List.map_cons, List.map_cons, PyData.eqvAll, eqv_ints zs ws, PyData.eqv]
    by_cases h : z = w
    · subst h
      simp
    · simp [h, Int.ofNat_inj]
theorem dEqB_PI (xs ys : List Nat) : dEqB (.lst (PI xs)) (.lst (PI ys)) = some (decide (xs = ys)) := by
  show dEqB0 _ _ = _
  unfold dEqB0
  rw [pd_PI, pd_PI]
  show (if _ ∧ _ then some _ else none) = _
  rw [if_pos ⟨shaped_ints xs, shaped_ints ys⟩, PyData.eqv, eqv_ints]
theorem flats_PI : ∀ xs : List Nat, flats (PI xs) = some (xs.map fun i : Nat => V.int (i : Int))
  | [] => rfl
  | z :: zs => by
    show (flat (.int (z : Int))).bind (fun v => (flats (PI zs)).map (v :: ·)) = _
    rw [flats_PI zs]
    rfl
theorem inV_ints {x : Nat} {ys : List Nat} : inV (.int (x : Int)) (ys.map fun i : Nat => V.int (i : Int)) = decide (x ∈ ys) := by
  unfold inV
  rw [Bool.eq_iff_iff, List.any_eq_true, decide_eq_true_eq]
  constructor
  · rintro ⟨v, hv, e⟩
    obtain ⟨y, hy, rfl⟩ := List.mem_map.mp hv
    have : (y : Int) = x := by simpa [eqV] using e
    have : y = x := by omega
    rw [← this]
    exact hy
  · intro h
    exact ⟨.int (x : Int), List.mem_map.mpr ⟨x, h, rfl⟩, by simp [eqV]⟩
theorem dInB_PI {x : Nat} {xs : List Nat} : dInB (.int (x : Int)) (.lst (PI xs)) = some (decide (x ∈ xs)) := by
  show (flat (.int (x : Int))).bind (fun v => (flats (PI xs)).map fun vs => inV v vs) = _
  rw [flats_PI]
  show some (inV (.int (x : Int)) (xs.map fun i : Nat => V.int (i : Int))) = _
  rw [inV_ints]
theorem w_niPI {x : Nat} {xs : List Nat} {Q : W → Prop} (q : Q (.cl (.bl (!decide (x ∈ xs))))) : okW (dNi (.int (x : Int)) (.lst (PI xs))) Q := ⟨_, by
  show (dInB (.int (x : Int)) (.lst (PI xs))).map (fun b => W.cl (.bl (!b))) = _
  rw [dInB_PI]
  rfl, q⟩
section
variable {ρ : List Sl} {h : Tb} {P : Ps W} {X : Px} {N : List Sl → Tb → Prop} {T : Ps W} {L : Bool → List Sl → Tb → Prop} {a b c e : Mo W} {f g : D → D → Option W} {es : Mo (List W)} {C n : Str} {m : Fnm} {keep : Bool} {dvs : List D} {i : Nat} {ks : List Kd}
theorem okE_chain (q : okE (a ρ h) (fun x ρ h => okE (b ρ h) (fun y ρ h => okW (deref h x) fun dx => okW (deref h y) fun dy => ∃ k, f dx dy = some (.cl (.bl k)) ∧ (k = true → okE (c ρ h) (fun z ρ h => okW (deref h y) fun dy => okW (deref h z) fun dz => okW (g dy dz) fun w => P w ρ h) X) ∧ (k = false → P (.cl (.bl false)) ρ h)) X) X) : okE (mChain f g a b c ρ h) P X :=
  okE_bind (q.mono fun x ρ h q => okE_bind (q.mono fun y ρ h q => by
    obtain ⟨dx, e1, dy, e2, k, e3, p1, p2⟩ := q
    rw [e1, e2]
    show okE (match f dx dy with
      | some (.cl (.bl true)) => bindR (c ρ h) fun z ρ h => (deref h y).bind fun dy => (deref h z).bind fun dz => (g dy dz).map fun w => .ok w ρ h
      | some (.cl (.bl false)) => some (.ok (.cl (.bl false)) ρ h)
      | _ => none) P X
    rw [e3]
    cases k with
    | false => exact okE_some (p2 rfl)
    | true => exact okE_bind ((p1 rfl).mono fun z ρ h q => okE_opt (q.elim fun _ q => ⟨_, q.1, okE_opt (q.2.elim fun _ q => ⟨_, q.1, okE_map (q.2.elim fun _ q => ⟨_, q.1, okE_some q.2⟩)⟩)⟩))))
theorem insOf_eq {fs : List (Str × D)} : insOf C (.ins C fs) = some fs := by
  show (if C = C then some fs else none) = _
  rw [if_pos rfl]
theorem okE_fld (q : okE (a ρ h) (fun w ρ h => ∃ fs d, deref h w = some (.ins C fs) ∧ fs.lookup n = some d ∧ P (.cl d) ρ h) X) : okE (mFld C n a ρ h) P X := okE_bind (q.mono fun w ρ h q => by
  obtain ⟨fs, d, e1, e2, p⟩ := q
  rw [e1]
  show okE ((insOf C (.ins C fs)).bind fun fs => (fs.lookup n).map fun d => R.ok (W.cl d) ρ h) P X
  rw [insOf_eq]
  exact okE_map ⟨_, e2, okE_some p⟩)
theorem okT_run {ds : List D} (q : okF (m ds h) (fun w h => P w ρ h) noX) : okE (callT m ds ρ h) P X := by
  obtain ⟨w, h', e, p⟩ := q.rt
  unfold callT
  rw [e]
  exact okE_some p
theorem okE_meth (q : okE (a ρ h) (fun w ρ h => ∃ fs, deref h w = some (.ins C fs) ∧ fs.lookup n = none ∧ okE (es ρ h) (fun ws ρ h => okF (m (fzW w :: ws.map fzW) h) (fun w h => P w ρ h) noX) X) X) : okE (mMeth C n m a es ρ h) P X := okE_bind (q.mono fun w ρ h q => by
  obtain ⟨fs, e1, e2, q⟩ := q
  rw [e1]
  show okE ((insOf C (.ins C fs)).bind fun fs => if (fs.lookup n).isNone then bindR (es ρ h) fun ws ρ h => callT m (fzW w :: ws.map fzW) ρ h else none) P X
  rw [insOf_eq]
  show okE (if (fs.lookup n).isNone then bindR (es ρ h) fun ws ρ h => callT m (fzW w :: ws.map fzW) ρ h else none) P X
  rw [e2]
  exact okE_bind (q.mono fun ws ρ h q => okT_run q))
theorem okE_make (q : okE (es ρ h) (fun ws ρ h => okF (m (.ce h.length :: (ws.map fzW ++ dvs)) (h ++ [.ins C []])) (fun w h' => w = .cl .non ∧ okW (cutF keep h (.cl (.ce h.length)) h') fun x => P x.1 ρ x.2) noX) X) : okE (mMake keep C m dvs es ρ h) P X := okE_bind (q.mono fun ws ρ h q => by
  obtain ⟨w, h', e, rfl, x, e2, p⟩ := q.rt
  rw [e]
  dsimp only
  rw [e2]
  exact okE_some p)
theorem okS_fld (q : okE (e ρ h) (fun w ρ h => okE (a ρ h) (fun u ρ h => okW (insAt C h u) fun x => x.2.length < 1000 ∧ N ρ (h.set x.1 (.ins C (putD n (fzW w) x.2)))) X) X) : okS (sFldM C n a e ρ h) N T L X := okS_bind (q.mono fun w ρ h q => okS_bind (q.mono fun u ρ h q => okS_opt (q.elim fun x q => ⟨x, q.1, by
  dsimp only
  rw [if_pos q.2.1]
  exact ⟨_, rfl, q.2.2⟩⟩)))
theorem insAt_eq {k : Nat} {fs : List (Str × D)} (e : h[k]? = some (.ins C fs)) : insAt C h (.cl (.ce k)) = some (k, fs) := by
  show (match h[k]? with
    | some (.ins C' fs) => if C' = C then some (k, fs) else none
    | _ => none) = _
  rw [e]
  exact if_pos rfl
theorem okE_strO {z : Str} (q : okE (es ρ h) (fun ws ρ h => ∃ w fs, ws = [w] ∧ deref h w = some (.ins C fs) ∧ okF (m [fzW w] h) (fun w h => w = .cl (.str z) ∧ P (.cl (.str z)) ρ h) noX) X) : okE (mStrO C m es ρ h) P X := okE_bind (q.mono fun ws ρ h q => by
  obtain ⟨w, fs, rfl, e1, q⟩ := q
  obtain ⟨u, h', e2, rfl, p⟩ := q.rt
  show okE ((deref h w).bind fun d => (insOf C d.u).bind fun _ => (callT m [fzW w] ρ h).bind fun r => if chkS r = true then some r else none) P X
  rw [e1]
  show okE ((insOf C (.ins C fs)).bind fun _ => (callT m [fzW w] ρ h).bind fun r => if chkS r = true then some r else none) P X
  rw [insOf_eq]
  unfold callT
  rw [e2]
  exact okE_some p)
theorem okE_strA (q : okE (es ρ h) (fun ws ρ h => ∃ w fs, ws = [w] ∧ deref h w = some (.ins C fs) ∧ okF (m [fzW w] h) (fun w h => ∃ z, w = .cl (.str z) ∧ P (.cl (.str z)) ρ h) noX) X) : okE (mStrO C m es ρ h) P X := okE_bind (q.mono fun ws ρ h q => by
  obtain ⟨w, fs, rfl, e1, q⟩ := q
  obtain ⟨u, h', e2, z, rfl, p⟩ := q.rt
  show okE ((deref h w).bind fun d => (insOf C d.u).bind fun _ => (callT m [fzW w] ρ h).bind fun r => if chkS r = true then some r else none) P X
  rw [e1]
  show okE ((insOf C (.ins C fs)).bind fun _ => (callT m [fzW w] ρ h).bind fun r => if chkS r = true then some r else none) P X
  rw [insOf_eq]
  unfold callT
  rw [e2]
  exact okE_some p)
theorem okE_lenO {z : Int} (hz : 0 ≤ z ∧ z < 1000000) (q : okE (es ρ h) (fun ws ρ h => ∃ w fs, ws = [w] ∧ deref h w = some (.ins C fs) ∧ okF (m [fzW w] h) (fun w h => w = .cl (.int z) ∧ P (.cl (.int z)) ρ h) noX) X) : okE (mLenO C m es ρ h) P X := okE_bind (q.mono fun ws ρ h q => by
  obtain ⟨w, fs, rfl, e1, q⟩ := q
  obtain ⟨u, h', e2, rfl, p⟩ := q.rt
  show okE ((deref h w).bind fun d => (insOf C d.u).bind fun _ => (callT m [fzW w] ρ h).bind fun r => if chkN r = true then some r else none) P X
  rw [e1]
  show okE ((insOf C (.ins C fs)).bind fun _ => (callT m [fzW w] ρ h).bind fun r => if chkN r = true then some r else none) P X
  rw [insOf_eq]
  unfold callT
  rw [e2]
  refine ⟨.ok (.cl (.int z)) ρ h', ?_, p⟩
  show (if decide (0 ≤ z ∧ z < 1000000) = true then _ else _) = _
  rw [if_pos (decide_eq_true hz)])
/-- own == a thing of a kind that is told -/
theorem okE_eqO {z : Bool} (q : okE (a ρ h) (fun x ρ h => okE (b ρ h) (fun y ρ h => ∃ dy k fs, deref h y = some dy ∧ kd dy.u = some k ∧ k ∈ ks ∧ deref h x = some (.ins C fs) ∧ okF (m [fzW x, fzW y] h) (fun w h => w = .cl (.bl z) ∧ P (.cl (.bl z)) ρ h) noX) X) X) : okE (mEqO C ks m a b ρ h) P X := okE_bind (q.mono fun x ρ h q => okE_bind (q.mono fun y ρ h q => by
  obtain ⟨dy, k, fs, e1, e2, e3, e4, q⟩ := q
  obtain ⟨u, h', e5, rfl, p⟩ := q.rt
  show okE ((deref h y).bind fun dy => (kd dy.u).bind fun k => if decide (k ∈ ks) = true then callC chkB C m [x, y] ρ h else none) P X
  rw [e1]
  dsimp only [Option.bind_some]
  rw [e2]
  dsimp only [Option.bind_some]
  rw [if_pos (decide_eq_true e3)]
  show okE ((deref h x).bind fun d => (insOf C d.u).bind fun _ => (callT m [fzW x, fzW y] ρ h).bind fun r => if chkB r = true then some r else none) P X
  rw [e4]
  show okE ((insOf C (.ins C fs)).bind fun _ => (callT m [fzW x, fzW y] ρ h).bind fun r => if chkB r = true then some r else none) P X
  rw [insOf_eq]
  unfold callT
  rw [e5]
  exact okE_some p))
theorem okE_neO (q : okE (mEqO C ks m a b ρ h) (fun w ρ h => ∃ z, w = .cl (.bl z) ∧ P (.cl (.bl (!z))) ρ h) X) : okE (mNeO C ks m a b ρ h) P X := okE_bind (q.mono fun w ρ h q => by
  obtain ⟨z, rfl, p⟩ := q
  exact okE_some p)
theorem okE_enum {P : Ps ItM} (q : okE (es ρ h) (fun ws ρ h => ∃ w d ds, ws = [w] ∧ deref h w = some d ∧ seqD d.u = some ds ∧ ds.length ≤ 90000 ∧ P ⟨(List.range ds.length).zipWith (fun i d => .tup [.int (i : Nat), d]) ds, ckOf h w⟩ ρ h) X) : okE (mEnum es ρ h) P X := okE_bind (q.mono fun ws ρ h q => by
  obtain ⟨w, d, ds, rfl, e1, e2, h1, p⟩ := q
  show okE ((deref h w).bind fun d => (seqD d.u).bind fun ds => if ds.length ≤ 90000 then some (.ok ⟨(List.range ds.length).zipWith (fun i d => .tup [.int (i : Nat), d]) ds, ckOf h w⟩ ρ h) else none) P X
  rw [e1]
  dsimp only [Option.bind_some]
  rw [e2]
  dsimp only [Option.bind_some]
  rw [if_pos h1]
  exact okE_some p)
theorem okG_tup2 {g1 g2 : Tg} {x y : D} (q : okG (g1 (.cl x) ρ h) fun ρ h => okG (g2 (.cl y) ρ h) N) : okG (gTupM 2 (gsCons g1 (gsCons g2 gsNil)) (.cl (.tup [x, y])) ρ h) N := by
  obtain ⟨y1, e1, y2, e2, p⟩ := q
  refine ⟨y2, ?_, p⟩
  show ((g1 (.cl x) ρ h).bind fun z => (g2 (.cl y) z.1 z.2).bind fun z => some z) = _
  rw [e1]
  show ((g2 (.cl y) y1.1 y1.2).bind fun z => some z) = _
  rw [e2]
  rfl
end
theorem enum_at {α β : Type} {f : Nat → α → β} {ds : List α} {j : Nat} {d : β} (h : ((List.range ds.length).zipWith f ds)[j]? = some d) : ∃ x, ds[j]? = some x ∧ d = f j x := by
  obtain ⟨hj, e⟩ := List.getElem?_eq_some_iff.mp h
  rw [List.length_zipWith, List.length_range, Nat.min_self] at hj
  rw [List.getElem_zipWith, List.getElem_range] at e
  exact ⟨ds[j], List.getElem?_eq_getElem hj, e.symm⟩
theorem nodup_take {α : Type} {xs : List α} (hn : xs.Nodup) {j : Nat} {z : α} (h : xs[j]? = some z) : z ∉ xs.take j := by
  intro hm
  obtain ⟨hj, e⟩ := List.getElem?_eq_some_iff.mp h
  obtain ⟨i, hi, e2⟩ := List.getElem_of_mem hm
  rw [List.length_take] at hi
  rw [List.getElem_take] at e2
  unfold List.Nodup at hn
  rw [List.pairwise_iff_getElem] at hn
  exact hn i j (by omega) hj (by omega) (e2.trans e.symm)
theorem strs_at {zs : List Str} {j : Nat} {d : D} (h : (LS zs)[j]? = some d) : ∃ z, zs[j]? = some z ∧ d = .str z := by
  rw [List.getElem?_map] at h
  cases e : zs[j]? with
  | none => rw [e] at h; cases h
  | some z =>
    rw [e] at h
    cases h
    exact ⟨z, rfl, rfl⟩
end CM
namespace CM
open PySem PySem.Spec PyProof.Rows L2 SL
section
variable {ρ : List Sl} {h h0 : Tb} {P : Ps W} {X : Px} {A B C i j : Int} {b n k : Nat} {d e : D} {ds : List D} {m : Int}
local macro_rules | `(tactic| walk_at "hv") => `(tactic| first | rfl | assumption | (exact (by assumption : _)))
local macro_rules | `(tactic| walk_at "p1") => `(tactic| first
  | with_reducible refine CM.okS_seq ?_ | with_reducible refine CM.okS_next ?_ | with_reducible refine CM.okS_asg ?_ | with_reducible refine CM.okS_ret ?_ | with_reducible refine CM.okS_drop ?_ | with_reducible refine CM.okS_aug ?_ | with_reducible refine CM.okS_cnt ?_ | with_reducible refine CM.okS_fg ?_ | with_reducible refine CM.okS_retN ?_
  | with_reducible refine CM.okE_op ?_ | with_reducible refine CM.okE_cb ?_ | with_reducible refine CM.okE_cons ?_ | with_reducible refine CM.okE_nil ?_ | with_reducible refine CM.okB_not ?_ | with_reducible refine CM.okE_c ?_ | with_reducible refine CM.okE_fr ?_ | with_reducible refine CM.okE_ce ?_ | with_reducible refine CM.okE_notV ?_ | with_reducible refine CM.okE_un ?_
  | with_reducible refine CM.okE_sl ?_ | with_reducible refine CM.okE_nopart ?_
  | ((with_reducible refine' CM.okE_var ?hv ?_); (case hv => rfl))
  | ((with_reducible refine' CM.okE_part (CM.okE_var ?hv ⟨_, ?hv2, ?_⟩)); (case hv => rfl); (case hv2 => rfl))
  | ((with_reducible refine' CM.okE_part (CM.okE_c ⟨_, ?hv2, ?_⟩)); (case hv2 => rfl))
  | ((with_reducible refine' CM.okW_eq (w := _) ?hv ?_); (case hv => (with_reducible rfl)))
  | ((with_reducible refine' CM.okW_deref ?hv ?_); (case hv => walk_at "hv")) | ((with_reducible refine' CM.okW_derefs ?hv ?_); (case hv => rfl)) | ((with_reducible refine' CM.okW_derefC ?hv ?_); (case hv => walk_at "hv")) | ((with_reducible refine' CM.okW_lstAt ?hv ?_); (case hv => walk_at "hv"))
  | with_reducible refine CM.w_add ?_ | with_reducible refine CM.w_sub ?_ | with_reducible refine CM.w_lt ?_ | with_reducible refine CM.w_le ?_ | with_reducible refine CM.w_gt ?_ | with_reducible refine CM.w_ge ?_ | with_reducible refine CM.w_addI ?_
  | with_reducible refine CM.w_mod (by omega) ?_ | with_reducible refine CM.w_div (by omega) (by rw [CM.big_eq]; omega) ?_ | with_reducible refine CM.w_mul (by rw [CM.big_eq]; omega) (by rw [CM.big_eq]; omega) (by rw [CM.big_eq]; omega) (by rw [CM.big_eq]; omega) ?_ | with_reducible refine CM.w_sq (by omega) (by omega) ?_
  | with_reducible refine CM.w_max2 ?_ | with_reducible refine CM.w_min2 ?_ | with_reducible refine CM.w_lenL ?_ | with_reducible refine CM.w_lenT ?_ | with_reducible refine CM.w_lenC ?_ | with_reducible refine CM.w_listL ?_ | with_reducible refine CM.w_listT ?_ | with_reducible refine CM.w_tupL ?_ | with_reducible refine CM.w_tupT ?_
  | ((with_reducible refine CM.okG_setC ?_); (try dsimp only [List.set, CM.fzW]))
  | ((with_reducible refine' CM.okW_ix ?hv ?_); (case hv => rfl))
  | ((with_reducible refine' CM.okB_test (CM.okE_eqn ⟨_, ?hv, ?_⟩)); (case hv => rfl))
  | ((with_reducible refine' CM.okB_testd ⟨_, ?hv, ?_⟩); (case hv => rfl)))
local macro_rules | `(tactic| walk_at "p") => `(tactic| repeat walk_at "p1")
end
/-- a def that draws: what it is called with, how it answers -/
structure Tk (tk : Fnm) : Prop where
  ok : ∀ {b n : Nat} {h0 h : Tb} {m : Int} {P : W → Tb → Prop} {X : Str → List (Str × D) → Tb → Prop}, Bx b n h0 h → n ≤ 100000000 → 0 < m → m ≤ 1000000 → (∀ v h', 0 ≤ v → v < m → Bx b (n + 1) h0 h' → P (.cl (.int v)) h') → okF (tk [.ce b, .int m] h) P X
theorem tk1 {A B : Int} (hA : 0 ≤ A) (hA2 : A ≤ 1000000) (hB : 0 ≤ B) (hB2 : B ≤ 1000000) : Tk (fnM false 2 3 (takeM A B)) := ⟨fun a b c d e => take_ok hA hA2 hB hB2 a b c d e⟩
section
variable {ρ : List Sl} {h h0 : Tb} {P : Ps W} {X : Px} {tk : Fnm} {b n k : Nat} {m : Int}
/-- a draw within a def -/
theorem okE_tk {e : Mo W} (t : Tk tk) (hb : Bx b n h0 h) (hs : ρ[k]? = some (.cl (.ce b))) (hn : n ≤ 100000000) (he : okE (e ρ h) (fun w ρ' h' => ρ' = ρ ∧ h' = h ∧ w = .cl (.int m)) X) (hm : 0 < m) (hm2 : m ≤ 1000000) (q : ∀ v h', 0 ≤ v → v < m → Bx b (n + 1) h0 h' → P (.cl (.int v)) ρ h') :
    okE (callN tk (mCons (mCe (mVar k)) (mCons (mFr e) mNil)) ρ h) P X := by
  refine okE_call (okE_cons (okE_ce (okE_var hs (okE_cons (okE_fr (he.mono ?_))))))
  rintro w ρ' h' ⟨rfl, rfl, rfl⟩
  exact okE_nil (t.ok hb hn hm hm2 fun v h' v0 v1 hb' => q v h' v0 v1 hb')
/-- a draw of a written number -/
theorem okE_tkc (t : Tk tk) (hb : Bx b n h0 h) (hs : ρ[k]? = some (.cl (.ce b))) (hn : n ≤ 100000000) (hm : 0 < m) (hm2 : m ≤ 1000000) (q : ∀ v h', 0 ≤ v → v < m → Bx b (n + 1) h0 h' → P (.cl (.int v)) ρ h') :
    okE (callN tk (mCons (mCe (mVar k)) (mCons (mFr (mC (.int m))) mNil)) ρ h) P X := okE_tk t hb hs hn (okE_eq rfl ⟨rfl, rfl, rfl⟩) hm hm2 q
end
end CM
namespace CM
open PySem PySem.Spec PyProof.Rows L2 SL
section
variable {ρ : List Sl} {h h0 h1 g : Tb} {P : Ps W} {X : Px} {N : List Sl → Tb → Prop} {T : Ps W} {L : Bool → List Sl → Tb → Prop} {tk : Fnm} {b n k i j len : Nat} {m : Int} {c : D}
theorem tail_at (hl : h1.length = len) : (h1 ++ g)[len + i]? = g[i]? := by
  rw [List.getElem?_append_right (by omega)]
  congr 1
  omega
theorem tail_at0 (hl : h1.length = len) : (h1 ++ g)[len]? = g[0]? := tail_at (i := 0) hl
theorem tail_set (hl : h1.length = len) : (h1 ++ g).set (len + i) c = h1 ++ g.set i c := by
  rw [List.set_append_right _ _ (by omega)]
  congr 2
  omega
theorem tail_set0 (hl : h1.length = len) : (h1 ++ g).set len c = h1 ++ g.set 0 c := tail_set (i := 0) hl
/-- a draw, own cells behind -/
theorem okE_tkg {e : Mo W} (t : Tk tk) (hb : Bx b n h0 h1) (hs : ρ[k]? = some (.cl (.ce b))) (hn : n ≤ 100000000) (he : okE (e ρ (h1 ++ g)) (fun w ρ' h' => ρ' = ρ ∧ h' = h1 ++ g ∧ w = .cl (.int m)) X) (hm : 0 < m) (hm2 : m ≤ 1000000) (q : ∀ v h2, 0 ≤ v → v < m → Bx b (n + 1) h0 h2 → P (.cl (.int v)) ρ (h2 ++ g)) :
    okE (callN tk (mCons (mCe (mVar k)) (mCons (mFr e) mNil)) ρ (h1 ++ g)) P X := okE_tk t hb.app hs hn he hm hm2 fun v h' v0 v1 hb' => by
  obtain ⟨h2, rfl, hb2⟩ := hb'.unapp (by rw [← hb.len]; exact hb.lt)
  exact q v h2 v0 v1 hb2
theorem w_append {cs : List D} {d : D} {Q : D × List D → Prop} (hl : cs.length < 100000) (q : Q (.non, cs ++ [d])) : okW (fAppend cs [d]) Q := ⟨_, by
  show (if cs.length < 100000 then some (D.non, cs ++ [d]) else none) = _
  rw [if_pos hl], q⟩
local macro_rules | `(tactic| walk_at "hv") => `(tactic| first | rfl | assumption | (exact (by assumption : _)))
local macro_rules | `(tactic| walk_at "p1") => `(tactic| first
  | with_reducible refine CM.okS_seq ?_ | with_reducible refine CM.okS_next ?_ | with_reducible refine CM.okS_asg ?_ | with_reducible refine CM.okS_ret ?_ | with_reducible refine CM.okS_drop ?_ | with_reducible refine CM.okS_aug ?_ | with_reducible refine CM.okS_cnt ?_ | with_reducible refine CM.okS_fg ?_ | with_reducible refine CM.okS_retN ?_
  | with_reducible refine CM.okE_op ?_ | with_reducible refine CM.okE_cb ?_ | with_reducible refine CM.okE_cons ?_ | with_reducible refine CM.okE_nil ?_ | with_reducible refine CM.okB_not ?_ | with_reducible refine CM.okE_c ?_ | with_reducible refine CM.okE_fr ?_ | with_reducible refine CM.okE_ce ?_ | with_reducible refine CM.okE_notV ?_ | with_reducible refine CM.okE_un ?_
  | with_reducible refine CM.okE_sl ?_ | with_reducible refine CM.okE_nopart ?_
  | ((with_reducible refine' CM.okE_var ?hv ?_); (case hv => rfl))
  | ((with_reducible refine' CM.okE_part (CM.okE_var ?hv ⟨_, ?hv2, ?_⟩)); (case hv => rfl); (case hv2 => rfl))
  | ((with_reducible refine' CM.okE_part (CM.okE_c ⟨_, ?hv2, ?_⟩)); (case hv2 => rfl))
  | ((with_reducible refine' CM.okW_eq (w := _) ?hv ?_); (case hv => (with_reducible rfl)))
  | ((with_reducible refine' CM.okW_deref ?hv ?_); (case hv => walk_at "hv")) | ((with_reducible refine' CM.okW_derefs ?hv ?_); (case hv => rfl)) | ((with_reducible refine' CM.okW_derefC ?hv ?_); (case hv => walk_at "hv")) | ((with_reducible refine' CM.okW_lstAt ?hv ?_); (case hv => walk_at "hv"))
  | with_reducible refine CM.w_add ?_ | with_reducible refine CM.w_sub ?_ | with_reducible refine CM.w_lt ?_ | with_reducible refine CM.w_le ?_ | with_reducible refine CM.w_gt ?_ | with_reducible refine CM.w_ge ?_ | with_reducible refine CM.w_addI ?_
  | with_reducible refine CM.w_mod (by omega) ?_ | with_reducible refine CM.w_div (by omega) (by rw [CM.big_eq]; omega) ?_ | with_reducible refine CM.w_mul (by rw [CM.big_eq]; omega) (by rw [CM.big_eq]; omega) (by rw [CM.big_eq]; omega) (by rw [CM.big_eq]; omega) ?_ | with_reducible refine CM.w_sq (by omega) (by omega) ?_
  | with_reducible refine CM.w_max2 ?_ | with_reducible refine CM.w_min2 ?_ | with_reducible refine CM.w_lenL ?_ | with_reducible refine CM.w_lenT ?_ | with_reducible refine CM.w_lenC ?_ | with_reducible refine CM.w_listL ?_ | with_reducible refine CM.w_listT ?_ | with_reducible refine CM.w_tupL ?_ | with_reducible refine CM.w_tupT ?_
  | ((with_reducible refine CM.okG_setC ?_); (try dsimp only [List.set, CM.fzW]))
  | ((with_reducible refine' CM.okW_ix ?hv ?_); (case hv => rfl))
  | ((with_reducible refine' CM.okB_test (CM.okE_eqn ⟨_, ?hv, ?_⟩)); (case hv => rfl))
  | ((with_reducible refine' CM.okB_testd ⟨_, ?hv, ?_⟩); (case hv => rfl)))
local macro_rules | `(tactic| walk_at "p") => `(tactic| repeat walk_at "p1")
structure Part (m : Nat) (fx : List Nat) (sp : Option Nat) : Prop where
  asc : fx.Pairwise (· < ·)
  lt : ∀ i ∈ fx, i < m
  len : fx.length ≤ 5
  sp : ∀ i, sp = some i → i < m ∧ i ∉ fx ∧ fx.length < 5
theorem Part.nd {m : Nat} {fx : List Nat} {sp : Option Nat} (q : Part m fx sp) : fx.Nodup := q.asc.imp fun h => by omega
theorem PI_append (xs ys : List Nat) : PI (xs ++ ys) = PI xs ++ PI ys := List.map_append ..
theorem w_ne0 {xs : List Nat} {Q : W → Prop} (q : Q (.cl (.bl (!decide (xs = []))))) : okW (dNe (.lst (PI xs)) (.lst [])) Q := w_ne (dEqB_PI xs []) q
end
end CM
namespace CM
open PySem PySem.Spec PyProof.Rows L2 SL
section
variable {ρ : List Sl} {h h0 h1 g : Tb} {P : Ps W} {X : Px} {N : List Sl → Tb → Prop} {T : Ps W} {L : Bool → List Sl → Tb → Prop} {tk pk nr : Fnm} {b n k i j len m : Nat} {c : D} {fx : List Nat}
local macro_rules | `(tactic| walk_at "hv") => `(tactic| first | rfl | assumption | (exact (by assumption : _)))
local macro_rules | `(tactic| walk_at "p1") => `(tactic| first
  | with_reducible refine CM.okS_seq ?_ | with_reducible refine CM.okS_next ?_ | with_reducible refine CM.okS_asg ?_ | with_reducible refine CM.okS_ret ?_ | with_reducible refine CM.okS_drop ?_ | with_reducible refine CM.okS_aug ?_ | with_reducible refine CM.okS_cnt ?_ | with_reducible refine CM.okS_fg ?_ | with_reducible refine CM.okS_retN ?_
  | with_reducible refine CM.okE_op ?_ | with_reducible refine CM.okE_cb ?_ | with_reducible refine CM.okE_cons ?_ | with_reducible refine CM.okE_nil ?_ | with_reducible refine CM.okB_not ?_ | with_reducible refine CM.okE_c ?_ | with_reducible refine CM.okE_fr ?_ | with_reducible refine CM.okE_ce ?_ | with_reducible refine CM.okE_notV ?_ | with_reducible refine CM.okE_un ?_
  | with_reducible refine CM.okE_sl ?_ | with_reducible refine CM.okE_nopart ?_
  | ((with_reducible refine' CM.okE_var ?hv ?_); (case hv => rfl))
  | ((with_reducible refine' CM.okE_part (CM.okE_var ?hv ⟨_, ?hv2, ?_⟩)); (case hv => rfl); (case hv2 => rfl))
  | ((with_reducible refine' CM.okE_part (CM.okE_c ⟨_, ?hv2, ?_⟩)); (case hv2 => rfl))
  | ((with_reducible refine' CM.okW_eq (w := _) ?hv ?_); (case hv => (with_reducible rfl)))
  | ((with_reducible refine' CM.okW_deref ?hv ?_); (case hv => walk_at "hv")) | ((with_reducible refine' CM.okW_derefs ?hv ?_); (case hv => rfl)) | ((with_reducible refine' CM.okW_derefC ?hv ?_); (case hv => walk_at "hv")) | ((with_reducible refine' CM.okW_lstAt ?hv ?_); (case hv => walk_at "hv"))
  | with_reducible refine CM.w_add ?_ | with_reducible refine CM.w_sub ?_ | with_reducible refine CM.w_lt ?_ | with_reducible refine CM.w_le ?_ | with_reducible refine CM.w_gt ?_ | with_reducible refine CM.w_ge ?_ | with_reducible refine CM.w_addI ?_
  | with_reducible refine CM.w_mod (by omega) ?_ | with_reducible refine CM.w_div (by omega) (by rw [CM.big_eq]; omega) ?_ | with_reducible refine CM.w_mul (by rw [CM.big_eq]; omega) (by rw [CM.big_eq]; omega) (by rw [CM.big_eq]; omega) (by rw [CM.big_eq]; omega) ?_ | with_reducible refine CM.w_sq (by omega) (by omega) ?_
  | with_reducible refine CM.w_max2 ?_ | with_reducible refine CM.w_min2 ?_ | with_reducible refine CM.w_lenL ?_ | with_reducible refine CM.w_lenT ?_ | with_reducible refine CM.w_lenC ?_ | with_reducible refine CM.w_listL ?_ | with_reducible refine CM.w_listT ?_ | with_reducible refine CM.w_tupL ?_ | with_reducible refine CM.w_tupT ?_
  | ((with_reducible refine CM.okG_setC ?_); (try dsimp only [List.set, CM.fzW]))
  | ((with_reducible refine' CM.okW_ix ?hv ?_); (case hv => rfl))
  | ((with_reducible refine' CM.okB_test (CM.okE_eqn ⟨_, ?hv, ?_⟩)); (case hv => rfl))
  | ((with_reducible refine' CM.okB_testd ⟨_, ?hv, ?_⟩); (case hv => rfl)))
local macro_rules | `(tactic| walk_at "p") => `(tactic| repeat walk_at "p1")
theorem filter_take {p : Nat → Bool} {m j : Nat} (hj : j < m) : (List.range (j + 1)).filter p = (List.range j).filter p ++ (if p j = true then [j] else []) := by
  rw [List.range_succ, List.filter_append]
  congr 1
  by_cases e : p j = true
  · rw [if_pos e, List.filter_cons, if_pos e]
    rfl
  · rw [if_neg e, List.filter_cons, if_neg e]
    rfl
/-- [i for i in range(many) if i not in fixed] -/
theorem free_ok {s0 s2 s4 s5 s6 : Sl} {q : Nat} (hm : m ≤ 1000) (hk : h[k]? = some (.lst (PI fx))) (p : P (W.fr (PI ((List.range m).filter fun i => !decide (i ∈ fx)))) [s0, .cl (.int m), s2, .cl (.ce k), s4, s5, s6, .un] h) :
    okE (mLc (mRng1 (mCons (mVar 1) mNil)) (gSetC 7) (mTest (mOp dNi (mVar 7) (mVar 3))) (mVar 7) [7] [s0, .cl (.int m), s2, .cl (.ce k), s4, s5, s6, .un] h) P X := by
  have hkd : deref h (.cl (.ce k)) = some (.lst (PI fx)) := hk
  refine okE_lcF (ds := (List.range m).map fun i => .int (i : Nat)) (fun j h' acc => h' = h ∧ acc = PI ((List.range j).filter fun i => !decide (i ∈ fx))) rfl ?_ ?_ ?_
  · exact rng_ok (it := ⟨[], []⟩) hm (okE_eq rfl ⟨rfl, rfl, rfl⟩) ⟨rfl, rfl, rfl, rfl⟩
  · rintro j d h' acc hj ⟨rfl, rfl⟩
    obtain ⟨hj2, rfl⟩ := rng_at hj
    refine okB_test (okE_op (okE_var rfl (okE_var rfl (okW_eq rfl (okW_eq hkd (w_niPI ⟨_, rfl, rfl, fun e => ?_, fun e => ?_⟩))))))
    · refine okE_var rfl ⟨rfl, rfl, ?_⟩
      rw [filter_take hj2, if_pos e, PI_append]
      rfl
    · refine ⟨rfl, ?_⟩
      rw [filter_take hj2, if_neg (by rw [e]; decide), List.append_nil]
  · rintro h' acc ⟨rfl, rfl⟩
    rw [List.length_map, List.length_range]
    exact p
end
end CM
namespace CM
open PySem PySem.Spec PyProof.Rows L2 SL
abbrev Pt := List Nat × Option Nat
section
variable {ρ : List Sl} {h h0 h1 g : Tb} {P : Ps W} {X : Px} {N : List Sl → Tb → Prop} {T : Ps W} {L : Bool → List Sl → Tb → Prop} {tk pk nr : Fnm} {b n k i j len m most : Nat} {c : D} {fx : List Nat}
local macro_rules | `(tactic| walk_at "hv") => `(tactic| first | rfl | assumption | (exact (by assumption : _)))
local macro_rules | `(tactic| walk_at "p1") => `(tactic| first
  | with_reducible refine CM.okS_seq ?_ | with_reducible refine CM.okS_next ?_ | with_reducible refine CM.okS_asg ?_ | with_reducible refine CM.okS_ret ?_ | with_reducible refine CM.okS_drop ?_ | with_reducible refine CM.okS_aug ?_ | with_reducible refine CM.okS_cnt ?_ | with_reducible refine CM.okS_fg ?_ | with_reducible refine CM.okS_retN ?_
  | with_reducible refine CM.okE_op ?_ | with_reducible refine CM.okE_cb ?_ | with_reducible refine CM.okE_cons ?_ | with_reducible refine CM.okE_nil ?_ | with_reducible refine CM.okB_not ?_ | with_reducible refine CM.okE_c ?_ | with_reducible refine CM.okE_fr ?_ | with_reducible refine CM.okE_ce ?_ | with_reducible refine CM.okE_notV ?_ | with_reducible refine CM.okE_un ?_
  | with_reducible refine CM.okE_sl ?_ | with_reducible refine CM.okE_nopart ?_
  | ((with_reducible refine' CM.okE_var ?hv ?_); (case hv => rfl))
  | ((with_reducible refine' CM.okE_part (CM.okE_var ?hv ⟨_, ?hv2, ?_⟩)); (case hv => rfl); (case hv2 => rfl))
  | ((with_reducible refine' CM.okE_part (CM.okE_c ⟨_, ?hv2, ?_⟩)); (case hv2 => rfl))
  | ((with_reducible refine' CM.okW_eq (w := _) ?hv ?_); (case hv => (with_reducible rfl)))
  | ((with_reducible refine' CM.okW_deref ?hv ?_); (case hv => walk_at "hv")) | ((with_reducible refine' CM.okW_derefs ?hv ?_); (case hv => rfl)) | ((with_reducible refine' CM.okW_derefC ?hv ?_); (case hv => walk_at "hv")) | ((with_reducible refine' CM.okW_lstAt ?hv ?_); (case hv => walk_at "hv"))
  | with_reducible refine CM.w_add ?_ | with_reducible refine CM.w_sub ?_ | with_reducible refine CM.w_lt ?_ | with_reducible refine CM.w_le ?_ | with_reducible refine CM.w_gt ?_ | with_reducible refine CM.w_ge ?_ | with_reducible refine CM.w_addI ?_
  | with_reducible refine CM.w_mod (by omega) ?_ | with_reducible refine CM.w_div (by omega) (by rw [CM.big_eq]; omega) ?_ | with_reducible refine CM.w_mul (by rw [CM.big_eq]; omega) (by rw [CM.big_eq]; omega) (by rw [CM.big_eq]; omega) (by rw [CM.big_eq]; omega) ?_ | with_reducible refine CM.w_sq (by omega) (by omega) ?_
  | with_reducible refine CM.w_max2 ?_ | with_reducible refine CM.w_min2 ?_ | with_reducible refine CM.w_lenL ?_ | with_reducible refine CM.w_lenT ?_ | with_reducible refine CM.w_lenC ?_ | with_reducible refine CM.w_listL ?_ | with_reducible refine CM.w_listT ?_ | with_reducible refine CM.w_tupL ?_ | with_reducible refine CM.w_tupT ?_
  | ((with_reducible refine CM.okG_setC ?_); (try dsimp only [List.set, CM.fzW]))
  | ((with_reducible refine' CM.okW_ix ?hv ?_); (case hv => rfl))
  | ((with_reducible refine' CM.okB_test (CM.okE_eqn ⟨_, ?hv, ?_⟩)); (case hv => rfl))
  | ((with_reducible refine' CM.okB_testd ⟨_, ?hv, ?_⟩); (case hv => rfl)))
local macro_rules | `(tactic| walk_at "p") => `(tactic| repeat walk_at "p1")
end
end CM
namespace CM
open PySem PySem.Spec PyProof.Rows L2 SL
theorem w_isi {c : Cd} {ks : List Kd} {d x : D} {k : Kd} {Q : W → Prop} (hx : cdIs c x.u = true) (hk : kd d.u = some k) (hm : k ∈ ks) (q : Q (.cl (.bl (insK k c)))) : okW (dIsi c (tabK ks c) [d, x]) Q := ⟨_, by
  show (if cdIs c x.u = true then (kd d.u).bind fun k => (lookK k (tabK ks c)).map fun b => W.cl (.bl b) else none) = _
  rw [if_pos hx, hk]
  show (lookK k (tabK ks c)).map _ = _
  unfold tabK
  rw [look_map hm]
  rfl, q⟩
theorem w_isiT {cs : List Cd} {ks : List Kd} {d : D} {ds : List D} {k : Kd} {Q : W → Prop} (hx : cdsAre cs ds = true) (hk : kd d.u = some k) (hm : k ∈ ks) (q : Q (.cl (.bl (cs.any (insK k))))) : okW (dIsiT cs (tabKT ks cs) [d, .tup ds]) Q := ⟨_, by
  show (if cdsAre cs ds = true then (kd d.u).bind fun k => (lookK k (tabKT ks cs)).map fun b => W.cl (.bl b) else none) = _
  rw [if_pos hx, hk]
  show (lookK k (tabKT ks cs)).map _ = _
  unfold tabKT
  rw [look_map hm]
  rfl, q⟩
def nmB (z : Str) : Bool := decide (1 ≤ z.cps.toList.length) && decide (z.cps.toList.length ≤ 8) && z.cps.toList.all fun c => decide (c ∈ lets)
theorem nmB_iff {z : Str} : nmB z = true ↔ Nm z := by
  unfold nmB Nm NmL
  simp only [Bool.and_eq_true, decide_eq_true_eq, List.all_eq_true]
  rw [and_assoc]
def nmD : D → Bool
  | .str z => nmB z
  | _ => false
theorem blsOf_map (bs : List Bool) : blsOf (bs.map .bl) = some bs := by
  induction bs with
  | nil => rfl
  | cons b bs ih =>
    show (blsOf (bs.map .bl)).map (b :: ·) = _
    rw [ih]
    rfl
def spD : Option Str → D
  | none => .non
  | some z => .str z
abbrev shF (fx : List Str) (sp : Option Str) : List (Str × D) := [(("fixed_columns" : Str), .lst (LS (sortS fx))), (("span_column" : Str), spD sp)]
def shD (fx : List Str) (sp : Option Str) : D := .ins "Shape" (shF fx sp)
structure ShOk (fx : List Str) (sp : Option Str) : Prop where
  len : fx.length ≤ 5
  nd : fx.Nodup
  nm : ∀ z ∈ fx, Nm z
  sp : ∀ z, sp = some z → Nm z ∧ z ∉ fx ∧ fx.length < 5
section
variable {ρ : List Sl} {h : Tb} {X : Str → List (Str × D) → Tb → Prop} {P : W → Tb → Prop} {ks : List Kd} {rz : Bool} {z : Str} {d0 d d1 : D} {k : Kd} {n : Nat} {fx : List Str} {sp : Option Str}
local macro_rules | `(tactic| walk_at "hv") => `(tactic| first | rfl | assumption | (exact (by assumption : _)))
local macro_rules | `(tactic| walk_at "p1") => `(tactic| first
  | with_reducible refine CM.okS_seq ?_ | with_reducible refine CM.okS_next ?_ | with_reducible refine CM.okS_asg ?_ | with_reducible refine CM.okS_ret ?_ | with_reducible refine CM.okS_drop ?_ | with_reducible refine CM.okS_aug ?_ | with_reducible refine CM.okS_cnt ?_ | with_reducible refine CM.okS_fg ?_ | with_reducible refine CM.okS_retN ?_
  | with_reducible refine CM.okE_op ?_ | with_reducible refine CM.okE_cb ?_ | with_reducible refine CM.okE_cons ?_ | with_reducible refine CM.okE_nil ?_ | with_reducible refine CM.okB_not ?_ | with_reducible refine CM.okE_c ?_ | with_reducible refine CM.okE_fr ?_ | with_reducible refine CM.okE_ce ?_ | with_reducible refine CM.okE_notV ?_ | with_reducible refine CM.okE_un ?_
  | with_reducible refine CM.okE_sl ?_ | with_reducible refine CM.okE_nopart ?_
  | ((with_reducible refine' CM.okE_var ?hv ?_); (case hv => rfl))
  | ((with_reducible refine' CM.okE_part (CM.okE_var ?hv ⟨_, ?hv2, ?_⟩)); (case hv => rfl); (case hv2 => rfl))
  | ((with_reducible refine' CM.okE_part (CM.okE_c ⟨_, ?hv2, ?_⟩)); (case hv2 => rfl))
  | ((with_reducible refine' CM.okW_eq (w := _) ?hv ?_); (case hv => (with_reducible rfl)))
  | ((with_reducible refine' CM.okW_deref ?hv ?_); (case hv => walk_at "hv")) | ((with_reducible refine' CM.okW_derefs ?hv ?_); (case hv => rfl)) | ((with_reducible refine' CM.okW_derefC ?hv ?_); (case hv => walk_at "hv")) | ((with_reducible refine' CM.okW_lstAt ?hv ?_); (case hv => walk_at "hv"))
  | with_reducible refine CM.w_add ?_ | with_reducible refine CM.w_sub ?_ | with_reducible refine CM.w_lt ?_ | with_reducible refine CM.w_le ?_ | with_reducible refine CM.w_gt ?_ | with_reducible refine CM.w_ge ?_ | with_reducible refine CM.w_addI ?_
  | with_reducible refine CM.w_mod (by omega) ?_ | with_reducible refine CM.w_div (by omega) (by rw [CM.big_eq]; omega) ?_ | with_reducible refine CM.w_mul (by rw [CM.big_eq]; omega) (by rw [CM.big_eq]; omega) (by rw [CM.big_eq]; omega) (by rw [CM.big_eq]; omega) ?_ | with_reducible refine CM.w_sq (by omega) (by omega) ?_
  | with_reducible refine CM.w_max2 ?_ | with_reducible refine CM.w_min2 ?_ | with_reducible refine CM.w_lenL ?_ | with_reducible refine CM.w_lenT ?_ | with_reducible refine CM.w_lenC ?_ | with_reducible refine CM.w_listL ?_ | with_reducible refine CM.w_listT ?_ | with_reducible refine CM.w_tupL ?_ | with_reducible refine CM.w_tupT ?_
  | ((with_reducible refine CM.okG_setC ?_); (try dsimp only [List.set, CM.fzW]))
  | ((with_reducible refine' CM.okW_ix ?hv ?_); (case hv => rfl))
  | ((with_reducible refine' CM.okB_test (CM.okE_eqn ⟨_, ?hv, ?_⟩)); (case hv => rfl))
  | ((with_reducible refine' CM.okB_testd ⟨_, ?hv, ?_⟩); (case hv => rfl)))
local macro_rules | `(tactic| walk_at "p") => `(tactic| repeat walk_at "p1")
theorem okW_d1 {w : W} {Q : List D → Prop} (e : deref h w = some d) (q : Q [d]) : okW (derefs h [w]) Q := ⟨[d], by
  show ((deref h w).bind fun d => (some []).bind fun ds => some (d :: ds)) = _
  rw [e]
  rfl, q⟩
theorem okW_d2 {w u : W} {Q : List D → Prop} (e : deref h w = some d) (e2 : deref h u = some d1) (q : Q [d, d1]) : okW (derefs h [w, u]) Q := ⟨[d, d1], by
  show ((deref h w).bind fun d => ((deref h u).bind fun d => (some []).bind fun ds => some (d :: ds)).bind fun ds => some (d :: ds)) = _
  rw [e, e2]
  rfl, q⟩
theorem w_lenS' {Q : W → Prop} (hu : d.u = .str z) (hl : z.length ≤ 100000) (q : Q (.cl (.int z.cps.toList.length))) : okW (dLen [d]) Q := ⟨_, by
  show (match d.u with
    | .str z => if z.length ≤ 100000 then some (W.cl (.int z.length)) else none
    | .lst ds => some (W.cl (.int ds.length))
    | .tup ds => some (W.cl (.int ds.length))
    | .scr ds => some (W.cl (.int ds.length))
    | _ => none) = _
  rw [hu]
  show (if z.length ≤ 100000 then some (W.cl (.int z.length)) else none) = _
  rw [if_pos hl, SL.len_str], q⟩
theorem w_lenQ {ds : List D} {Q : W → Prop} (hu : seqD d.u = some ds) (q : Q (.cl (.int ds.length))) : okW (dLen [d]) Q := by
  refine ⟨.cl (.int ds.length), ?_, q⟩
  unfold seqD at hu
  show (match d.u with
    | .str z => if z.length ≤ 100000 then some (W.cl (.int z.length)) else none
    | .lst ds => some (W.cl (.int ds.length))
    | .tup ds => some (W.cl (.int ds.length))
    | .scr ds => some (W.cl (.int ds.length))
    | _ => none) = _
  split at hu
  · rename_i e
    cases hu
    rw [e]
  · rename_i e
    cases hu
    rw [e]
  · cases hu
theorem is_name_ok (hd : deref h (.cl d0) = some d) (hk : kd d.u = some k) (hm : k ∈ ks) (hl : ∀ z, d.u = .str z → z.length ≤ 100000) (p : P (.cl (.bl (nmD d.u))) h) : okF (CP.m_is_name ks rz [d0] h) P X := by
  unfold CP.m_is_name
  refine okF_fn rfl ?_
  show okS (CP.b_is_name ks rz [.cl d0, .un] h) _ _ _ _
  unfold CP.b_is_name
  refine okS_seq (okS_if (okB_or (okB_not (okB_tru (okE_cb (okE_cons (okE_var rfl (okE_cons (okE_c (okE_nil (okW_d2 hd rfl (w_isi rfl hk hm ⟨_, _, rfl, rfl, ?_⟩))))))))))))
  by_cases hs : ∃ z, d.u = .str z
  · obtain ⟨z, hu⟩ := hs
    rw [hu] at hk p
    cases hk
    refine ⟨(fun e => nomatch e), fun _ => okB_not (okB_test (okE_chain (okE_c (okE_cb (okE_cons (okE_var rfl (okE_nil (okW_d1 hd (w_lenS' hu (hl z hu) (okW_eq rfl (okW_eq rfl ⟨_, rfl, fun h0 => ?_, fun h0 => ?_⟩)))))))))))⟩
    · have h0 : 1 ≤ z.cps.toList.length := by
        have := of_decide_eq_true h0
        omega
      refine okE_c (okW_eq rfl (okW_eq rfl (w_le ⟨_, rfl, fun h8 => ?_, fun h8 => ?_⟩)))
      · have h8 : ¬ z.cps.toList.length ≤ 8 := by
          intro c
          have : decide ((z.cps.toList.length : Int) ≤ 8) = true := decide_eq_true (by omega)
          rw [this] at h8
          cases h8
        refine okS_ret (okE_c (cut_same rfl ?_))
        have : nmD (.str z) = false := by
          show nmB z = false
          unfold nmB
          rw [decide_eq_false h8, Bool.and_false, Bool.false_and]
        rw [this] at p
        exact p
      · have h8 : z.cps.toList.length ≤ 8 := by
          by_cases c : z.cps.toList.length ≤ 8
          · exact c
          · have : decide ((z.cps.toList.length : Int) ≤ 8) = false := decide_eq_false (by omega)
            rw [this] at h8
            cases h8
        refine okS_next (okS_ret (okE_cb (okE_cons (okE_lc (okE_iU (okE_var rfl (okW_eq hd (okW_eq (w := z.cps.toList.map fun c => D.str ⟨#[c]⟩) (by rw [hu]; rfl) ⟨by rw [List.length_map]; omega, rfl, ?_⟩))))))))
        have hck : ∀ (j : Nat) (ρ : List Sl) (h' : Tb) (acc : List D), ρ = [.cl d0, .un] ∧ h' = h ∧ (∃ bs : List Bool, acc = bs.map .bl ∧ bs = (z.cps.toList.take j).map fun c => decide (c ∈ lets)) → ckOk (ckOf h (.cl d0)) h' := by
          rintro j ρ h' acc ⟨_, rfl, _⟩
          exact ck_of
        refine okE_loopC (fun j ρ h' acc => ρ = [.cl d0, .un] ∧ h' = h ∧ (∃ bs : List Bool, acc = bs.map .bl ∧ bs = (z.cps.toList.take j).map fun c => decide (c ∈ lets))) hck _ 0 ⟨rfl, rfl, [], rfl, rfl⟩ ?_ ?_
        · rintro j d ρ h' acc hj ⟨rfl, rfl, bs, rfl, hbs⟩
          rw [Nat.zero_add] at hbs ⊢
          rw [List.getElem?_map] at hj
          cases hc : z.cps.toList[j]? with
          | none => rw [hc] at hj; cases hj
          | some c =>
            rw [hc] at hj
            cases hj
            refine okG_setC (okE_eq rfl ⟨fun _ => ?_, (fun e => nomatch e)⟩)
            refine okE_op (okE_var rfl (okE_c (okW_eq rfl (okW_eq rfl (w_in (c := decide (c ∈ lets)) ?_ ⟨rfl, rfl, bs ++ [decide (c ∈ lets)], by simp [fzW], ?_⟩)))))
            · rw [letters_eq]
              show some (decide (c ∈ (S lets).cps.toList)) = _
              rw [S_cps]
            · obtain ⟨hj2, e⟩ := List.getElem?_eq_some_iff.mp hc
              rw [hbs, List.take_succ_eq_append_getElem hj2, e, List.map_append]
              rfl
        · rintro ρ h' acc ⟨rfl, rfl, bs, rfl, hbs⟩
          rw [List.length_map, Nat.zero_add, List.take_of_length_le (Nat.le_refl _)] at hbs
          refine okE_nil (okW_eq rfl (okW_eq (w := .cl (.bl (nmB z))) ?_ (cut_same rfl p)))
          show (blsOf (bs.map .bl)).map (fun bs => W.cl (.bl (bs.all id))) = _
          rw [blsOf_map]
          have : bs.all id = nmB z := by
            rw [hbs]
            unfold nmB
            rw [decide_eq_true h0, decide_eq_true h8, List.all_map]
            rfl
          show some (W.cl (.bl (bs.all id))) = _
          rw [this]
    · have h0 : ¬ 1 ≤ z.cps.toList.length := fun c => by
        have : decide ((0 : Int) < z.cps.toList.length) = true := decide_eq_true (by omega)
        rw [this] at h0
        cases h0
      refine ⟨false, rfl, fun _ => ?_, (fun e => nomatch e)⟩
      refine okS_ret (okE_c (cut_same rfl ?_))
      have : nmD (.str z) = false := by
        show nmB z = false
        unfold nmB
        rw [decide_eq_false h0, Bool.false_and, Bool.false_and]
      rw [this] at p
      exact p
  · have hb : insK k (.ty "str") = false := by
      cases k with
      | b T =>
        have hT : T ≠ "str" := by
          rintro rfl
          apply hs
          generalize d.u = e at hk
          cases e <;> first | exact ⟨_, rfl⟩ | (exfalso; revert hk; simp [kd])
        show (decide (T = "str") || (decide (T = "bool") && decide (("str" : String) = "int"))) = false
        rw [decide_eq_false hT]
        simp
      | own C => rfl
      | exc C =>
        show decide ("str" ∈ basesT C) = false
        unfold basesT
        split
        · decide
        · split <;> decide
      | fn => rfl
    rw [hb]
    refine ⟨fun _ => ⟨fun _ => okS_ret (okE_c (cut_same rfl ?_)), (fun e => nomatch e)⟩, (fun e => nomatch e)⟩
    have : nmD d.u = false := by
      generalize d.u = e at hs
      cases e <;> first | rfl | exact absurd ⟨_, rfl⟩ hs
    rw [this] at p
    exact p
theorem is_list_ok (hd : deref h (.cl d0) = some d) (hk : kd d.u = some k) (hm : k ∈ ks) (p : P (.cl (.bl (insK k (.ty "list") || insK k (.ty "tuple")))) h) : okF (CP.m_is_list ks rz [d0] h) P X := by
  unfold CP.m_is_list
  refine okF_fn rfl ?_
  show okS (CP.b_is_list ks rz [.cl d0] h) _ _ _ _
  unfold CP.b_is_list
  refine okS_ret (okE_cb (okE_cons (okE_var rfl (okE_cons (okE_tup (okE_cons (okE_c (okE_cons (okE_c (okE_nil ⟨Nat.le_of_ble_eq_true rfl, okE_nil (okW_d2 hd rfl (w_isiT rfl hk hm (cut_same rfl ?_)))⟩))))))))))
  rw [List.any_cons, List.any_cons, List.any_nil, Bool.or_false]
  exact p
end
end CM
namespace CM
open PySem PySem.Spec PyProof.Rows L2 SL
section
variable {ρ : List Sl} {h : Tb} {X : Str → List (Str × D) → Tb → Prop} {P : W → Tb → Prop} {ks : List Kd} {rz : Bool} {z : Str} {d0 d d1 e0 : D} {k : Kd} {n : Nat} {fx gx : List Str} {sp sq : Option Str}
local macro_rules | `(tactic| walk_at "hv") => `(tactic| first | rfl | assumption | (exact (by assumption : _)))
local macro_rules | `(tactic| walk_at "p1") => `(tactic| first
  | with_reducible refine CM.okS_seq ?_ | with_reducible refine CM.okS_next ?_ | with_reducible refine CM.okS_asg ?_ | with_reducible refine CM.okS_ret ?_ | with_reducible refine CM.okS_drop ?_ | with_reducible refine CM.okS_aug ?_ | with_reducible refine CM.okS_cnt ?_ | with_reducible refine CM.okS_fg ?_ | with_reducible refine CM.okS_retN ?_
  | with_reducible refine CM.okE_op ?_ | with_reducible refine CM.okE_cb ?_ | with_reducible refine CM.okE_cons ?_ | with_reducible refine CM.okE_nil ?_ | with_reducible refine CM.okB_not ?_ | with_reducible refine CM.okE_c ?_ | with_reducible refine CM.okE_fr ?_ | with_reducible refine CM.okE_ce ?_ | with_reducible refine CM.okE_notV ?_ | with_reducible refine CM.okE_un ?_
  | with_reducible refine CM.okE_sl ?_ | with_reducible refine CM.okE_nopart ?_
  | ((with_reducible refine' CM.okE_var ?hv ?_); (case hv => rfl))
  | ((with_reducible refine' CM.okE_part (CM.okE_var ?hv ⟨_, ?hv2, ?_⟩)); (case hv => rfl); (case hv2 => rfl))
  | ((with_reducible refine' CM.okE_part (CM.okE_c ⟨_, ?hv2, ?_⟩)); (case hv2 => rfl))
  | ((with_reducible refine' CM.okW_eq (w := _) ?hv ?_); (case hv => (with_reducible rfl)))
  | ((with_reducible refine' CM.okW_deref ?hv ?_); (case hv => walk_at "hv")) | ((with_reducible refine' CM.okW_derefs ?hv ?_); (case hv => rfl)) | ((with_reducible refine' CM.okW_derefC ?hv ?_); (case hv => walk_at "hv")) | ((with_reducible refine' CM.okW_lstAt ?hv ?_); (case hv => walk_at "hv"))
  | with_reducible refine CM.w_add ?_ | with_reducible refine CM.w_sub ?_ | with_reducible refine CM.w_lt ?_ | with_reducible refine CM.w_le ?_ | with_reducible refine CM.w_gt ?_ | with_reducible refine CM.w_ge ?_ | with_reducible refine CM.w_addI ?_
  | with_reducible refine CM.w_mod (by omega) ?_ | with_reducible refine CM.w_div (by omega) (by rw [CM.big_eq]; omega) ?_ | with_reducible refine CM.w_mul (by rw [CM.big_eq]; omega) (by rw [CM.big_eq]; omega) (by rw [CM.big_eq]; omega) (by rw [CM.big_eq]; omega) ?_ | with_reducible refine CM.w_sq (by omega) (by omega) ?_
  | with_reducible refine CM.w_max2 ?_ | with_reducible refine CM.w_min2 ?_ | with_reducible refine CM.w_lenL ?_ | with_reducible refine CM.w_lenT ?_ | with_reducible refine CM.w_lenC ?_ | with_reducible refine CM.w_listL ?_ | with_reducible refine CM.w_listT ?_ | with_reducible refine CM.w_tupL ?_ | with_reducible refine CM.w_tupT ?_
  | ((with_reducible refine CM.okG_setC ?_); (try dsimp only [List.set, CM.fzW]))
  | ((with_reducible refine' CM.okW_ix ?hv ?_); (case hv => rfl))
  | ((with_reducible refine' CM.okB_test (CM.okE_eqn ⟨_, ?hv, ?_⟩)); (case hv => rfl))
  | ((with_reducible refine' CM.okB_testd ⟨_, ?hv, ?_⟩); (case hv => rfl)))
local macro_rules | `(tactic| walk_at "p") => `(tactic| repeat walk_at "p1")
theorem seq_two {ds : List D} (hu : seqD d.u = some ds) : d.u = .lst ds ∨ d.u = .tup ds := by
  unfold seqD at hu
  split at hu
  · cases hu
    exact .inl (by assumption)
  · cases hu
    exact .inr (by assumption)
  · cases hu
theorem dInB_Q (hu : seqD d.u = some (LS fx)) : dInB (.str z) d = some (decide (z ∈ fx)) := by
  have hf : (flat (.str z)).bind (fun v => (flats (LS fx)).map fun vs => inV v vs) = some (decide (z ∈ fx)) := by
    rw [flats_strs]
    show some (inV (.str z) (fx.map V.str)) = _
    rw [inV_strs]
  unfold dInB
  rcases seq_two hu with e | e
  · rw [e]
    exact hf
  · rw [e]
    exact hf
theorem dInB_QN (hu : seqD d.u = some (LS fx)) : dInB .non d = some false := by
  have hf : (flat .non).bind (fun v => (flats (LS fx)).map fun vs => inV v vs) = some false := by
    rw [flats_strs]
    show some (inV .non (fx.map V.str)) = _
    rw [inV_non]
  unfold dInB
  rcases seq_two hu with e | e
  · rw [e]
    exact hf
  · rw [e]
    exact hf
theorem w_slQ {ds : List D} {lo hi : Option Int} {Q : W → Prop} (hu : seqD d.u = some ds) (q : ∀ w e, (∀ h, deref h w = some e) → seqD e.u = some (cutL ds lo hi) → Q w) : okW (dSl d lo hi) Q := by
  unfold dSl
  rcases seq_two hu with e | e
  · rw [e]
    exact ⟨_, rfl, q _ (.lst _) (fun _ => rfl) rfl⟩
  · rw [e]
    exact ⟨_, rfl, q _ (.tup _) (fun _ => rfl) rfl⟩
theorem kd_seq {ds : List D} (hu : seqD d.u = some ds) : kd d.u = some (.b "list") ∨ kd d.u = some (.b "tuple") := by
  rcases seq_two hu with e | e <;> rw [e]
  · exact .inl rfl
  · exact .inr rfl
/-- kinds that are told -/
structure KsOk (ks : List Kd) : Prop where
  s : Kd.b "str" ∈ ks
  l : Kd.b "list" ∈ ks
  t : Kd.b "tuple" ∈ ks
theorem is_seq_ok {ds : List D} (hks : KsOk ks) (hd : deref h (.cl d0) = some d) (hu : seqD d.u = some ds) (p : P (.cl (.bl true)) h) : okF (CP.m_is_list ks rz [d0] h) P X := by
  rcases kd_seq hu with e | e
  · exact is_list_ok hd e hks.l p
  · exact is_list_ok hd e hks.t p
theorem is_nm_ok (hks : KsOk ks) (hz : Nm z) (p : P (.cl (.bl true)) h) : okF (CP.m_is_name ks rz [.str z] h) P X := by
  refine is_name_ok (d := .str z) rfl rfl hks.s (fun w e => ?_) ?_
  · cases e
    rw [SL.len_str]
    have := hz.2.1
    show z.cps.toList.length ≤ _
    omega
  · show P (.cl (.bl (nmB z))) h
    rw [nmB_iff.mpr hz]
    exact p
theorem putD_span {x v : D} : putD "span_column" v [(("fixed_columns" : Str), x)] = [(("fixed_columns" : Str), x), (("span_column" : Str), v)] := by
  unfold putD
  rw [if_neg (by decide +kernel)]
  rfl
theorem shape_init (hks : KsOk ks) (hs : h[n]? = some (.ins "Shape" [])) (hd : deref h (.cl d0) = some d) (hu : seqD d.u = some (LS fx)) (ok : ShOk fx sp) (p : P (.cl .non) (h.set n (shD fx sp))) : okF (CP.m_Shape_D_init_D ks rz [.ce n, d0, spD sp] h) P X := by
  unfold CP.m_Shape_D_init_D
  refine okF_fn rfl ?_
  show okS (CP.b_Shape_D_init_D ks rz [.cl (.ce n), .cl d0, .cl (spD sp), .un, .un] h) _ _ _ _
  unfold CP.b_Shape_D_init_D
  have h5 := ok.len
  have hl : (LS fx).length = fx.length := List.length_map ..
  refine okS_seq (okS_no (okB_or (okB_not (okB_tru (okE_call (okE_cons (okE_fr (okE_var rfl (okE_nil (is_seq_ok hks hd hu ⟨.bl true, true, rfl, rfl, (fun e => nomatch e), fun _ => ?_⟩))))))))))
  refine okB_test (okE_op (okE_cb (okE_cons (okE_var rfl (okE_nil (okW_d1 hd (w_lenQ hu (okE_c (okW_eq rfl (okW_eq rfl (w_gt ⟨_, rfl, decide_eq_false (by omega), okS_next ?_⟩)))))))))))
  refine okS_seq (okS_for (okE_enum (okE_cons (okE_var rfl (okE_nil ⟨_, d, _, rfl, hd, hu, by omega, ?_⟩)))))
  refine okS_loop (fun j ρ h' => h' = h ∧ ∃ s3 s4, ρ = [.cl (.ce n), .cl d0, .cl (spD sp), s3, s4]) ?_ _ 0 ⟨rfl, _, _, rfl⟩ ?_ ?_
  · rintro j ρ h' ⟨rfl, _⟩
    exact ck_of
  · rintro j d ρ h' hj ⟨rfl, s3, s4, rfl⟩
    obtain ⟨x, hx, rfl⟩ := enum_at hj
    obtain ⟨z, hz, rfl⟩ := strs_at hx
    have hm : z ∈ fx := List.mem_of_getElem? hz
    refine okG_tup2 (okG_setC (okG_setC ?_))
    dsimp only [List.set, fzW]
    refine okS_seq (okS_no (okB_not (okB_tru (okE_call (okE_cons (okE_fr (okE_var rfl (okE_nil (is_nm_ok hks (ok.nm z hm) ⟨.bl true, true, rfl, rfl, rfl, okS_next ?_⟩)))))))))
    refine okS_no (okB_test (okE_op (okE_var rfl (okE_sl (okE_var rfl (okE_nopart (okE_part (okE_var rfl ⟨_, rfl, okW_eq hd (w_slQ hu fun w e he hue => okW_eq rfl (okW_eq (he _) ?_))⟩))))))))
    rw [cut_take, ← List.map_take] at hue
    exact w_in (dInB_Q hue) ⟨_, rfl, decide_eq_false (nodup_take ok.nd hz), okS_next ⟨rfl, _, _, rfl⟩⟩
  · rintro ρ h' ⟨rfl, s3, s4, rfl⟩
    have tail : okS (sSeq (sFldM "Shape" "fixed_columns" (mVar 0) (mCB dSrt (mCons (mVar 1) mNil))) (sFldM "Shape" "span_column" (mVar 0) (mVar 2)) [.cl (.ce n), .cl d0, .cl (spD sp), s3, s4] h') (fun ρ h'' => okW (cutF false h' (.cl .non) h'') fun x => P x.1 x.2) (fun w ρ h'' => okW (cutF false h' w h'') fun x => P x.1 x.2) (fun _ _ _ => False) (fun C fs ρ h'' => okW (cutX false h' fs h'') fun x => X C fs x) := by
      refine okS_seq (okS_fld (okE_cb (okE_cons (okE_var rfl (okE_nil (okW_d1 hd (w_srtQ hu (by omega) (okE_var rfl (okW_eq (insAt_eq hs) ⟨by show (0 : Nat) < 1000; decide, ?_⟩)))))))))
      have hn := (List.getElem?_eq_some_iff.mp hs).1
      refine okS_fld (okE_var rfl (okE_var rfl (okW_eq (insAt_eq (List.getElem?_set_self hn)) ⟨by show (1 : Nat) < 1000; decide, cut_same (by rw [List.length_set, List.length_set]) ?_⟩)))
      have e2 : putD "fixed_columns" (fzW (W.fr (LS (sortS fx)))) [] = [(("fixed_columns" : Str), D.lst (LS (sortS fx)))] := rfl
      show P (.cl .non) (((h'.set n _).set n (.ins "Shape" (putD "span_column" (spD sp) (putD "fixed_columns" (fzW (W.fr (LS (sortS fx)))) [])))))
      rw [List.set_set, e2, putD_span]
      exact p
    cases sp with
    | none =>
      refine okS_seq (okS_no (okB_and (okE_eq (w := false) rfl ⟨(fun q => nomatch q), fun _ => ⟨rfl, okS_next ?_⟩⟩)))
      refine okS_seq (okS_no (okB_test (okE_op (okE_var rfl (okE_var rfl (okW_eq rfl (okW_eq hd (w_in (dInB_QN hu) ⟨_, rfl, rfl, okS_next ?_⟩))))))))
      refine okS_seq (okS_no (okB_and (okE_eq (w := false) rfl ⟨(fun q => nomatch q), fun _ => ⟨rfl, okS_next ?_⟩⟩)))
      exact tail
    | some z =>
      obtain ⟨z1, z2, z3⟩ := ok.sp z rfl
      refine okS_seq (okS_no (okB_and (okE_eq (w := true) rfl ⟨fun _ => ?_, (fun q => nomatch q)⟩)))
      refine okB_not (okB_tru (okE_call (okE_cons (okE_fr (okE_var rfl (okE_nil (is_nm_ok hks z1 ⟨.bl true, true, rfl, rfl, rfl, okS_next ?_⟩)))))))
      refine okS_seq (okS_no (okB_test (okE_op (okE_var rfl (okE_var rfl (okW_eq rfl (okW_eq hd (w_in (dInB_Q hu) ⟨_, rfl, decide_eq_false z2, okS_next ?_⟩))))))))
      refine okS_seq (okS_no (okB_and (okE_eq (w := true) rfl ⟨fun _ => ?_, (fun q => nomatch q)⟩)))
      refine okB_test (okE_op (okE_cb (okE_cons (okE_var rfl (okE_nil (okW_d1 hd (w_lenQ hu (okE_c (okW_eq rfl (okW_eq rfl (w_eqi ⟨_, rfl, decide_eq_false (by omega), okS_next ?_⟩)))))))))))
      exact tail
/-- Shape(..) -/
theorem okE_shape {P : Ps W} {X : Px} {es : Mo (List W)} {dvs : List D} (hks : KsOk ks) (q : okE (es ρ h) (fun ws ρ h => ∃ d0 d fx sp, ws.map fzW ++ dvs = [d0, spD sp] ∧ deref h (.cl d0) = some d ∧ seqD d.u = some (LS fx) ∧ ShOk fx sp ∧ P (.nw (shD fx sp)) ρ h) X) : okE (mMake false "Shape" (CP.m_Shape_D_init_D ks rz) dvs es ρ h) P X := okE_make (q.mono fun ws ρ h q => by
  obtain ⟨d0, d, fx, sp, e, hd, hu, ok, p⟩ := q
  rw [e]
  have hd2 : deref (h ++ [.ins "Shape" []]) (.cl d0) = some d := by
    by_cases hc : ∃ m, d0 = .ce m
    · obtain ⟨m, rfl⟩ := hc
      have hd : h[m]? = some d := hd
      show (h ++ [D.ins "Shape" []])[m]? = some d
      rw [List.getElem?_append_left (List.getElem?_eq_some_iff.mp hd).1]
      exact hd
    · have := top_ne (h := h) (d := d0) (fun m z => hc ⟨m, z⟩)
      have e2 := top_ne (h := h ++ [.ins "Shape" []]) (d := d0) (fun m z => hc ⟨m, z⟩)
      show top _ d0 = _
      rw [e2]
      rw [← this]
      exact hd
  refine shape_init hks (tail_at0 rfl) hd2 hu ok ⟨rfl, ?_⟩
  rw [List.set_append_right _ _ (Nat.le_refl _), Nat.sub_self]
  refine cut_own (h1 := h) (g := [shD fx sp]) rfl okCut_refl (Nat.le_refl _) (tail_at0 rfl) ?_ p
  show below h.length (.ins "Shape" (shF fx sp)) = true
  rw [below_ins]
  have h1 : below h.length (.lst (LS (sortS fx))) = true := below_strs (sortS fx)
  have h2 : below h.length (spD sp) = true := by cases sp <;> first | exact below_non | exact below_str
  simp [h1, h2])
end
end CM
namespace CM
open PySem PySem.Spec PyProof.Rows L2 SL
section
variable {ρ : List Sl} {h : Tb} {P : Ps W} {X : Px} {a : Mo W} {ms : List (Mo W)} {acc : Str}
theorem okE_js0 (q : P (.cl (.str acc)) ρ h) : okE (mJs [] acc ρ h) P X := okE_some q
theorem okE_js {m : Mo W} (q : okE (m ρ h) (fun w ρ h => ∃ d y, deref h w = some d ∧ d.u = .str y ∧ (acc ++ y).length ≤ 100000 ∧ okE (mJs ms (acc ++ y) ρ h) P X) X) : okE (mJs (m :: ms) acc ρ h) P X := okE_bind (q.mono fun w ρ h q => by
  obtain ⟨d, y, e, e2, e3, q⟩ := q
  show okE (match (deref h w).map D.u with
    | some (.str y) => if (acc ++ y).length ≤ 100000 then mJs ms (acc ++ y) ρ h else none
    | _ => none) P X
  rw [e]
  show okE (match some d.u with
    | some (.str y) => if (acc ++ y).length ≤ 100000 then mJs ms (acc ++ y) ρ h else none
    | _ => none) P X
  rw [e2]
  show okE (if (acc ++ y).length ≤ 100000 then mJs ms (acc ++ y) ρ h else none) P X
  rw [if_pos e3]
  exact q)
end
structure Good (b k : Nat) (x : PyData) : Prop where
  s : x.showable = true
  l : x.leavesShort 60 = true
  b : x.bulk ≤ b
  d : x.depth ≤ k
theorem Good.mono {b k b' k' : Nat} {x : PyData} (g : Good b k x) (h1 : b ≤ b') (h2 : k ≤ k') : Good b' k' x := ⟨g.s, g.l, Nat.le_trans g.b h1, Nat.le_trans g.d h2⟩
theorem good_str {z : Str} (hz : Nm z) : Good 8 0 (.str z) := ⟨by simp [PyData.showable], by
  rw [PyData.leavesShort, List.all_eq_true]
  intro c hc
  have := hz.asc c hc
  rw [decide_eq_true_eq]
  omega, by
  rw [PyData.bulk]
  exact hz.2.1, by simp [PyData.depth]⟩
theorem good_all {b k : Nat} : ∀ {xs : List PyData}, (∀ x ∈ xs, Good b k x) → PyData.showableAll xs = true ∧ PyData.leavesShortAll 60 xs = true ∧ PyData.bulkAll xs ≤ xs.length * (b + 1) ∧ PyData.depthAll xs ≤ k
  | [], _ => ⟨by simp [PyData.showableAll], by simp [PyData.leavesShortAll], by simp [PyData.bulkAll], by simp [PyData.depthAll]⟩
  | x :: xs, h => by
    obtain ⟨h1, h2, h3, h4⟩ := good_all (xs := xs) fun y hy => h y (List.mem_cons_of_mem _ hy)
    obtain ⟨g1, g2, g3, g4⟩ := h x (List.mem_cons_self ..)
    refine ⟨by rw [PyData.showableAll, g1, h1]; rfl, by rw [PyData.leavesShortAll, g2, h2]; rfl, ?_, by rw [PyData.depthAll]; omega⟩
    rw [PyData.bulkAll, List.length_cons, Nat.add_mul, Nat.one_mul]
    omega
theorem good_list {b k : Nat} {xs : List PyData} (h : ∀ x ∈ xs, Good b k x) : Good (xs.length * (b + 1)) (k + 1) (.list xs) := by
  obtain ⟨h1, h2, h3, h4⟩ := good_all h
  exact ⟨by rw [PyData.showable]; exact h1, by rw [PyData.leavesShort]; exact h2, by rw [PyData.bulk]; exact h3, by rw [PyData.depth]; omega⟩
theorem good_names {zs : List Str} (h : ∀ z ∈ zs, Nm z) (hl : zs.length ≤ 100) : Good 900 1 (.list (zs.map PyData.str)) := (good_list (b := 8) (k := 0) fun x hx => by
  obtain ⟨z, hz, rfl⟩ := List.mem_map.mp hx
  exact good_str (h z hz)).mono (by rw [List.length_map]; omega) (Nat.le_refl _)
theorem w_repr {d : D} {x : PyData} {b k : Nat} {Q : W → Prop} (hx : pd d = some x) (g : Good b k x) (hb : b ≤ 1600) (hk : k ≤ 60) (q : x.shown.length ≤ 100000 → Q (.cl (.str x.shown))) : okW (dRepr [d]) Q := by
  have hs : showsB x = true := by
    unfold showsB
    rw [g.s, g.l, decide_eq_true (Nat.le_trans g.b (by omega)), decide_eq_true (Nat.le_trans g.d hk)]
    rfl
  have hl : x.shown.length ≤ 100000 := by
    have := PyData.shown_le_bulk 60 (by decide) x g.l
    have := g.b
    omega
  refine ⟨.cl (.str x.shown), ?_, q hl⟩
  show (pd d).bind (fun x => if showsB x = true then some (W.cl (.str x.shown)) else none) = _
  rw [hx]
  show (if showsB x = true then some (W.cl (.str x.shown)) else none) = _
  rw [if_pos hs]
theorem ne_same {z w : Str} {Q : W → Prop} (q : Q (.cl (.bl (!decide (z = w))))) : okW (dNe (.str z) (.str w)) Q := w_ne (a := .str z) (b := .str w) rfl q
section
variable {ρ : List Sl} {h : Tb} {X : Str → List (Str × D) → Tb → Prop} {P : W → Tb → Prop} {ks : List Kd} {rz : Bool} {z : Str} {d0 d d1 e0 : D} {k : Kd} {n : Nat} {fx gx : List Str} {sp sq : Option Str}
local macro_rules | `(tactic| walk_at "hv") => `(tactic| first | rfl | assumption | (exact (by assumption : _)))
local macro_rules | `(tactic| walk_at "p1") => `(tactic| first
  | with_reducible refine CM.okS_seq ?_ | with_reducible refine CM.okS_next ?_ | with_reducible refine CM.okS_asg ?_ | with_reducible refine CM.okS_ret ?_ | with_reducible refine CM.okS_drop ?_ | with_reducible refine CM.okS_aug ?_ | with_reducible refine CM.okS_cnt ?_ | with_reducible refine CM.okS_fg ?_ | with_reducible refine CM.okS_retN ?_
  | with_reducible refine CM.okE_op ?_ | with_reducible refine CM.okE_cb ?_ | with_reducible refine CM.okE_cons ?_ | with_reducible refine CM.okE_nil ?_ | with_reducible refine CM.okB_not ?_ | with_reducible refine CM.okE_c ?_ | with_reducible refine CM.okE_fr ?_ | with_reducible refine CM.okE_ce ?_ | with_reducible refine CM.okE_notV ?_ | with_reducible refine CM.okE_un ?_
  | with_reducible refine CM.okE_sl ?_ | with_reducible refine CM.okE_nopart ?_
  | ((with_reducible refine' CM.okE_var ?hv ?_); (case hv => rfl))
  | ((with_reducible refine' CM.okE_part (CM.okE_var ?hv ⟨_, ?hv2, ?_⟩)); (case hv => rfl); (case hv2 => rfl))
  | ((with_reducible refine' CM.okE_part (CM.okE_c ⟨_, ?hv2, ?_⟩)); (case hv2 => rfl))
  | ((with_reducible refine' CM.okW_eq (w := _) ?hv ?_); (case hv => (with_reducible rfl)))
  | ((with_reducible refine' CM.okW_deref ?hv ?_); (case hv => walk_at "hv")) | ((with_reducible refine' CM.okW_derefs ?hv ?_); (case hv => rfl)) | ((with_reducible refine' CM.okW_derefC ?hv ?_); (case hv => walk_at "hv")) | ((with_reducible refine' CM.okW_lstAt ?hv ?_); (case hv => walk_at "hv"))
  | with_reducible refine CM.w_add ?_ | with_reducible refine CM.w_sub ?_ | with_reducible refine CM.w_lt ?_ | with_reducible refine CM.w_le ?_ | with_reducible refine CM.w_gt ?_ | with_reducible refine CM.w_ge ?_ | with_reducible refine CM.w_addI ?_
  | with_reducible refine CM.w_mod (by omega) ?_ | with_reducible refine CM.w_div (by omega) (by rw [CM.big_eq]; omega) ?_ | with_reducible refine CM.w_mul (by rw [CM.big_eq]; omega) (by rw [CM.big_eq]; omega) (by rw [CM.big_eq]; omega) (by rw [CM.big_eq]; omega) ?_ | with_reducible refine CM.w_sq (by omega) (by omega) ?_
  | with_reducible refine CM.w_max2 ?_ | with_reducible refine CM.w_min2 ?_ | with_reducible refine CM.w_lenL ?_ | with_reducible refine CM.w_lenT ?_ | with_reducible refine CM.w_lenC ?_ | with_reducible refine CM.w_listL ?_ | with_reducible refine CM.w_listT ?_ | with_reducible refine CM.w_tupL ?_ | with_reducible refine CM.w_tupT ?_
  | ((with_reducible refine CM.okG_setC ?_); (try dsimp only [List.set, CM.fzW]))
  | ((with_reducible refine' CM.okW_ix ?hv ?_); (case hv => rfl))
  | ((with_reducible refine' CM.okB_test (CM.okE_eqn ⟨_, ?hv, ?_⟩)); (case hv => rfl))
  | ((with_reducible refine' CM.okB_testd ⟨_, ?hv, ?_⟩); (case hv => rfl)))
local macro_rules | `(tactic| walk_at "p") => `(tactic| repeat walk_at "p1")
theorem w_addLL {zs ws : List Str} {Q : W → Prop} (h : zs.length + ws.length ≤ 100000) (q : Q (W.fr (LS (zs ++ ws)))) : okW (dAdd (.lst (LS zs)) (.lst (LS ws))) Q := by
  refine ⟨_, ?_, q⟩
  show (if (LS zs).length + (LS ws).length ≤ 100000 then some (W.fr (LS zs ++ LS ws)) else none) = _
  rw [List.length_map, List.length_map, if_pos h]
  show some (W.fr (zs.map D.str ++ ws.map D.str)) = some (W.fr ((zs ++ ws).map D.str))
  rw [List.map_append]
theorem shape_eq_odd {k : Kd} (hd0 : deref h (.cl d0) = some d) (hd1 : deref h (.cl d1) = some e0) (hk : kd e0.u = some k) (hx : k ∈ ks) (hn : k ≠ .own "Shape") (hn2 : ∀ C, k ≠ .exc C) (p : P (.cl (.bl false)) h) : okF (CP.m_Shape_D_eq_D ks rz [d0, d1] h) P X := by
  unfold CP.m_Shape_D_eq_D
  refine okF_fn rfl ?_
  show okS (CP.b_Shape_D_eq_D ks rz [.cl d0, .cl d1] h) _ _ _ _
  unfold CP.b_Shape_D_eq_D
  have hb : insK k (.own "Shape") = false := by
    cases k with
    | b T => rfl
    | own C => exact decide_eq_false fun e => hn (by rw [e])
    | exc C => exact absurd rfl (hn2 C)
    | fn => rfl
  refine okS_seq (okS_yes (okB_not (okB_tru (okE_cb (okE_cons (okE_var rfl (okE_cons (okE_c (okE_nil (okW_d2 hd1 rfl (w_isi rfl hk hx ⟨_, false, rfl, ?_, rfl, okS_ret (okE_c (cut_same rfl p))⟩)))))))))))
  rw [hb]
  rfl
theorem joinL_props {sep : List Nat} (h1 : sep.length = 1) (h2 : ∀ c ∈ sep, c < 128) : ∀ ls : List (List Nat), (∀ l ∈ ls, l.length ≤ 8 ∧ ∀ c ∈ l, c < 128) → (TL.joinL sep ls).length ≤ 9 * ls.length ∧ ∀ c ∈ TL.joinL sep ls, c < 128
  | [], _ => ⟨Nat.zero_le _, fun c h => by cases h⟩
  | [p], h => by
    have hp := h p (List.mem_cons_self ..)
    refine ⟨?_, hp.2⟩
    show p.length ≤ 9 * 1
    omega
  | p :: q :: r, h => by
    have hp := h p (List.mem_cons_self ..)
    obtain ⟨i1, i2⟩ := joinL_props h1 h2 (q :: r) fun l hl => h l (List.mem_cons_of_mem _ hl)
    simp only [TL.joinL, List.length_append, List.length_cons] at i1 i2 ⊢
    refine ⟨by omega, fun c hc => ?_⟩
    rcases List.mem_append.mp hc with hc | hc
    · exact hp.2 c hc
    · rcases List.mem_append.mp hc with hc | hc
      · exact h2 c hc
      · exact i2 c hc
theorem len_add (a b : Str) : (a ++ b).length = a.length + b.length := by
  obtain ⟨x, rfl⟩ := S_of a
  obtain ⟨y, rfl⟩ := S_of b
  rw [S_add, S_len, S_len, S_len, List.length_append]
theorem emp_add (a : Str) : Str.empty ++ a = a := by
  obtain ⟨x, rfl⟩ := S_of a
  have e : Str.empty = S [] := rfl
  rw [e, S_add]
  rfl
end
end CM
namespace CM
open PySem PySem.Spec PyProof.Rows L2 SL
def nm (ls : List (List Nat)) (i : Nat) : Str := S (ls.getD i [])
section
variable {ls : List (List Nat)} {m i j : Nat} {p : Pt}
theorem nm_eq (hi : i < ls.length) : nm ls i = S ls[i] := by
  unfold nm
  rw [List.getD_eq_getElem?_getD, List.getElem?_eq_getElem hi]
  rfl
theorem nm_nm (c : Cols m ls) (hi : i < m) : Nm (nm ls i) := by
  have hi : i < ls.length := by rw [c.1]; exact hi
  rw [nm_eq hi]
  exact c.2.2 _ (List.getElem_mem hi)
theorem nm_inj (c : Cols m ls) (hi : i < m) (hj : j < m) (e : nm ls i = nm ls j) : i = j := by
  have hi : i < ls.length := by rw [c.1]; exact hi
  have hj : j < ls.length := by rw [c.1]; exact hj
  rw [nm_eq hi, nm_eq hj] at e
  have e := S_inj e
  rcases Nat.lt_trichotomy i j with z | z | z
  · exact absurd e (List.pairwise_iff_getElem.mp c.2.1 i j hi hj z)
  · exact z
  · exact absurd e.symm (List.pairwise_iff_getElem.mp c.2.1 j i hj hi z)
/-- positions of a shape, in any sequence -/
structure PtU (m : Nat) (p : Pt) : Prop where
  nd : p.1.Nodup
  lt : ∀ i ∈ p.1, i < m
  len : p.1.length ≤ 5
  sp : ∀ i, p.2 = some i → i < m ∧ i ∉ p.1 ∧ p.1.length < 5
theorem Part.u {fx : List Nat} {sp : Option Nat} (q : Part m fx sp) : PtU m (fx, sp) := ⟨q.nd, q.lt, q.len, q.sp⟩
abbrev fxP (ls : List (List Nat)) (p : Pt) : List Str := p.1.map (nm ls)
abbrev spP (ls : List (List Nat)) (p : Pt) : Option Str := p.2.map (nm ls)
theorem PtU.sh (c : Cols m ls) (q : PtU m p) : ShOk (fxP ls p) (spP ls p) where
  len := by rw [List.length_map]; exact q.len
  nd := by
    unfold List.Nodup
    rw [List.pairwise_map]
    exact q.nd.imp_of_mem fun {a b} ha hb hab e => hab (nm_inj c (q.lt a ha) (q.lt b hb) e)
  nm := fun z hz => by
    obtain ⟨i, hi, rfl⟩ := List.mem_map.mp hz
    exact nm_nm c (q.lt i hi)
  sp := fun z hz => by
    obtain ⟨i, hi, rfl⟩ := Option.map_eq_some_iff.mp hz
    obtain ⟨h1, h2, h3⟩ := q.sp i hi
    refine ⟨nm_nm c h1, fun hm => ?_, by rw [List.length_map]; exact h3⟩
    obtain ⟨k, hk, e⟩ := List.mem_map.mp hm
    rw [nm_inj c (q.lt k hk) h1 e] at hk
    exact h2 hk
end
section
variable {ρ : List Sl} {h h0 h1 g : Tb} {N : List Sl → Tb → Prop} {T : Ps W} {L : Bool → List Sl → Tb → Prop} {tk si : Fnm} {b n k i j len m most : Nat} {c : D} {ks : List Kd} {rz : Bool} {ls : List (List Nat)} {p : Pt}
local macro_rules | `(tactic| walk_at "hv") => `(tactic| first | rfl | assumption | (exact (by assumption : _)))
local macro_rules | `(tactic| walk_at "p1") => `(tactic| first
  | with_reducible refine CM.okS_seq ?_ | with_reducible refine CM.okS_next ?_ | with_reducible refine CM.okS_asg ?_ | with_reducible refine CM.okS_ret ?_ | with_reducible refine CM.okS_drop ?_ | with_reducible refine CM.okS_aug ?_ | with_reducible refine CM.okS_cnt ?_ | with_reducible refine CM.okS_fg ?_ | with_reducible refine CM.okS_retN ?_
  | with_reducible refine CM.okE_op ?_ | with_reducible refine CM.okE_cb ?_ | with_reducible refine CM.okE_cons ?_ | with_reducible refine CM.okE_nil ?_ | with_reducible refine CM.okB_not ?_ | with_reducible refine CM.okE_c ?_ | with_reducible refine CM.okE_fr ?_ | with_reducible refine CM.okE_ce ?_ | with_reducible refine CM.okE_notV ?_ | with_reducible refine CM.okE_un ?_
  | with_reducible refine CM.okE_sl ?_ | with_reducible refine CM.okE_nopart ?_
  | ((with_reducible refine' CM.okE_var ?hv ?_); (case hv => rfl))
  | ((with_reducible refine' CM.okE_part (CM.okE_var ?hv ⟨_, ?hv2, ?_⟩)); (case hv => rfl); (case hv2 => rfl))
  | ((with_reducible refine' CM.okE_part (CM.okE_c ⟨_, ?hv2, ?_⟩)); (case hv2 => rfl))
  | ((with_reducible refine' CM.okW_eq (w := _) ?hv ?_); (case hv => (with_reducible rfl)))
  | ((with_reducible refine' CM.okW_deref ?hv ?_); (case hv => walk_at "hv")) | ((with_reducible refine' CM.okW_derefs ?hv ?_); (case hv => rfl)) | ((with_reducible refine' CM.okW_derefC ?hv ?_); (case hv => walk_at "hv")) | ((with_reducible refine' CM.okW_lstAt ?hv ?_); (case hv => walk_at "hv"))
  | with_reducible refine CM.w_add ?_ | with_reducible refine CM.w_sub ?_ | with_reducible refine CM.w_lt ?_ | with_reducible refine CM.w_le ?_ | with_reducible refine CM.w_gt ?_ | with_reducible refine CM.w_ge ?_ | with_reducible refine CM.w_addI ?_
  | with_reducible refine CM.w_mod (by omega) ?_ | with_reducible refine CM.w_div (by omega) (by rw [CM.big_eq]; omega) ?_ | with_reducible refine CM.w_mul (by rw [CM.big_eq]; omega) (by rw [CM.big_eq]; omega) (by rw [CM.big_eq]; omega) (by rw [CM.big_eq]; omega) ?_ | with_reducible refine CM.w_sq (by omega) (by omega) ?_
  | with_reducible refine CM.w_max2 ?_ | with_reducible refine CM.w_min2 ?_ | with_reducible refine CM.w_lenL ?_ | with_reducible refine CM.w_lenT ?_ | with_reducible refine CM.w_lenC ?_ | with_reducible refine CM.w_listL ?_ | with_reducible refine CM.w_listT ?_ | with_reducible refine CM.w_tupL ?_ | with_reducible refine CM.w_tupT ?_
  | ((with_reducible refine CM.okG_setC ?_); (try dsimp only [List.set, CM.fzW]))
  | ((with_reducible refine' CM.okW_ix ?hv ?_); (case hv => rfl))
  | ((with_reducible refine' CM.okB_test (CM.okE_eqn ⟨_, ?hv, ?_⟩)); (case hv => rfl))
  | ((with_reducible refine' CM.okB_testd ⟨_, ?hv, ?_⟩); (case hv => rfl)))
local macro_rules | `(tactic| walk_at "p") => `(tactic| repeat walk_at "p1")
end
end CM
namespace CM
open PySem PySem.Spec PyProof.Rows L2 SL
section
variable {ρ : List Sl} {h : Tb} {X : Str → List (Str × D) → Tb → Prop} {P : W → Tb → Prop} {ks : List Kd} {rz : Bool} {z : Str} {d0 d d1 e0 : D} {k : Kd} {n : Nat} {fx gx : List Str} {sp sq : Option Str}
local macro_rules | `(tactic| walk_at "hv") => `(tactic| first | rfl | assumption | (exact (by assumption : _)))
local macro_rules | `(tactic| walk_at "p1") => `(tactic| first
  | with_reducible refine CM.okS_seq ?_ | with_reducible refine CM.okS_next ?_ | with_reducible refine CM.okS_asg ?_ | with_reducible refine CM.okS_ret ?_ | with_reducible refine CM.okS_drop ?_ | with_reducible refine CM.okS_aug ?_ | with_reducible refine CM.okS_cnt ?_ | with_reducible refine CM.okS_fg ?_ | with_reducible refine CM.okS_retN ?_
  | with_reducible refine CM.okE_op ?_ | with_reducible refine CM.okE_cb ?_ | with_reducible refine CM.okE_cons ?_ | with_reducible refine CM.okE_nil ?_ | with_reducible refine CM.okB_not ?_ | with_reducible refine CM.okE_c ?_ | with_reducible refine CM.okE_fr ?_ | with_reducible refine CM.okE_ce ?_ | with_reducible refine CM.okE_notV ?_ | with_reducible refine CM.okE_un ?_
  | with_reducible refine CM.okE_sl ?_ | with_reducible refine CM.okE_nopart ?_
  | ((with_reducible refine' CM.okE_var ?hv ?_); (case hv => rfl))
  | ((with_reducible refine' CM.okE_part (CM.okE_var ?hv ⟨_, ?hv2, ?_⟩)); (case hv => rfl); (case hv2 => rfl))
  | ((with_reducible refine' CM.okE_part (CM.okE_c ⟨_, ?hv2, ?_⟩)); (case hv2 => rfl))
  | ((with_reducible refine' CM.okW_eq (w := _) ?hv ?_); (case hv => (with_reducible rfl)))
  | ((with_reducible refine' CM.okW_deref ?hv ?_); (case hv => walk_at "hv")) | ((with_reducible refine' CM.okW_derefs ?hv ?_); (case hv => rfl)) | ((with_reducible refine' CM.okW_derefC ?hv ?_); (case hv => walk_at "hv")) | ((with_reducible refine' CM.okW_lstAt ?hv ?_); (case hv => walk_at "hv"))
  | with_reducible refine CM.w_add ?_ | with_reducible refine CM.w_sub ?_ | with_reducible refine CM.w_lt ?_ | with_reducible refine CM.w_le ?_ | with_reducible refine CM.w_gt ?_ | with_reducible refine CM.w_ge ?_ | with_reducible refine CM.w_addI ?_
  | with_reducible refine CM.w_mod (by omega) ?_ | with_reducible refine CM.w_div (by omega) (by rw [CM.big_eq]; omega) ?_ | with_reducible refine CM.w_mul (by rw [CM.big_eq]; omega) (by rw [CM.big_eq]; omega) (by rw [CM.big_eq]; omega) (by rw [CM.big_eq]; omega) ?_ | with_reducible refine CM.w_sq (by omega) (by omega) ?_
  | with_reducible refine CM.w_max2 ?_ | with_reducible refine CM.w_min2 ?_ | with_reducible refine CM.w_lenL ?_ | with_reducible refine CM.w_lenT ?_ | with_reducible refine CM.w_lenC ?_ | with_reducible refine CM.w_listL ?_ | with_reducible refine CM.w_listT ?_ | with_reducible refine CM.w_tupL ?_ | with_reducible refine CM.w_tupT ?_
  | ((with_reducible refine CM.okG_setC ?_); (try dsimp only [List.set, CM.fzW]))
  | ((with_reducible refine' CM.okW_ix ?hv ?_); (case hv => rfl))
  | ((with_reducible refine' CM.okB_test (CM.okE_eqn ⟨_, ?hv, ?_⟩)); (case hv => rfl))
  | ((with_reducible refine' CM.okB_testd ⟨_, ?hv, ?_⟩); (case hv => rfl)))
local macro_rules | `(tactic| walk_at "p") => `(tactic| repeat walk_at "p1")
end
end CM
namespace CM
open PySem PySem.Spec PyProof.Rows L2 SL
end CM
namespace CM
open PySem PySem.Spec PyProof.Rows L2 SL
end CM
namespace CM
open PySem PySem.Spec PyProof.Rows L2 SL
section
variable {ρ ρ' : List Sl} {h h' h0 h1 g g' : Tb} {P : Ps W} {N : List Sl → Tb → Prop} {T : Ps W} {L : Bool → List Sl → Tb → Prop} {X : Px} {gt gt1 : Tg} {t t1 : Mo Bool} {e el : Mo W} {it it1 : Mo ItM} {vs vs1 : List Nat} {ck : List (Nat × D)} {d e0 : D} {ds : List D} {body : MS} {i k b n m len : Nat}
theorem okS_loop_nil (q : N ρ h) : okS (loopS gt body [] [] ρ h) N T L X := ⟨_, rfl, q⟩
theorem okS_loop_cons (q : okG (gt (.cl d) ρ h) fun ρ h => okS (body ρ h) (fun ρ h => okS (loopS gt body [] ds ρ h) N T L X) T (fun b ρ h => if b = true then N ρ h else okS (loopS gt body [] ds ρ h) N T L X) X) : okS (loopS gt body [] (d :: ds) ρ h) N T L X := by
  obtain ⟨y, e1, o, e2, p⟩ := q
  have ck : ∀ h : Tb, ckOk [] h := fun _ _ z => absurd z List.not_mem_nil
  unfold loopS
  rw [e1]
  dsimp only [Option.bind_some]
  rw [e2]
  cases o with
  | nx ρ h =>
    dsimp only
    rw [if_pos (ck _)]
    exact p
  | rt w ρ h => exact ⟨_, rfl, p⟩
  | ct ρ h =>
    have p : okS (loopS gt body [] ds ρ h) N T L X := by simpa [okO] using p
    dsimp only
    rw [if_pos (ck _)]
    exact p
  | bk ρ h => exact ⟨_, rfl, by simpa [okO] using p⟩
  | ex C fs ρ h => exact ⟨_, rfl, p⟩
end
end CM
namespace CM
open PySem PySem.Spec PyProof.Rows L2 SL
section
variable {ρ : List Sl} {h h0 h1 g : Tb} {N : List Sl → Tb → Prop} {T : Ps W} {L : Bool → List Sl → Tb → Prop} {X : Px} {b n k i j len m most : Nat} {d0 d1 d e0 : D} {ls : List (List Nat)} {p q : Pt} {fx gx : List Str} {sp sq : Option Str}
local macro_rules | `(tactic| walk_at "hv") => `(tactic| first | rfl | assumption | (exact (by assumption : _)))
local macro_rules | `(tactic| walk_at "p1") => `(tactic| first
  | with_reducible refine CM.okS_seq ?_ | with_reducible refine CM.okS_next ?_ | with_reducible refine CM.okS_asg ?_ | with_reducible refine CM.okS_ret ?_ | with_reducible refine CM.okS_drop ?_ | with_reducible refine CM.okS_aug ?_ | with_reducible refine CM.okS_cnt ?_ | with_reducible refine CM.okS_fg ?_ | with_reducible refine CM.okS_retN ?_
  | with_reducible refine CM.okE_op ?_ | with_reducible refine CM.okE_cb ?_ | with_reducible refine CM.okE_cons ?_ | with_reducible refine CM.okE_nil ?_ | with_reducible refine CM.okB_not ?_ | with_reducible refine CM.okE_c ?_ | with_reducible refine CM.okE_fr ?_ | with_reducible refine CM.okE_ce ?_ | with_reducible refine CM.okE_notV ?_ | with_reducible refine CM.okE_un ?_
  | with_reducible refine CM.okE_sl ?_ | with_reducible refine CM.okE_nopart ?_
  | ((with_reducible refine' CM.okE_var ?hv ?_); (case hv => rfl))
  | ((with_reducible refine' CM.okE_part (CM.okE_var ?hv ⟨_, ?hv2, ?_⟩)); (case hv => rfl); (case hv2 => rfl))
  | ((with_reducible refine' CM.okE_part (CM.okE_c ⟨_, ?hv2, ?_⟩)); (case hv2 => rfl))
  | ((with_reducible refine' CM.okW_eq (w := _) ?hv ?_); (case hv => (with_reducible rfl)))
  | ((with_reducible refine' CM.okW_deref ?hv ?_); (case hv => walk_at "hv")) | ((with_reducible refine' CM.okW_derefs ?hv ?_); (case hv => rfl)) | ((with_reducible refine' CM.okW_derefC ?hv ?_); (case hv => walk_at "hv")) | ((with_reducible refine' CM.okW_lstAt ?hv ?_); (case hv => walk_at "hv"))
  | with_reducible refine CM.w_add ?_ | with_reducible refine CM.w_sub ?_ | with_reducible refine CM.w_lt ?_ | with_reducible refine CM.w_le ?_ | with_reducible refine CM.w_gt ?_ | with_reducible refine CM.w_ge ?_ | with_reducible refine CM.w_addI ?_
  | with_reducible refine CM.w_mod (by omega) ?_ | with_reducible refine CM.w_div (by omega) (by rw [CM.big_eq]; omega) ?_ | with_reducible refine CM.w_mul (by rw [CM.big_eq]; omega) (by rw [CM.big_eq]; omega) (by rw [CM.big_eq]; omega) (by rw [CM.big_eq]; omega) ?_ | with_reducible refine CM.w_sq (by omega) (by omega) ?_
  | with_reducible refine CM.w_max2 ?_ | with_reducible refine CM.w_min2 ?_ | with_reducible refine CM.w_lenL ?_ | with_reducible refine CM.w_lenT ?_ | with_reducible refine CM.w_lenC ?_ | with_reducible refine CM.w_listL ?_ | with_reducible refine CM.w_listT ?_ | with_reducible refine CM.w_tupL ?_ | with_reducible refine CM.w_tupT ?_
  | ((with_reducible refine CM.okG_setC ?_); (try dsimp only [List.set, CM.fzW]))
  | ((with_reducible refine' CM.okW_ix ?hv ?_); (case hv => rfl))
  | ((with_reducible refine' CM.okB_test (CM.okE_eqn ⟨_, ?hv, ?_⟩)); (case hv => rfl))
  | ((with_reducible refine' CM.okB_testd ⟨_, ?hv, ?_⟩); (case hv => rfl)))
local macro_rules | `(tactic| walk_at "p") => `(tactic| repeat walk_at "p1")
end
end CM
namespace CM
open PySem PySem.Spec PyProof.Rows L2 SL
section
variable {ρ ρ' : List Sl} {h h0 h1 g g' : Tb} {N : List Sl → Tb → Prop} {T : Ps W} {L : Bool → List Sl → Tb → Prop} {X : Px} {b n k i j len m most : Nat} {d0 d1 d e0 : D} {fx gx : List Str} {sp sq : Option Str} {gt : Tg} {body : MS} {ds : List D} {ks : List Kd}
local macro_rules | `(tactic| walk_at "hv") => `(tactic| first | rfl | assumption | (exact (by assumption : _)))
local macro_rules | `(tactic| walk_at "p1") => `(tactic| first
  | with_reducible refine CM.okS_seq ?_ | with_reducible refine CM.okS_next ?_ | with_reducible refine CM.okS_asg ?_ | with_reducible refine CM.okS_ret ?_ | with_reducible refine CM.okS_drop ?_ | with_reducible refine CM.okS_aug ?_ | with_reducible refine CM.okS_cnt ?_ | with_reducible refine CM.okS_fg ?_ | with_reducible refine CM.okS_retN ?_
  | with_reducible refine CM.okE_op ?_ | with_reducible refine CM.okE_cb ?_ | with_reducible refine CM.okE_cons ?_ | with_reducible refine CM.okE_nil ?_ | with_reducible refine CM.okB_not ?_ | with_reducible refine CM.okE_c ?_ | with_reducible refine CM.okE_fr ?_ | with_reducible refine CM.okE_ce ?_ | with_reducible refine CM.okE_notV ?_ | with_reducible refine CM.okE_un ?_
  | with_reducible refine CM.okE_sl ?_ | with_reducible refine CM.okE_nopart ?_
  | ((with_reducible refine' CM.okE_var ?hv ?_); (case hv => rfl))
  | ((with_reducible refine' CM.okE_part (CM.okE_var ?hv ⟨_, ?hv2, ?_⟩)); (case hv => rfl); (case hv2 => rfl))
  | ((with_reducible refine' CM.okE_part (CM.okE_c ⟨_, ?hv2, ?_⟩)); (case hv2 => rfl))
  | ((with_reducible refine' CM.okW_eq (w := _) ?hv ?_); (case hv => (with_reducible rfl)))
  | ((with_reducible refine' CM.okW_deref ?hv ?_); (case hv => walk_at "hv")) | ((with_reducible refine' CM.okW_derefs ?hv ?_); (case hv => rfl)) | ((with_reducible refine' CM.okW_derefC ?hv ?_); (case hv => walk_at "hv")) | ((with_reducible refine' CM.okW_lstAt ?hv ?_); (case hv => walk_at "hv"))
  | with_reducible refine CM.w_add ?_ | with_reducible refine CM.w_sub ?_ | with_reducible refine CM.w_lt ?_ | with_reducible refine CM.w_le ?_ | with_reducible refine CM.w_gt ?_ | with_reducible refine CM.w_ge ?_ | with_reducible refine CM.w_addI ?_
  | with_reducible refine CM.w_mod (by omega) ?_ | with_reducible refine CM.w_div (by omega) (by rw [CM.big_eq]; omega) ?_ | with_reducible refine CM.w_mul (by rw [CM.big_eq]; omega) (by rw [CM.big_eq]; omega) (by rw [CM.big_eq]; omega) (by rw [CM.big_eq]; omega) ?_ | with_reducible refine CM.w_sq (by omega) (by omega) ?_
  | with_reducible refine CM.w_max2 ?_ | with_reducible refine CM.w_min2 ?_ | with_reducible refine CM.w_lenL ?_ | with_reducible refine CM.w_lenT ?_ | with_reducible refine CM.w_lenC ?_ | with_reducible refine CM.w_listL ?_ | with_reducible refine CM.w_listT ?_ | with_reducible refine CM.w_tupL ?_ | with_reducible refine CM.w_tupT ?_
  | ((with_reducible refine CM.okG_setC ?_); (try dsimp only [List.set, CM.fzW]))
  | ((with_reducible refine' CM.okW_ix ?hv ?_); (case hv => rfl))
  | ((with_reducible refine' CM.okB_test (CM.okE_eqn ⟨_, ?hv, ?_⟩)); (case hv => rfl))
  | ((with_reducible refine' CM.okB_testd ⟨_, ?hv, ?_⟩); (case hv => rfl)))
local macro_rules | `(tactic| walk_at "p") => `(tactic| repeat walk_at "p1")
theorem okW_snap1 {w : W} {Q : List D → Prop} (e : snapV h w = some d) (q : Q [d]) : okW (snaps h [w]) Q := ⟨[d], by
  show ((snapV h w).bind fun d => (some []).bind fun ds => some (d :: ds)) = _
  rw [e]
  rfl, q⟩
/-- what becomes of the cells -/
def Mut (l : Nat) (d : D) (Ty : String) (g g' : Tb) : Prop :=
  (Ty = "list" ∧ ∃ i ds, d = .ce (l + i) ∧ g[i]? = some (.lst ds) ∧ ds.length < 1000 ∧ g' = g.set i (.lst (ds ++ [.str "late"]))) ∨
  (Ty = "dict" ∧ ∃ i kvs, d = .ce (l + i) ∧ g[i]? = some (.dK kvs) ∧ kvs.length < 1000 ∧ g' = g.set i (.dK (putKD kvs (.inr "late") (.int 1)))) ∨
  (Ty ≠ "list" ∧ Ty ≠ "dict" ∧ g' = g ∧ ∀ h, deref h (.cl d) = some d)
theorem snapWs_strs {g : Nat → Option D} : ∀ zs : List Str, snapWs g (LS zs) = some (LS zs)
  | [] => by simp only [List.map_nil, snapWs]
  | z :: zs => by
    simp only [List.map_cons, snapWs, snapW, snapWs_strs zs, Option.bind_some, Option.map_some]
theorem good_cols {zs : List Str} (hz : ∀ z ∈ zs, Nm z) (hl : zs.length ≤ 6) : Good 60 1 (.list (zs.map PyData.str)) := (good_list (b := 8) (k := 0) fun x hx => by
  obtain ⟨z, hy, rfl⟩ := List.mem_map.mp hx
  exact good_str (hz z hy)).mono (by rw [List.length_map]; omega) (Nat.le_refl _)
theorem pd_lit {z : Str} : pd (.str z) = some (.str z) := by simp only [pd]
structure OddS (ks : List Kd) (gt : Tg) (body : MS) (b : Nat) (h0 : Tb) (Fr : List Sl → Prop) (T : Ps W) (X : Px) : Prop where
  step : ∀ {Ty : String} {d e0 : D} {g g' : Tb} {n : Nat} {h1 : Tb} {ρ : List Sl} {N : List Sl → Tb → Prop} {L : Bool → List Sl → Tb → Prop}, Fr ρ → Bx b n h0 h1 → n ≤ 40000000 → (∀ h2 : Tb, h2.length = h0.length → deref (h2 ++ g) (.cl d) = some e0) → kd e0.u = some (.b Ty) → Kd.b Ty ∈ ks → Mut h0.length d Ty g g' →
    (∀ h2 : Tb, h2.length = h0.length → ∃ d' s, snapV (h2 ++ g') (.cl d) = some d' ∧ dReprX [d'] = some (.cl (.str s))) → (∀ ρ' h2 x, Fr ρ' → Bx b (n + 1) h0 h2 → N ρ' (h2 ++ (g' ++ x))) → okG (gt (.cl d) ρ (h1 ++ g)) fun ρ h => okS (body ρ h) N T L X
theorem OddS.turn {Fr : List Sl → Prop} {Ty : String} (o : OddS ks gt body b h0 Fr T X) (fr : Fr ρ) (hb : Bx b n h0 h1) (hn : n ≤ 40000000) (hd : ∀ h2 : Tb, h2.length = h0.length → deref (h2 ++ g) (.cl d) = some e0) (hk : kd e0.u = some (.b Ty)) (hm : Kd.b Ty ∈ ks) (hmut : Mut h0.length d Ty g g')
    (hsn : ∀ h2 : Tb, h2.length = h0.length → ∃ d' s, snapV (h2 ++ g') (.cl d) = some d' ∧ dReprX [d'] = some (.cl (.str s)))
    (hN : ∀ ρ' h2 x, Fr ρ' → Bx b (n + 1) h0 h2 → okS (loopS gt body [] ds ρ' (h2 ++ (g' ++ x))) N T L X) : okS (loopS gt body [] (d :: ds) ρ (h1 ++ g)) N T L X :=
  okS_loop_cons (o.step fr hb hn hd hk hm hmut hsn hN)
theorem OddS.l {Fr : List Sl → Prop} {xs : List D} (o : OddS ks gt body b h0 Fr T X) (hm : Kd.b "list" ∈ ks) (fr : Fr ρ) (hb : Bx b n h0 h1) (hn : n ≤ 40000000) (hg : g[i]? = some (.lst xs)) (hl : xs.length < 1000) (hs : ∀ h2 : Tb, h2.length = h0.length → ∃ d' s, snapV (h2 ++ g.set i (.lst (xs ++ [.str "late"]))) (.cl (.ce (h0.length + i))) = some d' ∧ dReprX [d'] = some (.cl (.str s)))
    (hN : ∀ ρ' h2 x, Fr ρ' → Bx b (n + 1) h0 h2 → okS (loopS gt body [] ds ρ' (h2 ++ (g.set i (.lst (xs ++ [.str "late"])) ++ x))) N T L X) : okS (loopS gt body [] (.ce (h0.length + i) :: ds) ρ (h1 ++ g)) N T L X :=
  o.turn (e0 := .lst xs) (Ty := "list") fr hb hn (fun h2 hl2 => (tail_at hl2).trans hg) rfl hm (.inl ⟨rfl, i, xs, rfl, hg, hl, rfl⟩) hs hN
/-- the cells from one on -/
def CsF (cs : Tb) (k : Nat) (g : Tb) : Prop := cs.length ≤ g.length ∧ ∀ j, k ≤ j → j < cs.length → g[j]? = cs[j]?
theorem CsF.app {cs y : Tb} (c : CsF cs k g) : CsF cs k (g ++ y) := ⟨by rw [List.length_append]; exact Nat.le_trans c.1 (Nat.le_add_right ..), fun j h1 h2 => by
  rw [List.getElem?_append_left (Nat.lt_of_lt_of_le h2 c.1)]
  exact c.2 j h1 h2⟩
theorem CsF.set {cs y : Tb} {x : D} (c : CsF cs k g) : CsF cs (k + 1) (g.set k x ++ y) := CsF.app ⟨by rw [List.length_set]; exact c.1, fun j h1 h2 => by
  rw [List.getElem?_set_ne (by omega)]
  exact c.2 j (by omega) h2⟩
theorem CsF.refl {cs : Tb} : CsF cs 0 cs := ⟨Nat.le_refl _, fun _ _ _ => rfl⟩
theorem CsF.mono {cs : Tb} {k' : Nat} (c : CsF cs k g) (h : k ≤ k') : CsF cs k' g := ⟨c.1, fun j h1 h2 => c.2 j (by omega) h2⟩
end
end CM
namespace SL
open PySem PySem.Spec PyProof.Rows L2
open Classical in
noncomputable def cntR : List L2.Key → Nat
  | [] => 0
  | k :: r => if k ∈ r then cntR r else cntR r + 1
theorem cntR_le : ∀ r : List L2.Key, cntR r ≤ r.length
  | [] => Nat.le_refl _
  | k :: r => by
    have := cntR_le r
    unfold cntR
    rw [List.length_cons]
    split <;> omega
theorem setOf_congr {P : Program} {w : World} {h : Heap} {a : Addr} {S S' : L2.Key → Bool} {n n' : Nat} (q : h.SetOf (mixKind P w) a S n) (e : ∀ k, S' k = S k) (en : n' = n) : h.SetOf (mixKind P w) a S' n' := by
  have : S' = S := funext e
  rw [this, en]
  exact q
/-- len({elt for target in iter}): ks are the things so far, the last one first -/
def tLenSc (wi : TI) (g : TG) (te : TE) (vs : List Nat) : TE := fun σ H Q => wi σ H fun J H1 => ∃ W : Nat → List L2.Key → Nat → Hp → Prop, (∃ m, W 0 [] m H1) ∧ ∀ i ks m H, W i ks m H → ks.length < 4000 ∧
  ((J.stop i H ∧ Q (.int (cntR ks : Nat)) H) ∨ (J.go i H ∧ ∃ Nx : L2.Key → Hp → Prop, (∀ k H', Nx k H' → ∃ m', m' < m ∧ W (i + 1) (k :: ks) m' H') ∧ ∀ x H', J.yld i H x H' → g x (wipe σ vs) H' fun σ2 H2 => wipe σ2 vs = wipe σ vs ∧ te σ2 H2 fun y H3 => ∃ k, y = kV k ∧ Nx k H3))
section
variable {X : Cx}
open Classical in
theorem pe_lenSc {elt tg iter : Expr} {scope : Scope} {own : List (PySem.Str × Nat)} {p pos pos2 : Pos} {wi : TI} {g : TG} {te : TE} (cm : X.calm = true) (nn : X.N.Nodup) (gl : Gl X "len") (ml : X.mg "len" = none) (pi : PI X tg iter wi) (bk : BlkOk X.N X.env.scope scope own)
    (hg : ∀ (s : Shared) (H : Hp) (C : Addr) (cl : List (PySem.Str × Addr)) (fp : List Addr), PG (X.blk s H scope (compEnvC scope cl C X.env) fp) tg g)
    (he : ∀ (s : Shared) (H : Hp) (C : Addr) (cl : List (PySem.Str × Addr)) (fp : List Addr), PE (X.blk s H scope (compEnvC scope cl C X.env) fp) elt te) (hs : ∀ x, foldedSetIterable iter X.env x = pure x := by intro _; rfl) :
    PE X (.Call (.Name "len" p) [.SetComp elt [⟨tg, iter, [], 0⟩] scope pos] [] pos2) (tLenSc wi g te (own.map (·.2))) := by
  constructor
  intro pn t σ H Q iv q
  refine Call_ (ld_blt iv gl ml boot_len ?_)
  refine PyProof.Rows.callWith_builtin1 (PyProof.Rows.args_cons ?_ rfl) rfl rfl
  rw [PpSet.eval_SetComp]
  have fr : ∀ y ∈ scope.names, y.2 = .free → ∃ c, X.env.cells.lookup y.1 = some c := fun y hy e => (bk.free y hy e).elim (fun k => iv.ok.has _ (.inl k)) fun k => iv.ok.has _ (.inr k)
  refine wpAny_comprehension_free (use := none) rfl hs (closure_ok fr) bk.kind (fun y hy e => by rw [bk.uniq y hy, e]) (thn (pi.run pn t σ H _ iv q) fun xv t1 z => thn z fun itv t2 z2 => ?_)
  obtain ⟨it, fp, tn, J, H2, e, iv2, T, st2, f2, W, ⟨m0, w0⟩, turn⟩ := z2
  subst e
  refine PpSet.newSet_ok (newEnv_comp ?_)
  generalize hD : t2.heap.objs.size = D
  have dn : H2 D = none := iv2.hok.fresh (Nat.le_of_eq hD)
  have fD : FpOk X pn H2 D := iv2.fpOk (Nat.le_of_eq hD) dn
  generalize hs3 : ({ t2 with heap := t2.heap.push { cls := .type "set", dict := none, data := .set #[] 0 (.fresh 0 0 (!X.w.params.followText "set-order")) } } : Shared) = t3
  have h3 : t3.heap = t2.heap.push { cls := .type "set", dict := none, data := .set #[] 0 (.fresh 0 0 (!X.w.params.followText "set-order")) } := by rw [← hs3]
  have iv3 : Inv X pn σ H2 t3 := by
    rw [← hs3]
    exact iv2.kept (t' := t2.toks) fun b o e => Heap.get?_push_of_some _ e
  have set3 : t3.heap.SetOf (mixKind X.prog X.w) D (fun j => decide (j ∈ ([] : List L2.Key))) (cntR []) := by
    rw [h3, ← hD]
    exact ⟨_, #[], 0, _, Heap.get?_push_size _ rfl, ⟨rfl, rfl, rfl⟩, rfl, (fun e he => by simp at he), (fun k => by simp), (by decide), (by rfl), rfl⟩
  have lt : ∀ b ∈ fp, b < D := fun b hb => by
    obtain ⟨o, e, _⟩ := T.obj _ _ st2 b hb
    rw [← hD]
    exact Heap.lt_size e
  have sz3 : t3.heap.objs.size = D + 1 := by rw [h3, Heap.size_push, hD]
  have f3 : ∀ b ∈ D :: fp, FpOk X pn H2 b ∧ b < t3.heap.objs.size := fun b hb => by
    rw [sz3]
    rcases List.mem_cons.mp hb with rfl | hb
    · exact ⟨fD, Nat.lt_succ_self _⟩
    · exact ⟨f2 b hb, Nat.lt_succ_of_lt (lt b hb)⟩
  have st3 : tn 0 t3.heap := T.keep _ _ _ st2 fun b _ o e => by rw [h3]; exact Heap.get?_push_of_some _ e
  have iv4 := block_start iv3 bk nn f3
  have pg := hg t3 H2 t3.heap.objs.size (cellsFrom (t3.heap.objs.size + 1) scope.names (cloFrom X.env.cells scope.names [])) (D :: fp)
  have pe := he t3 H2 t3.heap.objs.size (cellsFrom (t3.heap.objs.size + 1) scope.names (cloFrom X.env.cells scope.names [])) (D :: fp)
  show codeAny _ _ (.compStart (.SetComp elt [⟨tg, iter, [], 0⟩] scope pos) 0 (.ref it) (.ref D) (compEnvC scope (cellsFrom (t3.heap.objs.size + 1) scope.names (cloFrom X.env.cells scope.names [])) t3.heap.objs.size X.env)) _ { t3 with heap := pushCells (t3.heap.push { cls := .type "dict", data := .dict #[] }) scope.names }
  have nfp : ∀ b ∈ D :: fp, H2 b = none := fun b hb => (f3 b hb).1.1
  generalize hce : compEnvC scope (cellsFrom (t3.heap.objs.size + 1) scope.names (cloFrom X.env.cells scope.names [])) t3.heap.objs.size X.env = ce at iv4 pg pe ⊢
  have cL : ce.locals = t3.heap.objs.size := by subst hce; rfl
  have up4 : ∀ b o, t3.heap.get? b = some o → (pushCells (t3.heap.push { cls := .type "dict", data := .dict #[] }) scope.names).get? b = some o := fun b o e => pushCells_keeps _ _ _ _ (Heap.get?_push_of_some _ e)
  generalize hs4 : ({ t3 with heap := pushCells (t3.heap.push { cls := .type "dict", data := .dict #[] }) scope.names } : Shared) = t4 at iv4 ⊢
  have up4 : ∀ b o, t3.heap.get? b = some o → t4.heap.get? b = some o := fun b o e => by rw [← hs4]; exact up4 b o e
  have st4 : tn 0 t4.heap := T.keep _ _ _ st3 fun b _ o e => up4 b o e
  have set4 := setOf_at set3 (up4 D)
  have stat : ∀ {σ' : L2.St} {H' : Hp} {s' : Shared}, Inv (X.blk t3 H2 scope ce (D :: fp)) [] σ' H' s' → (∀ b ∈ D :: fp, H' b = none) → ∀ b ∈ D :: fp, FpOk (X.blk t3 H2 scope ce (D :: fp)) [] H' b := fun {σ' H' s'} iv' hn b hb =>
    ⟨hn b hb, (iv'.ok.exf b hb).1, iv'.ok.exfs b hb, .inl hb, fun x c e => (iv'.ok.exf b hb).2 x c e, fun p hp => absurd (show p ∈ ([] : List (Addr × Obj)) ++ [] from hp) (by simp)⟩
  have statD : ∀ {σ' : L2.St} {H' : Hp} {s' : Shared} {hh : Heap}, Inv (X.blk t3 H2 scope ce (D :: fp)) [] σ' H' s' → (∀ b ∈ D :: fp, H' b = none) → ∀ b ∈ fp, FpOk (X.blk t3 H2 scope ce (D :: fp)) ([] ++ pinsAt [D] hh) H' b := fun {σ' H' s' hh} iv' hn b hb => by
    obtain ⟨a0, a1, a2, a3, a4, _⟩ := stat iv' hn b (List.mem_cons_of_mem _ hb)
    refine ⟨a0, a1, a2, a3, a4, fun p hp z => ?_⟩
    have hp : p ∈ ([] : List (Addr × Obj)) ++ ([] ++ pinsAt [D] hh) := hp
    rw [List.nil_append, List.nil_append] at hp
    obtain ⟨hb2, _⟩ := of_pinsAt hp
    have := lt b hb
    rw [List.mem_singleton.mp hb2] at z
    exact absurd z.symm (Nat.ne_of_lt this)
  refine (fun R (loop : codeAny (model X.prog X.w) X.A (.compLoop (.SetComp elt [⟨tg, iter, [], 0⟩] scope pos) 0 (.ref it) (.ref D) ce) R t4) => PpSet.codeAny_compStart_set loop (T.self X.A 0 _ _ _ st4 loop)) _ ?_
  · refine PpSet.compLoopS_any (fun n s' => ∃ i ks H', Inv (X.blk t3 H2 scope ce (D :: fp)) [] (wipe σ (own.map (·.2))) H' s' ∧ tn i s'.heap ∧ (∀ b ∈ D :: fp, H' b = none) ∧ s'.heap.SetOf (mixKind X.prog X.w) D (fun j => decide (j ∈ ks)) (cntR ks) ∧ W i ks n H') ?_ m0 ⟨0, [], H2, iv4, st4, nfp, set4, w0⟩
    rintro n t5 ⟨i, ks, H5, iv5, st5, n5, set5, w5⟩
    obtain ⟨hlen, alt⟩ := turn i ks n H5 w5
    obtain ⟨o5, es5, ep5, tb5, ho5, r5⟩ := set5
    have ob5 : ∀ b ∈ [D], ∃ o, t5.heap.get? b = some o ∧ ∀ v, o.data ≠ .cell v := fun b hb => by
      rw [List.mem_singleton.mp hb]
      exact ⟨o5, ho5, fun v z => by rw [r5.2.1] at z; cases z⟩
    have iv5p : Inv (X.blk t3 H2 scope ce (D :: fp)) ([] ++ pinsAt [D] t5.heap) (wipe σ (own.map (·.2))) H5 t5 := iv5.pinned (fun b hb => stat iv5 n5 b (by rw [List.mem_singleton.mp hb]; exact List.mem_cons_self ..)) ob5
    have mD : (D, o5) ∈ pinsAt [D] t5.heap := mem_pinsAt (List.mem_cons_self ..) ho5
    rcases alt with ⟨stop, qq⟩ | ⟨go, Nx, hNx, step⟩
    · refine thnF (T.done (X.blk t3 H2 scope ce (D :: fp)) rfl rfl rfl cm i _ t5 _ H5 (fun _ _ => False) iv5p (statD iv5 n5) st5 stop) fun r t6 ⟨hr, iv6⟩ => ?_
      subst hr
      have d6 := (iv6.pin (D, o5) (List.mem_append_right _ (List.mem_append_right _ mD))).1
      have iv7 : Inv X pn σ H5 t6 := iv3.call' (ch := D :: fp) iv6.os iv6.base iv6.hok iv6.bare fun b hb => ⟨(f3 b hb).1.2.2.2.1, (f3 b hb).1.2.1, (f3 b hb).1.2.2.2.2.1, (f3 b hb).1.2.2.2.2.2⟩
      have nC : H5 t3.heap.objs.size = none := by
        have z : H5 ce.locals = none := iv6.free
        rwa [cL] at z
      obtain ⟨m, hn, _⟩ := iv6.loc
      have hn : t6.heap.Ns ce.locals m := hn
      rw [cL] at hn
      refine ⟨m, hn, fun h2 sb => ?_⟩
      obtain ⟨c0, c1, c2, c3, c4, c5⟩ := iv3.fpOk (Nat.le_refl _) nC
      have iv8 : Inv X pn σ H5 { t6 with heap := h2 } := iv7.turned (t' := t6.toks) (fun b o hb e => (sb.2 b hb).trans e) c0 c1 c3 c4 c5
      have d8 : h2.get? D = some o5 := (sb.2 D (by rw [sz3]; exact Nat.ne_of_lt (Nat.lt_succ_self _))).trans d6
      obtain ⟨hex, hd, _, _, _, hf, hc⟩ := r5
      refine PyProof.Rows.args_nil ?_
      refine call_len_set d8 hex hd hf (by have a := cntR_le ks; rw [hc]; omega) ⟨.int (cntR ks : Nat), H5, iv8.tok _, ⟨_, by rw [hc]⟩, qq⟩
    · refine thnF (T.item (X.blk t3 H2 scope ce (D :: fp)) rfl rfl rfl cm i _ t5 _ H5 (fun _ _ => False) iv5p (statD iv5 n5) st5 go) fun r t6 ⟨u, hr, h6⟩ => ?_
      subst hr
      refine thnF h6 fun _ t7 ⟨x, H7, iv7, r7, y7, st7, n7⟩ => ?_
      obtain ⟨d7, e7, _⟩ := iv7.pin (D, o5) (List.mem_append_right _ (List.mem_append_right _ mD))
      have iv7 : Inv (X.blk t3 H2 scope ce (D :: fp)) [] (wipe σ (own.map (·.2))) H7 t7 := iv7.unpinned (pins := [])
      have n7 : ∀ b ∈ D :: fp, H7 b = none := fun b hb => (List.mem_cons.mp hb).elim (fun z => by rw [z]; exact e7) (n7 b)
      have ob7 : ∀ b ∈ D :: fp, ∃ o, t7.heap.get? b = some o ∧ ∀ v, o.data ≠ .cell v := fun b hb => by
        rcases List.mem_cons.mp hb with rfl | hb
        · exact ⟨o5, d7, fun v z => by rw [r5.2.1] at z; cases z⟩
        · exact T.obj _ _ st7 b hb
      have iv7p := iv7.pinned (stat iv7 n7) ob7
      refine thnF (pg.run _ t7 _ H7 x u _ iv7p r7 (step x H7 y7)) fun _ t8 ⟨σ8, H8, iv8, hw8, q8⟩ => ?_
      refine thnF ((pts_nil (X := X.blk t3 H2 scope ce (D :: fp))).run _ t8 σ8 H8 (fun b H9 => b = true ∧ te σ8 H9 fun y H3 => ∃ k, y = kV k ∧ Nx k H3) iv8 ⟨rfl, q8⟩) fun b t9 ⟨H9, iv9, hb, q9⟩ => ?_
      subst hb
      simp only [if_true]
      refine thnF (pe.run _ t9 σ8 H9 _ iv9 q9) fun z t10 ⟨yv, H10, iv10, r10, k, ey, nx⟩ => ?_
      subst ey
      have pin' : ∀ b ∈ D :: fp, ∀ o, t7.heap.get? b = some o → t10.heap.get? b = some o ∧ H10 b = none := fun b hb o e =>
        let z := iv10.pin (b, o) (List.mem_append_right _ (List.mem_append_right _ (mem_pinsAt hb e)))
        ⟨z.1, z.2.1⟩
      have d10 := (pin' D (List.mem_cons_self ..) o5 d7).1
      have n10 : ∀ b ∈ D :: fp, H10 b = none := fun b hb => let ⟨o, e, _⟩ := ob7 b hb; (pin' b hb o e).2
      have iv10 : Inv (X.blk t3 H2 scope ce (D :: fp)) [] σ8 H10 t10 := iv10.unpinned (pins := [])
      have set10 : t10.heap.SetOf (mixKind X.prog X.w) D (fun j => decide (j ∈ ks)) (cntR ks) := ⟨o5, es5, ep5, tb5, d10, r5⟩
      obtain ⟨m', hm, w'⟩ := hNx k H10 nx
      refine call_set_add (kV_is r10) (key_scan r10) set10 (by have := cntR_le ks; show cntR ks + 1 < 4096; omega) fun h2 sb new => ?_
      obtain ⟨c0, c1, c2, c3, c4, c5⟩ := stat iv10 n10 D (List.mem_cons_self ..)
      have iv11 : Inv (X.blk t3 H2 scope ce (D :: fp)) [] σ8 H10 { t10 with heap := h2, toks := t10.toks + 1 } := iv10.turned (fun b o hb e => (sb.2 b hb).trans e) c0 c1 c3 c4 c5
      refine ⟨m', hm, i + 1, k :: ks, H10, iv11.weak (by rw [← hw8, wipe_length]) (fun j v e => by rw [← hw8] at e; exact (wipe_some e).1), T.keep _ _ _ st7 fun b hb o e => ?_, n10, setOf_congr new (fun j => ?_) ?_, w'⟩
      · exact (sb.2 b (Nat.ne_of_lt (lt b hb))).trans (pin' b (List.mem_cons_of_mem _ hb) o e).1
      · rw [Bool.eq_iff_iff, Bool.or_eq_true, decide_eq_true_eq, decide_eq_true_eq, decide_eq_true_eq, List.mem_cons]
        exact or_comm
      · rw [cntR]
        by_cases hk : k ∈ ks
        · rw [if_pos hk, if_pos (decide_eq_true hk)]
        · rw [if_neg hk, if_neg (by rw [decide_eq_false hk]; decide)]
end
end SL
namespace SL
open PySem PySem.Spec PyProof.Rows L2
end SL
namespace CM
open PySem PySem.Spec PyProof.Rows L2 SL
end CM
namespace CM
open PySem PySem.Spec PyProof.Rows L2 SL
def mAlt (a b : Mo W) : Mo W := fun ρ h => match a ρ h with
  | some r => some r
  | none => b ρ h
def isBlt : D → Bool
  | .non => true
  | .bl _ => true
  | .int _ => true
  | .str _ => true
  | .lst _ => true
  | .tup _ => true
  | .dK _ => true
  | _ => false
/-- a thing of Python's own kinds == an own instance -/
def mRevO (C : Str) (m : Fnm) (a b : Mo W) : Mo W := fun ρ h => bindR (a ρ h) fun x ρ h => bindR (b ρ h) fun y ρ h => (deref h x).bind fun dx => if isBlt dx.u = true then callC chkB C m [y, x] ρ h else none
def keyD : D → Option L2.Key
  | .int i => some (.inl i)
  | .str z => some (.inr z)
  | _ => none
def keysD : List D → Option (List L2.Key)
  | [] => some []
  | d :: ds => (keyD d).bind fun k => (keysD ds).map (k :: ·)
noncomputable def mLenSc (it : Mo ItM) (g : Tg) (e : Mo W) (vs : List Nat) : Mo W := fun ρ h => bindR (it ρ h) fun i ρ h => if idle vs ρ = true ∧ i.ds.length < 4000 then (match loopC g mYes e vs i.ck i.ds ρ h [] with
  | some (.ok acc ρ2 h2) => (keysD acc).map fun ks => .ok (.cl (.int (cntR ks.reverse : Nat))) ρ2 h2
  | _ => none) else none
def fSplit (a : Str) : List D → Option W
  | [b] => match b.u with
    | .str s => if (s.length == 0) = false ∧ a.length + 2 ≤ 100000 then some (.fr ((Txt.split a s).map .str)) else none
    | _ => none
  | _ => none
section
variable {f : PySem.W.Frag} {κ κ' : List Addr} {WW : WX} {F : Fm} {M : List Addr} {K : Kx} {H H' : Hp} {σ : L2.St} {ρ ρ' : List Sl} {h h' : Tb} {st l : List (V × W)} {v : V} {w : W} {d : D} {t ta tb te : TE} {ma mb me m1 m2 : Mo W} {C : Str} {m : Fnm} {r r' : R2} {g : D → D → Option W}
theorem sim_alt (s1 : SimE f WW t m1) (s2 : SimE f WW t m2) : SimE f WW t (mAlt m1 m2) := fun F σ H ρ h st x Q E e p => by
  unfold mAlt at e
  cases h1 : m1 ρ h with
  | some r =>
    rw [h1] at e
    cases e
    exact s1 F σ H ρ h st _ Q E h1 p
  | none =>
    rw [h1] at e
    exact s2 F σ H ρ h st _ Q E e p
theorem sim_opi (o : Op2 f r g) (i : ∀ x y H Q, r x y H Q → r' x y H Q) (ha : SimE f WW ta ma) (hb : SimE f WW tb mb) : SimE f WW (tOp r' ta tb) (mOp g ma mb) := sim_op (fun κ M H x y a b w Q hM n1 n2 e q => i _ _ _ _ (o κ M H x y a b w Q hM n1 n2 e q)) ha hb
theorem sim_eqOi {ks : List Kd} (i : ∀ x y H Q, rEqO f (He.ga f C) (spM f m) E0 x y H Q → r' x y H Q) (hk : EqKs f C ks) (ha : SimE f WW ta ma) (hb : SimE f WW tb mb) : SimE f WW (tOp r' ta tb) (mEqO C ks m ma mb) := fun F σ H ρ h st x Q E e p =>
  eqO_core hk ha hb F σ H ρ h st x Q _ (fun x y H a dx fs t h1 h2 h3 h4 h5 => i _ _ _ _ ⟨a, dx, fs, t, h1, h2, h3, h4, h5⟩) E e p
theorem blt_of (q : Nr M K H v d) (e : isBlt d.u = true) : ∃ T, Blt K.1 H v T := by
  have q := q.u.rep0
  generalize d.u = x at q e
  cases q with
  | non => exact ⟨_, .non⟩
  | bl b => exact ⟨_, .bl b⟩
  | int b => exact ⟨_, .int b⟩
  | str b => exact ⟨_, .str b⟩
  | lst a _ => exact ⟨_, .lst a.at_⟩
  | tup a _ => exact ⟨_, .tup a.1⟩
  | dK a _ _ => exact ⟨_, .dK a.at_⟩
  | ty n => cases e
  | glo x => cases e
  | scr a => cases e
  | rng a => cases e
  | ins a _ _ => cases e
  | exc a a2 _ _ => cases e
  | ce _ => cases e
  | tg _ => cases e
  | bo _ _ => cases e
theorem sim_revOi (i : ∀ x y H Q, rRevO f (He.ga f C) (spM f m) E0 x y H Q → r' x y H Q) (ha : SimE f WW ta ma) (hb : SimE f WW tb mb) : SimE f WW (tOp r' ta tb) (mRevO C m ma mb) := fun F σ H ρ h st r Q E e p => by
  rcases bindR_some e with ⟨w1, ρ1, h1, e1, e⟩ | ⟨C', fs, ρ1, h1, e1, rfl⟩
  · refine ha F σ H ρ h st _ _ E e1 fun v1 H1 E1 => ?_
    rcases bindR_some e with ⟨w2, ρ2, h2, e2, e⟩ | ⟨C', fs, ρ2, h2, e2, rfl⟩
    · refine hb F σ H1 ρ1 h1 _ _ _ E1 e2 fun v2 H2 ⟨κ, E2⟩ => ?_
      cases q1 : deref h2 w1 with
      | none => rw [q1] at e; cases e
      | some d1 =>
        rw [q1] at e
        dsimp only [Option.bind_some] at e
        split at e
        · rename_i hb1
          obtain ⟨T, bt⟩ := blt_of (E2.near (List.mem_cons_of_mem _ (List.mem_cons_self ..)) q1) hb1
          have E3 : EnvK f κ F σ H2 ρ2 h2 ([v2, v1].zip [w2, w1] ++ st) := E2
          obtain ⟨⟨a, dx, fs, hv, ea⟩, hc, hcall⟩ := callC_ok E3 rfl e
          cases hv
          refine i _ _ _ _ ⟨a, dx, fs, T, rfl, ea, bt, EnvK.callT (vs := [V.ref a, v1]) (ds := [w2, w1].map fzW) (E3.fzs rfl) rfl hcall fun w ρ' h' hr v H' E' => ?_⟩
          subst hr
          have hcl : ∃ y, w = .cl (.bl y) := by
            cases w with
            | cl d => cases d <;> first | exact ⟨_, rfl⟩ | cases hc
            | _ => cases hc
          obtain ⟨y, rfl⟩ := hcl
          obtain ⟨_, r⟩ := E'.reps
          exact ⟨y, rep_bl r, p v H' E'⟩
        · cases e
    · exact hb F σ H1 ρ1 h1 _ _ _ E1 e2 (ExR.up p)
  · exact ha F σ H ρ h st _ _ E e1 p
theorem o_split : OpS f SL.rSplit fSplit := fun κ M H z xs ds w Q hM nr e q => by
  unfold fSplit at e
  split at e
  · obtain ⟨v, rfl, n⟩ := nra1 nr
    split at e
    · rename_i s h1
      split at e
      · rename_i hc
        cases e
        cases nr_str n h1
        refine ⟨z, s, rfl, rfl, hc.1, sz_le hc.2, fun p hp => q _ _ (Ex.new hp) (Nw.new hp (RepA.strs _))⟩
      · cases e
    · cases e
  · cases e
theorem keysD_app : ∀ {xs ys : List D} {ks : List L2.Key}, keysD (xs ++ ys) = some ks → ∃ a b, keysD xs = some a ∧ keysD ys = some b ∧ ks = a ++ b
  | [], ys, ks, e => ⟨[], ks, rfl, e, rfl⟩
  | x :: xs, ys, ks, e => by
    have e : (keyD x).bind (fun k => (keysD (xs ++ ys)).map (k :: ·)) = some ks := e
    cases h1 : keyD x with
    | none => rw [h1] at e; cases e
    | some k =>
      rw [h1] at e
      dsimp only [Option.bind_some] at e
      cases h2 : keysD (xs ++ ys) with
      | none => rw [h2] at e; cases e
      | some ks2 =>
        rw [h2] at e
        cases e
        obtain ⟨a, b, e1, e2, rfl⟩ := keysD_app h2
        refine ⟨k :: a, b, ?_, e2, rfl⟩
        show (keyD x).bind (fun k => (keysD xs).map (k :: ·)) = _
        rw [h1, e1]
        rfl
theorem loopC_pre {g : Tg} {mt : Mo Bool} {me : Mo W} {vs : List Nat} {ck : List (Nat × D)} : ∀ {ds : List D} {ρ : List Sl} {h : Tb} {acc acc' : List D} {ρ' : List Sl} {h' : Tb}, loopC g mt me vs ck ds ρ h acc = some (.ok acc' ρ' h') → ∃ l, acc' = acc ++ l
  | [], ρ, h, acc, acc', ρ', h', e => by
    cases e
    exact ⟨[], (List.append_nil _).symm⟩
  | d :: ds, ρ, h, acc, acc', ρ', h', e => by
    unfold loopC at e
    cases q1 : g (.cl d) ρ h with
    | none => rw [q1] at e; cases e
    | some y =>
      rw [q1] at e
      dsimp only [Option.bind_some] at e
      rcases bindR_some e with ⟨b, ρ2, h2, e2, e⟩ | ⟨C, fs, ρ2, h2, e2, z⟩
      · by_cases hb : b = true
        · rw [if_pos hb] at e
          rcases bindR_some e with ⟨w, ρ3, h3, e3, e⟩ | ⟨C, fs, ρ3, h3, e3, z⟩
          · split at e
            · obtain ⟨l, rfl⟩ := loopC_pre e
              exact ⟨fzW w :: l, by rw [List.append_assoc]; rfl⟩
            · cases e
          · cases z
        · rw [if_neg hb] at e
          split at e
          · exact loopC_pre e
          · cases e
      · cases z
theorem key_rep {k : L2.Key} (q : Rep M K H v d) (e : keyD d = some k) : v = kV k := by
  cases q <;> first | (cases e; rfl) | cases e
open Classical in
theorem sim_lenSc {wi : TI} {mi : Mo ItM} {g : TG} {mg : Tg} {us : List Nat} (hi : SimI f WW wi mi) (hg : SimG f g mg) (go : GOk g us) (he : SimE f WW te me) : SimE f WW (tLenSc wi g te us) (mLenSc mi mg me us) := fun F σ H ρ h st r Q E e p => by
  rcases bindR_some e with ⟨it, ρ1, h1, e1, e⟩ | ⟨C, fs, ρ1, h1, e1, rfl⟩
  · refine hi F σ H ρ h st _ _ E e1 fun hlen v iw H1 J E1 ok ck1 => ?_
    split at e
    · rename_i hid
      obtain ⟨hid, hsz⟩ := hid
      split at e
      · rename_i accF ρF hF hr'
        cases hks : keysD accF with
        | none => rw [hks] at e; cases e
        | some ksF =>
          rw [hks] at e
          cases e
          obtain ⟨κ1, E1⟩ := E1
          have E2 : EnvK f κ1 F (wipe σ us) H1 ρ1 h1 ((v, iw) :: st) := EnvK.idleWipe hid E1
          have hus : ∀ i ∈ us, i < σ.length := fun i hi => by
            rw [E1.len]
            exact (List.getElem?_eq_some_iff.mp (idle_at hid hi)).1
          refine ⟨fun i ks m H => m = it.ds.length - i ∧ i ≤ it.ds.length ∧ ks.length ≤ i ∧ ∃ ρ h acc, EnvR f F (wipe σ us) H ρ h ((v, iw) :: st) ∧ ckOk it.ck h ∧ loopC mg mYes me us it.ck (it.ds.drop i) ρ h acc = some (.ok accF ρF hF) ∧ idle us ρ = true ∧ keysD acc = some ks.reverse, ⟨_, rfl, Nat.zero_le _, Nat.le_refl _, ρ1, h1, [], ⟨κ1, E2⟩, ck1, by rw [List.drop_zero]; exact hr', hid, rfl⟩, ?_⟩
          rintro i ks m H ⟨rfl, hi, hkl, ρ, h, acc, ⟨κ, E⟩, ck, e, hid2, hka⟩
          refine ⟨by omega, ?_⟩
          obtain ⟨k1, k2, k3⟩ := ok κ _ H ρ h _ E ck
          by_cases hlt : i < it.ds.length
          · refine .inr ⟨k1 i hlt, fun k H => ∃ ρ h acc, EnvR f F (wipe σ us) H ρ h ((v, iw) :: st) ∧ ckOk it.ck h ∧ loopC mg mYes me us it.ck (it.ds.drop (i + 1)) ρ h acc = some (.ok accF ρF hF) ∧ idle us ρ = true ∧ keysD acc = some (k :: ks).reverse, fun k H' q => ⟨it.ds.length - (i + 1), by omega, rfl, hlt, by rw [List.length_cons]; omega, q⟩, fun x H' y => ?_⟩
            obtain ⟨d, hd, E3⟩ := k3 i x H' hlt y
            have ed : it.ds.drop i = d :: it.ds.drop (i + 1) := by
              rw [List.drop_eq_getElem_cons hlt]
              rw [List.getElem?_eq_getElem hlt] at hd
              rw [Option.some.inj hd]
            rw [ed] at e
            unfold loopC at e
            cases q1 : mg (.cl d) ρ h with
            | none => rw [q1] at e; cases e
            | some y2 =>
              rw [q1] at e
              dsimp only [Option.bind_some] at e
              refine go.mono _ _ _ (fun σ2 H2 => wipe σ2 us = wipe (wipe σ us) us ∧ EnvR f F σ2 H2 y2.1 y2.2 ((v, iw) :: st)) _ ?_ (go.own _ _ _ _ (hg F _ H' ρ h y2 _ x (.cl d) _ ⟨κ, E3⟩ q1 fun σ2 H2 E4 => E4))
              rintro σ2 H2 ⟨ew, E4⟩
              rw [wipe_idem] at ew
              refine ⟨ew, ?_⟩
              have hl2 : σ2.length = σ.length := by
                have := congrArg List.length ew
                rwa [wipe_len, wipe_len] at this
              have e : bindR (me y2.1 y2.2) (fun w ρ3 h3 => if ckOk it.ck h3 then loopC mg mYes me us it.ck (it.ds.drop (i + 1)) (wipeS us ρ3) h3 (acc ++ [fzW w]) else none) = some (.ok accF ρF hF) := e
              rcases bindR_some e with ⟨w, ρ4, h4, e4, e⟩ | ⟨C, fs, ρ4, h4, e4, z⟩
              · refine he F σ2 H2 y2.1 y2.2 _ _ _ E4 e4 fun y4 H4 ⟨κ4, E6⟩ => ?_
                split at e
                · rename_i hck
                  have E7 := E6.fz
                  have hrep := E7.rep (List.mem_cons_self ..)
                  obtain ⟨l, hl⟩ := loopC_pre e
                  obtain ⟨a, b, ea, eb, eab⟩ := keysD_app (by rw [← hl]; exact hks)
                  obtain ⟨a1, a2, ea1, ea2, rfl⟩ := keysD_app ea
                  rw [hka] at ea1
                  cases ea1
                  have ea2 : (keyD (fzW w)).bind (fun k => (some []).map (k :: ·)) = some a2 := ea2
                  cases hk : keyD (fzW w) with
                  | none => rw [hk] at ea2; cases ea2
                  | some k =>
                    rw [hk] at ea2
                    cases ea2
                    refine ⟨k, key_rep hrep hk, ?_⟩
                    have E11 := E6.pop.wiped (vs := us)
                    rw [ew] at E11
                    have hl4 : ∀ i ∈ us, i < ρ4.length := fun i hi => by
                      rw [← E6.len, hl2]
                      exact hus i hi
                    exact ⟨wipeS us ρ4, h4, acc ++ [fzW w], ⟨κ4, E11⟩, hck, e, wipeS_idle hl4, by rw [ea, List.reverse_cons]⟩
                · cases e
              · cases z
          · have e0 : i = it.ds.length := by omega
            subst e0
            rw [List.drop_length] at e
            cases e
            rw [hks] at hka
            refine .inl ⟨k2, ?_⟩
            have : ksF.reverse = ks := by rw [Option.some.inj hka, List.reverse_reverse]
            rw [← this]
            have E5 := EnvK.unwipe hid2 E
            exact p _ _ ⟨κ, E5.pop.pushC (.int _)⟩
      · cases e
    · cases e
  · exact hi F σ H ρ h st _ _ E e1 p
end
end CM
namespace CM
open PySem PySem.Spec PyProof.Rows L2 SL
def callD (n : Nat) (m : Fnm) (dd : List D) (a : Mo (List W)) : Mo W := fun ρ h => bindR (a ρ h) fun ws ρ h => if ws.length = n then callT m (ws.map fzW ++ dd) ρ h else none
section
variable {f : PySem.W.Frag} {κ κ' : List Addr} {WW : WX} {F : Fm} {H H' : Hp} {σ : L2.St} {ρ ρ' : List Sl} {h h' : Tb} {st l : List (V × W)} {v : V} {w : W} {tr : TA} {mr : Mo (List W)} {C : Str} {m : Fnm}
theorem sim_low {pm : List Pl} {ms : List V} {dd : List D} {n : Nat} (hp : ∀ vs : List V, vs.length = n → pm.map (Pl.v vs ms []) = vs ++ ms) (hd : ∀ M κ H, RepA M ⟨f, κ⟩ H ms dd) (ha : SimA f WW tr mr) : SimE f WW (tKl (spM f m) pm ms n 0 tr tNil) (callD n m dd mr) := fun F σ H ρ h st x Q E e p => by
  rcases bindR_some e with ⟨ws, ρ1, h1, e1, e⟩ | ⟨C', fs, ρ1, h1, e1, rfl⟩
  · refine ha F σ H ρ h st _ _ E e1 fun vs H1 hl ⟨κ, E1⟩ => ?_
    split at e
    · rename_i hn
      have E2 := E1.fzs hl
      have hl2 : vs.length = (ws.map fzW).length := by simpa using hl
      have hdl : ms.length = dd.length := (hd [] [] H1).len
      have E3 := EnvK.pushAll E2 (hd _ _ _)
      show vs.length = n ∧ ([] : List V).length = 0 ∧ spM f m (pm.map (Pl.v vs ms [])) H1 Q E0
      refine ⟨by omega, rfl, ?_⟩
      rw [hp vs (by omega)]
      have E4 : EnvK f κ F σ H1 ρ1 h1 ((vs ++ ms).zip ((ws.map fzW ++ dd).map W.cl) ++ st) := by
        refine E3.perm ?_
        rw [List.map_append, List.zip_append (by simpa using hl2), List.append_assoc]
        rw [← List.append_assoc, ← List.append_assoc]
        exact List.Perm.append_right st List.perm_append_comm
      exact EnvK.callT E4 (by rw [List.length_append, List.length_append]; omega) e fun w ρ' h' hr v H' E' => by
        subst hr
        exact p v H' E'
    · cases e
  · exact ha F σ H ρ h st _ _ E e1 p
end
end CM
namespace CM
open PySem PySem.Spec PyProof.Rows L2 SL
section
variable {ρ : List Sl} {h h' h0 g g' : Tb} {P : Ps W} {X : Px} {a b e : Mo W} {es : Mo (List W)} {C n : Str} {m : Fnm} {dvs dd : List D} {keep : Bool} {d d' d0 : D} {ks : List Kd} {i j k : Nat} {it : Mo ItM} {gt : Tg} {vs : List Nat} {zs : List Str}
theorem okE_alt1 (q : okE (a ρ h) P X) : okE (mAlt a b ρ h) P X := by
  obtain ⟨r, e, p⟩ := q
  exact ⟨r, by unfold mAlt; rw [e], p⟩
theorem okE_alt2 (e : a ρ h = none) (q : okE (b ρ h) P X) : okE (mAlt a b ρ h) P X := by
  obtain ⟨r, e2, p⟩ := q
  exact ⟨r, by unfold mAlt; rw [e]; exact e2, p⟩
theorem mVar_eq (e : ρ[k]? = some (.cl d)) : mVar k ρ h = some (.ok (.cl d) ρ h) := by
  unfold mVar
  rw [e]
/-- builtin == does not serve -/
theorem eq_none (e1 : ρ[i]? = some (.cl d)) (e2 : ρ[j]? = some (.cl d')) {x y : D} (h1 : deref h (.cl d) = some x) (h2 : deref h (.cl d') = some y) (q : dEqB x y = none) : mOp dEq (mVar i) (mVar j) ρ h = none := by
  unfold mOp
  rw [mVar_eq e1]
  show bindR (mVar j ρ h) _ = none
  rw [mVar_eq e2]
  show ((deref h (.cl d)).bind fun dx => (deref h (.cl d')).bind fun dy => (dEq dx dy).map fun w => R.ok w ρ h) = none
  rw [h1, h2]
  show (dEq x y).map _ = none
  unfold dEq
  rw [q]
  rfl
/-- an own == of another class does not serve -/
theorem eqO_none (e1 : ρ[i]? = some (.cl d)) (e2 : ρ[j]? = some (.cl d')) {x : D} (h1 : deref h (.cl d) = some x) (q : insOf C x.u = none) : mEqO C ks m (mVar i) (mVar j) ρ h = none := by
  unfold mEqO
  rw [mVar_eq e1]
  show bindR (mVar j ρ h) _ = none
  rw [mVar_eq e2]
  show ((deref h (.cl d')).bind fun dy => (kd dy.u).bind fun k => if decide (k ∈ ks) = true then callC chkB C m [.cl d, .cl d'] ρ h else none) = none
  have hc : callC chkB C m [.cl d, .cl d'] ρ h = none := by
    show ((deref h (.cl d)).bind fun x => (insOf C x.u).bind fun _ => (callT m ([W.cl d, W.cl d'].map fzW) ρ h).bind fun r => if chkB r = true then some r else none) = none
    rw [h1, Option.bind_some, q]
    rfl
  rw [hc]
  cases deref h (.cl d') with
  | none => rfl
  | some y =>
    dsimp only [Option.bind_some]
    cases kd y.u with
    | none => rfl
    | some k => exact ite_self _
theorem okE_revO {z : Bool} (q : okE (a ρ h) (fun x ρ h => okE (b ρ h) (fun y ρ h => ∃ dx fs, deref h x = some dx ∧ isBlt dx.u = true ∧ deref h y = some (.ins C fs) ∧ okF (m [fzW y, fzW x] h) (fun w h => w = .cl (.bl z) ∧ P (.cl (.bl z)) ρ h) noX) X) X) : okE (mRevO C m a b ρ h) P X := okE_bind (q.mono fun x ρ h q => okE_bind (q.mono fun y ρ h q => by
  obtain ⟨dx, fs, e1, e2, e4, q⟩ := q
  obtain ⟨u, h', e5, rfl, p⟩ := q.rt
  rw [e1]
  dsimp only [Option.bind_some]
  rw [if_pos e2]
  show okE ((deref h y).bind fun d => (insOf C d.u).bind fun _ => (callT m [fzW y, fzW x] ρ h).bind fun r => if chkB r = true then some r else none) P X
  rw [e4]
  show okE ((insOf C (.ins C fs)).bind fun _ => (callT m [fzW y, fzW x] ρ h).bind fun r => if chkB r = true then some r else none) P X
  rw [insOf_eq]
  unfold callT
  rw [e5]
  exact okE_some p))
theorem okE_lenSc (q : okE (it ρ h) (fun i ρ h => idle vs ρ = true ∧ i.ds.length < 4000 ∧ okE (loopC gt mYes e vs i.ck i.ds ρ h []) (fun acc ρ h => ∃ ks, keysD acc = some ks ∧ P (.cl (.int (cntR ks.reverse : Nat))) ρ h) nox) X) : okE (mLenSc it gt e vs ρ h) P X := okE_bind (q.mono fun i ρ h q => by
  obtain ⟨h1, h2, r, e, p⟩ := q
  rw [if_pos ⟨h1, h2⟩, e]
  cases r with
  | ex C fs ρ h => exact p.elim
  | ok acc ρ h =>
    obtain ⟨ks, e2, p⟩ := p
    dsimp only
    rw [e2]
    exact okE_some p)
theorem okE_callD {l : Nat} (q : okE (es ρ h) (fun ws ρ h => ws.length = l ∧ okF (m (ws.map fzW ++ dd) h) (fun w h => P w ρ h) noX) X) : okE (callD l m dd es ρ h) P X := okE_bind (q.mono fun ws ρ h q => by
  rw [if_pos q.1]
  exact okT_run q.2)
theorem w_split {z s : Str} {Q : W → Prop} (h1 : (s.length == 0) = false) (h2 : z.length + 2 ≤ 100000) (q : Q (W.fr (LS (Txt.split z s)))) : okW (fSplit z [.str s]) Q := ⟨_, by
  show (if (s.length == 0) = false ∧ z.length + 2 ≤ 100000 then some (W.fr ((Txt.split z s).map .str)) else none) = _
  rw [if_pos ⟨h1, h2⟩], q⟩
theorem keysD_strs : ∀ zs : List Str, keysD (LS zs) = some (zs.map Sum.inr)
  | [] => rfl
  | z :: zs => by
    show (keyD (.str z)).bind (fun k => (keysD (LS zs)).map (k :: ·)) = _
    rw [keysD_strs zs]
    rfl
theorem cntR_nodup : ∀ {l : List L2.Key}, l.Nodup → cntR l = l.length
  | [], _ => rfl
  | k :: l, h => by
    have h := List.nodup_cons.mp h
    unfold cntR
    rw [if_neg h.1, cntR_nodup h.2, List.length_cons]
/-- what a table tells stays as it goes on -/
theorem deref_app (e : deref h (.cl d0) = some d) : deref (h ++ g) (.cl d0) = some d := by
  by_cases hc : ∃ m, d0 = .ce m
  · obtain ⟨m, rfl⟩ := hc
    have e : h[m]? = some d := e
    show (h ++ g)[m]? = some d
    rw [List.getElem?_append_left (List.getElem?_eq_some_iff.mp e).1]
    exact e
  · have h1 := top_ne (h := h) (d := d0) (fun m z => hc ⟨m, z⟩)
    have h2 := top_ne (h := h ++ g) (d := d0) (fun m z => hc ⟨m, z⟩)
    show top _ d0 = _
    rw [h2, ← h1]
    exact e
theorem ckOf_app (e : deref h (.cl d0) = some d) : ckOk (ckOf (h ++ g) (.cl d0)) (h ++ g') := fun x hx => by
  unfold ckOf at hx
  split at hx
  · rename_i w m hw
    have e : h[m]? = some d := by cases hw; exact e
    split at hx
    · rename_i c hc
      rw [List.mem_singleton.mp hx]
      have hl := (List.getElem?_eq_some_iff.mp e).1
      rw [List.getElem?_append_left hl] at hc ⊢
      exact hc
    · cases hx
  · cases hx
theorem items_seq {ds : List D} (hu : seqD d.u = some ds) : itemsD d.u = some ds := by
  rcases seq_two hu with e | e <;> rw [e] <;> rfl
end
end CM
namespace CM
open PySem PySem.Spec PyProof.Rows L2 SL
noncomputable def columnsF (tk mx : Fnm) : MS := (sSeq (sAsg (mC (.str "abcdefghijklmnopqrstuvwxyz")) (gSetC 2))
    (sSeq (sAsg (mTup (mCons (mFr (callN tk (mCons (mCe (mVar 0)) (mCons (mFr (mC (.int 4))) mNil)))) (mCons (mFr (callN tk (mCons (mCe (mVar 0)) (mCons (mFr (mC (.int 26))) mNil)))) mNil))) (gTupM 2 (gsCons (gSetC 3) (gsCons (gSetC 4) gsNil))))
    (sSeq (sAsg (mBS fJoin (mC (.str "")) (mCons (mLc (mRng1 (mCons (mC (.int 8)) mNil)) (gSetC 9) mYes (mOp dIx (mVar 2) (callN tk (mCons (mCe (mVar 0)) (mCons (mFr (mC (.int 26))) mNil)))) [9]) mNil)) (gSetC 5))
    (sSeq (sAsg (callN tk (mCons (mCe (mVar 0)) (mCons (mFr (mC (.int 8))) mNil))) (gSetC 6))
    (sSeq (sAsg (mLc (mRng1 (mCons (mVar 1) mNil)) (gSetC 9) mYes (mOp dAdd (mOp dAdd (mSl (mVar 5) mNoPart (mPart (mVar 6))) (mOp dIx (mVar 2) (mOp dMod (mOp dAdd (mVar 4) (mOp dMul (mC (.int 11)) (mVar 9))) (mC (.int 26))))) (mSl (mVar 5) (mPart (mOp dAdd (mVar 6) (mC (.int 1)))) mNoPart)) [9]) (gSetC 7))
    (sSeq (sIf (mTest (mOp dEq (mVar 3) (mC (.int 0)))) (sAsg (mLc (mRng1 (mCons (mVar 1) mNil)) (gSetC 9) mYes (mOp dIx (mVar 2) (mOp dMod (mOp dAdd (mVar 4) (mOp dMul (mC (.int 3)) (mVar 9))) (mC (.int 26)))) [9]) (gSetC 7)) sNext)
    (sSeq (sIf (mTest (mOp dEq (mVar 3) (mC (.int 1)))) (sSeq (sAsg (callN tk (mCons (mCe (mVar 0)) (mCons (mFr (mC (.int 4))) mNil))) (gSetC 8))
    (sAsg (mLc (mRng1 (mCons (mVar 1) mNil)) (gSetC 9) mYes (mSl (mVar 5) mNoPart (mPart (mOp dAdd (mOp dAdd (mVar 8) (mVar 9)) (mC (.int 1))))) [9]) (gSetC 7))) sNext)
    (sSeq (sIf (mTest (mOp dEq (mVar 3) (mC (.int 2)))) (sAsg (mLc (mRng1 (mCons (mVar 1) mNil)) (gSetC 9) mYes (mOp dAdd (mOp dIx (mVar 2) (mOp dMod (mOp dAdd (mVar 4) (mOp dMul (mC (.int 7)) (mVar 9))) (mC (.int 26)))) (mSl (mVar 5) mNoPart (mPart (callN tk (mCons (mCe (mVar 0)) (mCons (mFr (mC (.int 8))) mNil)))))) [9]) (gSetC 7)) sNext)
    (sRet (callN mx (mCons (mCe (mVar 0)) (mCons (mFr (mVar 7)) mNil))))))))))))
section
variable {ρ : List Sl} {h : Tb} {P : Ps W} {X : Px} {A B : Int} {i j : Int} {b n k : Nat} {d e : D} {ds cs xs ys : List D}
local macro_rules | `(tactic| walk_at "hv") => `(tactic| first | rfl | assumption | (exact (by assumption : _)))
local macro_rules | `(tactic| walk_at "p1") => `(tactic| first
  | with_reducible refine CM.okS_seq ?_ | with_reducible refine CM.okS_next ?_ | with_reducible refine CM.okS_asg ?_ | with_reducible refine CM.okS_ret ?_ | with_reducible refine CM.okS_drop ?_ | with_reducible refine CM.okS_aug ?_ | with_reducible refine CM.okS_cnt ?_ | with_reducible refine CM.okS_fg ?_ | with_reducible refine CM.okS_retN ?_
  | with_reducible refine CM.okE_op ?_ | with_reducible refine CM.okE_cb ?_ | with_reducible refine CM.okE_cons ?_ | with_reducible refine CM.okE_nil ?_ | with_reducible refine CM.okB_not ?_ | with_reducible refine CM.okE_c ?_ | with_reducible refine CM.okE_fr ?_ | with_reducible refine CM.okE_ce ?_ | with_reducible refine CM.okE_notV ?_ | with_reducible refine CM.okE_un ?_
  | with_reducible refine CM.okE_sl ?_ | with_reducible refine CM.okE_nopart ?_
  | ((with_reducible refine' CM.okE_var ?hv ?_); (case hv => rfl))
  | ((with_reducible refine' CM.okE_part (CM.okE_var ?hv ⟨_, ?hv2, ?_⟩)); (case hv => rfl); (case hv2 => rfl))
  | ((with_reducible refine' CM.okE_part (CM.okE_c ⟨_, ?hv2, ?_⟩)); (case hv2 => rfl))
  | ((with_reducible refine' CM.okW_eq (w := _) ?hv ?_); (case hv => (with_reducible rfl)))
  | ((with_reducible refine' CM.okW_deref ?hv ?_); (case hv => walk_at "hv")) | ((with_reducible refine' CM.okW_derefs ?hv ?_); (case hv => rfl)) | ((with_reducible refine' CM.okW_derefC ?hv ?_); (case hv => walk_at "hv")) | ((with_reducible refine' CM.okW_lstAt ?hv ?_); (case hv => walk_at "hv"))
  | with_reducible refine CM.w_add ?_ | with_reducible refine CM.w_sub ?_ | with_reducible refine CM.w_lt ?_ | with_reducible refine CM.w_le ?_ | with_reducible refine CM.w_gt ?_ | with_reducible refine CM.w_ge ?_ | with_reducible refine CM.w_addI ?_
  | with_reducible refine CM.w_mod (by omega) ?_ | with_reducible refine CM.w_div (by omega) (by rw [CM.big_eq]; omega) ?_ | with_reducible refine CM.w_mul (by rw [CM.big_eq]; omega) (by rw [CM.big_eq]; omega) (by rw [CM.big_eq]; omega) (by rw [CM.big_eq]; omega) ?_ | with_reducible refine CM.w_sq (by omega) (by omega) ?_
  | with_reducible refine CM.w_max2 ?_ | with_reducible refine CM.w_min2 ?_ | with_reducible refine CM.w_lenL ?_ | with_reducible refine CM.w_lenT ?_ | with_reducible refine CM.w_lenC ?_ | with_reducible refine CM.w_listL ?_ | with_reducible refine CM.w_listT ?_ | with_reducible refine CM.w_tupL ?_ | with_reducible refine CM.w_tupT ?_
  | ((with_reducible refine CM.okG_setC ?_); (try dsimp only [List.set, CM.fzW]))
  | ((with_reducible refine' CM.okW_ix ?hv ?_); (case hv => rfl))
  | ((with_reducible refine' CM.okB_test (CM.okE_eqn ⟨_, ?hv, ?_⟩)); (case hv => rfl))
  | ((with_reducible refine' CM.okB_testd ⟨_, ?hv, ?_⟩); (case hv => rfl)))
local macro_rules | `(tactic| walk_at "p") => `(tactic| repeat walk_at "p1")
theorem columnsF_ok {m : Nat} {h0 : Tb} {P : W → Tb → Prop} {X : Str → List (Str × D) → Tb → Prop} (hA : 0 ≤ A) (hA2 : A ≤ 1000000) (hB : 0 ≤ B) (hB2 : B ≤ 1000000) (hb : Bx b n h0 h) (hn : n ≤ 80000000) (hm : m ≤ 5) (q : ∀ ls h', Cols m ls → Bx b (n + 30) h0 h' → P (W.fr ((ls.map S).map .str)) h') :
    okF (fnM false 2 8 (columnsF (fnM false 2 3 (takeM A B)) (fnM false 2 2 (mixedM (fnM false 2 3 (takeM A B))))) [.ce b, .int m] h) P X := by
  refine okF_fn rfl ?_
  show okS (columnsF (fnM false 2 3 (takeM A B)) (fnM false 2 2 (mixedM (fnM false 2 3 (takeM A B)))) [.cl (.ce b), .cl (.int m), .un, .un, .un, .un, .un, .un, .un, .un] h) _ _ _ _
  have hl0 := hb.len
  unfold columnsF
  rw [letters_eq]
  walk_at "p"
  refine okE_tup (okE_cons (okE_fr (okE_take (m := 4) rfl hA hA2 hB hB2 rfl hb (by omega) (okE_eq rfl ⟨rfl, rfl, rfl⟩) (by omega) (by omega) fun w d1 w0 w1 hb => ?_)))
  refine okE_cons (okE_fr (okE_take (m := 26) rfl hA hA2 hB hB2 rfl hb (by omega) (okE_eq rfl ⟨rfl, rfl, rfl⟩) (by omega) (by omega) fun f d2 f0 f1 hb => ?_))
  walk_at "p"
  refine ⟨Nat.le_of_ble_eq_true rfl, okG_eq rfl ?_⟩
  dsimp only [List.set, fzW]
  refine okS_seq (okS_asg (okE_bs (okE_c ⟨_, rfl, okE_cons ?_⟩)))
  refine okE_words (R := fun _ l => l.length = 1 ∧ ∀ c ∈ l, c ∈ lets) (q := 1) (m := 8) rfl hb (by decide) (okE_eq rfl ⟨rfl, rfl, rfl⟩) ?_ ?_
  · intro k h9 hk hb
    refine okE_op (okE_var rfl (okE_take (m := 26) rfl hA hA2 hB hB2 rfl hb (by omega) (okE_eq rfl ⟨rfl, rfl, rfl⟩) (by omega) (by omega) fun v d3 v0 v1 hb => ?_))
    refine okW_eq rfl (okW_eq rfl (w_letter v0 v1 ⟨_, rfl, rfl, hb, rfl, fun c hc => ?_⟩))
    rw [List.mem_singleton.mp hc]
    exact lt_mem v0 v1
  intro ls d3 h1 h2 hb
  obtain ⟨h3, h4⟩ := flat_one ls h2
  rw [h1] at h3
  refine okE_nil (okW_derefs rfl ?_)
  refine w_join (ls := ls) (by omega) (okG_setC ?_)
  generalize ls.flatten = st at h3 h4 ⊢
  dsimp only [List.set, fzW]
  refine okS_seq (okS_asg (okE_take (m := 8) rfl hA hA2 hB hB2 rfl hb (by omega) (okE_eq rfl ⟨rfl, rfl, rfl⟩) (by omega) (by omega) fun t d4 t0 t1 hb => ?_))
  obtain ⟨t, rfl⟩ := Int.eq_ofNat_of_zero_le t0
  refine okG_setC ?_
  dsimp only [List.set, fzW]
  refine okS_seq (okS_asg (okE_words (R := fun k l => l = (st.take t ++ [lt ((f + 11 * k) % 26)]) ++ st.drop (t + 1)) (q := 0) (m := m) rfl hb (by omega) (okE_eq rfl ⟨rfl, rfl, rfl⟩) ?_ ?_))
  · intro k h9 hk hb
    refine okE_op (okE_op ?_)
    refine okE_sl (okE_var rfl (okE_nopart (okE_part (okE_var rfl ⟨_, rfl, okW_eq rfl (w_take (by omega) ?_)⟩))))
    refine okE_op ?_
    walk_at "p"
    refine w_letter (Int.emod_nonneg _ (by decide)) (Int.emod_lt_of_pos _ (by decide)) ?_
    walk_at "p"
    have k1 : (st.take t).length ≤ 8 := by rw [List.length_take]; omega
    refine w_adds (by rw [List.length_singleton]; omega) ?_
    refine okE_sl (okE_var rfl (okE_part (okE_op ?_)))
    walk_at "p"
    refine ⟨_, rfl, okE_nopart (okW_eq rfl (w_drop (k := t + 1) (by omega) ?_))⟩
    walk_at "p"
    refine w_adds (by rw [List.length_append, List.length_singleton, List.length_drop]; omega) ?_
    exact ⟨_, rfl, rfl, hb.mono (by omega), rfl⟩
  intro ls d5 h5 h6 hb
  have c5 : Cols m ls := ⟨h5, words_ok (R := fun k l => l = (st.take t ++ [lt ((f + 11 * k) % 26)]) ++ st.drop (t + 1)) h5 h6 (fun i j l hi hj e1 e2 => by
    have z := List.append_cancel_left (List.append_cancel_right (e1.symm.trans e2))
    have z := lt_inj (Int.emod_nonneg _ (by decide)) (Int.emod_lt_of_pos _ (by decide)) (Int.emod_nonneg _ (by decide)) (Int.emod_lt_of_pos _ (by decide)) (List.singleton_inj.mp z)
    omega) (fun i l _ e => by
    subst e
    refine ⟨?_, ?_, ?_⟩
    · rw [List.length_append, List.length_append, List.length_singleton]
      omega
    · rw [List.length_append, List.length_append, List.length_singleton, List.length_take, List.length_drop]
      omega
    · intro c hc
      rcases List.mem_append.mp hc with hc | hc
      · rcases List.mem_append.mp hc with hc | hc
        · exact h4 c (List.mem_of_mem_take hc)
        · rw [List.mem_singleton.mp hc]
          exact lt_mem (Int.emod_nonneg _ (by decide)) (Int.emod_lt_of_pos _ (by decide))
      · exact h4 c (List.mem_of_mem_drop hc))⟩
  refine okG_setC ?_
  dsimp only [List.set, fzW]
  let I : Nat → List Sl → Tb → Prop := fun r ρ h => ∃ ls s8, ρ = colF b m w f st t ls s8 ∧ Cols m ls ∧ Bx b (n + r) h0 h
  refine okS_seqM (I 11) (okS_if (okE_test_eqi rfl ⟨fun _ => ?_, fun _ => okS_next ⟨ls, _, rfl, c5, hb.mono (by omega)⟩⟩)) ?_
  · refine okS_asg (okE_words (R := fun k l => l = [lt ((f + 3 * k) % 26)]) (q := 0) (m := m) rfl hb (by omega) (okE_eq rfl ⟨rfl, rfl, rfl⟩) ?_ ?_)
    · intro k h9 hk hb
      walk_at "p"
      refine w_letter (Int.emod_nonneg _ (by decide)) (Int.emod_lt_of_pos _ (by decide)) ?_
      exact ⟨_, rfl, rfl, hb.mono (by omega), rfl⟩
    · intro ls d6 h7 h8 hb
      refine okG_setC ?_
      refine ⟨ls, _, rfl, ⟨h7, words_ok (R := fun k l => l = [lt ((f + 3 * k) % 26)]) h7 h8 (fun i j l hi hj e1 e2 => ?_) (fun i l _ e => ?_)⟩, hb.mono (by omega)⟩
      · have z := lt_inj (Int.emod_nonneg _ (by decide)) (Int.emod_lt_of_pos _ (by decide)) (Int.emod_nonneg _ (by decide)) (Int.emod_lt_of_pos _ (by decide)) (List.singleton_inj.mp (e1.symm.trans e2))
        omega
      · subst e
        exact ⟨Nat.le_refl _, by rw [List.length_singleton]; omega, fun c hc => by
          rw [List.mem_singleton.mp hc]
          exact lt_mem (Int.emod_nonneg _ (by decide)) (Int.emod_lt_of_pos _ (by decide))⟩
  clear hb c5 h5 h6 ls
  rintro ρ h6 ⟨ls, s8, rfl, c6, hb⟩
  refine okS_seqM (I 12) (okS_if (okE_test_eqi rfl ⟨fun _ => ?_, fun _ => okS_next ⟨ls, _, rfl, c6, hb.mono (by omega)⟩⟩)) ?_
  · unfold colF
    refine okS_seq (okS_asg (okE_take (m := 4) rfl hA hA2 hB hB2 rfl hb (by omega) (okE_eq rfl ⟨rfl, rfl, rfl⟩) (by omega) (by omega) fun v d7 v0 v1 hb => ?_))
    obtain ⟨v, rfl⟩ := Int.eq_ofNat_of_zero_le v0
    refine okG_setC ?_
    dsimp only [List.set, fzW]
    refine okS_asg (okE_words (R := fun k l => l = st.take (v + k + 1)) (q := 0) (m := m) rfl hb (by omega) (okE_eq rfl ⟨rfl, rfl, rfl⟩) ?_ ?_)
    · intro k h9 hk hb
      refine okE_sl (okE_var rfl (okE_nopart (okE_part ?_)))
      walk_at "p"
      refine ⟨_, rfl, okW_eq rfl (w_take (k := v + k + 1) (by omega) ?_)⟩
      exact ⟨_, rfl, rfl, hb.mono (by omega), rfl⟩
    · intro ls d6 h7 h8 hb
      refine okG_setC ?_
      refine ⟨ls, _, rfl, ⟨h7, words_ok (R := fun k l => l = st.take (v + k + 1)) h7 h8 (fun i j l hi hj e1 e2 => ?_) (fun i l hi e => ?_)⟩, hb.mono (by omega)⟩
      · have z := congrArg List.length (e1.symm.trans e2)
        rw [List.length_take, List.length_take] at z
        omega
      · subst e
        exact ⟨by rw [List.length_take]; omega, by rw [List.length_take]; omega, fun c hc => h4 c (List.mem_of_mem_take hc)⟩
  clear hb c6 s8 ls
  rintro ρ h6 ⟨ls, s8, rfl, c6, hb⟩
  refine okS_seqM (I 17) (okS_if (okE_test_eqi rfl ⟨fun _ => ?_, fun _ => okS_next ⟨ls, _, rfl, c6, hb.mono (by omega)⟩⟩)) ?_
  · unfold colF
    refine okS_asg (okE_words (R := fun k l => ∃ z, l = lt ((f + 7 * k) % 26) :: z ∧ z.length ≤ 7 ∧ ∀ c ∈ z, c ∈ lets) (q := 1) (m := m) rfl hb (by omega) (okE_eq rfl ⟨rfl, rfl, rfl⟩) ?_ ?_)
    · intro k h9 hk hb
      refine okE_op ?_
      walk_at "p"
      refine w_letter (Int.emod_nonneg _ (by decide)) (Int.emod_lt_of_pos _ (by decide)) ?_
      refine okE_sl (okE_var rfl (okE_nopart (okE_part (okE_take (m := 8) rfl hA hA2 hB hB2 rfl hb (by omega) (okE_eq rfl ⟨rfl, rfl, rfl⟩) (by omega) (by omega) fun v d7 v0 v1 hb => ?_))))
      obtain ⟨v, rfl⟩ := Int.eq_ofNat_of_zero_le v0
      refine ⟨_, rfl, okW_eq rfl (w_take (by omega) ?_)⟩
      walk_at "p"
      refine w_adds (by rw [List.length_singleton, List.length_take]; omega) ?_
      exact ⟨_, rfl, rfl, hb.mono (by omega), st.take v, rfl, by rw [List.length_take]; omega, fun c hc => h4 c (List.mem_of_mem_take hc)⟩
    · intro ls d6 h7 h8 hb
      refine okG_setC ?_
      refine ⟨ls, _, rfl, ⟨h7, words_ok (R := fun k l => ∃ z, l = lt ((f + 7 * k) % 26) :: z ∧ z.length ≤ 7 ∧ ∀ c ∈ z, c ∈ lets) h7 h8 (fun i j l hi hj e1 e2 => ?_) (fun i l hi e => ?_)⟩, hb.mono (by omega)⟩
      · obtain ⟨z1, e1, _⟩ := e1
        obtain ⟨z2, e2, _⟩ := e2
        have z := lt_inj (Int.emod_nonneg _ (by decide)) (Int.emod_lt_of_pos _ (by decide)) (Int.emod_nonneg _ (by decide)) (Int.emod_lt_of_pos _ (by decide)) (List.cons.inj (e1.symm.trans e2)).1
        omega
      · obtain ⟨z, rfl, k1, k2⟩ := e
        refine ⟨by rw [List.length_cons]; omega, by rw [List.length_cons]; omega, fun c hc => ?_⟩
        rcases List.mem_cons.mp hc with rfl | hc
        · exact lt_mem (Int.emod_nonneg _ (by decide)) (Int.emod_lt_of_pos _ (by decide))
        · exact k2 c hc
  clear hb c6 s8 ls
  rintro ρ h6 ⟨ls, s8, rfl, c6, hb⟩
  unfold colF
  refine okS_ret (okE_mixed (xs := (ls.map S).map .str) rfl hA hA2 hB hB2 rfl hb (by omega) (okE_eq rfl ⟨rfl, rfl, rfl⟩) (by rw [List.length_map, List.length_map, c6.1]; omega) (fun x hx => by
    obtain ⟨z, _, rfl⟩ := List.mem_map.mp hx
    exact below_str) fun ys d7 hp hb => ?_)
  walk_at "p"
  rw [List.length_map, List.length_map, c6.1] at hb
  rw [List.map_map] at hp
  obtain ⟨ls2, e, hq⟩ := perm_map unS (fun x => rfl) hp
  subst e
  rw [← List.map_map]
  exact cut_same (by rw [hb.len, hl0]) (q ls2 d7 ⟨hq.length_eq.trans c6.1, hq.nodup_iff.mpr c6.2.1, fun l hl => c6.2.2 l (hq.mem_iff.mp hl)⟩ (hb.mono (by omega)))
end
end CM
namespace K10
open PySem PySem.Spec PyProof.Rows L2 SL CM
noncomputable def b_split_words : MS := (sSeq (sIf (mOr (mNot (mTru (mCB (dIsi (.ty "str") (tabK KS (.ty "str"))) (mCons (mVar 0) (mCons (mC (.ty "str")) mNil))))) (mTest (mOp dIn (mC (.str "\n")) (mVar 0)))) (sRet (mC .non)) sNext)
    (sSeq (sAsg (mBS fSplit (mVar 0) (mCons (mVar 1) mNil)) (gSetC 2))
    (sRet (mIf (mTest (mOp dIn (mC (.str "")) (mVar 2))) (mC .non) (mVar 2)))))
noncomputable def m_split_words : Fnm := fnM false 2 1 b_split_words
noncomputable def b_checked_columns : MS := (sSeq (sIf (mOr (mNot (mTru (callN (CP.m_is_list KS false) (mCons (mFr (mVar 0)) mNil)))) (mNot (mTest (mChain dLe dLe (mC (.int 1)) (mCB dLen (mCons (mVar 0) mNil)) (mC (.int (5))))))) (sRz false (sRaise "InvalidColumns" ["value"] (mCons (mFr (mVar 0)) mNil))) sNext)
    (sSeq (sAsg (mLst mNil) (gSet 1))
    (sSeq (sFor (mIU (mVar 0)) (gSetC 2) (sSeq (sIf (mNot (mTru (callN (CP.m_is_name KS false) (mCons (mFr (mVar 2)) mNil)))) (sRz false (sRaise "InvalidName" ["value"] (mCons (mFr (mVar 2)) mNil))) sNext)
    (sSeq (sIf (mTest (mOp dIn (mVar 2) (mVar 1))) (sRz false (sRaise "DuplicateName" ["name"] (mCons (mFr (mVar 2)) mNil))) sNext)
    (sDrop (mMut fAppend (mVar 1) (mCons (mVar 2) mNil))))))
    (sRet (mVar 1)))))
noncomputable def m_checked_columns : Fnm := fnM false 1 2 b_checked_columns
noncomputable def b_Order_D_init_D : MS := (sFldM "Order" "own_columns" (mVar 0) (callN m_checked_columns (mCons (mFr (mVar 1)) mNil)))
noncomputable def m_Order_D_init_D : Fnm := fnM false 2 0 b_Order_D_init_D
noncomputable def b_Order_columns : MS := (sRet (mCB dList (mCons (mFld "Order" "own_columns" (mVar 0)) mNil)))
noncomputable def m_Order_columns : Fnm := fnM false 1 0 b_Order_columns
noncomputable def b_Order_D_len_D : MS := (sRet (mCB dLen (mCons (mFld "Order" "own_columns" (mVar 0)) mNil)))
noncomputable def m_Order_D_len_D : Fnm := fnM false 1 0 b_Order_D_len_D
noncomputable def b_Order_D_eq_D : MS := (sRet (mAndV (mCB (dIsi (.own "Order") (tabK KS (.own "Order"))) (mCons (mVar 1) (mCons (mC (.glo "Order")) mNil))) (mOp dEq (mFld "Order" "own_columns" (mVar 0)) (mMeth "Order" "columns" m_Order_columns (mVar 1) mNil))))
noncomputable def m_Order_D_eq_D : Fnm := fnM false 2 0 b_Order_D_eq_D
noncomputable def b_Order_D_str_D : MS := (sRet (mBS fJoin (mC (.str " ")) (mCons (mFld "Order" "own_columns" (mVar 0)) mNil)))
noncomputable def m_Order_D_str_D : Fnm := fnM false 1 0 b_Order_D_str_D
noncomputable def b_Order_D_repr_D : MS := (sRet (mJs [(mC (.str "Order(")), (mCB dRepr (mCons (mFld "Order" "own_columns" (mVar 0)) mNil)), (mC (.str ")"))] Str.empty))
noncomputable def m_Order_D_repr_D : Fnm := fnM false 1 0 b_Order_D_repr_D
noncomputable def b_parse_order : MS := (sSeq (sAsg (callD 1 m_split_words [(D.str " ")] (mCons (mFr (mVar 0)) mNil)) (gSetC 1))
    (sSeq (sIf (mOr (mTest (mOp dIs (mVar 1) (mC .non))) (mOr (mTest (mOp dGt (mCB dLen (mCons (mVar 1) mNil)) (mC (.int (5))))) (mNot (mTru (mCB dAll (mCons (mLc (mIU (mVar 1)) (gSetC 2) mYes (callN (CP.m_is_name KS false) (mCons (mFr (mVar 2)) mNil)) [2]) mNil)))))) (sRz false (sRaise "InvalidText" ["value"] (mCons (mFr (mVar 0)) mNil))) sNext)
    (sSeq (sIf (mTest (mOp dLt (mLenSc (mIU (mVar 1)) (gSetC 2) (mVar 2) [2]) (mCB dLen (mCons (mVar 1) mNil)))) (sRz false (sRaise "InvalidText" ["value"] (mCons (mFr (mVar 0)) mNil))) sNext)
    (sRet (mMake false "Order" m_Order_D_init_D [] (mCons (mFr (mVar 1)) mNil))))))
noncomputable def m_parse_order : Fnm := fnM false 1 2 b_parse_order
noncomputable def b_checked_parts : MS := (sSeq (sIf (mOr (mNot (mTru (callN (CP.m_is_list KS false) (mCons (mFr (mVar 0)) mNil)))) (mNot (mTest (mChain dLe dLe (mC (.int 1)) (mCB dLen (mCons (mVar 0) mNil)) (mC (.int (5))))))) (sRz false (sRaise "InvalidBlocks" ["value"] (mCons (mFr (mVar 0)) mNil))) sNext)
    (sSeq (sPar true true 1 2 (mCons (mLst mNil) (mCons (mLst mNil) mNil)))
    (sSeq (sFor (mIU (mVar 0)) (gSetC 3) (sSeq (sIf (mOr (mNot (mTru (callN (CP.m_is_list KS false) (mCons (mFr (mVar 3)) mNil)))) (mTest (mOp dEq (mCB dLen (mCons (mVar 3) mNil)) (mC (.int 0))))) (sRz false (sRaise "InvalidBlocks" ["value"] (mCons (mFr (mVar 3)) mNil))) sNext)
    (sSeq (sFor (mIU (mVar 3)) (gSetC 4) (sSeq (sIf (mNot (mTru (callN (CP.m_is_name KS false) (mCons (mFr (mVar 4)) mNil)))) (sRz false (sRaise "InvalidName" ["value"] (mCons (mFr (mVar 4)) mNil))) sNext)
    (sSeq (sIf (mTest (mOp dIn (mVar 4) (mVar 2))) (sRz false (sRaise "DuplicateName" ["name"] (mCons (mFr (mVar 4)) mNil))) sNext)
    (sDrop (mMut fAppend (mVar 2) (mCons (mVar 4) mNil))))))
    (sDrop (mMut fAppend (mVar 1) (mCons (mCB dSrt (mCons (mVar 3) mNil)) mNil))))))
    (sSeq (sIf (mTest (mOp dGt (mCB dLen (mCons (mVar 2) mNil)) (mC (.int (5))))) (sRz false (sRaise "TooMany" ["count"] (mCons (mFr (mCB dLen (mCons (mVar 2) mNil))) mNil))) sNext)
    (sRet (mVar 1))))))
noncomputable def m_checked_parts : Fnm := fnM false 1 4 b_checked_parts
noncomputable def b_Blocks_D_init_D : MS := (sFldM "Blocks" "own_parts" (mVar 0) (callN m_checked_parts (mCons (mFr (mVar 1)) mNil)))
noncomputable def m_Blocks_D_init_D : Fnm := fnM false 2 0 b_Blocks_D_init_D
noncomputable def b_Blocks_parts : MS := (sRet (mLc (mIU (mFld "Blocks" "own_parts" (mVar 0))) (gSetC 1) mYes (mCB dList (mCons (mVar 1) mNil)) [1]))
noncomputable def m_Blocks_parts : Fnm := fnM false 1 1 b_Blocks_parts
noncomputable def b_Blocks_D_eq_D : MS := (sRet (mAndV (mCB (dIsi (.own "Blocks") (tabK KS (.own "Blocks"))) (mCons (mVar 1) (mCons (mC (.glo "Blocks")) mNil))) (mOp dEq (mFld "Blocks" "own_parts" (mVar 0)) (mMeth "Blocks" "parts" m_Blocks_parts (mVar 1) mNil))))
noncomputable def m_Blocks_D_eq_D : Fnm := fnM false 2 0 b_Blocks_D_eq_D
noncomputable def b_l_law_cell : MS := (sSeq (sIf (mTest (mOp dLt (mVar 1) (mCB dLen (mCons (mVar 0) mNil)))) (sRet (mOp dIx (mVar 0) (mVar 1))) sNext)
    (sRet (mOp dAdd (mOp dMul (mC (.int 6007)) (mVar 1)) (mC (.int 31)))))
noncomputable def m_l_law_cell : Fnm := fnM false 2 0 b_l_law_cell
noncomputable def b_l_law_box : MS := (sRet (mLst (mCons (mCB dMax2 (mCons (mC (.int 0)) (mCons (mOp dSub (mVar 0) (mOp dPow (mC (.int 10)) (mC (.int 18)))) mNil))) (mCons (mOp dMod (mVar 0) (mC (.int 2147483629))) (mCons (mC (.int 0)) mNil)))))
noncomputable def m_l_law_box : Fnm := fnM false 1 0 b_l_law_box
noncomputable def b_l_law_take : MS := (sSeq (sIf (mTest (mOp dGt (mOp dIx (mVar 0) (mC (.int 0))) (mC (.int 0)))) (sSeq (sAsg (mOp dMod (mOp dIx (mVar 0) (mC (.int 0))) (mVar 1)) (gSetC 4))
    (sSeq (sAsg (mOp dDiv (mOp dIx (mVar 0) (mC (.int 0))) (mVar 1)) (gSubL (mVar 0) (mC (.int 0))))
    (sRet (mVar 4)))) sNext)
    (sSeq (sAsg (mOp dAdd (mOp dIx (mVar 0) (mC (.int 2))) (mC (.int 1))) (gSubL (mVar 0) (mC (.int 2))))
    (sSeq (sAsg (mOp dMod (mOp dAdd (mOp dAdd (mOp dMul (mOp dIx (mVar 0) (mC (.int 1))) (mC (.int 48271))) (mOp dMul (mC (.int 6007)) (mOp dIx (mVar 0) (mC (.int 2))))) (mC (.int 31))) (mC (.int 2147483647))) (gSetC 2))
    (sSeq (sAsg (mOp dMod (mOp dPow (mOp dAdd (mVar 2) (mOp dMul (mC (.int 15485863)) (mOp dIx (mVar 0) (mC (.int 2))))) (mC (.int 2))) (mC (.int 2147483629))) (gSetC 3))
    (sRet (mOp dMod (mOp dAdd (mOp dDiv (mOp dMod (mOp dPow (mVar 3) (mC (.int 2))) (mC (.int 2147483587))) (mC (.int 16))) (mOp dDiv (mVar 2) (mC (.int 64)))) (mVar 1)))))))
noncomputable def m_l_law_take : Fnm := fnM false 2 3 b_l_law_take
noncomputable def b_l_law_mixed : MS := (sSeq (sAsg (mCB dList (mCons (mVar 1) mNil)) (gSet 2))
    (sRet (mLc (mRng1 (mCons (mCB dLen (mCons (mVar 1) mNil)) mNil)) (gSetC 3) mYes (mMut fPopAt (mVar 2) (mCons (callN m_l_law_take (mCons (mCe (mVar 0)) (mCons (mFr (mCB dLen (mCons (mVar 2) mNil))) mNil))) mNil)) [3])))
noncomputable def m_l_law_mixed : Fnm := fnM false 2 2 b_l_law_mixed
noncomputable def b_l_law_columns : MS := (sSeq (sAsg (mC (.str "abcdefghijklmnopqrstuvwxyz")) (gSetC 2))
    (sSeq (sAsg (mTup (mCons (mFr (callN m_l_law_take (mCons (mCe (mVar 0)) (mCons (mFr (mC (.int 4))) mNil)))) (mCons (mFr (callN m_l_law_take (mCons (mCe (mVar 0)) (mCons (mFr (mC (.int 26))) mNil)))) mNil))) (gTupM 2 (gsCons (gSetC 3) (gsCons (gSetC 4) gsNil))))
    (sSeq (sAsg (mBS fJoin (mC (.str "")) (mCons (mLc (mRng1 (mCons (mC (.int 8)) mNil)) (gSetC 9) mYes (mOp dIx (mVar 2) (callN m_l_law_take (mCons (mCe (mVar 0)) (mCons (mFr (mC (.int 26))) mNil)))) [9]) mNil)) (gSetC 5))
    (sSeq (sAsg (callN m_l_law_take (mCons (mCe (mVar 0)) (mCons (mFr (mC (.int 8))) mNil))) (gSetC 6))
    (sSeq (sAsg (mLc (mRng1 (mCons (mVar 1) mNil)) (gSetC 9) mYes (mOp dAdd (mOp dAdd (mSl (mVar 5) mNoPart (mPart (mVar 6))) (mOp dIx (mVar 2) (mOp dMod (mOp dAdd (mVar 4) (mOp dMul (mC (.int 11)) (mVar 9))) (mC (.int 26))))) (mSl (mVar 5) (mPart (mOp dAdd (mVar 6) (mC (.int 1)))) mNoPart)) [9]) (gSetC 7))
    (sSeq (sIf (mTest (mOp dEq (mVar 3) (mC (.int 0)))) (sAsg (mLc (mRng1 (mCons (mVar 1) mNil)) (gSetC 9) mYes (mOp dIx (mVar 2) (mOp dMod (mOp dAdd (mVar 4) (mOp dMul (mC (.int 3)) (mVar 9))) (mC (.int 26)))) [9]) (gSetC 7)) sNext)
    (sSeq (sIf (mTest (mOp dEq (mVar 3) (mC (.int 1)))) (sSeq (sAsg (callN m_l_law_take (mCons (mCe (mVar 0)) (mCons (mFr (mC (.int 4))) mNil))) (gSetC 8))
    (sAsg (mLc (mRng1 (mCons (mVar 1) mNil)) (gSetC 9) mYes (mSl (mVar 5) mNoPart (mPart (mOp dAdd (mOp dAdd (mVar 8) (mVar 9)) (mC (.int 1))))) [9]) (gSetC 7))) sNext)
    (sSeq (sIf (mTest (mOp dEq (mVar 3) (mC (.int 2)))) (sAsg (mLc (mRng1 (mCons (mVar 1) mNil)) (gSetC 9) mYes (mOp dAdd (mOp dIx (mVar 2) (mOp dMod (mOp dAdd (mVar 4) (mOp dMul (mC (.int 7)) (mVar 9))) (mC (.int 26)))) (mSl (mVar 5) mNoPart (mPart (callN m_l_law_take (mCons (mCe (mVar 0)) (mCons (mFr (mC (.int 8))) mNil)))))) [9]) (gSetC 7)) sNext)
    (sRet (callN m_l_law_mixed (mCons (mCe (mVar 0)) (mCons (mFr (mVar 7)) mNil))))))))))))
noncomputable def m_l_law_columns : Fnm := fnM false 2 8 b_l_law_columns
noncomputable def b_l_law_told_right : MS := (sSeq (sFor (mRng1 (mCons (mC (.int 2)) mNil)) (gSetC 2) (sSeq (sAsg (mMeth "Order" "columns" m_Order_columns (mVar 0) mNil) (gSet 3))
    (sSeq (sIf (mTest (mOp dNe (mCBS dRepr (mCons (mLst (mCons (mVar 3) (mCons (mLenO "Order" m_Order_D_len_D (mCons (mVar 0) mNil)) (mCons (mStrO "Order" m_Order_D_str_D (mCons (mVar 0) mNil)) mNil)))) mNil)) (mCB dRepr (mCons (mLst (mCons (mVar 1) (mCons (mCB dLen (mCons (mVar 1) mNil)) (mCons (mBS fJoin (mC (.str " ")) (mCons (mVar 1) mNil)) mNil)))) mNil)))) (sRet (mC (.bl false))) sNext)
    (sDrop (mMut fAppend (mVar 3) (mCons (mC (.str "late")) mNil))))))
    (sRet (mCB (dIsi (.ty "str") (tabK KS (.ty "str"))) (mCons (mStrO "Order" m_Order_D_repr_D (mCons (mVar 0) mNil)) (mCons (mC (.ty "str")) mNil)))))
noncomputable def m_l_law_told_right : Fnm := fnM false 2 2 b_l_law_told_right
noncomputable def b_l_law_others : MS := (sSeq (sAsg (mSl (mLc (mIU (mC (.str "abcdef"))) (gSetC 6) (mTest (mOp dNi (mVar 6) (mVar 1))) (mVar 6) [6]) mNoPart (mPart (mC (.int 1)))) (gSetC 2))
    (sSeq (sAsg (mLst mNil) (gSet 3))
    (sSeq (sIf (mTest (mOp dGt (mCB dLen (mCons (mVar 1) mNil)) (mC (.int 1)))) (sSeq (sAsg (callN m_l_law_take (mCons (mCe (mVar 0)) (mCons (mFr (mOp dSub (mCB dLen (mCons (mVar 1) mNil)) (mC (.int 1)))) mNil))) (gSetC 4))
    (sSeq (sAsg (mUn dRev (mSl (mVar 1) (mPart (mVar 4)) (mPart (mOp dAdd (mVar 4) (mC (.int 2)))))) (gSetC 5))
    (sAsg (mLst (mCons (mUn dRev (mVar 1)) (mCons (mSl (mVar 1) mNoPart (mPart (mUn dNeg (mC (.int 1))))) (mCons (mOp dAdd (mOp dAdd (mSl (mVar 1) mNoPart (mPart (mVar 4))) (mVar 5)) (mSl (mVar 1) (mPart (mOp dAdd (mVar 4) (mC (.int 2)))) mNoPart)) mNil)))) (gSet 3)))) sNext)
    (sSeq (sIf (mTest (mOp dLt (mCB dLen (mCons (mVar 1) mNil)) (mC (.int 5)))) (sDrop (mMut fAppend (mVar 3) (mCons (mOp dAdd (mVar 1) (mVar 2)) mNil))) sNext)
    (sSeq (sAsg (callN m_l_law_take (mCons (mCe (mVar 0)) (mCons (mFr (mCB dLen (mCons (mVar 1) mNil))) mNil))) (gSetC 4))
    (sRet (mOp dAdd (mVar 3) (mLst (mCons (mOp dAdd (mOp dAdd (mSl (mVar 1) mNoPart (mPart (mVar 4))) (mVar 2)) (mSl (mVar 1) (mPart (mOp dAdd (mVar 4) (mC (.int 1)))) mNoPart)) mNil)))))))))
noncomputable def m_l_law_others : Fnm := fnM false 2 5 b_l_law_others
noncomputable def b_law : MS := (sSeq (sFor (mRng1 (mCons (mCB dMax2 (mCons (mC (.int 2)) (mCons (mCB dMin2 (mCons (mCB dLen (mCons (mVar 0) mNil)) (mCons (mC (.int 8)) mNil))) mNil))) mNil)) (gSetC 1) (sSeq (sAsg (callN m_l_law_box (mCons (mFr (callN m_l_law_cell (mCons (mFr (mVar 0)) (mCons (mFr (mVar 1)) mNil)))) mNil)) (gSet 2))
    (sSeq (sAsg (callN m_l_law_columns (mCons (mCe (mVar 2)) (mCons (mFr (mOp dAdd (mC (.int 1)) (callN m_l_law_take (mCons (mCe (mVar 2)) (mCons (mFr (mC (.int 5))) mNil))))) mNil))) (gSetC 3))
    (sSeq (sAsg (mCB dList (mCons (mVar 3) mNil)) (gSet 4))
    (sSeq (sAsg (mTup (mCons (mFr (mMake false "Order" m_Order_D_init_D [] (mCons (mFr (mVar 4)) mNil))) (mCons (mFr (mMake false "Order" m_Order_D_init_D [] (mCons (mFr (mCB dTuple (mCons (mVar 3) mNil))) mNil))) mNil))) (gTupM 2 (gsCons (gSetC 5) (gsCons (gSetC 6) gsNil))))
    (sSeq (sAsg (callN m_parse_order (mCons (mFr (mBS fJoin (mC (.str " ")) (mCons (mVar 3) mNil))) mNil)) (gSetC 7))
    (sSeq (sIf (mTest (mOp dNe (mVar 4) (mVar 3))) (sRet (mC (.bl false))) sNext)
    (sSeq (sDrop (mMut0 fClear (mVar 4)))
    (sSeq (sFor (mIU (mTup (mCons (mVar 5) (mCons (mVar 6) (mCons (mVar 7) mNil))))) (gSetC 8) (sIf (mOr (mNot (mTru (mCB (dIsi (.own "Order") (tabK KS (.own "Order"))) (mCons (mVar 8) (mCons (mC (.glo "Order")) mNil))))) (mOr (mNot (mTru (callN m_l_law_told_right (mCons (mFr (mVar 8)) (mCons (mFr (mVar 3)) mNil))))) (mOr (mTest (mNeO "Order" KS m_Order_D_eq_D (mVar 8) (mVar 5))) (mNot (mTest (mEqO "Order" KS m_Order_D_eq_D (mVar 8) (mVar 6))))))) (sRet (mC (.bl false))) sNext))
    (sSeq (sFor (mIU (callN m_l_law_others (mCons (mCe (mVar 2)) (mCons (mFr (mVar 3)) mNil)))) (gSetC 9) (sSeq (sAsg (mMake false "Order" m_Order_D_init_D [] (mCons (mFr (mVar 9)) mNil)) (gSetC 11))
    (sIf (mOr (mTest (mEqO "Order" KS m_Order_D_eq_D (mVar 5) (mVar 11))) (mOr (mNot (mTest (mNeO "Order" KS m_Order_D_eq_D (mVar 5) (mVar 11)))) (mNot (mTru (callN m_l_law_told_right (mCons (mFr (mVar 11)) (mCons (mFr (mVar 9)) mNil))))))) (sRet (mC (.bl false))) sNext)))
    (sSeq (sAsg (mLst (mCons (mC .non) (mCons (mC (.int 0)) (mCons (mVar 3) (mCons (mCB dTuple (mCons (mVar 3) mNil)) (mCons (mBS fJoin (mC (.str " ")) (mCons (mVar 3) mNil)) (mCons mDNew (mCons (mMake false "Shape" (CP.m_Shape_D_init_D KS false) [D.non] (mCons (mFr (mVar 3)) mNil)) (mCons (mC (.bl true)) (mCons (mMake false "Blocks" m_Blocks_D_init_D [] (mCons (mFr (mLst (mCons (mVar 3) mNil))) mNil)) mNil)))))))))) (gSetC 10))
    (sIf (mTest (mOp dNe (mLc (mIU (mVar 10)) (gSetC 12) (mOr (mTest (mEqO "Order" KS m_Order_D_eq_D (mVar 5) (mVar 12))) (mTest (mAlt (mOp dEq (mVar 12) (mVar 5)) (mAlt (mEqO "Shape" KS (CP.m_Shape_D_eq_D KS false) (mVar 12) (mVar 5)) (mAlt (mEqO "Order" KS m_Order_D_eq_D (mVar 12) (mVar 5)) (mAlt (mEqO "Blocks" KS m_Blocks_D_eq_D (mVar 12) (mVar 5)) (mRevO "Order" m_Order_D_eq_D (mVar 12) (mVar 5)))))))) (mVar 12) [12]) (mLst mNil))) (sRet (mC (.bl false))) sNext))))))))))))
    (sRet (mC (.bl true))))
noncomputable def m_law : Fnm := fnM false 1 12 b_law
end K10
namespace K10
open PySem PySem.Spec PyProof.Rows L2 SL CM
theorem ksok : KsOk KS := ⟨by decide +kernel, by decide +kernel, by decide +kernel⟩
structure OrOk (cs : List Str) : Prop where
  ne : cs ≠ []
  len : cs.length ≤ 5
  nd : cs.Nodup
  nm : ∀ z ∈ cs, Nm z
abbrev orF (cs : List Str) : List (Str × D) := [(("own_columns" : Str), .lst (LS cs))]
def orD (cs : List Str) : D := .ins "Order" (orF cs)
theorem or_cols {cs : List Str} : (orF cs).lookup ("own_columns" : Str) = some (D.lst (LS cs)) := rfl
section
variable {ρ : List Sl} {h h0 h1 g : Tb} {N : List Sl → Tb → Prop} {T : Ps W} {L : Bool → List Sl → Tb → Prop} {b n k i j len m : Nat} {d d0 d1 e0 : D} {cs ds zs : List Str} {P : W → Tb → Prop} {X : Str → List (Str × D) → Tb → Prop}
local macro_rules | `(tactic| walk_at "hv") => `(tactic| first | rfl | assumption | (exact (by assumption : _)))
local macro_rules | `(tactic| walk_at "p1") => `(tactic| first
  | with_reducible refine CM.okS_seq ?_ | with_reducible refine CM.okS_next ?_ | with_reducible refine CM.okS_asg ?_ | with_reducible refine CM.okS_ret ?_ | with_reducible refine CM.okS_drop ?_ | with_reducible refine CM.okS_aug ?_ | with_reducible refine CM.okS_cnt ?_ | with_reducible refine CM.okS_fg ?_ | with_reducible refine CM.okS_retN ?_
  | with_reducible refine CM.okE_op ?_ | with_reducible refine CM.okE_cb ?_ | with_reducible refine CM.okE_cons ?_ | with_reducible refine CM.okE_nil ?_ | with_reducible refine CM.okB_not ?_ | with_reducible refine CM.okE_c ?_ | with_reducible refine CM.okE_fr ?_ | with_reducible refine CM.okE_ce ?_ | with_reducible refine CM.okE_notV ?_ | with_reducible refine CM.okE_un ?_
  | with_reducible refine CM.okE_sl ?_ | with_reducible refine CM.okE_nopart ?_
  | ((with_reducible refine' CM.okE_var ?hv ?_); (case hv => rfl))
  | ((with_reducible refine' CM.okE_part (CM.okE_var ?hv ⟨_, ?hv2, ?_⟩)); (case hv => rfl); (case hv2 => rfl))
  | ((with_reducible refine' CM.okE_part (CM.okE_c ⟨_, ?hv2, ?_⟩)); (case hv2 => rfl))
  | ((with_reducible refine' CM.okW_eq (w := _) ?hv ?_); (case hv => (with_reducible rfl)))
  | ((with_reducible refine' CM.okW_deref ?hv ?_); (case hv => walk_at "hv")) | ((with_reducible refine' CM.okW_derefs ?hv ?_); (case hv => rfl)) | ((with_reducible refine' CM.okW_derefC ?hv ?_); (case hv => walk_at "hv")) | ((with_reducible refine' CM.okW_lstAt ?hv ?_); (case hv => walk_at "hv"))
  | with_reducible refine CM.w_add ?_ | with_reducible refine CM.w_sub ?_ | with_reducible refine CM.w_lt ?_ | with_reducible refine CM.w_le ?_ | with_reducible refine CM.w_gt ?_ | with_reducible refine CM.w_ge ?_ | with_reducible refine CM.w_addI ?_
  | with_reducible refine CM.w_mod (by omega) ?_ | with_reducible refine CM.w_div (by omega) (by rw [CM.big_eq]; omega) ?_ | with_reducible refine CM.w_mul (by rw [CM.big_eq]; omega) (by rw [CM.big_eq]; omega) (by rw [CM.big_eq]; omega) (by rw [CM.big_eq]; omega) ?_ | with_reducible refine CM.w_sq (by omega) (by omega) ?_
  | with_reducible refine CM.w_max2 ?_ | with_reducible refine CM.w_min2 ?_ | with_reducible refine CM.w_lenL ?_ | with_reducible refine CM.w_lenT ?_ | with_reducible refine CM.w_lenC ?_ | with_reducible refine CM.w_listL ?_ | with_reducible refine CM.w_listT ?_ | with_reducible refine CM.w_tupL ?_ | with_reducible refine CM.w_tupT ?_
  | ((with_reducible refine CM.okG_setC ?_); (try dsimp only [List.set, CM.fzW]))
  | ((with_reducible refine' CM.okW_ix ?hv ?_); (case hv => rfl))
  | ((with_reducible refine' CM.okB_test (CM.okE_eqn ⟨_, ?hv, ?_⟩)); (case hv => rfl))
  | ((with_reducible refine' CM.okB_testd ⟨_, ?hv, ?_⟩); (case hv => rfl)))
local macro_rules | `(tactic| walk_at "p") => `(tactic| repeat walk_at "p1")
theorem checked_ok (hd : deref h (.cl d0) = some d) (hu : seqD d.u = some (LS cs)) (ok : OrOk cs) (p : P (.nw (.lst (LS cs))) h) : okF (m_checked_columns [d0] h) P X := by
  unfold m_checked_columns
  refine okF_fn rfl ?_
  show okS (b_checked_columns [.cl d0, .un, .un] h) _ _ _ _
  unfold b_checked_columns
  have h5 := ok.len
  have hl : (LS cs).length = cs.length := List.length_map ..
  have h1 : 1 ≤ cs.length := List.length_pos_iff.mpr ok.ne
  refine okS_seq (okS_no (okB_or (okB_not (okB_tru (okE_call (okE_cons (okE_fr (okE_var rfl (okE_nil (is_seq_ok ksok hd hu ⟨.bl true, true, rfl, rfl, (fun e => nomatch e), fun _ => ?_⟩))))))))))
  refine okB_not (okB_test (okE_chain (okE_c (okE_cb (okE_cons (okE_var rfl (okE_nil (okW_d1 hd (w_lenQ hu (okW_eq rfl (okW_eq rfl ⟨decide ((1 : Int) ≤ (LS cs).length), rfl, fun _ => ?_, fun e => absurd (of_decide_eq_false e) (by omega)⟩)))))))))))
  refine okE_c (okW_eq rfl (okW_eq rfl (w_le ⟨_, rfl, ?_, okS_next ?_⟩)))
  · rw [decide_eq_true (by omega)]
    rfl
  refine okS_seq (okS_asg (okE_lst (okE_nil ⟨Nat.le_of_ble_eq_true rfl, okG_set ?_⟩)))
  dsimp only [List.set, List.map]
  refine okS_seq (okS_for (okE_iU (okE_var rfl (okW_eq (deref_app hd) (okW_eq (items_seq hu) ⟨by omega, ?_⟩)))))
  refine okS_loop (fun j ρ h' => h' = h ++ [.lst (LS (cs.take j))] ∧ ∃ s2, ρ = [.cl d0, .cl (.ce h.length), s2]) ?_ _ 0 ⟨rfl, _, rfl⟩ ?_ ?_
  · rintro j ρ h' ⟨rfl, _⟩
    exact ckOf_app hd
  · rintro j d ρ h' hj ⟨rfl, s2, rfl⟩
    obtain ⟨z, hz, rfl⟩ := strs_at hj
    have hm : z ∈ cs := List.mem_of_getElem? hz
    obtain ⟨hj2, ez⟩ := List.getElem?_eq_some_iff.mp hz
    rw [Nat.zero_add]
    refine okG_setC ?_
    dsimp only [List.set, fzW]
    refine okS_seq (okS_no (okB_not (okB_tru (okE_call (okE_cons (okE_fr (okE_var rfl (okE_nil (is_nm_ok ksok (ok.nm z hm) ⟨.bl true, true, rfl, rfl, rfl, okS_next ?_⟩)))))))))
    have hc : (h ++ [D.lst (LS (cs.take j))])[h.length]? = some (.lst (LS (cs.take j))) := tail_at0 rfl
    refine okS_seq (okS_no (okB_test (okE_op (okE_var rfl (okE_var rfl (okW_eq rfl (okW_eq hc (w_in dInB_L ⟨_, rfl, decide_eq_false (nodup_take ok.nd hz), okS_next ?_⟩))))))))
    refine okS_drop (okE_mut (okE_var rfl (okW_lstAt hc (okE_cons (okE_var rfl (okE_nil (okW_lstAt hc (w_append (by rw [List.length_map, List.length_take]; omega) ⟨?_, _, rfl⟩))))))))
    rw [tail_set0 rfl, List.take_succ_eq_append_getElem hj2, ez]
    simp [fzW]
  · rintro ρ h' ⟨rfl, s2, rfl⟩
    rw [Nat.zero_add, hl, List.take_of_length_le (Nat.le_refl _)]
    exact okS_ret (okE_var rfl (cut_own (h1 := h) (g := [.lst (LS cs)]) rfl okCut_refl (Nat.le_refl _) (tail_at0 rfl) (below_strs cs) p))
theorem order_init (hs : h[n]? = some (.ins "Order" [])) (hd : deref h (.cl d0) = some d) (hu : seqD d.u = some (LS cs)) (ok : OrOk cs) (p : P (.cl .non) (h.set n (orD cs))) : okF (m_Order_D_init_D [.ce n, d0] h) P X := by
  unfold m_Order_D_init_D
  refine okF_fn rfl ?_
  show okS (b_Order_D_init_D [.cl (.ce n), .cl d0] h) _ _ _ _
  unfold b_Order_D_init_D
  refine okS_fld (okE_call (okE_cons (okE_fr (okE_var rfl (okE_nil (checked_ok hd hu ok ?_))))))
  exact okE_var rfl (okW_eq (insAt_eq hs) ⟨by show (0 : Nat) < 1000; decide, cut_same (by rw [List.length_set]) p⟩)
theorem below_orD (cs : List Str) : below k (orD cs) = true := by
  show below k (.ins "Order" (orF cs)) = true
  rw [below_ins]
  have h1 : below k (.lst (LS cs)) = true := below_strs cs
  simp [h1]
theorem okE_order {P : Ps W} {X : Px} {es : Mo (List W)} {dvs : List D} (q : okE (es ρ h) (fun ws ρ h => ∃ d0 d cs, ws.map fzW ++ dvs = [d0] ∧ deref h (.cl d0) = some d ∧ seqD d.u = some (LS cs) ∧ OrOk cs ∧ P (.nw (orD cs)) ρ h) X) : okE (mMake false "Order" m_Order_D_init_D dvs es ρ h) P X := okE_make (q.mono fun ws ρ h q => by
  obtain ⟨d0, d, cs, e, hd, hu, ok, p⟩ := q
  rw [e]
  refine order_init (tail_at0 rfl) (deref_app hd) hu ok ⟨rfl, ?_⟩
  rw [List.set_append_right _ _ (Nat.le_refl _), Nat.sub_self]
  exact cut_own (h1 := h) (g := [orD cs]) rfl okCut_refl (Nat.le_refl _) (tail_at0 rfl) (below_orD cs) p)
theorem order_columns (hd : deref h (.cl d0) = some (orD cs)) (p : P (W.fr (LS cs)) h) : okF (m_Order_columns [d0] h) P X := by
  unfold m_Order_columns
  refine okF_fn rfl ?_
  show okS (b_Order_columns [.cl d0] h) _ _ _ _
  unfold b_Order_columns
  exact okS_ret (okE_cb (okE_cons (okE_fld (okE_var rfl ⟨_, _, hd, or_cols, okE_nil (okW_eq rfl (w_listL (cut_same rfl p)))⟩))))
theorem order_len (hd : deref h (.cl d0) = some (orD cs)) (p : P (.cl (.int (cs.length : Nat))) h) : okF (m_Order_D_len_D [d0] h) P X := by
  unfold m_Order_D_len_D
  refine okF_fn rfl ?_
  show okS (b_Order_D_len_D [.cl d0] h) _ _ _ _
  unfold b_Order_D_len_D
  refine okS_ret (okE_cb (okE_cons (okE_fld (okE_var rfl ⟨_, _, hd, or_cols, okE_nil (okW_eq rfl (w_lenL (cut_same rfl ?_)))⟩))))
  rw [List.length_map]
  exact p
theorem ownO : Kd.own "Order" ∈ KS := by decide +kernel
theorem asc_or (ok : OrOk cs) : Ascs cs := fun z hz => (ok.nm z hz).asc
theorem order_eq (ok : OrOk cs) (ok2 : OrOk ds) (hd : deref h (.cl d0) = some (orD cs)) (hd1 : deref h (.cl d1) = some (orD ds)) (p : P (.cl (.bl (decide (cs = ds)))) h) : okF (m_Order_D_eq_D [d0, d1] h) P X := by
  unfold m_Order_D_eq_D
  refine okF_fn rfl ?_
  show okS (b_Order_D_eq_D [.cl d0, .cl d1] h) _ _ _ _
  unfold b_Order_D_eq_D
  refine okS_ret (okE_andV (okB_test (okE_cb (okE_cons (okE_var rfl (okE_cons (okE_c (okE_nil (okW_d2 hd1 rfl (w_isi (k := .own "Order") rfl rfl ownO ⟨true, ?_, fun _ => ?_, (fun e => nomatch e)⟩))))))))))
  · show some (D.bl (decide (("Order" : Str) = "Order"))) = some (.bl true)
    rw [decide_eq_true rfl]
  refine okE_op (okE_fld (okE_var rfl ⟨_, _, hd, or_cols, ?_⟩))
  refine okE_meth (okE_var rfl ⟨_, hd1, rfl, okE_nil (order_columns hd1 (okW_eq rfl (okW_eq rfl (w_eq (dEqB_L (asc_or ok) (asc_or ok2)) (cut_same rfl p)))))⟩)
theorem order_eq_odd {k : Kd} (hd1 : deref h (.cl d1) = some e0) (hk : kd e0.u = some k) (hx : k ∈ KS) (hn : k ≠ .own "Order") (p : P (.cl (.bl false)) h) : okF (m_Order_D_eq_D [d0, d1] h) P X := by
  unfold m_Order_D_eq_D
  refine okF_fn rfl ?_
  show okS (b_Order_D_eq_D [.cl d0, .cl d1] h) _ _ _ _
  unfold b_Order_D_eq_D
  have hi : insK k (.own "Order") = false := by
    have : ∀ k ∈ KS, k ≠ .own "Order" → insK k (.own "Order") = false := by decide +kernel
    exact this k hx hn
  refine okS_ret (okE_andV (okB_test (okE_cb (okE_cons (okE_var rfl (okE_cons (okE_c (okE_nil (okW_d2 hd1 rfl (w_isi (k := k) rfl hk hx ⟨_, rfl, fun e => ?_, fun e => cut_same rfl p⟩))))))))))
  rw [hi] at e
  cases e
def orT (cs : List Str) : Str := Txt.join " " cs
theorem join_sp {zs : List Str} (h : ∀ z ∈ zs, Nm z) : (Txt.join " " zs).length ≤ 9 * zs.length ∧ Asc (Txt.join " " zs) := by
  have e : (Txt.join " " zs).cps.toList = TL.joinL [32] (zs.map fun z => z.cps.toList) := by
    rw [TL.join_eq]
    exact TL.tl_join _ _
  obtain ⟨h1, h2⟩ := joinL_props (sep := [32]) rfl (by decide) (zs.map fun z => z.cps.toList) (by
    intro l hl
    obtain ⟨z, hz, rfl⟩ := List.mem_map.mp hl
    exact ⟨(h z hz).2.1, (h z hz).asc⟩)
  rw [← e] at h1 h2
  rw [List.length_map] at h1
  exact ⟨by rw [SL.len_str]; exact h1, h2⟩
end
end K10
namespace K10
open PySem PySem.Spec PyProof.Rows L2 SL CM
theorem joinL_mem {sep : List Nat} : ∀ {ls : List (List Nat)} {c : Nat}, c ∈ TL.joinL sep ls → c ∈ sep ∨ ∃ l ∈ ls, c ∈ l
  | [], c, h => by cases h
  | [p], c, h => .inr ⟨p, List.mem_cons_self .., h⟩
  | p :: q :: r, c, h => by
    have h : c ∈ p ++ (sep ++ TL.joinL sep (q :: r)) := h
    rcases List.mem_append.mp h with h | h
    · exact .inr ⟨p, List.mem_cons_self .., h⟩
    · rcases List.mem_append.mp h with h | h
      · exact .inl h
      · rcases joinL_mem h with h | ⟨l, hl, h⟩
        · exact .inl h
        · exact .inr ⟨l, List.mem_cons_of_mem _ hl, h⟩
theorem sp_tl : TL.tl (" " : Str) = [32] := by decide +kernel
theorem no_sp {z : Str} (h : Nm z) : 32 ∉ TL.tl z := fun q => absurd (h.2.2 _ q) (by decide +kernel)
theorem no_lf : 10 ∉ lets := by decide +kernel
section
variable {ρ : List Sl} {h h0 h1 g : Tb} {N : List Sl → Tb → Prop} {T : Ps W} {L : Bool → List Sl → Tb → Prop} {b n k i j len m : Nat} {d d0 d1 e0 : D} {cs ds zs : List Str} {P : W → Tb → Prop} {X : Str → List (Str × D) → Tb → Prop}
local macro_rules | `(tactic| walk_at "hv") => `(tactic| first | rfl | assumption | (exact (by assumption : _)))
local macro_rules | `(tactic| walk_at "p1") => `(tactic| first
  | with_reducible refine CM.okS_seq ?_ | with_reducible refine CM.okS_next ?_ | with_reducible refine CM.okS_asg ?_ | with_reducible refine CM.okS_ret ?_ | with_reducible refine CM.okS_drop ?_ | with_reducible refine CM.okS_aug ?_ | with_reducible refine CM.okS_cnt ?_ | with_reducible refine CM.okS_fg ?_ | with_reducible refine CM.okS_retN ?_
  | with_reducible refine CM.okE_op ?_ | with_reducible refine CM.okE_cb ?_ | with_reducible refine CM.okE_cons ?_ | with_reducible refine CM.okE_nil ?_ | with_reducible refine CM.okB_not ?_ | with_reducible refine CM.okE_c ?_ | with_reducible refine CM.okE_fr ?_ | with_reducible refine CM.okE_ce ?_ | with_reducible refine CM.okE_notV ?_ | with_reducible refine CM.okE_un ?_
  | with_reducible refine CM.okE_sl ?_ | with_reducible refine CM.okE_nopart ?_
  | ((with_reducible refine' CM.okE_var ?hv ?_); (case hv => rfl))
  | ((with_reducible refine' CM.okE_part (CM.okE_var ?hv ⟨_, ?hv2, ?_⟩)); (case hv => rfl); (case hv2 => rfl))
  | ((with_reducible refine' CM.okE_part (CM.okE_c ⟨_, ?hv2, ?_⟩)); (case hv2 => rfl))
  | ((with_reducible refine' CM.okW_eq (w := _) ?hv ?_); (case hv => (with_reducible rfl)))
  | ((with_reducible refine' CM.okW_deref ?hv ?_); (case hv => walk_at "hv")) | ((with_reducible refine' CM.okW_derefs ?hv ?_); (case hv => rfl)) | ((with_reducible refine' CM.okW_derefC ?hv ?_); (case hv => walk_at "hv")) | ((with_reducible refine' CM.okW_lstAt ?hv ?_); (case hv => walk_at "hv"))
  | with_reducible refine CM.w_add ?_ | with_reducible refine CM.w_sub ?_ | with_reducible refine CM.w_lt ?_ | with_reducible refine CM.w_le ?_ | with_reducible refine CM.w_gt ?_ | with_reducible refine CM.w_ge ?_ | with_reducible refine CM.w_addI ?_
  | with_reducible refine CM.w_mod (by omega) ?_ | with_reducible refine CM.w_div (by omega) (by rw [CM.big_eq]; omega) ?_ | with_reducible refine CM.w_mul (by rw [CM.big_eq]; omega) (by rw [CM.big_eq]; omega) (by rw [CM.big_eq]; omega) (by rw [CM.big_eq]; omega) ?_ | with_reducible refine CM.w_sq (by omega) (by omega) ?_
  | with_reducible refine CM.w_max2 ?_ | with_reducible refine CM.w_min2 ?_ | with_reducible refine CM.w_lenL ?_ | with_reducible refine CM.w_lenT ?_ | with_reducible refine CM.w_lenC ?_ | with_reducible refine CM.w_listL ?_ | with_reducible refine CM.w_listT ?_ | with_reducible refine CM.w_tupL ?_ | with_reducible refine CM.w_tupT ?_
  | ((with_reducible refine CM.okG_setC ?_); (try dsimp only [List.set, CM.fzW]))
  | ((with_reducible refine' CM.okW_ix ?hv ?_); (case hv => rfl))
  | ((with_reducible refine' CM.okB_test (CM.okE_eqn ⟨_, ?hv, ?_⟩)); (case hv => rfl))
  | ((with_reducible refine' CM.okB_testd ⟨_, ?hv, ?_⟩); (case hv => rfl)))
local macro_rules | `(tactic| walk_at "p") => `(tactic| repeat walk_at "p1")
theorem or_mem (ok : OrOk cs) {c : Nat} (h : c ∈ (orT cs).cps.toList) : c = 32 ∨ c ∈ lets := by
  have e : (orT cs).cps.toList = TL.joinL (TL.tl (" " : Str)) (cs.map TL.tl) := by
    unfold orT
    rw [TL.join_eq]
    exact TL.tl_join _ _
  rw [e, sp_tl] at h
  rcases joinL_mem h with h | ⟨l, hl, h⟩
  · exact .inl (List.mem_singleton.mp h)
  · obtain ⟨z, hz, rfl⟩ := List.mem_map.mp hl
    exact .inr ((ok.nm z hz).2.2 c h)
theorem or_len (ok : OrOk cs) : (orT cs).length ≤ 45 := by
  have := (join_sp ok.nm).1
  have := ok.len
  unfold orT
  omega
theorem or_asc (ok : OrOk cs) : Asc (orT cs) := (join_sp ok.nm).2
theorem or_split (ok : OrOk cs) : Txt.split (orT cs) " " = cs := TL.split_join sp_tl (by decide +kernel) ok.ne fun z hz => no_sp (ok.nm z hz)
theorem w_joinS {Q : W → Prop} (ok : OrOk cs) (q : Q (.cl (.str (orT cs)))) : okW (fJoin " " [.lst (LS cs)]) Q := by
  refine ⟨_, ?_, q⟩
  show ((strsOf (LS cs)).bind fun zs => if (zs.map (·.length)).sum + zs.length * ((" " : Str).length) ≤ 16777216 then some (W.cl (.str (Txt.join " " zs))) else none) = _
  rw [strsOf_map]
  show (if (cs.map (·.length)).sum + cs.length * ((" " : Str).length) ≤ 16777216 then some (W.cl (.str (Txt.join " " cs))) else none) = _
  have e : ∀ zs : List Str, (∀ z ∈ zs, Nm z) → (zs.map (·.length)).sum ≤ 8 * zs.length := fun zs => by
    induction zs with
    | nil => exact fun _ => Nat.le_refl _
    | cons z zs ih =>
      intro h
      rw [List.map_cons, List.sum_cons, List.length_cons]
      have := ih fun x hx => h x (List.mem_cons_of_mem _ hx)
      have h8 := (h z (List.mem_cons_self ..)).2.1
      rw [← SL.len_str] at h8
      omega
  have e1 := e cs ok.nm
  have e2 : ((" " : Str).length) = 1 := by decide +kernel
  have e3 := ok.len
  rw [if_pos (by rw [e2]; omega)]
  rfl
theorem order_str (ok : OrOk cs) (hd : deref h (.cl d0) = some (orD cs)) (p : P (.cl (.str (orT cs))) h) : okF (m_Order_D_str_D [d0] h) P X := by
  unfold m_Order_D_str_D
  refine okF_fn rfl ?_
  show okS (b_Order_D_str_D [.cl d0] h) _ _ _ _
  unfold b_Order_D_str_D
  exact okS_ret (okE_bs (okE_c ⟨(" " : Str), rfl, okE_cons (okE_fld (okE_var rfl ⟨_, _, hd, or_cols, okE_nil (okW_eq rfl (w_joinS ok (cut_same rfl p)))⟩))⟩))
theorem order_repr (ok : OrOk cs) (hd : deref h (.cl d0) = some (orD cs)) (p : ∀ z, P (.cl (.str z)) h) : okF (m_Order_D_repr_D [d0] h) P X := by
  unfold m_Order_D_repr_D
  refine okF_fn rfl ?_
  show okS (b_Order_D_repr_D [.cl d0] h) _ _ _ _
  unfold b_Order_D_repr_D
  have h5 := ok.len
  have g1 := good_names ok.nm (by omega)
  have b1 := PyData.shown_le_bulk 60 (by decide) _ g1.l
  have c1 := g1.b
  have e1 : (("Order(" : Str).length) = 6 := by decide +kernel
  have e3 : ((")" : Str).length) = 1 := by decide +kernel
  refine okS_ret (okE_js (okE_c ⟨_, ("Order(" : Str), rfl, rfl, by rw [emp_add]; omega, ?_⟩))
  refine okE_js (okE_cb (okE_cons (okE_fld (okE_var rfl ⟨_, _, hd, or_cols, okE_nil (okW_eq rfl (w_repr (pd_strs _) g1 (by omega) (by omega) fun l1 => ⟨_, _, rfl, rfl, by rw [emp_add, CM.len_add]; omega, ?_⟩))⟩))))
  refine okE_js (okE_c ⟨_, (")" : Str), rfl, rfl, by rw [emp_add, CM.len_add, CM.len_add]; omega, ?_⟩)
  exact okE_js0 (cut_same rfl (p _))
theorem split_ok (ok : OrOk cs) (p : P (.cl (.lst (LS cs))) h) : okF (m_split_words [.str (orT cs), .str " "] h) P X := by
  unfold m_split_words
  refine okF_fn rfl ?_
  show okS (b_split_words [.cl (.str (orT cs)), .cl (.str " "), .un] h) _ _ _ _
  unfold b_split_words
  have hl := or_len ok
  have nolf : decide (10 ∈ (orT cs).cps.toList) = false := decide_eq_false fun z => by
    rcases or_mem ok z with z | z
    · cases z
    · exact no_lf z
  have noE : decide (("" : Str) ∈ cs) = false := decide_eq_false fun z => absurd (ok.nm _ z).1 (by decide +kernel)
  refine okS_seq (okS_no (okB_or (okB_not (okB_tru (okE_cb (okE_cons (okE_var rfl (okE_cons (okE_c (okE_nil (okW_eq rfl (w_isi (k := .b "str") (decide_eq_true (rfl : ("str" : String) = "str")) rfl (by decide +kernel) ⟨_, true, rfl, ?_, (fun e => nomatch e), fun _ => ?_⟩))))))))))))
  · show some (decide (("str" : String) = "str") || (decide (("str" : String) = "bool") && decide (("str" : String) = "int"))) = some true
    rw [decide_eq_true rfl]
    rfl
  refine okB_test (okE_op (okE_c (okE_var rfl (okW_eq rfl (okW_eq rfl (w_in (c := decide (10 ∈ (orT cs).cps.toList)) rfl ⟨_, rfl, nolf, okS_next ?_⟩))))))
  refine okS_seq (okS_asg (okE_bs (okE_var rfl ⟨_, rfl, okE_cons (okE_var rfl (okE_nil (okW_eq rfl (w_split (by decide +kernel) (by omega) (okG_setC ?_)))))⟩)))
  rw [or_split ok]
  dsimp only [List.set, fzW]
  refine okS_ret (okE_if (okB_test (okE_op (okE_c (okE_var rfl (okW_eq rfl (okW_eq rfl (w_in dInB_L ⟨_, rfl, (fun e => ?_), fun _ => okE_var rfl (cut_same rfl p)⟩))))))))
  rw [noE] at e
  cases e
theorem parse_ok (ok : OrOk cs) (p : P (.nw (orD cs)) h) : okF (m_parse_order [.str (orT cs)] h) P X := by
  unfold m_parse_order
  refine okF_fn rfl ?_
  show okS (b_parse_order [.cl (.str (orT cs)), .un, .un] h) _ _ _ _
  unfold b_parse_order
  have h5 := ok.len
  refine okS_seq (okS_asg (okE_callD (okE_cons (okE_fr (okE_var rfl (okE_nil ⟨rfl, split_ok ok (okG_setC ?_)⟩))))))
  dsimp only [List.set, fzW]
  refine okS_seq (okS_no (okB_or (okB_test (okE_op (okE_var rfl (okE_c (okW_eq rfl (okW_eq rfl (okW_eq (w := .cl (.bl false)) rfl ⟨_, rfl, (fun e => nomatch e), fun _ => ?_⟩)))))))))
  refine okB_or (okB_test (okE_op (okE_cb (okE_cons (okE_var rfl (okE_nil (okW_eq rfl (w_lenL (okE_c (okW_eq rfl (okW_eq rfl (w_gt ⟨_, rfl, (fun e => ?_), fun _ => ?_⟩))))))))))))
  · have := of_decide_eq_true e
    rw [List.length_map] at this
    omega
  refine okB_not (okB_tru (okE_cb (okE_cons (okE_lc1 (ds := LS cs) (fun j h' acc => h' = h ∧ ∃ bs : List Bool, acc = bs.map .bl ∧ ∀ b ∈ bs, b = true) rfl ?_ ?_ ?_))))
  · exact okE_iU (okE_var rfl (okW_eq rfl (okW_eq rfl ⟨by rw [List.length_map]; omega, rfl, rfl, rfl, [], rfl, fun b z => absurd z List.not_mem_nil⟩)))
  · rintro j d h' acc hj ⟨rfl, bs, rfl, hb⟩
    obtain ⟨z, hz, rfl⟩ := strs_at hj
    refine okE_call (okE_cons (okE_fr (okE_var rfl (okE_nil (is_nm_ok ksok (ok.nm z (List.mem_of_getElem? hz)) ⟨rfl, rfl, bs ++ [true], by simp [fzW], fun b hb2 => ?_⟩)))))
    rcases List.mem_append.mp hb2 with hb2 | hb2
    · exact hb b hb2
    · exact List.mem_singleton.mp hb2
  · rintro h' acc ⟨rfl, bs, rfl, hb⟩
    refine okE_nil (okW_eq rfl (okW_eq (w := .cl (.bl true)) ?_ ⟨_, _, rfl, rfl, rfl, okS_next ?_⟩))
    · show (blsOf (bs.map .bl)).map (fun bs => W.cl (.bl (bs.all id))) = _
      rw [blsOf_map, Option.map_some]
      have : bs.all id = true := List.all_eq_true.mpr hb
      rw [this]
    refine okS_seq (okS_no (okB_test (okE_op (okE_lenSc (okE_iU (okE_var rfl (okW_eq rfl (okW_eq rfl ⟨by rw [List.length_map]; omega, rfl, by rw [List.length_map]; omega, ?_⟩))))))))
    refine okE_loopC0 (fun j ρ h acc => ρ = [.cl (.str (orT cs)), .cl (.lst (LS cs)), .un] ∧ h = h' ∧ acc = LS (cs.take j)) _ 0 ⟨rfl, rfl, rfl⟩ ?_ ?_
    · rintro j d ρ h2 acc hj ⟨rfl, rfl, rfl⟩
      obtain ⟨z, hz, rfl⟩ := strs_at hj
      obtain ⟨hj2, ez⟩ := List.getElem?_eq_some_iff.mp hz
      refine okG_setC ?_
      dsimp only [List.set, fzW]
      refine okE_eq rfl ⟨fun _ => okE_var rfl ⟨rfl, rfl, ?_⟩, (fun e => nomatch e)⟩
      rw [Nat.zero_add, List.take_succ_eq_append_getElem hj2, ez]
      simp
    · rintro ρ h2 acc ⟨rfl, rfl, rfl⟩
      rw [Nat.zero_add, List.length_map, List.take_of_length_le (Nat.le_refl _)]
      refine ⟨_, keysD_strs cs, ?_⟩
      have hn : ((cs.map Sum.inr : List L2.Key)).reverse.Nodup := by
        refine (List.reverse_perm _).nodup_iff.mpr ?_
        unfold List.Nodup
        rw [List.pairwise_map]
        exact ok.nd.imp fun hab e => hab (Sum.inr.inj e)
      rw [cntR_nodup hn, List.length_reverse, List.length_map]
      refine okE_cb (okE_cons (okE_var rfl (okE_nil (okW_eq rfl (w_lenL (okW_eq rfl (okW_eq rfl (w_lt ⟨_, rfl, ?_, okS_next ?_⟩))))))))
      · rw [List.length_map]
        exact decide_eq_false (by omega)
      exact okS_ret (okE_order (okE_cons (okE_fr (okE_var rfl (okE_nil ⟨_, _, cs, rfl, rfl, rfl, ok, cut_same rfl p⟩)))))
theorem good_asc {z : Str} {b : Nat} (h : Asc z) (hl : z.length ≤ b) : Good b 0 (.str z) := ⟨by simp [PyData.showable], by
  rw [PyData.leavesShort, List.all_eq_true]
  intro c hc
  have := h c hc
  rw [decide_eq_true_eq]
  omega, by
  rw [PyData.bulk]
  exact hl, by simp [PyData.depth]⟩
theorem good_len {n : Nat} (h : n ≤ 5) : Good 60 1 (.int (n : Int)) := by
  have : ∀ n : Fin 6, (PyData.shown (.int ((n : Nat) : Int))).length ≤ 60 ∧ (((n : Nat) : Int)).natAbs.log2 < 1920 := by decide +kernel
  obtain ⟨h1, h2⟩ := this ⟨n, by omega⟩
  exact ⟨by rw [PyData.showable]; exact decide_eq_true h2, by rw [PyData.leavesShort]; exact decide_eq_true h1, by simp [PyData.bulk], by simp [PyData.depth]⟩
theorem told_repr (ok : OrOk cs) : ∃ s, dRepr [.lst [.lst (LS cs), .int (cs.length : Nat), .str (orT cs)]] = some (.cl (.str s)) := by
  have hl := or_len ok
  have g1 : Good 60 1 (.list (cs.map PyData.str)) := good_cols ok.nm (by have := ok.len; omega)
  have g2 : Good 60 1 (.int (cs.length : Nat)) := good_len ok.len
  have g3 : Good 60 1 (.str (orT cs)) := (good_asc (b := 60) (or_asc ok) (by omega)).mono (by omega) (by omega)
  obtain ⟨w, e, s, rfl⟩ : okW (dRepr [.lst [.lst (LS cs), .int (cs.length : Nat), .str (orT cs)]]) fun w => ∃ s, w = .cl (.str s) := by
    refine w_repr (x := .list [.list (cs.map PyData.str), .int (cs.length : Nat), .str (orT cs)]) (b := 1600) (k := 2) ?_ ?_ (by omega) (by omega) fun _ => ⟨_, rfl⟩
    · have e : pd (.int (cs.length : Nat)) = some (.int (cs.length : Nat)) := by simp only [pd]
      rw [pd_lst]
      simp only [pds, pd_strs, pd_lit, e, Option.bind_some, Option.map_some]
    · refine (good_list (b := 60) (k := 1) fun x hx => ?_).mono (by simp) (by omega)
      simp only [List.mem_cons, List.not_mem_nil, or_false] at hx
      rcases hx with rfl | rfl | rfl
      · exact g1
      · exact g2
      · exact g3
  exact ⟨s, e⟩
theorem snap_told {k : Nat} {z : Str} {i : Int} (e : h[k]? = some (.lst (LS zs))) : snapV h (.nw (.lst [.ce k, .int i, .str z])) = some (.lst [.lst (LS zs), .int i, .str z]) := by
  have e2 : snapW (fun k => (h[k]?).bind (snapN h 5)) (.ce k) = some (.lst (LS zs)) := by
    simp only [snapW, e, Option.bind_some]
    show snapW (fun k => (h[k]?).bind (snapN h 4)) (.lst (LS zs)) = _
    simp only [snapW, snapWs_strs, Option.map_some]
  show snapW (fun k => (h[k]?).bind (snapN h 5)) (.lst [.ce k, .int i, .str z]) = _
  rw [snapW, snapWs, snapWs, snapWs, snapWs, e2]
  simp only [snapW, Option.bind_some, Option.map_some]
theorem told_ok (ok : OrOk cs) (p : P (.cl (.bl true)) h) : okF (m_l_law_told_right [orD cs, .lst (LS cs)] h) P X := by
  unfold m_l_law_told_right
  refine okF_fn rfl ?_
  show okS (b_l_law_told_right [.cl (orD cs), .cl (.lst (LS cs)), .un, .un] h) _ _ _ _
  unfold b_l_law_told_right
  have h5 := ok.len
  obtain ⟨s, hs⟩ := told_repr ok
  refine okS_seq (okS_for (okE_rng1 (okE_cons (okE_c (okE_nil (okW_eq rfl ⟨_, rfl, by decide, by decide, ?_⟩))))))
  refine okS_loop0 (fun j ρ h' => ∃ g s2 s3, ρ = [.cl (orD cs), .cl (.lst (LS cs)), s2, s3] ∧ h' = h ++ g) _ 0 ⟨[], _, _, rfl, (List.append_nil _).symm⟩ ?_ ?_
  · rintro j d ρ h' hj ⟨g, s2, s3, rfl, rfl⟩
    refine okG_setC ?_
    dsimp only [List.set, fzW]
    refine okS_seq (okS_asg (okE_meth (okE_var rfl ⟨_, rfl, rfl, okE_nil (order_columns rfl (okG_set ?_))⟩)))
    dsimp only [List.set]
    have hc : (h ++ g ++ [D.lst (LS cs)])[(h ++ g).length]? = some (.lst (LS cs)) := tail_at0 rfl
    refine okS_seq (okS_no (okB_test (okE_op (okE_cbS (okE_cons (okE_lst (okE_cons (okE_var rfl (okE_cons (okE_lenO (z := (cs.length : Nat)) ⟨by omega, by omega⟩ (okE_cons (okE_var rfl (okE_nil ⟨_, _, rfl, rfl, order_len rfl ⟨rfl, ?_⟩⟩)))))))))))))
    refine okE_cons (okE_strO (z := orT cs) (okE_cons (okE_var rfl (okE_nil ⟨_, _, rfl, rfl, order_str ok rfl ⟨rfl, okE_nil ⟨Nat.le_of_ble_eq_true rfl, okE_nil ?_⟩⟩⟩))))
    refine okW_snap1 (snap_told hc) ⟨_, hs, rfl, ?_⟩
    refine okE_cb (okE_cons (okE_lst (okE_cons (okE_var rfl (okE_cons (okE_cb (okE_cons (okE_var rfl (okE_nil (okW_eq rfl (w_lenL (okE_cons (okE_bs (okE_c ⟨(" " : Str), rfl, okE_cons (okE_var rfl (okE_nil (okW_eq rfl (w_joinS ok (okE_nil ⟨Nat.le_of_ble_eq_true rfl, okE_nil (okW_eq rfl ?_)⟩)))))⟩))))))))))))))
    dsimp only [List.map, fzW]
    rw [List.length_map]
    refine ⟨_, hs, okW_eq rfl (okW_eq rfl (ne_same ⟨_, rfl, by rw [decide_eq_true rfl]; rfl, okS_next ?_⟩))⟩
    refine okS_drop (okE_mut (okE_var rfl (okW_lstAt hc (okE_cons (okE_c (okE_nil (okW_lstAt hc (w_append (by rw [List.length_map]; omega) ?_))))))))
    rw [tail_set0 rfl, List.append_assoc]
    exact ⟨_, _, _, rfl, rfl⟩
  · rintro ρ h' ⟨g, s2, s3, rfl, rfl⟩
    refine okS_ret (okE_cb (okE_cons (okE_strA (okE_cons (okE_var rfl (okE_nil ⟨_, _, rfl, rfl, order_repr ok rfl fun z => ⟨z, rfl, ?_⟩⟩))))))
    refine okE_cons (okE_c (okE_nil (okW_eq rfl (w_isi (k := .b "str") (decide_eq_true (rfl : ("str" : String) = "str")) rfl (by decide +kernel) ?_))))
    have e : insK (.b "str") (.ty "str") = true := by
      show (decide (("str" : String) = "str") || (decide (("str" : String) = "bool") && decide (("str" : String) = "int"))) = true
      rw [decide_eq_true rfl]
      rfl
    rw [e]
    exact cut_app rfl okCut_refl (fun _ z => by cases z) below_bl p
end
end K10
namespace K10
open PySem PySem.Spec PyProof.Rows L2 SL CM
abbrev LLs (zss : List (List Str)) : List D := zss.map fun zs => .lst (LS zs)
abbrev abc : List Str := [S [97], S [98], S [99], S [100], S [101], S [102]]
theorem abc_nm : ∀ z ∈ abc, Nm z := fun z hz => nmB_iff.mp (by
  have : ∀ z ∈ abc, nmB z = true := by decide +kernel
  exact this z hz)
theorem abc_nd : abc.Nodup := by decide +kernel
theorem sub_len {α : Type} : ∀ {xs ys : List α}, xs.Nodup → (∀ x ∈ xs, x ∈ ys) → xs.length ≤ ys.length
  | [], _, _, _ => Nat.zero_le _
  | x :: xs, ys, hn, hs => by
    obtain ⟨a, b, rfl⟩ := List.append_of_mem (hs x (List.mem_cons_self ..))
    have hn := List.nodup_cons.mp hn
    have ih := sub_len (xs := xs) (ys := a ++ b) hn.2 fun y hy => by
      have := hs y (List.mem_cons_of_mem _ hy)
      simp only [List.mem_append, List.mem_cons] at this ⊢
      rcases this with z | z | z
      · exact .inl z
      · exact absurd (z ▸ hy) hn.1
      · exact .inr z
    rw [List.length_append] at ih
    rw [List.length_cons, List.length_append, List.length_cons]
    omega
section
variable {cs ds zs : List Str} {f : Str} {v : Nat}
theorem fresh_ex (ok : OrOk cs) : ∃ f F, abc.filter (fun z => !decide (z ∈ cs)) = f :: F ∧ f ∉ cs ∧ Nm f := by
  cases h : abc.filter (fun z => !decide (z ∈ cs)) with
  | nil =>
    have hs : ∀ z ∈ abc, z ∈ cs := fun z hz => Classical.byContradiction fun n => by
      have : z ∈ abc.filter (fun z => !decide (z ∈ cs)) := List.mem_filter.mpr ⟨hz, by simpa using n⟩
      rw [h] at this
      cases this
    have a := sub_len abc_nd hs
    have b := ok.len
    have : abc.length = 6 := rfl
    omega
  | cons f F =>
    have hm : f ∈ abc.filter (fun z => !decide (z ∈ cs)) := by
      rw [h]
      exact List.mem_cons_self ..
    obtain ⟨h1, h2⟩ := List.mem_filter.mp hm
    exact ⟨f, F, rfl, by simpa using h2, abc_nm f h1⟩
theorem or_perm (ok : OrOk cs) (p : ds.Perm cs) : OrOk ds where
  ne := fun z => ok.ne (by
    subst z
    exact List.nil_perm.mp p)
  len := by rw [p.length_eq]; exact ok.len
  nd := p.nodup_iff.mpr ok.nd
  nm := fun z hz => ok.nm z (p.mem_iff.mp hz)
theorem rev_ne (ok : OrOk cs) (h : 1 < cs.length) : cs.reverse ≠ cs := fun e => by
  have h0 : cs[0]? = cs[cs.length - 1]? := by
    have := List.getElem?_reverse (l := cs) (i := 0) (by omega)
    rw [e, Nat.sub_zero] at this
    exact this
  rw [List.getElem?_eq_getElem (by omega), List.getElem?_eq_getElem (by omega)] at h0
  exact List.pairwise_iff_getElem.mp ok.nd 0 (cs.length - 1) (by omega) (by omega) (by omega) (Option.some.inj h0)
theorem take_or (ok : OrOk cs) (h : 1 < cs.length) : OrOk (cs.take (cs.length - 1)) ∧ cs.take (cs.length - 1) ≠ cs := by
  have hl : (cs.take (cs.length - 1)).length = cs.length - 1 := by rw [List.length_take]; omega
  refine ⟨⟨fun z => ?_, by have := ok.len; omega, ok.nd.sublist (List.take_sublist _ _), fun z hz => ok.nm z (List.mem_of_mem_take hz)⟩, fun z => ?_⟩
  · rw [z] at hl
    simp at hl
    omega
  · rw [z] at hl
    omega
theorem swap_or (ok : OrOk cs) (h : v + 1 < cs.length) : OrOk (cs.take v ++ ((cs.drop v).take 2).reverse ++ cs.drop (v + 2)) ∧ cs.take v ++ ((cs.drop v).take 2).reverse ++ cs.drop (v + 2) ≠ cs := by
  have e1 : cs.drop v = cs[v] :: cs[v + 1] :: cs.drop (v + 2) := by
    rw [List.drop_eq_getElem_cons (by omega), List.drop_eq_getElem_cons (by omega)]
  have e2 : ((cs.drop v).take 2).reverse = [cs[v + 1], cs[v]] := by
    rw [e1]
    rfl
  rw [e2]
  refine ⟨or_perm ok ?_, fun z => ?_⟩
  · have : cs = cs.take v ++ ([cs[v], cs[v + 1]] ++ cs.drop (v + 2)) := by
      conv => lhs; rw [← List.take_append_drop v cs, e1]
      rfl
    conv => rhs; rw [this]
    rw [List.append_assoc]
    exact List.Perm.append_left _ (List.Perm.append_right _ (List.Perm.swap _ _ _))
  · have hv : (cs.take v ++ [cs[v + 1], cs[v]] ++ cs.drop (v + 2))[v]? = some cs[v + 1] := by
      have hl : (cs.take v).length = v := by rw [List.length_take]; omega
      rw [List.append_assoc, List.getElem?_append_right (by omega), hl, Nat.sub_self]
      rfl
    rw [z, List.getElem?_eq_getElem (by omega)] at hv
    exact List.pairwise_iff_getElem.mp ok.nd v (v + 1) (by omega) (by omega) (by omega) (Option.some.inj hv)
theorem snoc_or (ok : OrOk cs) (h : cs.length < 5) (h1 : f ∉ cs) (h2 : Nm f) : OrOk (cs ++ [f]) ∧ cs ++ [f] ≠ cs := by
  refine ⟨⟨by simp, by rw [List.length_append, List.length_singleton]; omega, ?_, fun z hz => ?_⟩, fun z => ?_⟩
  · rw [List.nodup_append]
    refine ⟨ok.nd, List.nodup_cons.mpr ⟨List.not_mem_nil, List.Pairwise.nil⟩, fun a ha b hb e => ?_⟩
    rw [List.mem_singleton.mp hb] at e
    exact h1 (e ▸ ha)
  · rcases List.mem_append.mp hz with hz | hz
    · exact ok.nm z hz
    · rw [List.mem_singleton.mp hz]
      exact h2
  · have := congrArg List.length z
    simp at this
theorem put_or (ok : OrOk cs) (h : v < cs.length) (h1 : f ∉ cs) (h2 : Nm f) : OrOk (cs.take v ++ [f] ++ cs.drop (v + 1)) ∧ cs.take v ++ [f] ++ cs.drop (v + 1) ≠ cs := by
  have e1 : cs.take v ++ [f] ++ cs.drop (v + 1) = cs.set v f := by
    rw [List.set_eq_take_append_cons_drop, if_pos h, List.append_assoc]
    rfl
  have hm : f ∈ cs.set v f := List.mem_set h f
  have hsub : ∀ z ∈ cs.set v f, z = f ∨ z ∈ cs := fun z hz => (List.mem_or_eq_of_mem_set hz).symm
  rw [e1]
  refine ⟨⟨fun z => ?_, by rw [List.length_set]; exact ok.len, ?_, fun z hz => ?_⟩, fun z => ?_⟩
  · rw [z] at hm
    cases hm
  · rw [← e1, List.append_assoc]
    have hd : cs = cs.take v ++ cs.drop v := (List.take_append_drop v cs).symm
    have hn := ok.nd
    have p : (cs.take v ++ ([f] ++ cs.drop (v + 1))).Perm (f :: (cs.take v ++ cs.drop (v + 1))) := List.perm_middle
    refine p.nodup_iff.mpr (List.nodup_cons.mpr ⟨fun z => ?_, ?_⟩)
    · rcases List.mem_append.mp z with z | z
      · exact h1 (List.mem_of_mem_take z)
      · exact h1 (List.mem_of_mem_drop z)
    · refine hn.sublist ?_
      conv => rhs; rw [hd]
      refine List.Sublist.append_left ?_ _
      rw [List.drop_eq_getElem_cons h]
      exact List.sublist_cons_self _ _
  · rcases hsub z hz with rfl | hz
    · exact h2
    · exact ok.nm z hz
  · rw [z] at hm
    exact h1 hm
end
section
variable {Q : W → Prop} {zs ws : List Str} {a b : Nat} {zss wss : List (List Str)}
theorem w_slTake (q : Q (W.fr (LS (zs.take a)))) : okW (dSl (.lst (LS zs)) none (some (a : Int))) Q := w_sl (by rw [cut_take, ← List.map_take]; exact q)
theorem w_slDrop (q : Q (W.fr (LS (zs.drop a)))) : okW (dSl (.lst (LS zs)) (some (a : Int)) none) Q := w_sl (by rw [cut_drop, ← List.map_drop]; exact q)
theorem w_slMid (q : Q (W.fr (LS ((zs.drop a).take (b - a))))) : okW (dSl (.lst (LS zs)) (some (a : Int)) (some (b : Int))) Q := w_sl (by rw [cut_mid, ← List.map_drop, ← List.map_take]; exact q)
theorem w_addLLs (h : zss.length + wss.length ≤ 100000) (q : Q (W.fr (LLs (zss ++ wss)))) : okW (dAdd (.lst (LLs zss)) (.lst (LLs wss))) Q := by
  refine ⟨_, ?_, q⟩
  show (if (LLs zss).length + (LLs wss).length ≤ 100000 then some (W.fr (LLs zss ++ LLs wss)) else none) = _
  rw [List.length_map, List.length_map, if_pos h]
  show some (W.fr (LLs zss ++ LLs wss)) = some (W.fr (LLs (zss ++ wss)))
  rw [show LLs (zss ++ wss) = LLs zss ++ LLs wss from List.map_append ..]
end
end K10
namespace K10
open PySem PySem.Spec PyProof.Rows L2 SL CM
abbrev blF (cs : List Str) : List (Str × D) := [(("own_parts" : Str), .lst [.lst (LS (sortS cs))])]
def blD (cs : List Str) : D := .ins "Blocks" (blF cs)
section
variable {ρ : List Sl} {h h0 h1 g : Tb} {N : List Sl → Tb → Prop} {T : Ps W} {L : Bool → List Sl → Tb → Prop} {b n k i j len m : Nat} {d d0 d1 e0 : D} {cs ds zs : List Str} {P : W → Tb → Prop} {X : Str → List (Str × D) → Tb → Prop}
local macro_rules | `(tactic| walk_at "hv") => `(tactic| first | rfl | assumption | (exact (by assumption : _)))
local macro_rules | `(tactic| walk_at "p1") => `(tactic| first
  | with_reducible refine CM.okS_seq ?_ | with_reducible refine CM.okS_next ?_ | with_reducible refine CM.okS_asg ?_ | with_reducible refine CM.okS_ret ?_ | with_reducible refine CM.okS_drop ?_ | with_reducible refine CM.okS_aug ?_ | with_reducible refine CM.okS_cnt ?_ | with_reducible refine CM.okS_fg ?_ | with_reducible refine CM.okS_retN ?_
  | with_reducible refine CM.okE_op ?_ | with_reducible refine CM.okE_cb ?_ | with_reducible refine CM.okE_cons ?_ | with_reducible refine CM.okE_nil ?_ | with_reducible refine CM.okB_not ?_ | with_reducible refine CM.okE_c ?_ | with_reducible refine CM.okE_fr ?_ | with_reducible refine CM.okE_ce ?_ | with_reducible refine CM.okE_notV ?_ | with_reducible refine CM.okE_un ?_
  | with_reducible refine CM.okE_sl ?_ | with_reducible refine CM.okE_nopart ?_
  | ((with_reducible refine' CM.okE_var ?hv ?_); (case hv => rfl))
  | ((with_reducible refine' CM.okE_part (CM.okE_var ?hv ⟨_, ?hv2, ?_⟩)); (case hv => rfl); (case hv2 => rfl))
  | ((with_reducible refine' CM.okE_part (CM.okE_c ⟨_, ?hv2, ?_⟩)); (case hv2 => rfl))
  | ((with_reducible refine' CM.okW_eq (w := _) ?hv ?_); (case hv => (with_reducible rfl)))
  | ((with_reducible refine' CM.okW_deref ?hv ?_); (case hv => walk_at "hv")) | ((with_reducible refine' CM.okW_derefs ?hv ?_); (case hv => rfl)) | ((with_reducible refine' CM.okW_derefC ?hv ?_); (case hv => walk_at "hv")) | ((with_reducible refine' CM.okW_lstAt ?hv ?_); (case hv => walk_at "hv"))
  | with_reducible refine CM.w_add ?_ | with_reducible refine CM.w_sub ?_ | with_reducible refine CM.w_lt ?_ | with_reducible refine CM.w_le ?_ | with_reducible refine CM.w_gt ?_ | with_reducible refine CM.w_ge ?_ | with_reducible refine CM.w_addI ?_
  | with_reducible refine CM.w_mod (by omega) ?_ | with_reducible refine CM.w_div (by omega) (by rw [CM.big_eq]; omega) ?_ | with_reducible refine CM.w_mul (by rw [CM.big_eq]; omega) (by rw [CM.big_eq]; omega) (by rw [CM.big_eq]; omega) (by rw [CM.big_eq]; omega) ?_ | with_reducible refine CM.w_sq (by omega) (by omega) ?_
  | with_reducible refine CM.w_max2 ?_ | with_reducible refine CM.w_min2 ?_ | with_reducible refine CM.w_lenL ?_ | with_reducible refine CM.w_lenT ?_ | with_reducible refine CM.w_lenC ?_ | with_reducible refine CM.w_listL ?_ | with_reducible refine CM.w_listT ?_ | with_reducible refine CM.w_tupL ?_ | with_reducible refine CM.w_tupT ?_
  | ((with_reducible refine CM.okG_setC ?_); (try dsimp only [List.set, CM.fzW]))
  | ((with_reducible refine' CM.okW_ix ?hv ?_); (case hv => rfl))
  | ((with_reducible refine' CM.okB_test (CM.okE_eqn ⟨_, ?hv, ?_⟩)); (case hv => rfl))
  | ((with_reducible refine' CM.okB_testd ⟨_, ?hv, ?_⟩); (case hv => rfl)))
local macro_rules | `(tactic| walk_at "p") => `(tactic| repeat walk_at "p1")
theorem parts_made (ok : OrOk cs) (p : P (.nw (.lst [.lst (LS (sortS cs))])) h) : okF (m_checked_parts [.lst [.lst (LS cs)]] h) P X := by
  unfold m_checked_parts
  refine okF_fn rfl ?_
  show okS (b_checked_parts [.cl (.lst [.lst (LS cs)]), .un, .un, .un, .un] h) _ _ _ _
  unfold b_checked_parts
  have h5 := ok.len
  have hl : (LS cs).length = cs.length := List.length_map ..
  have h1 : 1 ≤ cs.length := List.length_pos_iff.mpr ok.ne
  have seq1 : deref h (.cl (.lst [.lst (LS cs)])) = some (.lst [.lst (LS cs)]) := rfl
  refine okS_seq (okS_no (okB_or (okB_not (okB_tru (okE_call (okE_cons (okE_fr (okE_var rfl (okE_nil (is_list_ok (k := .b "list") rfl rfl (by decide +kernel) ⟨_, true, rfl, ?_, (fun e => nomatch e), fun _ => ?_⟩))))))))))
  · show dTru (.bl ((decide (("list" : String) = "list") || (decide (("list" : String) = "bool") && decide (("list" : String) = "int"))) || _)) = some true
    rw [decide_eq_true rfl]
    rfl
  refine okB_not (okB_test (okE_chain (okE_c (okE_cb (okE_cons (okE_var rfl (okE_nil (okW_eq rfl (w_lenL (okW_eq rfl (okW_eq rfl ⟨true, rfl, fun _ => ?_, (fun e => nomatch e)⟩)))))))))))
  refine okE_c (okW_eq rfl (okW_eq rfl (w_le ⟨_, rfl, rfl, okS_next ?_⟩)))
  refine okS_seq (okS_par (okE_cons (okE_eq (w := W.fr []) rfl (okE_cons (okE_eq (w := W.fr []) rfl (okE_nil ⟨_, _, rfl, ?_⟩))))))
  show okS _ _ _ _ _
  dsimp only [gPut, List.set]
  rw [List.append_assoc, List.length_append, List.length_singleton]
  dsimp only [List.cons_append, List.nil_append]
  refine okS_seq (okS_for (okE_iU (okE_var rfl (okW_eq rfl (okW_eq rfl ⟨Nat.le_of_ble_eq_true rfl, ?_⟩)))))
  show okS (loopS _ _ [] [.lst (LS cs)] _ _) _ _ _ _
  refine okS_loop_cons (okG_setC ?_)
  dsimp only [List.set, fzW]
  refine okS_seq (okS_no (okB_or (okB_not (okB_tru (okE_call (okE_cons (okE_fr (okE_var rfl (okE_nil (is_seq_ok ksok rfl rfl ⟨.bl true, true, rfl, rfl, (fun e => nomatch e), fun _ => ?_⟩))))))))))
  refine okB_test (okE_op (okE_cb (okE_cons (okE_var rfl (okE_nil (okW_eq rfl (w_lenL (okE_c (okW_eq rfl (okW_eq rfl (w_eqi ⟨_, rfl, decide_eq_false (by omega), okS_next ?_⟩)))))))))))
  refine okS_seq (okS_for (okE_iU (okE_var rfl (okW_eq rfl (okW_eq rfl ⟨by omega, ?_⟩)))))
  show okS (loopS _ _ [] (LS cs) _ _) _ _ _ _
  refine okS_loop0 (fun j ρ h' => h' = h ++ [.lst [], .lst (LS (cs.take j))] ∧ ∃ s4, ρ = [.cl (.lst [.lst (LS cs)]), .cl (.ce h.length), .cl (.ce (h.length + 1)), .cl (.lst (LS cs)), s4]) _ 0 ⟨rfl, _, rfl⟩ ?_ ?_
  · rintro j d ρ h' hj ⟨rfl, s4, rfl⟩
    obtain ⟨z, hz, rfl⟩ := strs_at hj
    have hm : z ∈ cs := List.mem_of_getElem? hz
    obtain ⟨hj2, ez⟩ := List.getElem?_eq_some_iff.mp hz
    rw [Nat.zero_add]
    refine okG_setC ?_
    dsimp only [List.set, fzW]
    refine okS_seq (okS_no (okB_not (okB_tru (okE_call (okE_cons (okE_fr (okE_var rfl (okE_nil (is_nm_ok ksok (ok.nm z hm) ⟨.bl true, true, rfl, rfl, rfl, okS_next ?_⟩)))))))))
    have hc : (h ++ [D.lst [], .lst (LS (cs.take j))])[h.length + 1]? = some (.lst (LS (cs.take j))) := tail_at (i := 1) rfl
    refine okS_seq (okS_no (okB_test (okE_op (okE_var rfl (okE_var rfl (okW_eq rfl (okW_eq hc (w_in dInB_L ⟨_, rfl, decide_eq_false (nodup_take ok.nd hz), okS_next ?_⟩))))))))
    refine okS_drop (okE_mut (okE_var rfl (okW_lstAt hc (okE_cons (okE_var rfl (okE_nil (okW_lstAt hc (w_append (by rw [List.length_map, List.length_take]; omega) ⟨?_, _, rfl⟩))))))))
    rw [tail_set rfl, List.take_succ_eq_append_getElem hj2, ez]
    simp [fzW]
  · rintro ρ h' ⟨rfl, s4, rfl⟩
    rw [Nat.zero_add, hl, List.take_of_length_le (Nat.le_refl _)]
    have hc : (h ++ [D.lst [], .lst (LS cs)])[h.length]? = some (.lst []) := tail_at0 rfl
    refine okS_drop (okE_mut (okE_var rfl (okW_lstAt hc (okE_cons (okE_cb (okE_cons (okE_var rfl (okE_nil (okW_eq rfl (w_srt (by omega) (okE_nil (okW_lstAt hc (w_append (by show (0 : Nat) < 100000; decide) ?_)))))))))))))
    rw [tail_set0 rfl]
    refine okS_loop_nil ?_
    have hc2 : (h ++ ([D.lst [], .lst (LS cs)]).set 0 (.lst ([] ++ [fzW (W.fr (LS (sortS cs)))])))[h.length + 1]? = some (.lst (LS cs)) := tail_at (i := 1) rfl
    refine okS_seq (okS_no (okB_test (okE_op (okE_cb (okE_cons (okE_var rfl (okE_nil (okW_derefC hc2 (w_lenL (okE_c (okW_eq rfl (okW_eq rfl (w_gt ⟨_, rfl, decide_eq_false (by omega), okS_next ?_⟩)))))))))))))
    refine okS_ret (okE_var rfl (cut_own (h1 := h) (g := [.lst [.lst (LS (sortS cs))], .lst (LS cs)]) rfl okCut_refl (Nat.le_refl _) (tail_at0 rfl) ?_ p))
    rw [below_lst]
    simp [below_strs]
theorem blocks_init (hs : h[n]? = some (.ins "Blocks" [])) (ok : OrOk cs) (p : P (.cl .non) (h.set n (blD cs))) : okF (m_Blocks_D_init_D [.ce n, .lst [.lst (LS cs)]] h) P X := by
  unfold m_Blocks_D_init_D
  refine okF_fn rfl ?_
  show okS (b_Blocks_D_init_D [.cl (.ce n), .cl (.lst [.lst (LS cs)])] h) _ _ _ _
  unfold b_Blocks_D_init_D
  refine okS_fld (okE_call (okE_cons (okE_fr (okE_var rfl (okE_nil (parts_made ok ?_))))))
  exact okE_var rfl (okW_eq (insAt_eq hs) ⟨by show (0 : Nat) < 1000; decide, cut_same (by rw [List.length_set]) p⟩)
theorem below_blD (cs : List Str) : below k (blD cs) = true := by
  show below k (.ins "Blocks" (blF cs)) = true
  rw [below_ins]
  have h1 : below k (.lst [.lst (LS (sortS cs))]) = true := by
    rw [below_lst]
    simp [below_strs]
  simp [h1]
theorem okE_blocks {P : Ps W} {X : Px} {es : Mo (List W)} {dvs : List D} (q : okE (es ρ h) (fun ws ρ h => ∃ cs, ws.map fzW ++ dvs = [.lst [.lst (LS cs)]] ∧ OrOk cs ∧ P (.nw (blD cs)) ρ h) X) : okE (mMake false "Blocks" m_Blocks_D_init_D dvs es ρ h) P X := okE_make (q.mono fun ws ρ h q => by
  obtain ⟨cs, e, ok, p⟩ := q
  rw [e]
  refine blocks_init (tail_at0 rfl) ok ⟨rfl, ?_⟩
  rw [List.set_append_right _ _ (Nat.le_refl _), Nat.sub_self]
  exact cut_own (h1 := h) (g := [blD cs]) rfl okCut_refl (Nat.le_refl _) (tail_at0 rfl) (below_blD cs) p)
theorem blocks_eq_odd {k : Kd} (hd1 : deref h (.cl d1) = some e0) (hk : kd e0.u = some k) (hx : k ∈ KS) (hn : k ≠ .own "Blocks") (p : P (.cl (.bl false)) h) : okF (m_Blocks_D_eq_D [d0, d1] h) P X := by
  unfold m_Blocks_D_eq_D
  refine okF_fn rfl ?_
  show okS (b_Blocks_D_eq_D [.cl d0, .cl d1] h) _ _ _ _
  unfold b_Blocks_D_eq_D
  have hi : insK k (.own "Blocks") = false := by
    have : ∀ k ∈ KS, k ≠ .own "Blocks" → insK k (.own "Blocks") = false := by decide +kernel
    exact this k hx hn
  refine okS_ret (okE_andV (okB_test (okE_cb (okE_cons (okE_var rfl (okE_cons (okE_c (okE_nil (okW_d2 hd1 rfl (w_isi (k := k) rfl hk hx ⟨_, rfl, fun e => ?_, fun e => cut_same rfl p⟩))))))))))
  rw [hi] at e
  cases e
def Gd (cs : List Str) (zss : List (List Str)) : Prop := ∀ ds ∈ zss, OrOk ds ∧ ds ≠ cs
theorem Gd.app {cs : List Str} {a b : List (List Str)} (h1 : Gd cs a) (h2 : Gd cs b) : Gd cs (a ++ b) := fun ds hd => (List.mem_append.mp hd).elim (h1 ds) (h2 ds)
theorem below_LLs {k : Nat} (zss : List (List Str)) : below k (.lst (LLs zss)) = true := by
  rw [below_lst, List.all_eq_true]
  intro d hd
  obtain ⟨z, _, rfl⟩ := List.mem_map.mp hd
  exact below_strs z
theorem cut_most {α : Type} (xs : List α) : cutL xs none (some (-1)) = xs.take (xs.length - 1) := by
  unfold cutL
  rw [HT.sIx_none, List.drop_zero, Nat.sub_zero]
  congr 1
  show ((-1 : Int) + (xs.length : Int)).toNat = xs.length - 1
  omega
abbrev frT (b : Nat) (cs : List Str) (f : Str) (k : Nat) (s4 s5 : Sl) : List Sl := [.cl (.ce b), .cl (.lst (LS cs)), .cl (.lst (LS [f])), .cl (.ce k), s4, s5, .un]
theorem others_ok (t : Tk m_l_law_take) (hb : Bx b n h0 h) (hn : n ≤ 20000000) (ok : OrOk cs) (q : ∀ zss h2, Gd cs zss → zss.length ≤ 5 → Bx b (n + 2) h0 h2 → P (W.fr (LLs zss)) h2) : okF (m_l_law_others [.ce b, .lst (LS cs)] h) P X := by
  unfold m_l_law_others
  refine okF_fn rfl ?_
  show okS (b_l_law_others [.cl (.ce b), .cl (.lst (LS cs)), .un, .un, .un, .un, .un] h) _ _ _ _
  unfold b_l_law_others
  have h5 := ok.len
  have h1 : 1 ≤ cs.length := List.length_pos_iff.mpr ok.ne
  have hl : (LS cs).length = cs.length := List.length_map ..
  have hbs := hb.self
  obtain ⟨f, F, hF, hf1, hf2⟩ := fresh_ex ok
  have eabc : ("abcdef" : Str) = S [97, 98, 99, 100, 101, 102] := by decide +kernel
  refine okS_seq (okS_asg (okE_sl (okE_lcF (ds := LS abc) (fun j h' acc => h' = h ∧ acc = LS ((abc.take j).filter fun z => !decide (z ∈ cs))) rfl ?_ ?_ ?_)))
  · refine okE_iU (okE_c (okW_eq rfl (okW_eq (w := LS abc) ?_ ⟨Nat.le_of_ble_eq_true rfl, rfl, rfl, rfl, rfl⟩)))
    rw [eabc]
    rfl
  · rintro j d h' acc hj ⟨rfl, rfl⟩
    obtain ⟨z, hz, rfl⟩ := strs_at hj
    obtain ⟨hj2, ez⟩ := List.getElem?_eq_some_iff.mp hz
    have et : (abc.take (j + 1)).filter (fun z => !decide (z ∈ cs)) = (abc.take j).filter (fun z => !decide (z ∈ cs)) ++ (if !decide (z ∈ cs) then [z] else []) := by
      rw [List.take_succ_eq_append_getElem hj2, ez, List.filter_append]
      congr 1
      by_cases k : z ∈ cs <;> simp [k]
    refine okB_test (okE_op (okE_var rfl (okE_var rfl (okW_eq rfl (okW_eq rfl (w_niL ⟨_, rfl, rfl, fun e => okE_var rfl ⟨rfl, rfl, ?_⟩, fun e => ⟨rfl, ?_⟩⟩))))))
    · rw [et, e]
      simp [fzW]
    · rw [et, e]
      simp
  rintro h' acc ⟨eh, rfl⟩
  subst h'
  have e6 : (LS abc).length = abc.length := List.length_map ..
  rw [e6, List.take_of_length_le (Nat.le_refl _), hF]
  refine okE_nopart (okE_part (okE_c ⟨((1 : Nat) : Int), rfl, okW_eq rfl (w_slTake (okG_setC ?_))⟩))
  dsimp only [List.set, fzW]
  refine okS_seq (okS_asg (okE_lst (okE_nil ⟨Nat.le_of_ble_eq_true rfl, okG_set ?_⟩)))
  dsimp only [List.set, List.map]
  -- more than one column
  refine okS_seqM (fun ρ h' => ∃ (zss : List (List Str)) (h1 g : Tb) (k : Nat) (s4 s5 : Sl), ρ = frT b cs f k s4 s5 ∧ h' = h1 ++ g ∧ Bx b (n + 1) h h1 ∧ h.length ≤ k ∧ (h1 ++ g)[k]? = some (.lst (LLs zss)) ∧ Gd cs zss ∧ zss.length ≤ 3) ?_ ?_
  · refine okS_if (okB_test (okE_op (okE_cb (okE_cons (okE_var rfl (okE_nil (okW_eq rfl (w_lenL (okE_c (okW_eq rfl (okW_eq rfl (w_gt ⟨_, rfl, fun e => ?_, fun e => okS_next ?_⟩))))))))))))
    · have e := of_decide_eq_true e
      rw [hl] at e
      refine okS_seq (okS_asg (okE_tkg (m := ((cs.length - 1 : Nat) : Int)) t hbs rfl (by omega) ?_ (by omega) (by omega) fun v h2 v0 v1 hb2 => okG_setC ?_))
      · refine okE_op (okE_cb (okE_cons (okE_var rfl (okE_nil (okW_eq rfl (w_lenL (okE_c (okW_eq rfl (okW_eq rfl (w_sub ⟨rfl, rfl, ?_⟩))))))))))
        rw [hl]
        congr 2
        omega
      obtain ⟨v, rfl⟩ := Int.eq_ofNat_of_zero_le v0
      have hv : v + 1 < cs.length := by omega
      have hl2 := hb2.len
      dsimp only [List.set, fzW]
      refine okS_seq (okS_asg (okE_un (okE_sl (okE_var rfl (okE_part (okE_var rfl ⟨_, rfl, ?_⟩))))))
      refine okE_part (okE_op (okE_var rfl (okE_c (okW_eq rfl (okW_eq rfl (w_add ⟨((v + 2 : Nat) : Int), by show some (D.int ((v : Int) + 2)) = _; congr 2, okW_eq rfl (w_slMid (okW_eq rfl (okW_eq rfl (okG_setC ?_))))⟩))))))
      dsimp only [List.set, fzW]
      rw [← List.map_reverse, show v + 2 - v = 2 by omega]
      refine okS_asg (okE_lst (okE_cons (okE_un (okE_var rfl (okW_eq rfl (okW_eq rfl ?_))))))
      refine okE_cons (okE_sl (okE_var rfl (okE_nopart (okE_part (okE_un (okE_c (okW_eq rfl (okW_eq rfl ⟨-1, rfl, okW_eq rfl (okW_eq rfl ?_)⟩))))))))
      refine okE_cons (okE_op (okE_op (okE_sl (okE_var rfl (okE_nopart (okE_part (okE_var rfl ⟨_, rfl, okW_eq rfl (w_slTake (okE_var rfl (okW_eq rfl (okW_eq rfl (w_addLL ?_ ?_)))))⟩)))))))
      · have := h5
        rw [List.length_take, List.length_reverse, List.length_take, List.length_drop]
        omega
      refine okE_sl (okE_var rfl (okE_part (okE_op (okE_var rfl (okE_c (okW_eq rfl (okW_eq rfl (w_add ⟨((v + 2 : Nat) : Int), by show some (D.int ((v : Int) + 2)) = _; congr 2, okE_nopart (okW_eq rfl (w_slDrop (okW_eq rfl (okW_eq rfl (w_addLL ?_ ?_)))))⟩))))))))
      · have := h5
        rw [List.length_append, List.length_take, List.length_reverse, List.length_take, List.length_drop, List.length_drop]
        omega
      refine okE_nil ⟨Nat.le_of_ble_eq_true rfl, okG_set ?_⟩
      dsimp only [List.set, List.map, fzW]
      have ec : cutL (LS cs) none (some (-1)) = LS (cs.take (cs.length - 1)) := by
        rw [cut_most, ← List.map_take, List.length_map]
      rw [ec, ← List.map_reverse]
      refine ⟨[cs.reverse, cs.take (cs.length - 1), cs.take v ++ ((cs.drop v).take 2).reverse ++ cs.drop (v + 2)], h2, [.lst [], .lst (LLs [cs.reverse, cs.take (cs.length - 1), cs.take v ++ ((cs.drop v).take 2).reverse ++ cs.drop (v + 2)])], (h2 ++ [D.lst []]).length, _, _, rfl, ?_, hb2, ?_, ?_, ?_, Nat.le_refl _⟩
      · rw [List.append_assoc]
        rfl
      · rw [List.length_append]
        omega
      · rw [List.length_append]
        exact tail_at (i := 1) rfl
      · intro ds hds
        simp only [List.mem_cons, List.not_mem_nil, or_false] at hds
        rcases hds with rfl | rfl | rfl
        · exact ⟨or_perm ok (List.reverse_perm _), rev_ne ok (by omega)⟩
        · exact take_or ok (by omega)
        · exact swap_or ok hv
    · exact ⟨[], h, [.lst []], h.length, _, _, rfl, rfl, hbs.mono (by omega), Nat.le_refl _, tail_at0 rfl, (fun ds z => absurd z List.not_mem_nil), Nat.zero_le _⟩
  · rintro ρ h' ⟨zss, h2, g, k, s4, s5, rfl, rfl, hb2, hk, hc, hg, hz3⟩
    have hl2 := hb2.len
    refine okS_seqM (fun ρ h' => ∃ (zss : List (List Str)) (h1 g : Tb) (k : Nat) (s4 s5 : Sl), ρ = frT b cs f k s4 s5 ∧ h' = h1 ++ g ∧ Bx b (n + 1) h h1 ∧ h.length ≤ k ∧ (h1 ++ g)[k]? = some (.lst (LLs zss)) ∧ Gd cs zss ∧ zss.length ≤ 4) ?_ ?_
    · refine okS_if (okB_test (okE_op (okE_cb (okE_cons (okE_var rfl (okE_nil (okW_eq rfl (w_lenL (okE_c (okW_eq rfl (okW_eq rfl (w_lt ⟨_, rfl, fun e => ?_, fun e => okS_next ?_⟩))))))))))))
      · have e := of_decide_eq_true e
        rw [hl] at e
        refine okS_drop (okE_mut (okE_var rfl (okW_lstAt hc (okE_cons (okE_op (okE_var rfl (okE_var rfl (okW_eq rfl (okW_eq rfl (w_addLL ?_ (okE_nil (okW_lstAt hc (w_append (by rw [List.length_map]; omega) ?_)))))))))))))
        · rw [List.length_singleton]
          omega
        have hki : h2.length ≤ k := by omega
        obtain ⟨i, rfl⟩ : ∃ i, k = h2.length + i := ⟨k - h2.length, by omega⟩
        have hgi : g[i]? = some (.lst (LLs zss)) := (tail_at rfl).symm.trans hc
        rw [tail_set rfl]
        refine ⟨zss ++ [cs ++ [f]], h2, _, h2.length + i, _, _, rfl, rfl, hb2, by omega, ?_, hg.app fun ds hds => ?_, by rw [List.length_append, List.length_singleton]; omega⟩
        · refine (tail_at rfl).trans ?_
          rw [List.getElem?_set_self (List.getElem?_eq_some_iff.mp hgi).1]
          simp [fzW]
        · rw [List.mem_singleton.mp hds]
          exact snoc_or ok (by omega) hf1 hf2
      · exact ⟨zss, h2, g, k, _, _, rfl, rfl, hb2, hk, hc, hg, by omega⟩
    · rintro ρ h' ⟨zss, h3, g, k, s4, s5, rfl, rfl, hb3, hk, hc, hg, hz4⟩
      have hl3 := hb3.len
      have hbs3 := hb3.self
      refine okS_seq (okS_asg (okE_tkg (m := (cs.length : Nat)) t hb3 rfl (by omega) ?_ (by omega) (by omega) fun v h4 v0 v1 hb4 => okG_setC ?_))
      · refine okE_cb (okE_cons (okE_var rfl (okE_nil (okW_eq rfl (w_lenL ⟨rfl, rfl, ?_⟩)))))
        rw [hl]
      obtain ⟨v, rfl⟩ := Int.eq_ofNat_of_zero_le v0
      have hv : v < cs.length := by omega
      have hl4 := hb4.len
      have hki : h3.length ≤ k := by omega
      obtain ⟨i, rfl⟩ : ∃ i, k = h3.length + i := ⟨k - h3.length, by omega⟩
      have hgi : g[i]? = some (.lst (LLs zss)) := (tail_at rfl).symm.trans hc
      have hc4 : (h4 ++ g)[h3.length + i]? = some (.lst (LLs zss)) := by
        rw [hl3, ← hl4]
        exact (tail_at rfl).trans hgi
      dsimp only [List.set, fzW]
      refine okS_ret (okE_op (okE_var rfl (okE_lst (okE_cons (okE_op (okE_op (okE_sl (okE_var rfl (okE_nopart (okE_part (okE_var rfl ⟨_, rfl, okW_eq rfl (w_slTake (okE_var rfl (okW_eq rfl (okW_eq rfl (w_addLL ?_ ?_)))))⟩)))))))))))
      · rw [List.length_take, List.length_singleton]
        omega
      refine okE_sl (okE_var rfl (okE_part (okE_op (okE_var rfl (okE_c (okW_eq rfl (okW_eq rfl (w_add ⟨((v + 1 : Nat) : Int), by show some (D.int ((v : Int) + 1)) = _; congr 2, okE_nopart (okW_eq rfl (w_slDrop (okW_eq rfl (okW_eq rfl (w_addLL ?_ ?_)))))⟩))))))))
      · rw [List.length_append, List.length_take, List.length_singleton, List.length_drop]
        omega
      refine okE_nil ⟨Nat.le_of_ble_eq_true rfl, okW_eq hc4 (okW_eq rfl (w_addLLs (wss := [cs.take v ++ [f] ++ cs.drop (v + 1)]) (by rw [List.length_singleton]; omega) ?_))⟩
      have hp := put_or ok hv hf1 hf2
      refine cut_app hb4.len (Bx.cut hbs hb4) (fun _ z => by cases z) (below_LLs _) (q _ h4 (hg.app fun ds hds => ?_) (by rw [List.length_append, List.length_singleton]; omega) (hb.trans hb4))
      rw [List.mem_singleton.mp hds]
      exact hp
end
end K10
namespace K10
open PySem PySem.Spec PyProof.Rows L2 SL CM
section
variable {ρ : List Sl} {h h0 h1 g : Tb} {N : List Sl → Tb → Prop} {T : Ps W} {L : Bool → List Sl → Tb → Prop} {X : Px} {b n k i j len m : Nat} {cs ds : List Str} {s8 s9 s10 s11 s12 : Sl} {d0 d : D}
local macro_rules | `(tactic| walk_at "hv") => `(tactic| first | rfl | assumption | (exact (by assumption : _)))
local macro_rules | `(tactic| walk_at "p1") => `(tactic| first
  | with_reducible refine CM.okS_seq ?_ | with_reducible refine CM.okS_next ?_ | with_reducible refine CM.okS_asg ?_ | with_reducible refine CM.okS_ret ?_ | with_reducible refine CM.okS_drop ?_ | with_reducible refine CM.okS_aug ?_ | with_reducible refine CM.okS_cnt ?_ | with_reducible refine CM.okS_fg ?_ | with_reducible refine CM.okS_retN ?_
  | with_reducible refine CM.okE_op ?_ | with_reducible refine CM.okE_cb ?_ | with_reducible refine CM.okE_cons ?_ | with_reducible refine CM.okE_nil ?_ | with_reducible refine CM.okB_not ?_ | with_reducible refine CM.okE_c ?_ | with_reducible refine CM.okE_fr ?_ | with_reducible refine CM.okE_ce ?_ | with_reducible refine CM.okE_notV ?_ | with_reducible refine CM.okE_un ?_
  | with_reducible refine CM.okE_sl ?_ | with_reducible refine CM.okE_nopart ?_
  | ((with_reducible refine' CM.okE_var ?hv ?_); (case hv => rfl))
  | ((with_reducible refine' CM.okE_part (CM.okE_var ?hv ⟨_, ?hv2, ?_⟩)); (case hv => rfl); (case hv2 => rfl))
  | ((with_reducible refine' CM.okE_part (CM.okE_c ⟨_, ?hv2, ?_⟩)); (case hv2 => rfl))
  | ((with_reducible refine' CM.okW_eq (w := _) ?hv ?_); (case hv => (with_reducible rfl)))
  | ((with_reducible refine' CM.okW_deref ?hv ?_); (case hv => walk_at "hv")) | ((with_reducible refine' CM.okW_derefs ?hv ?_); (case hv => rfl)) | ((with_reducible refine' CM.okW_derefC ?hv ?_); (case hv => walk_at "hv")) | ((with_reducible refine' CM.okW_lstAt ?hv ?_); (case hv => walk_at "hv"))
  | with_reducible refine CM.w_add ?_ | with_reducible refine CM.w_sub ?_ | with_reducible refine CM.w_lt ?_ | with_reducible refine CM.w_le ?_ | with_reducible refine CM.w_gt ?_ | with_reducible refine CM.w_ge ?_ | with_reducible refine CM.w_addI ?_
  | with_reducible refine CM.w_mod (by omega) ?_ | with_reducible refine CM.w_div (by omega) (by rw [CM.big_eq]; omega) ?_ | with_reducible refine CM.w_mul (by rw [CM.big_eq]; omega) (by rw [CM.big_eq]; omega) (by rw [CM.big_eq]; omega) (by rw [CM.big_eq]; omega) ?_ | with_reducible refine CM.w_sq (by omega) (by omega) ?_
  | with_reducible refine CM.w_max2 ?_ | with_reducible refine CM.w_min2 ?_ | with_reducible refine CM.w_lenL ?_ | with_reducible refine CM.w_lenT ?_ | with_reducible refine CM.w_lenC ?_ | with_reducible refine CM.w_listL ?_ | with_reducible refine CM.w_listT ?_ | with_reducible refine CM.w_tupL ?_ | with_reducible refine CM.w_tupT ?_
  | ((with_reducible refine CM.okG_setC ?_); (try dsimp only [List.set, CM.fzW]))
  | ((with_reducible refine' CM.okW_ix ?hv ?_); (case hv => rfl))
  | ((with_reducible refine' CM.okB_test (CM.okE_eqn ⟨_, ?hv, ?_⟩)); (case hv => rfl))
  | ((with_reducible refine' CM.okB_testd ⟨_, ?hv, ?_⟩); (case hv => rfl)))
local macro_rules | `(tactic| walk_at "p") => `(tactic| repeat walk_at "p1")
theorem tk : Tk m_l_law_take := tk1 (A := 6007) (B := 31) (by decide) (by decide) (by decide) (by decide)
theorem cols_or {ls : List (List Nat)} (c : Cols m ls) (h0 : m ≠ 0) (h5 : m ≤ 5) : OrOk (ls.map S) where
  ne := fun e => h0 (by
    have := congrArg List.length e
    rw [List.length_map, c.1] at this
    exact this)
  len := by rw [List.length_map, c.1]; exact h5
  nd := List.pairwise_map.mpr (c.2.1.imp fun n e => n (S_inj e))
  nm := fun z hz => by
    obtain ⟨l, hl, rfl⟩ := List.mem_map.mp hz
    exact c.2.2 l hl
noncomputable def mEqs : Mo Bool := (mOr (mTest (mEqO "Order" KS m_Order_D_eq_D (mVar 5) (mVar 12))) (mTest (mAlt (mOp dEq (mVar 12) (mVar 5)) (mAlt (mEqO "Shape" KS (CP.m_Shape_D_eq_D KS false) (mVar 12) (mVar 5)) (mAlt (mEqO "Order" KS m_Order_D_eq_D (mVar 12) (mVar 5)) (mAlt (mEqO "Blocks" KS m_Blocks_D_eq_D (mVar 12) (mVar 5)) (mRevO "Order" m_Order_D_eq_D (mVar 12) (mVar 5))))))))
noncomputable def oneM : MS := (sIf (mOr (mNot (mTru (mCB (dIsi (.own "Order") (tabK KS (.own "Order"))) (mCons (mVar 8) (mCons (mC (.glo "Order")) mNil))))) (mOr (mNot (mTru (callN m_l_law_told_right (mCons (mFr (mVar 8)) (mCons (mFr (mVar 3)) mNil))))) (mOr (mTest (mNeO "Order" KS m_Order_D_eq_D (mVar 8) (mVar 5))) (mNot (mTest (mEqO "Order" KS m_Order_D_eq_D (mVar 8) (mVar 6))))))) (sRet (mC (.bl false))) sNext)
noncomputable def someM : MS := (sSeq (sAsg (mMake false "Order" m_Order_D_init_D [] (mCons (mFr (mVar 9)) mNil)) (gSetC 11))
    (sIf (mOr (mTest (mEqO "Order" KS m_Order_D_eq_D (mVar 5) (mVar 11))) (mOr (mNot (mTest (mNeO "Order" KS m_Order_D_eq_D (mVar 5) (mVar 11)))) (mNot (mTru (callN m_l_law_told_right (mCons (mFr (mVar 11)) (mCons (mFr (mVar 9)) mNil))))))) (sRet (mC (.bl false))) sNext))
noncomputable def endM : MS := (sSeq (sAsg (mLst (mCons (mC .non) (mCons (mC (.int 0)) (mCons (mVar 3) (mCons (mCB dTuple (mCons (mVar 3) mNil)) (mCons (mBS fJoin (mC (.str " ")) (mCons (mVar 3) mNil)) (mCons mDNew (mCons (mMake false "Shape" (CP.m_Shape_D_init_D KS false) [D.non] (mCons (mFr (mVar 3)) mNil)) (mCons (mC (.bl true)) (mCons (mMake false "Blocks" m_Blocks_D_init_D [] (mCons (mFr (mLst (mCons (mVar 3) mNil))) mNil)) mNil)))))))))) (gSetC 10))
    (sIf (mTest (mOp dNe (mLc (mIU (mVar 10)) (gSetC 12) mEqs (mVar 12) [12]) (mLst mNil))) (sRet (mC (.bl false))) sNext))
noncomputable def loopsM : MS := (sSeq (sFor (mIU (mTup (mCons (mVar 5) (mCons (mVar 6) (mCons (mVar 7) mNil))))) (gSetC 8) oneM)
    (sSeq (sFor (mIU (callN m_l_law_others (mCons (mCe (mVar 2)) (mCons (mFr (mVar 3)) mNil)))) (gSetC 9) someM)
    endM))
noncomputable def restM : MS := (sSeq (sAsg (mCB dList (mCons (mVar 3) mNil)) (gSet 4))
    (sSeq (sAsg (mTup (mCons (mFr (mMake false "Order" m_Order_D_init_D [] (mCons (mFr (mVar 4)) mNil))) (mCons (mFr (mMake false "Order" m_Order_D_init_D [] (mCons (mFr (mCB dTuple (mCons (mVar 3) mNil))) mNil))) mNil))) (gTupM 2 (gsCons (gSetC 5) (gsCons (gSetC 6) gsNil))))
    (sSeq (sAsg (callN m_parse_order (mCons (mFr (mBS fJoin (mC (.str " ")) (mCons (mVar 3) mNil))) mNil)) (gSetC 7))
    (sSeq (sIf (mTest (mOp dNe (mVar 4) (mVar 3))) (sRet (mC (.bl false))) sNext)
    (sSeq (sDrop (mMut0 fClear (mVar 4)))
    loopsM)))))
noncomputable def cellTM : MS := (sSeq (sAsg (callN m_l_law_box (mCons (mFr (callN m_l_law_cell (mCons (mFr (mVar 0)) (mCons (mFr (mVar 1)) mNil)))) mNil)) (gSet 2))
    (sSeq (sAsg (callN m_l_law_columns (mCons (mCe (mVar 2)) (mCons (mFr (mOp dAdd (mC (.int 1)) (callN m_l_law_take (mCons (mCe (mVar 2)) (mCons (mFr (mC (.int 5))) mNil))))) mNil))) (gSetC 3))
    restM))
abbrev fr10 (ns : List Int) (i b : Nat) (cs : List Str) (k : Nat) (s8 s9 s10 s11 s12 : Sl) : List Sl := [.cl (.scr ns), .cl (.int i), .cl (.ce b), .cl (.lst (LS cs)), .cl (.ce k), .cl (orD cs), .cl (orD cs), .cl (orD cs), s8, s9, s10, s11, s12]
theorem eq_self (ok : OrOk cs) {P : W → Tb → Prop} {X : Str → List (Str × D) → Tb → Prop} (p : P (.cl (.bl true)) h) : okF (m_Order_D_eq_D [orD cs, orD cs] h) P X := order_eq ok ok rfl rfl (by rw [decide_eq_true rfl]; exact p)
theorem eq_other (ok : OrOk cs) (ok2 : OrOk ds) (n : ds ≠ cs) {P : W → Tb → Prop} {X : Str → List (Str × D) → Tb → Prop} (p : P (.cl (.bl false)) h) : okF (m_Order_D_eq_D [orD cs, orD ds] h) P X := order_eq ok ok2 rfl rfl (by rw [decide_eq_false (fun e => n e.symm)]; exact p)
theorem one_turn {ns : List Int} (ok : OrOk cs) (hN : N (fr10 ns i b cs k (.cl (orD cs)) s9 s10 s11 s12) h) : okS (oneM (fr10 ns i b cs k (.cl (orD cs)) s9 s10 s11 s12) h) N T L X := by
  unfold oneM
  refine okS_no (okB_or (okB_not (okB_tru (okE_cb (okE_cons (okE_var rfl (okE_cons (okE_c (okE_nil (okW_d2 (d := orD cs) rfl rfl (w_isi (k := .own "Order") rfl rfl ownO ⟨_, true, rfl, rfl, (fun e => nomatch e), fun _ => ?_⟩)))))))))))
  refine okB_or (okB_not (okB_tru (okE_call (okE_cons (okE_fr (okE_var rfl (okE_cons (okE_fr (okE_var rfl (okE_nil (told_ok ok ⟨_, true, rfl, rfl, (fun e => nomatch e), fun _ => ?_⟩)))))))))))
  refine okB_or (okB_test (okE_neO (okE_eqO (okE_var rfl (okE_var rfl ⟨_, _, _, rfl, rfl, ownO, rfl, eq_self ok ⟨rfl, _, rfl, _, rfl, (fun e => nomatch e), fun _ => ?_⟩⟩)))))
  exact okB_not (okB_test (okE_eqO (okE_var rfl (okE_var rfl ⟨_, _, _, rfl, rfl, ownO, rfl, eq_self ok ⟨rfl, _, rfl, rfl, okS_next hN⟩⟩))))
theorem some_turn {ns : List Int} (ok : OrOk cs) (ok2 : OrOk ds) (hn : ds ≠ cs) (hN : N (fr10 ns i b cs k s8 (.cl (.lst (LS ds))) s10 (.cl (orD ds)) s12) h) : okS (someM (fr10 ns i b cs k s8 (.cl (.lst (LS ds))) s10 s11 s12) h) N T L X := by
  unfold someM
  refine okS_seq (okS_asg (okE_order (okE_cons (okE_fr (okE_var rfl (okE_nil ⟨_, _, ds, rfl, rfl, rfl, ok2, okG_setC ?_⟩))))))
  dsimp only [List.set, fzW]
  refine okS_no (okB_or (okB_test (okE_eqO (okE_var rfl (okE_var rfl ⟨_, _, _, rfl, rfl, ownO, rfl, eq_other ok ok2 hn ⟨rfl, _, rfl, (fun e => nomatch e), fun _ => ?_⟩⟩)))))
  refine okB_or (okB_not (okB_test (okE_neO (okE_eqO (okE_var rfl (okE_var rfl ⟨_, _, _, rfl, rfl, ownO, rfl, eq_other ok ok2 hn ⟨rfl, _, rfl, _, rfl, (fun e => nomatch e), fun _ => ?_⟩⟩))))))
  refine okB_not (okB_tru (okE_call (okE_cons (okE_fr (okE_var rfl (okE_cons (okE_fr (okE_var rfl (okE_nil (told_ok ok2 ⟨_, true, rfl, rfl, rfl, okS_next hN⟩))))))))))
theorem dEq_ins {x : D} {C : Str} {fs : List (Str × D)} : dEqB x (.ins C fs) = none := by
  show (match x.u, D.ins C fs with
    | .str x, .str y => some (decide (x = y))
    | _, _ => dEqB0 x (.ins C fs)) = none
  have e : dEqB0 x (.ins C fs) = none := by
    unfold dEqB0
    cases pd x with
    | none => rfl
    | some y =>
      rw [show pd (.ins C fs) = none by simp only [pd]]
      rfl
  split
  · rename_i e2
    cases e2
  · exact e
/-- a thing of a builtin kind -/
theorem eqs_b {ns : List Int} {Ty : String} {P : Ps Bool} (hd : ∀ h, deref h (.cl d) = some d) (hk : kd d.u = some (.b Ty)) (hm : Kd.b Ty ∈ KS) (hb : isBlt d.u = true) (h1 : ∀ C, insOf C d.u = none) (p : P false (fr10 ns i b cs k s8 s9 s10 s11 (.cl d)) h) : okE (mEqs (fr10 ns i b cs k s8 s9 s10 s11 (.cl d)) h) P X := by
  unfold mEqs
  refine okB_or (okB_test (okE_eqO (z := false) (okE_var rfl (okE_var rfl ⟨_, _, _, hd _, hk, hm, rfl, order_eq_odd (hd _) hk hm (fun z => nomatch z) ⟨rfl, _, rfl, (fun e => nomatch e), fun _ => ?_⟩⟩))))
  refine okB_test (okE_alt2 (eq_none rfl rfl (hd _) rfl dEq_ins) (okE_alt2 (eqO_none rfl rfl (hd _) (h1 _)) (okE_alt2 (eqO_none rfl rfl (hd _) (h1 _)) (okE_alt2 (eqO_none rfl rfl (hd _) (h1 _)) (okE_revO (z := false) (okE_var rfl (okE_var rfl ⟨_, _, hd _, hb, rfl, order_eq_odd (hd _) hk hm (fun z => nomatch z) ⟨rfl, _, rfl, p⟩⟩)))))))
theorem eqs_s {ns : List Int} {fx : List Str} {P : Ps Bool} (p : P false (fr10 ns i b cs k s8 s9 s10 s11 (.cl (shD fx none))) h) : okE (mEqs (fr10 ns i b cs k s8 s9 s10 s11 (.cl (shD fx none))) h) P X := by
  unfold mEqs
  refine okB_or (okB_test (okE_eqO (z := false) (okE_var rfl (okE_var rfl ⟨_, .own "Shape", _, rfl, rfl, by decide +kernel, rfl, order_eq_odd (k := .own "Shape") (e0 := shD fx none) rfl rfl (by decide +kernel) (by decide +kernel) ⟨rfl, _, rfl, (fun e => nomatch e), fun _ => ?_⟩⟩))))
  exact okB_test (okE_alt2 (eq_none (x := shD fx none) rfl rfl rfl rfl dEq_ins) (okE_alt1 (okE_eqO (z := false) (okE_var rfl (okE_var rfl ⟨_, .own "Order", _, rfl, rfl, ownO, rfl, shape_eq_odd (k := .own "Order") (d := shD fx none) (e0 := orD cs) rfl rfl rfl ownO (by decide +kernel) (fun _ z => nomatch z) ⟨rfl, _, rfl, p⟩⟩)))))
theorem eqs_l {ns : List Int} {P : Ps Bool} (p : P false (fr10 ns i b cs k s8 s9 s10 s11 (.cl (blD ds))) h) : okE (mEqs (fr10 ns i b cs k s8 s9 s10 s11 (.cl (blD ds))) h) P X := by
  unfold mEqs
  refine okB_or (okB_test (okE_eqO (z := false) (okE_var rfl (okE_var rfl ⟨_, .own "Blocks", _, rfl, rfl, by decide +kernel, rfl, order_eq_odd (k := .own "Blocks") (e0 := blD ds) rfl rfl (by decide +kernel) (by decide +kernel) ⟨rfl, _, rfl, (fun e => nomatch e), fun _ => ?_⟩⟩))))
  refine okB_test (okE_alt2 (eq_none (x := blD ds) rfl rfl rfl rfl dEq_ins) (okE_alt2 (eqO_none (x := blD ds) rfl rfl rfl ?_) (okE_alt2 (eqO_none (x := blD ds) rfl rfl rfl ?_) (okE_alt1 (okE_eqO (z := false) (okE_var rfl (okE_var rfl ⟨_, .own "Order", _, rfl, rfl, ownO, rfl, blocks_eq_odd (k := .own "Order") (e0 := orD cs) rfl rfl ownO (by decide +kernel) ⟨rfl, _, rfl, p⟩⟩)))))))
  · show (if ("Blocks" : Str) = "Shape" then some (blF ds) else none) = none
    exact if_neg (by decide +kernel)
  · show (if ("Blocks" : Str) = "Order" then some (blF ds) else none) = none
    exact if_neg (by decide +kernel)
theorem end_ok {ns : List Int} (ok : OrOk cs) (hN : ∀ s10 h', N (fr10 ns i b cs k s8 s9 s10 s11 .un) h') : okS (endM (fr10 ns i b cs k s8 s9 s10 s11 .un) h) N T L X := by
  unfold endM
  have sok : ShOk cs none := ⟨ok.len, ok.nd, ok.nm, fun z e => nomatch e⟩
  refine okS_seq (okS_asg (okE_lst (okE_cons (okE_c (okE_cons (okE_c (okE_cons (okE_var rfl (okE_cons (okE_cb (okE_cons (okE_var rfl (okE_nil (okW_eq rfl (w_tupL ?_)))))))))))))))
  refine okE_cons (okE_bs (okE_c ⟨_, rfl, okE_cons (okE_var rfl (okE_nil (okW_eq rfl (w_joinS ok ?_))))⟩))
  refine okE_cons (okE_eq (w := W.nw (.dK [])) rfl (okE_cons (okE_shape ksok (okE_cons (okE_fr (okE_var rfl (okE_nil ⟨_, _, cs, none, rfl, rfl, rfl, sok, ?_⟩)))))))
  refine okE_cons (okE_c (okE_cons (okE_blocks (okE_cons (okE_fr (okE_lst (okE_cons (okE_var rfl (okE_nil ⟨Nat.le_of_ble_eq_true rfl, okE_nil ⟨cs, rfl, ok, okE_nil ⟨Nat.le_of_ble_eq_true rfl, okG_setC ?_⟩⟩⟩)))))))))
  dsimp only [List.set, List.map, fzW]
  refine okS_no (okB_test (okE_op (okE_lcF (ds := [D.non, .int 0, .lst (LS cs), .tup (LS cs), .str (orT cs), .dK [], shD cs none, .bl true, blD cs]) (fun j h' acc => h' = h ∧ acc = []) rfl ?_ ?_ ?_)))
  · exact okE_iU (okE_var rfl (okW_eq rfl (okW_eq rfl ⟨Nat.le_of_ble_eq_true rfl, rfl, rfl, rfl, rfl⟩)))
  · rintro j d h' acc hj ⟨rfl, rfl⟩
    have hd := List.mem_of_getElem? hj
    simp only [List.mem_cons, List.not_mem_nil, or_false] at hd
    rcases hd with rfl | rfl | rfl | rfl | rfl | rfl | rfl | rfl | rfl
    · exact eqs_b (Ty := "NoneType") (fun _ => rfl) rfl (by decide +kernel) rfl (fun _ => rfl) ⟨rfl, (fun e => nomatch e), fun _ => ⟨rfl, rfl⟩⟩
    · exact eqs_b (Ty := "int") (fun _ => rfl) rfl (by decide +kernel) rfl (fun _ => rfl) ⟨rfl, (fun e => nomatch e), fun _ => ⟨rfl, rfl⟩⟩
    · exact eqs_b (Ty := "list") (fun _ => rfl) rfl (by decide +kernel) rfl (fun _ => rfl) ⟨rfl, (fun e => nomatch e), fun _ => ⟨rfl, rfl⟩⟩
    · exact eqs_b (Ty := "tuple") (fun _ => rfl) rfl (by decide +kernel) rfl (fun _ => rfl) ⟨rfl, (fun e => nomatch e), fun _ => ⟨rfl, rfl⟩⟩
    · exact eqs_b (Ty := "str") (fun _ => rfl) rfl (by decide +kernel) rfl (fun _ => rfl) ⟨rfl, (fun e => nomatch e), fun _ => ⟨rfl, rfl⟩⟩
    · exact eqs_b (Ty := "dict") (fun _ => rfl) rfl (by decide +kernel) rfl (fun _ => rfl) ⟨rfl, (fun e => nomatch e), fun _ => ⟨rfl, rfl⟩⟩
    · exact eqs_s ⟨rfl, (fun e => nomatch e), fun _ => ⟨rfl, rfl⟩⟩
    · exact eqs_b (Ty := "bool") (fun _ => rfl) rfl (by decide +kernel) rfl (fun _ => rfl) ⟨rfl, (fun e => nomatch e), fun _ => ⟨rfl, rfl⟩⟩
    · exact eqs_l ⟨rfl, (fun e => nomatch e), fun _ => ⟨rfl, rfl⟩⟩
  rintro h' acc ⟨eh, rfl⟩
  subst h'
  exact okE_lst (okE_nil ⟨Nat.le_of_ble_eq_true rfl, okW_eq rfl (okW_eq rfl (w_ne0 (xs := []) ⟨_, rfl, rfl, okS_next (hN _ _)⟩))⟩)
theorem loops_ok {ns : List Int} {h3 : Tb} (ok : OrOk cs) (hs : Bx b 100 h3 h3) (hN : ∀ s4 s5 s6 s7 s8 s9 s10 s11 h', N [.cl (.scr ns), .cl (.int i), .cl (.ce b), .cl (.lst (LS cs)), s4, s5, s6, s7, s8, s9, s10, s11, .un] h') : okS (loopsM (fr10 ns i b cs k s8 s9 s10 s11 .un) (h3 ++ [D.lst []])) N T L X := by
  unfold loopsM
  refine okS_seq (okS_for (okE_iU (okE_tup (okE_cons (okE_var rfl (okE_cons (okE_var rfl (okE_cons (okE_var rfl (okE_nil ⟨Nat.le_of_ble_eq_true rfl, okW_eq rfl (okW_eq rfl ⟨Nat.le_of_ble_eq_true rfl, ?_⟩)⟩))))))))))
  show okS (loopS _ _ [] [orD cs, orD cs, orD cs] _ _) _ _ _ _
  refine okS_loop0 (fun j ρ h' => h' = h3 ++ [D.lst []] ∧ ∃ s8 s9 s10 s11, ρ = fr10 ns i b cs k s8 s9 s10 s11 .un) _ 0 ⟨rfl, _, _, _, _, rfl⟩ ?_ ?_
  · rintro j d ρ h' hj ⟨rfl, s8, s9, s10, s11, rfl⟩
    have hd := List.mem_of_getElem? hj
    simp only [List.mem_cons, List.not_mem_nil, or_false, or_self] at hd
    subst hd
    refine okG_setC ?_
    dsimp only [List.set, fzW]
    exact one_turn ok ⟨rfl, _, _, _, _, rfl⟩
  rintro ρ h' ⟨rfl, s8, s9, s10, s11, rfl⟩
  refine okS_seq (okS_for (okE_iU (okE_call (okE_cons (okE_ce (okE_var rfl (okE_cons (okE_fr (okE_var rfl (okE_nil ?_)))))))))) 
  refine others_ok tk hs.app (by omega) ok fun zss h4 hz hzl hb4 => okW_eq rfl (okW_eq rfl ⟨by rw [List.length_map]; omega, ?_⟩)
  refine okS_loop0 (fun j ρ h' => h' = h4 ∧ ∃ s8 s9 s10 s11, ρ = fr10 ns i b cs k s8 s9 s10 s11 .un) _ 0 ⟨rfl, _, _, _, _, rfl⟩ ?_ ?_
  · rintro j d ρ h' hj ⟨rfl, s8, s9, s10, s11, rfl⟩
    obtain ⟨ds, hd, rfl⟩ := List.mem_map.mp (List.mem_of_getElem? hj)
    obtain ⟨ok2, hn⟩ := hz ds hd
    refine okG_setC ?_
    dsimp only [List.set, fzW]
    exact some_turn ok ok2 hn ⟨rfl, _, _, _, _, rfl⟩
  rintro ρ h' ⟨rfl, s8, s9, s10, s11, rfl⟩
  exact end_ok ok fun s10 h' => hN _ _ _ _ _ _ _ _ _
theorem rest_ok {ns : List Int} {h3 : Tb} {s4 s5 s6 s7 : Sl} (ok : OrOk cs) (hs : Bx b 100 h3 h3) (hN : ∀ s4 s5 s6 s7 s8 s9 s10 s11 h', N [.cl (.scr ns), .cl (.int i), .cl (.ce b), .cl (.lst (LS cs)), s4, s5, s6, s7, s8, s9, s10, s11, .un] h') : okS (restM [.cl (.scr ns), .cl (.int i), .cl (.ce b), .cl (.lst (LS cs)), s4, s5, s6, s7, s8, s9, s10, s11, .un] h3) N T L X := by
  unfold restM
  refine okS_seq (okS_asg (okE_cb (okE_cons (okE_var rfl (okE_nil (okW_eq rfl (w_listL (okG_set ?_))))))))
  dsimp only [List.set]
  have hc : (h3 ++ [D.lst (LS cs)])[h3.length]? = some (.lst (LS cs)) := tail_at0 rfl
  refine okS_seq (okS_asg (okE_tup (okE_cons (okE_fr (okE_order (okE_cons (okE_fr (okE_var rfl (okE_nil ⟨_, _, cs, rfl, hc, rfl, ok, ?_⟩)))))))))
  refine okE_cons (okE_fr (okE_order (okE_cons (okE_fr (okE_cb (okE_cons (okE_var rfl (okE_nil (okW_eq rfl (w_tupL (okE_nil ⟨_, _, cs, rfl, rfl, rfl, ok, okE_nil ⟨Nat.le_of_ble_eq_true rfl, okG_tup2 (okG_setC (okG_setC ?_))⟩⟩)))))))))))
  dsimp only [List.set, fzW]
  refine okS_seq (okS_asg (okE_call (okE_cons (okE_fr (okE_bs (okE_c ⟨_, rfl, okE_cons (okE_var rfl (okE_nil (okW_eq rfl (w_joinS ok (okE_nil ?_)))))⟩))))))
  show okF (m_parse_order [.str (orT cs)] _) _ _
  refine parse_ok ok (okG_setC ?_)
  dsimp only [List.set, fzW]
  refine okS_seq (okS_no (okB_test (okE_op (okE_var rfl (okE_var rfl (okW_eq hc (okW_eq rfl (w_ne (dEqB_L (asc_or ok) (asc_or ok)) ⟨_, rfl, by simp, okS_next ?_⟩))))))))
  refine okS_seq (okS_drop (okE_mut0 (okE_var rfl (okW_lstAt hc (okW_eq rfl ?_)))))
  rw [tail_set0 rfl]
  exact loops_ok ok hs hN
theorem cell_turn {ns : List Int} {s2 s3 s4 s5 s6 s7 s8 s9 s10 s11 : Sl} (hi : i < 1000) (hN : ∀ s2 s3 s4 s5 s6 s7 s8 s9 s10 s11 h', N [.cl (.scr ns), .cl (.int i), s2, s3, s4, s5, s6, s7, s8, s9, s10, s11, .un] h') : okS (cellTM [.cl (.scr ns), .cl (.int i), s2, s3, s4, s5, s6, s7, s8, s9, s10, s11, .un] h) N T L X := by
  unfold cellTM
  refine okS_seq (okS_asg (okE_call (okE_cons (okE_fr (okE_call (okE_cons (okE_fr (okE_var rfl (okE_cons (okE_fr (okE_var rfl (okE_nil ?_))))))))))))
  refine cell_ok (A := 6007) (B := 31) (by omega) (by decide) (by decide) fun v => okE_nil ?_
  refine box_ok fun ds hds => okG_set ?_
  dsimp only [List.set]
  have hb : Bx h.length 0 (h ++ [D.lst ds]) (h ++ [D.lst ds]) := Bx.refl (tail_at0 rfl) hds
  generalize h ++ [D.lst ds] = H at hb ⊢
  generalize h.length = b at hb ⊢
  refine okS_seq (okS_asg (okE_call (okE_cons (okE_ce (okE_var rfl (okE_cons (okE_fr (okE_op (okE_c (okE_tkc tk hb rfl (by omega) (by decide) (by decide) fun v h2 v0 v1 hb2 => ?_))))))))))
  obtain ⟨v, rfl⟩ := Int.eq_ofNat_of_zero_le v0
  refine okW_eq rfl (okW_eq rfl (w_add (okE_nil ?_)))
  show okF (m_l_law_columns [.ce b, .int (1 + (v : Int))] h2) _ _
  rw [show (1 : Int) + (v : Int) = ((1 + v : Nat) : Int) by rw [Int.natCast_add]; rfl]
  have hm : 1 + v ≤ 5 := by omega
  refine columnsF_ok (A := 6007) (B := 31) (by decide) (by decide) (by decide) (by decide) hb2 (by omega) hm fun ls h3 c hb3 => okG_setC ?_
  have ok : OrOk (ls.map S) := cols_or c (by omega) hm
  generalize ls.map S = cs at ok ⊢
  have hs : Bx b 100 h3 h3 := hb3.self.mono (by omega)
  dsimp only [List.set, fzW]
  exact rest_ok ok hs fun s4 s5 s6 s7 s8 s9 s10 s11 h' => hN _ _ _ _ _ _ _ _ _ _ _
theorem law_f (ns : List Int) : okF (m_law [.scr ns] []) (fun w o => w = .cl (.bl true)) noX := by
  unfold m_law
  refine okF_fn rfl ?_
  show okS (b_law [.cl (.scr ns), .un, .un, .un, .un, .un, .un, .un, .un, .un, .un, .un, .un] []) _ _ _ _
  unfold b_law
  refine okS_seq (okS_for (okE_rng1 ?_))
  walk_at "p"
  have hn : (if (if (8 : Int) < (ns.length : Int) then 8 else (ns.length : Int)) > 2 then (if (8 : Int) < (ns.length : Int) then 8 else (ns.length : Int)) else 2) ≤ 8 ∧ 0 ≤ (if (if (8 : Int) < (ns.length : Int) then 8 else (ns.length : Int)) > 2 then (if (8 : Int) < (ns.length : Int) then 8 else (ns.length : Int)) else 2) := by
    split <;> split <;> omega
  refine ⟨_, rfl, by omega, by omega, ?_⟩
  generalize (if (if (8 : Int) < (ns.length : Int) then 8 else (ns.length : Int)) > 2 then (if (8 : Int) < (ns.length : Int) then 8 else (ns.length : Int)) else 2) = n at hn ⊢
  refine okS_loop0 (fun j ρ h' => ∃ s1 s2 s3 s4 s5 s6 s7 s8 s9 s10 s11, ρ = [.cl (.scr ns), s1, s2, s3, s4, s5, s6, s7, s8, s9, s10, s11, .un]) _ 0 ⟨_, _, _, _, _, _, _, _, _, _, _, rfl⟩ ?_ ?_
  · rintro j d ρ h' hj ⟨s1, s2, s3, s4, s5, s6, s7, s8, s9, s10, s11, rfl⟩
    obtain ⟨i, hi, rfl⟩ := List.mem_map.mp (List.mem_of_getElem? hj)
    have hi2 := List.mem_range.mp hi
    refine okG_setC ?_
    dsimp only [List.set, fzW]
    exact cell_turn (by omega) fun s2 s3 s4 s5 s6 s7 s8 s9 s10 s11 h' => ⟨_, _, _, _, _, _, _, _, _, _, _, rfl⟩
  · rintro ρ h' ⟨s1, s2, s3, s4, s5, s6, s7, s8, s9, s10, s11, rfl⟩
    exact okS_ret (okE_c (cut_app (h1 := []) rfl okCut_refl (fun _ z => by cases z) below_bl rfl))
end
theorem law_ok (ns : List Int) (hl : ns.length ≤ 63) : ∃ o, m_law [.scr ns] [] = some (.rt (.cl (.bl true)) o) := by
  obtain ⟨w, o, e, rfl⟩ := (law_f ns).rt
  exact ⟨o, e⟩
end K10
namespace K10
open PySem PySem.Spec PyProof.Rows L2 SL CM
structure KF (K : PySem.W.Frag) : Prop where
  k0 : Tab K (fun t => PySem.W.kitOne K t (cdV K (.ty "str"))) (tabK KS (.ty "str"))
  k1 : Tab K (fun t => PySem.W.kitAny K t (([.ty "list", .ty "tuple"] : List Cd).map (cdV K))) (tabKT KS [.ty "list", .ty "tuple"])
  k2 : OwnK K "Shape"
  k3 : NoAttr K (He.ga K "Shape") "span_column"
  k4 : NoAttr K (He.ga K "Shape") "fixed_columns"
  k5 : Tab K (fun t => PySem.W.kitOne K t (cdV K (.own "Shape"))) (tabK KS (.own "Shape"))
  k6 : OwnK K "Order"
  k7 : NoAttr K (He.ga K "Order") "own_columns"
  k8 : Tab K (fun t => PySem.W.kitOne K t (cdV K (.own "Order"))) (tabK KS (.own "Order"))
  k9 : OwnK K "Blocks"
  k10 : NoAttr K (He.ga K "Blocks") "own_parts"
  k11 : Tab K (fun t => PySem.W.kitOne K t (cdV K (.own "Blocks"))) (tabK KS (.own "Blocks"))
  k12 : EqKs K "Shape" KS
  k13 : EqKs K "Order" KS
  k14 : EqKs K "Blocks" KS
abbrev sp_is_name (K : PySem.W.Frag) : Sp := spM K (CP.m_is_name KS false)
def t_is_name (K : PySem.W.Frag) : TS := (tSeq (tIfS (tOr (tNot (tTruK K (tCB (vIsi K) (tCons (tVar 0) (tCons (tC (.ty "str")) tNil))))) (tNot (tTest (tChain (uLt K) uLe (tC (.int 0)) (tCB (uLen K) (tCons (tVar 0) tNil)) (tC (.int (8))))))) (tRet (tC (.bl false))) tNext)
    (tRet (tCB (rAllL K) (tCons (tLc (iU K (tVar 0)) (gName 1) tYes (tOp (uIn K) (tVar 1) (tC (.str "abcdefghijklmnopqrstuvwxyz"))) [1]) tNil))))
theorem si_is_name {K : PySem.W.Frag} {WW : WX} (kf : KF K) : SimS K WW (t_is_name K) (CP.b_is_name KS false) := (sim_seq (sim_ifs (sim_or (sim_not (sim_tru (sim_cb (o_isi kf.k0) (sim_cons sim_var (sim_cons (sim_c fun _ _ _ => .ty _) sim_nil))))) (sim_not (sim_test (sim_chain o_lt o_le (sim_c fun _ _ _ => .int _) (sim_cb o_len (sim_cons sim_var sim_nil)) (sim_c fun _ _ _ => .int _))))) (sim_ret (sim_c fun _ _ _ => .bl _)) sim_next)
    (sim_ret (sim_cb o_all (sim_cons (sim_lc (sim_iU sim_var) sim_gnameC (ok_name (by decide)) sim_yes (sim_op o_in sim_var (sim_c fun _ _ _ => .str _))) sim_nil))))
theorem len_is_name {K : PySem.W.Frag} {vs : List V} {H : Hp} {Q : VK} {E : XK} (h : sp_is_name K vs H Q E) : vs.length = ["value"].length := len_spM (ps := ["value"]) (fun _ _ _ h => len_fnM h) h
theorem pure_is_name {K : PySem.W.Frag} (kf : KF K) (vs : List V) (H : Hp) (Q : VK) (E : XK) (h : sp_is_name K vs H Q E) : t_is_name K { nx := fun _ H' => Q .non H', rt := Q } (L2.start ["value", "letter"] vs) H := pure_fnM (n := 1) (k := 1) rfl (si_is_name kf) h
abbrev sp_is_list (K : PySem.W.Frag) : Sp := spM K (CP.m_is_list KS false)
def t_is_list (K : PySem.W.Frag) : TS := (tRet (tCB (vIsi K) (tCons (tVar 0) (tCons (tTup (tCons (tC (.ty "list")) (tCons (tC (.ty "tuple")) tNil))) tNil))))
theorem si_is_list {K : PySem.W.Frag} {WW : WX} (kf : KF K) : SimS K WW (t_is_list K) (CP.b_is_list KS false) := (sim_ret (sim_cb (o_isiT kf.k1) (sim_cons sim_var (sim_cons (sim_tup (sim_cons (sim_c fun _ _ _ => .ty _) (sim_cons (sim_c fun _ _ _ => .ty _) sim_nil))) sim_nil))))
theorem len_is_list {K : PySem.W.Frag} {vs : List V} {H : Hp} {Q : VK} {E : XK} (h : sp_is_list K vs H Q E) : vs.length = ["value"].length := len_spM (ps := ["value"]) (fun _ _ _ h => len_fnM h) h
theorem pure_is_list {K : PySem.W.Frag} (kf : KF K) (vs : List V) (H : Hp) (Q : VK) (E : XK) (h : sp_is_list K vs H Q E) : t_is_list K { nx := fun _ H' => Q .non H', rt := Q } (L2.start ["value"] vs) H := pure_fnM (n := 1) (k := 0) rfl (si_is_list kf) h
abbrev sp_split_words (K : PySem.W.Frag) : Sp := spM K m_split_words
def t_split_words (K : PySem.W.Frag) : TS := (tSeq (tIfS (tOr (tNot (tTruK K (tCB (vIsi K) (tCons (tVar 0) (tCons (tC (.ty "str")) tNil))))) (tTest (tOp (uIn K) (tC (.str "\n")) (tVar 0)))) (tRet (tC .non)) tNext)
    (tSeq (tAsg (tBM K "str" rSplit (tVar 0) (tCons (tVar 1) tNil)) (gName 2))
    (tRet (tIf (tTest (tOp (uIn K) (tC (.str "")) (tVar 2))) (tC .non) (tVar 2)))))
theorem si_split_words {K : PySem.W.Frag} {WW : WX} (kf : KF K) : SimS K WW (t_split_words K) b_split_words := (sim_seq (sim_ifs (sim_or (sim_not (sim_tru (sim_cb (o_isi kf.k0) (sim_cons sim_var (sim_cons (sim_c fun _ _ _ => .ty _) sim_nil))))) (sim_test (sim_op o_in (sim_c fun _ _ _ => .str _) sim_var))) (sim_ret (sim_c fun _ _ _ => .non)) sim_next)
    (sim_seq (sim_asg (sim_bs rfl o_split sim_var (sim_cons sim_var sim_nil)) sim_gnameC)
    (sim_ret (sim_if (sim_test (sim_op o_in (sim_c fun _ _ _ => .str _) sim_var)) (sim_c fun _ _ _ => .non) sim_var))))
theorem len_split_words {K : PySem.W.Frag} {vs : List V} {H : Hp} {Q : VK} {E : XK} (h : sp_split_words K vs H Q E) : vs.length = ["text", "separator"].length := len_spM (ps := ["text", "separator"]) (fun _ _ _ h => len_fnM h) h
theorem pure_split_words {K : PySem.W.Frag} (kf : KF K) (vs : List V) (H : Hp) (Q : VK) (E : XK) (h : sp_split_words K vs H Q E) : t_split_words K { nx := fun _ H' => Q .non H', rt := Q } (L2.start ["text", "separator", "words"] vs) H := pure_fnM (n := 2) (k := 1) rfl (si_split_words kf) h
abbrev sp_Shape_D_init_D (K : PySem.W.Frag) : Sp := spM K (CP.m_Shape_D_init_D KS false)
def t_Shape_D_init_D (K : PySem.W.Frag) : TS := (tSeq (tIfS (tOr (tNot (tTruK K (tCall (sp_is_list K) [] E0 (tCons (tVar 1) tNil)))) (tTest (tOp SL.rGt (tCB (uLen K) (tCons (tVar 1) tNil)) (tC (.int (5)))))) tNever tNext)
    (tSeq (tFor (iEnumB K (tCons (tVar 1) tNil)) (gTup K 2 (gCons (gName 3) (gCons (gName 4) gNil))) (tSeq (tIfS (tNot (tTruK K (tCall (sp_is_name K) [] E0 (tCons (tVar 4) tNil)))) tNever tNext)
    (tIfS (tTest (tOp (uIn K) (tVar 4) (tSl (uSl K) (tVar 1) tNoPart (tPart (tVar 3))))) tNever tNext)))
    (tSeq (tIfS (tAnd (tTest (tOp uIsnt (tVar 2) (tC .non))) (tNot (tTruK K (tCall (sp_is_name K) [] E0 (tCons (tVar 2) tNil))))) tNever tNext)
    (tSeq (tIfS (tTest (tOp (uIn K) (tVar 2) (tVar 1))) tNever tNext)
    (tSeq (tIfS (tAnd (tTest (tOp uIsnt (tVar 2) (tC .non))) (tTest (tOp (uEq K) (tCB (uLen K) (tCons (tVar 1) tNil)) (tC (.int (5)))))) tNever tNext)
    (tSeq (sFld K (tVar 0) (tCB (rSrt K) (tCons (tVar 1) tNil)) "fixed_columns")
    (sFld K (tVar 0) (tVar 2) "span_column")))))))
theorem si_Shape_D_init_D {K : PySem.W.Frag} {WW : WX} (kf : KF K) : SimS K WW (t_Shape_D_init_D K) (CP.b_Shape_D_init_D KS false) := (sim_seq (sim_ifs (sim_or (sim_not (sim_tru (sim_call (sim_cons (sim_fr sim_var) sim_nil)))) (sim_test (sim_op o_gt (sim_cb o_len (sim_cons sim_var sim_nil)) (sim_c fun _ _ _ => .int _)))) sim_rz0 sim_next)
    (sim_seq (sim_for (sim_enum (sim_cons sim_var sim_nil)) (sim_gtup (sim_gcons sim_gnameC (sim_gcons sim_gnameC sim_gnil))) (sim_seq (sim_ifs (sim_not (sim_tru (sim_call (sim_cons (sim_fr sim_var) sim_nil)))) sim_rz0 sim_next)
    (sim_ifs (sim_test (sim_op o_in sim_var (sim_sl sim_var sim_nopart (sim_part sim_var)))) sim_rz0 sim_next)))
    (sim_seq (sim_ifs (sim_and (sim_test (sim_op o_isnt sim_var (sim_c fun _ _ _ => .non))) (sim_not (sim_tru (sim_call (sim_cons (sim_fr sim_var) sim_nil))))) sim_rz0 sim_next)
    (sim_seq (sim_ifs (sim_test (sim_op o_in sim_var sim_var)) sim_rz0 sim_next)
    (sim_seq (sim_ifs (sim_and (sim_test (sim_op o_isnt sim_var (sim_c fun _ _ _ => .non))) (sim_test (sim_op o_eq (sim_cb o_len (sim_cons sim_var sim_nil)) (sim_c fun _ _ _ => .int _)))) sim_rz0 sim_next)
    (sim_seq (sim_sfld kf.k2.cls kf.k4 sim_var (sim_cb o_srt (sim_cons sim_var sim_nil)))
    (sim_sfld kf.k2.cls kf.k3 sim_var sim_var)))))))
theorem len_Shape_D_init_D {K : PySem.W.Frag} {vs : List V} {H : Hp} {Q : VK} {E : XK} (h : sp_Shape_D_init_D K vs H Q E) : vs.length = ["self", "fixed", "span"].length := len_spM (ps := ["self", "fixed", "span"]) (fun _ _ _ h => len_fnM h) h
theorem pure_Shape_D_init_D {K : PySem.W.Frag} (kf : KF K) (vs : List V) (H : Hp) (Q : VK) (E : XK) (h : sp_Shape_D_init_D K vs H Q E) : t_Shape_D_init_D K { nx := fun _ H' => Q .non H', rt := Q } (L2.start ["self", "fixed", "span", "at", "column"] vs) H := pure_fnM (n := 3) (k := 2) rfl (si_Shape_D_init_D kf) h
abbrev sp_Shape_D_eq_D (K : PySem.W.Frag) : Sp := spM K (CP.m_Shape_D_eq_D KS false)
def t_Shape_D_eq_D (K : PySem.W.Frag) : TS := (tSeq (tIfS (tNot (tTruK K (tCB (vIsi K) (tCons (tVar 1) (tCons (tC (.ref (He.ga K "Shape"))) tNil))))) (tRet (tC (.bl false))) tNext)
    (tRet (tAndV (tOp (uEq K) (tFld K (tVar 0) "fixed_columns") (tFld K (tVar 1) "fixed_columns")) (tOp (uEq K) (tFld K (tVar 0) "span_column") (tFld K (tVar 1) "span_column")))))
theorem si_Shape_D_eq_D {K : PySem.W.Frag} {WW : WX} (kf : KF K) : SimS K WW (t_Shape_D_eq_D K) (CP.b_Shape_D_eq_D KS false) := (sim_seq (sim_ifs (sim_not (sim_tru (sim_cb (o_isi kf.k5) (sim_cons sim_var (sim_cons (sim_c fun _ _ _ => .glo _) sim_nil))))) (sim_ret (sim_c fun _ _ _ => .bl _)) sim_next)
    (sim_ret (sim_andV (sim_op o_eq (sim_fld kf.k2.cls kf.k4 sim_var) (sim_fld kf.k2.cls kf.k4 sim_var)) (sim_op o_eq (sim_fld kf.k2.cls kf.k3 sim_var) (sim_fld kf.k2.cls kf.k3 sim_var)))))
theorem len_Shape_D_eq_D {K : PySem.W.Frag} {vs : List V} {H : Hp} {Q : VK} {E : XK} (h : sp_Shape_D_eq_D K vs H Q E) : vs.length = ["self", "other"].length := len_spM (ps := ["self", "other"]) (fun _ _ _ h => len_fnM h) h
theorem pure_Shape_D_eq_D {K : PySem.W.Frag} (kf : KF K) (vs : List V) (H : Hp) (Q : VK) (E : XK) (h : sp_Shape_D_eq_D K vs H Q E) : t_Shape_D_eq_D K { nx := fun _ H' => Q .non H', rt := Q } (L2.start ["self", "other"] vs) H := pure_fnM (n := 2) (k := 0) rfl (si_Shape_D_eq_D kf) h
abbrev sp_checked_columns (K : PySem.W.Frag) : Sp := spM K m_checked_columns
def t_checked_columns (K : PySem.W.Frag) : TS := (tSeq (tIfS (tOr (tNot (tTruK K (tCall (sp_is_list K) [] E0 (tCons (tVar 0) tNil)))) (tNot (tTest (tChain uLe uLe (tC (.int 1)) (tCB (uLen K) (tCons (tVar 0) tNil)) (tC (.int (5))))))) tNever tNext)
    (tSeq (tAsg (tLst tNil) (gName 1))
    (tSeq (tFor (iU K (tVar 0)) (gName 2) (tSeq (tIfS (tNot (tTruK K (tCall (sp_is_name K) [] E0 (tCons (tVar 2) tNil)))) tNever tNext)
    (tSeq (tIfS (tTest (tOp (uIn K) (tVar 2) (tVar 1))) tNever tNext)
    (tDrop (tBM K "list" rAppend (tVar 1) (tCons (tVar 2) tNil))))))
    (tRet (tVar 1)))))
theorem si_checked_columns {K : PySem.W.Frag} {WW : WX} (kf : KF K) : SimS K WW (t_checked_columns K) b_checked_columns := (sim_seq (sim_ifs (sim_or (sim_not (sim_tru (sim_call (sim_cons (sim_fr sim_var) sim_nil)))) (sim_not (sim_test (sim_chain o_le o_le (sim_c fun _ _ _ => .int _) (sim_cb o_len (sim_cons sim_var sim_nil)) (sim_c fun _ _ _ => .int _))))) sim_rz0 sim_next)
    (sim_seq (sim_asg (sim_lst sim_nil) sim_gname)
    (sim_seq (sim_for (sim_iU sim_var) sim_gnameC (sim_seq (sim_ifs (sim_not (sim_tru (sim_call (sim_cons (sim_fr sim_var) sim_nil)))) sim_rz0 sim_next)
    (sim_seq (sim_ifs (sim_test (sim_op o_in sim_var sim_var)) sim_rz0 sim_next)
    (sim_drop (sim_mut rfl mu_append sim_var (sim_cons sim_var sim_nil))))))
    (sim_ret sim_var))))
theorem len_checked_columns {K : PySem.W.Frag} {vs : List V} {H : Hp} {Q : VK} {E : XK} (h : sp_checked_columns K vs H Q E) : vs.length = ["columns"].length := len_spM (ps := ["columns"]) (fun _ _ _ h => len_fnM h) h
theorem pure_checked_columns {K : PySem.W.Frag} (kf : KF K) (vs : List V) (H : Hp) (Q : VK) (E : XK) (h : sp_checked_columns K vs H Q E) : t_checked_columns K { nx := fun _ H' => Q .non H', rt := Q } (L2.start ["columns", "found", "name"] vs) H := pure_fnM (n := 1) (k := 2) rfl (si_checked_columns kf) h
abbrev sp_Order_D_init_D (K : PySem.W.Frag) : Sp := spM K m_Order_D_init_D
def t_Order_D_init_D (K : PySem.W.Frag) : TS := (sFld K (tVar 0) (tCall (sp_checked_columns K) [] E0 (tCons (tVar 1) tNil)) "own_columns")
theorem si_Order_D_init_D {K : PySem.W.Frag} {WW : WX} (kf : KF K) : SimS K WW (t_Order_D_init_D K) b_Order_D_init_D := (sim_sfld kf.k6.cls kf.k7 sim_var (sim_call (sim_cons (sim_fr sim_var) sim_nil)))
theorem len_Order_D_init_D {K : PySem.W.Frag} {vs : List V} {H : Hp} {Q : VK} {E : XK} (h : sp_Order_D_init_D K vs H Q E) : vs.length = ["self", "columns"].length := len_spM (ps := ["self", "columns"]) (fun _ _ _ h => len_fnM h) h
theorem pure_Order_D_init_D {K : PySem.W.Frag} (kf : KF K) (vs : List V) (H : Hp) (Q : VK) (E : XK) (h : sp_Order_D_init_D K vs H Q E) : t_Order_D_init_D K { nx := fun _ H' => Q .non H', rt := Q } (L2.start ["self", "columns"] vs) H := pure_fnM (n := 2) (k := 0) rfl (si_Order_D_init_D kf) h
abbrev sp_Order_columns (K : PySem.W.Frag) : Sp := spM K m_Order_columns
def t_Order_columns (K : PySem.W.Frag) : TS := (tRet (tCB (uList K) (tCons (tFld K (tVar 0) "own_columns") tNil)))
theorem si_Order_columns {K : PySem.W.Frag} {WW : WX} (kf : KF K) : SimS K WW (t_Order_columns K) b_Order_columns := (sim_ret (sim_cb o_list (sim_cons (sim_fld kf.k6.cls kf.k7 sim_var) sim_nil)))
theorem len_Order_columns {K : PySem.W.Frag} {vs : List V} {H : Hp} {Q : VK} {E : XK} (h : sp_Order_columns K vs H Q E) : vs.length = ["self"].length := len_spM (ps := ["self"]) (fun _ _ _ h => len_fnM h) h
theorem pure_Order_columns {K : PySem.W.Frag} (kf : KF K) (vs : List V) (H : Hp) (Q : VK) (E : XK) (h : sp_Order_columns K vs H Q E) : t_Order_columns K { nx := fun _ H' => Q .non H', rt := Q } (L2.start ["self"] vs) H := pure_fnM (n := 1) (k := 0) rfl (si_Order_columns kf) h
abbrev sp_Order_D_len_D (K : PySem.W.Frag) : Sp := spM K m_Order_D_len_D
def t_Order_D_len_D (K : PySem.W.Frag) : TS := (tRet (tCB (uLen K) (tCons (tFld K (tVar 0) "own_columns") tNil)))
theorem si_Order_D_len_D {K : PySem.W.Frag} {WW : WX} (kf : KF K) : SimS K WW (t_Order_D_len_D K) b_Order_D_len_D := (sim_ret (sim_cb o_len (sim_cons (sim_fld kf.k6.cls kf.k7 sim_var) sim_nil)))
theorem len_Order_D_len_D {K : PySem.W.Frag} {vs : List V} {H : Hp} {Q : VK} {E : XK} (h : sp_Order_D_len_D K vs H Q E) : vs.length = ["self"].length := len_spM (ps := ["self"]) (fun _ _ _ h => len_fnM h) h
theorem pure_Order_D_len_D {K : PySem.W.Frag} (kf : KF K) (vs : List V) (H : Hp) (Q : VK) (E : XK) (h : sp_Order_D_len_D K vs H Q E) : t_Order_D_len_D K { nx := fun _ H' => Q .non H', rt := Q } (L2.start ["self"] vs) H := pure_fnM (n := 1) (k := 0) rfl (si_Order_D_len_D kf) h
abbrev sp_Order_D_eq_D (K : PySem.W.Frag) : Sp := spM K m_Order_D_eq_D
def t_Order_D_eq_D (K : PySem.W.Frag) : TS := (tRet (tAndV (tCB (vIsi K) (tCons (tVar 1) (tCons (tC (.ref (He.ga K "Order"))) tNil))) (tOp (uEq K) (tFld K (tVar 0) "own_columns") (tMeth (He.ga K "Order") "columns" (sp_Order_columns K) [] E0 (tVar 1) tNil))))
theorem si_Order_D_eq_D {K : PySem.W.Frag} {WW : WX} (kf : KF K) : SimS K WW (t_Order_D_eq_D K) b_Order_D_eq_D := (sim_ret (sim_andV (sim_cb (o_isi kf.k8) (sim_cons sim_var (sim_cons (sim_c fun _ _ _ => .glo _) sim_nil))) (sim_op o_eq (sim_fld kf.k6.cls kf.k7 sim_var) (sim_meth sim_var sim_nil))))
theorem len_Order_D_eq_D {K : PySem.W.Frag} {vs : List V} {H : Hp} {Q : VK} {E : XK} (h : sp_Order_D_eq_D K vs H Q E) : vs.length = ["self", "other"].length := len_spM (ps := ["self", "other"]) (fun _ _ _ h => len_fnM h) h
theorem pure_Order_D_eq_D {K : PySem.W.Frag} (kf : KF K) (vs : List V) (H : Hp) (Q : VK) (E : XK) (h : sp_Order_D_eq_D K vs H Q E) : t_Order_D_eq_D K { nx := fun _ H' => Q .non H', rt := Q } (L2.start ["self", "other"] vs) H := pure_fnM (n := 2) (k := 0) rfl (si_Order_D_eq_D kf) h
abbrev sp_Order_D_str_D (K : PySem.W.Frag) : Sp := spM K m_Order_D_str_D
def t_Order_D_str_D (K : PySem.W.Frag) : TS := (tRet (tBM K "str" (rJoin K) (tC (.str " ")) (tCons (tFld K (tVar 0) "own_columns") tNil)))
theorem si_Order_D_str_D {K : PySem.W.Frag} {WW : WX} (kf : KF K) : SimS K WW (t_Order_D_str_D K) b_Order_D_str_D := (sim_ret (sim_bs rfl o_join (sim_c fun _ _ _ => .str _) (sim_cons (sim_fld kf.k6.cls kf.k7 sim_var) sim_nil)))
theorem len_Order_D_str_D {K : PySem.W.Frag} {vs : List V} {H : Hp} {Q : VK} {E : XK} (h : sp_Order_D_str_D K vs H Q E) : vs.length = ["self"].length := len_spM (ps := ["self"]) (fun _ _ _ h => len_fnM h) h
theorem pure_Order_D_str_D {K : PySem.W.Frag} (kf : KF K) (vs : List V) (H : Hp) (Q : VK) (E : XK) (h : sp_Order_D_str_D K vs H Q E) : t_Order_D_str_D K { nx := fun _ H' => Q .non H', rt := Q } (L2.start ["self"] vs) H := pure_fnM (n := 1) (k := 0) rfl (si_Order_D_str_D kf) h
abbrev sp_Order_D_repr_D (K : PySem.W.Frag) : Sp := spM K m_Order_D_repr_D
def t_Order_D_repr_D (K : PySem.W.Frag) : TS := (tRet (fun σ H Q => tJs [(tC (.str "Order(")), (tCB (SL.uRepr K) (tCons (tFld K (tVar 0) "own_columns") tNil)), (tC (.str ")"))] Str.empty σ H fun out H1 => Q (.str out) H1))
theorem si_Order_D_repr_D {K : PySem.W.Frag} {WW : WX} (kf : KF K) : SimS K WW (t_Order_D_repr_D K) b_Order_D_repr_D := (sim_ret (sim_js (.cons (sim_c fun _ _ _ => .str _) (.cons (sim_cb o_repr (sim_cons (sim_fld kf.k6.cls kf.k7 sim_var) sim_nil)) (.cons (sim_c fun _ _ _ => .str _) .nil))) Str.empty))
theorem len_Order_D_repr_D {K : PySem.W.Frag} {vs : List V} {H : Hp} {Q : VK} {E : XK} (h : sp_Order_D_repr_D K vs H Q E) : vs.length = ["self"].length := len_spM (ps := ["self"]) (fun _ _ _ h => len_fnM h) h
theorem pure_Order_D_repr_D {K : PySem.W.Frag} (kf : KF K) (vs : List V) (H : Hp) (Q : VK) (E : XK) (h : sp_Order_D_repr_D K vs H Q E) : t_Order_D_repr_D K { nx := fun _ H' => Q .non H', rt := Q } (L2.start ["self"] vs) H := pure_fnM (n := 1) (k := 0) rfl (si_Order_D_repr_D kf) h
abbrev sp_parse_order (K : PySem.W.Frag) : Sp := spM K m_parse_order
def t_parse_order (K : PySem.W.Frag) : TS := (tSeq (tAsg (tKl (sp_split_words K) [.pos 0, .low 0] [(V.str " ")] 1 0 (tCons (tVar 0) tNil) tNil) (gName 1))
    (tSeq (tIfS (tOr (tTest (tOp uIs (tVar 1) (tC .non))) (tOr (tTest (tOp SL.rGt (tCB (uLen K) (tCons (tVar 1) tNil)) (tC (.int (5))))) (tNot (tTruK K (tCB (rAllL K) (tCons (tLc (iU K (tVar 1)) (gName 2) tYes (tCall (sp_is_name K) [] E0 (tCons (tVar 2) tNil)) [2]) tNil)))))) tNever tNext)
    (tSeq (tIfS (tTest (tOp (uLt K) (tLenSc (iU K (tVar 1)) (gName 2) (tVar 2) [2]) (tCB (uLen K) (tCons (tVar 1) tNil)))) tNever tNext)
    (tRet (tMake (He.ga K "Order") (sp_Order_D_init_D K) [] E0 (tCons (tVar 1) tNil))))))
theorem si_parse_order {K : PySem.W.Frag} {WW : WX} (kf : KF K) : SimS K WW (t_parse_order K) b_parse_order := (sim_seq (sim_asg (sim_low (fun vs h => match vs, h with | [_], _ => rfl) (fun _ _ _ => (.cons (.str _) .nil)) (sim_cons (sim_fr sim_var) sim_nil)) sim_gnameC)
    (sim_seq (sim_ifs (sim_or (sim_test (sim_op o_is sim_var (sim_c fun _ _ _ => .non))) (sim_or (sim_test (sim_op o_gt (sim_cb o_len (sim_cons sim_var sim_nil)) (sim_c fun _ _ _ => .int _))) (sim_not (sim_tru (sim_cb o_all (sim_cons (sim_lc (sim_iU sim_var) sim_gnameC (ok_name (by decide)) sim_yes (sim_call (sim_cons (sim_fr sim_var) sim_nil))) sim_nil)))))) sim_rz0 sim_next)
    (sim_seq (sim_ifs (sim_test (sim_op o_lt (sim_lenSc (sim_iU sim_var) sim_gnameC (ok_name (by decide)) sim_var) (sim_cb o_len (sim_cons sim_var sim_nil)))) sim_rz0 sim_next)
    (sim_ret (sim_make (fun _ _ _ => .nil) (sim_cons (sim_fr sim_var) sim_nil))))))
theorem len_parse_order {K : PySem.W.Frag} {vs : List V} {H : Hp} {Q : VK} {E : XK} (h : sp_parse_order K vs H Q E) : vs.length = ["text"].length := len_spM (ps := ["text"]) (fun _ _ _ h => len_fnM h) h
theorem pure_parse_order {K : PySem.W.Frag} (kf : KF K) (vs : List V) (H : Hp) (Q : VK) (E : XK) (h : sp_parse_order K vs H Q E) : t_parse_order K { nx := fun _ H' => Q .non H', rt := Q } (L2.start ["text", "words", "word"] vs) H := pure_fnM (n := 1) (k := 2) rfl (si_parse_order kf) h
abbrev sp_checked_parts (K : PySem.W.Frag) : Sp := spM K m_checked_parts
def t_checked_parts (K : PySem.W.Frag) : TS := (tSeq (tIfS (tOr (tNot (tTruK K (tCall (sp_is_list K) [] E0 (tCons (tVar 0) tNil)))) (tNot (tTest (tChain uLe uLe (tC (.int 1)) (tCB (uLen K) (tCons (tVar 0) tNil)) (tC (.int (5))))))) tNever tNext)
    (tSeq (tPar 1 2 (tCons (tLst tNil) (tCons (tLst tNil) tNil)))
    (tSeq (tFor (iU K (tVar 0)) (gName 3) (tSeq (tIfS (tOr (tNot (tTruK K (tCall (sp_is_list K) [] E0 (tCons (tVar 3) tNil)))) (tTest (tOp (uEq K) (tCB (uLen K) (tCons (tVar 3) tNil)) (tC (.int 0))))) tNever tNext)
    (tSeq (tFor (iU K (tVar 3)) (gName 4) (tSeq (tIfS (tNot (tTruK K (tCall (sp_is_name K) [] E0 (tCons (tVar 4) tNil)))) tNever tNext)
    (tSeq (tIfS (tTest (tOp (uIn K) (tVar 4) (tVar 2))) tNever tNext)
    (tDrop (tBM K "list" rAppend (tVar 2) (tCons (tVar 4) tNil))))))
    (tDrop (tBM K "list" rAppend (tVar 1) (tCons (tCB (rSrt K) (tCons (tVar 3) tNil)) tNil))))))
    (tSeq (tIfS (tTest (tOp SL.rGt (tCB (uLen K) (tCons (tVar 2) tNil)) (tC (.int (5))))) tNever tNext)
    (tRet (tVar 1))))))
theorem si_checked_parts {K : PySem.W.Frag} {WW : WX} (kf : KF K) : SimS K WW (t_checked_parts K) b_checked_parts := (sim_seq (sim_ifs (sim_or (sim_not (sim_tru (sim_call (sim_cons (sim_fr sim_var) sim_nil)))) (sim_not (sim_test (sim_chain o_le o_le (sim_c fun _ _ _ => .int _) (sim_cb o_len (sim_cons sim_var sim_nil)) (sim_c fun _ _ _ => .int _))))) sim_rz0 sim_next)
    (sim_seq (sim_par (sim_cons (sim_lst sim_nil) (sim_cons (sim_lst sim_nil) sim_nil)))
    (sim_seq (sim_for (sim_iU sim_var) sim_gnameC (sim_seq (sim_ifs (sim_or (sim_not (sim_tru (sim_call (sim_cons (sim_fr sim_var) sim_nil)))) (sim_test (sim_op o_eq (sim_cb o_len (sim_cons sim_var sim_nil)) (sim_c fun _ _ _ => .int _)))) sim_rz0 sim_next)
    (sim_seq (sim_for (sim_iU sim_var) sim_gnameC (sim_seq (sim_ifs (sim_not (sim_tru (sim_call (sim_cons (sim_fr sim_var) sim_nil)))) sim_rz0 sim_next)
    (sim_seq (sim_ifs (sim_test (sim_op o_in sim_var sim_var)) sim_rz0 sim_next)
    (sim_drop (sim_mut rfl mu_append sim_var (sim_cons sim_var sim_nil))))))
    (sim_drop (sim_mut rfl mu_append sim_var (sim_cons (sim_cb o_srt (sim_cons sim_var sim_nil)) sim_nil))))))
    (sim_seq (sim_ifs (sim_test (sim_op o_gt (sim_cb o_len (sim_cons sim_var sim_nil)) (sim_c fun _ _ _ => .int _))) sim_rz0 sim_next)
    (sim_ret sim_var)))))
theorem len_checked_parts {K : PySem.W.Frag} {vs : List V} {H : Hp} {Q : VK} {E : XK} (h : sp_checked_parts K vs H Q E) : vs.length = ["parts"].length := len_spM (ps := ["parts"]) (fun _ _ _ h => len_fnM h) h
theorem pure_checked_parts {K : PySem.W.Frag} (kf : KF K) (vs : List V) (H : Hp) (Q : VK) (E : XK) (h : sp_checked_parts K vs H Q E) : t_checked_parts K { nx := fun _ H' => Q .non H', rt := Q } (L2.start ["parts", "found", "known", "part", "name"] vs) H := pure_fnM (n := 1) (k := 4) rfl (si_checked_parts kf) h
abbrev sp_Blocks_D_init_D (K : PySem.W.Frag) : Sp := spM K m_Blocks_D_init_D
def t_Blocks_D_init_D (K : PySem.W.Frag) : TS := (sFld K (tVar 0) (tCall (sp_checked_parts K) [] E0 (tCons (tVar 1) tNil)) "own_parts")
theorem si_Blocks_D_init_D {K : PySem.W.Frag} {WW : WX} (kf : KF K) : SimS K WW (t_Blocks_D_init_D K) b_Blocks_D_init_D := (sim_sfld kf.k9.cls kf.k10 sim_var (sim_call (sim_cons (sim_fr sim_var) sim_nil)))
theorem len_Blocks_D_init_D {K : PySem.W.Frag} {vs : List V} {H : Hp} {Q : VK} {E : XK} (h : sp_Blocks_D_init_D K vs H Q E) : vs.length = ["self", "parts"].length := len_spM (ps := ["self", "parts"]) (fun _ _ _ h => len_fnM h) h
theorem pure_Blocks_D_init_D {K : PySem.W.Frag} (kf : KF K) (vs : List V) (H : Hp) (Q : VK) (E : XK) (h : sp_Blocks_D_init_D K vs H Q E) : t_Blocks_D_init_D K { nx := fun _ H' => Q .non H', rt := Q } (L2.start ["self", "parts"] vs) H := pure_fnM (n := 2) (k := 0) rfl (si_Blocks_D_init_D kf) h
abbrev sp_Blocks_parts (K : PySem.W.Frag) : Sp := spM K m_Blocks_parts
def t_Blocks_parts (K : PySem.W.Frag) : TS := (tRet (tLc (iU K (tFld K (tVar 0) "own_parts")) (gName 1) tYes (tCB (uList K) (tCons (tVar 1) tNil)) [1]))
theorem si_Blocks_parts {K : PySem.W.Frag} {WW : WX} (kf : KF K) : SimS K WW (t_Blocks_parts K) b_Blocks_parts := (sim_ret (sim_lc (sim_iU (sim_fld kf.k9.cls kf.k10 sim_var)) sim_gnameC (ok_name (by decide)) sim_yes (sim_cb o_list (sim_cons sim_var sim_nil))))
theorem len_Blocks_parts {K : PySem.W.Frag} {vs : List V} {H : Hp} {Q : VK} {E : XK} (h : sp_Blocks_parts K vs H Q E) : vs.length = ["self"].length := len_spM (ps := ["self"]) (fun _ _ _ h => len_fnM h) h
theorem pure_Blocks_parts {K : PySem.W.Frag} (kf : KF K) (vs : List V) (H : Hp) (Q : VK) (E : XK) (h : sp_Blocks_parts K vs H Q E) : t_Blocks_parts K { nx := fun _ H' => Q .non H', rt := Q } (L2.start ["self", "part"] vs) H := pure_fnM (n := 1) (k := 1) rfl (si_Blocks_parts kf) h
abbrev sp_Blocks_D_eq_D (K : PySem.W.Frag) : Sp := spM K m_Blocks_D_eq_D
def t_Blocks_D_eq_D (K : PySem.W.Frag) : TS := (tRet (tAndV (tCB (vIsi K) (tCons (tVar 1) (tCons (tC (.ref (He.ga K "Blocks"))) tNil))) (tOp (uEq K) (tFld K (tVar 0) "own_parts") (tMeth (He.ga K "Blocks") "parts" (sp_Blocks_parts K) [] E0 (tVar 1) tNil))))
theorem si_Blocks_D_eq_D {K : PySem.W.Frag} {WW : WX} (kf : KF K) : SimS K WW (t_Blocks_D_eq_D K) b_Blocks_D_eq_D := (sim_ret (sim_andV (sim_cb (o_isi kf.k11) (sim_cons sim_var (sim_cons (sim_c fun _ _ _ => .glo _) sim_nil))) (sim_op o_eq (sim_fld kf.k9.cls kf.k10 sim_var) (sim_meth sim_var sim_nil))))
theorem len_Blocks_D_eq_D {K : PySem.W.Frag} {vs : List V} {H : Hp} {Q : VK} {E : XK} (h : sp_Blocks_D_eq_D K vs H Q E) : vs.length = ["self", "other"].length := len_spM (ps := ["self", "other"]) (fun _ _ _ h => len_fnM h) h
theorem pure_Blocks_D_eq_D {K : PySem.W.Frag} (kf : KF K) (vs : List V) (H : Hp) (Q : VK) (E : XK) (h : sp_Blocks_D_eq_D K vs H Q E) : t_Blocks_D_eq_D K { nx := fun _ H' => Q .non H', rt := Q } (L2.start ["self", "other"] vs) H := pure_fnM (n := 2) (k := 0) rfl (si_Blocks_D_eq_D kf) h
abbrev sp_l_law_cell (K : PySem.W.Frag) : Sp := spM K m_l_law_cell
def t_l_law_cell (K : PySem.W.Frag) : TS := (tSeq (tIfS (tTest (tOp (uLt K) (tVar 1) (tCB (uLen K) (tCons (tVar 0) tNil)))) (tRet (tOp (uIx K) (tVar 0) (tVar 1))) tNext)
    (tRet (tOp (uAdd K) (tOp (uMul K) (tC (.int 6007)) (tVar 1)) (tC (.int 31)))))
theorem si_l_law_cell {K : PySem.W.Frag} {WW : WX} (kf : KF K) : SimS K WW (t_l_law_cell K) b_l_law_cell := (sim_seq (sim_ifs (sim_test (sim_op o_lt sim_var (sim_cb o_len (sim_cons sim_var sim_nil)))) (sim_ret (sim_op o_ix sim_var sim_var)) sim_next)
    (sim_ret (sim_op o_add (sim_op o_mul (sim_c fun _ _ _ => .int _) sim_var) (sim_c fun _ _ _ => .int _))))
theorem len_l_law_cell {K : PySem.W.Frag} {vs : List V} {H : Hp} {Q : VK} {E : XK} (h : sp_l_law_cell K vs H Q E) : vs.length = ["_law_script", "_law_k"].length := len_spM (ps := ["_law_script", "_law_k"]) (fun _ _ _ h => len_fnM h) h
theorem pure_l_law_cell {K : PySem.W.Frag} (kf : KF K) (vs : List V) (H : Hp) (Q : VK) (E : XK) (h : sp_l_law_cell K vs H Q E) : t_l_law_cell K { nx := fun _ H' => Q .non H', rt := Q } (L2.start ["_law_script", "_law_k"] vs) H := pure_fnM (n := 2) (k := 0) rfl (si_l_law_cell kf) h
abbrev sp_l_law_box (K : PySem.W.Frag) : Sp := spM K m_l_law_box
def t_l_law_box (K : PySem.W.Frag) : TS := (tRet (tLst (tCons (tCB rMax2 (tCons (tC (.int 0)) (tCons (tOp SL.rSub (tVar 0) (tOp SL.rPow (tC (.int 10)) (tC (.int 18)))) tNil))) (tCons (tOp SL.rMod (tVar 0) (tC (.int 2147483629))) (tCons (tC (.int 0)) tNil)))))
theorem si_l_law_box {K : PySem.W.Frag} {WW : WX} (kf : KF K) : SimS K WW (t_l_law_box K) b_l_law_box := (sim_ret (sim_lst (sim_cons (sim_cb o_max2 (sim_cons (sim_c fun _ _ _ => .int _) (sim_cons (sim_op o_sub sim_var (sim_op o_pow (sim_c fun _ _ _ => .int _) (sim_c fun _ _ _ => .int _))) sim_nil))) (sim_cons (sim_op o_mod sim_var (sim_c fun _ _ _ => .int _)) (sim_cons (sim_c fun _ _ _ => .int _) sim_nil)))))
theorem len_l_law_box {K : PySem.W.Frag} {vs : List V} {H : Hp} {Q : VK} {E : XK} (h : sp_l_law_box K vs H Q E) : vs.length = ["_law_cell_here"].length := len_spM (ps := ["_law_cell_here"]) (fun _ _ _ h => len_fnM h) h
theorem pure_l_law_box {K : PySem.W.Frag} (kf : KF K) (vs : List V) (H : Hp) (Q : VK) (E : XK) (h : sp_l_law_box K vs H Q E) : t_l_law_box K { nx := fun _ H' => Q .non H', rt := Q } (L2.start ["_law_cell_here"] vs) H := pure_fnM (n := 1) (k := 0) rfl (si_l_law_box kf) h
abbrev sp_l_law_take (K : PySem.W.Frag) : Sp := spM K m_l_law_take
def t_l_law_take (K : PySem.W.Frag) : TS := (tSeq (tIfS (tTest (tOp SL.rGt (tOp (uIx K) (tVar 0) (tC (.int 0))) (tC (.int 0)))) (tSeq (tAsg (tOp SL.rMod (tOp (uIx K) (tVar 0) (tC (.int 0))) (tVar 1)) (gName 4))
    (tSeq (tAsg (tOp SL.rDiv (tOp (uIx K) (tVar 0) (tC (.int 0))) (tVar 1)) (gSub (tVar 0) (tC (.int 0)) rSetL))
    (tRet (tVar 4)))) tNext)
    (tSeq (tAsg (tOp (uAdd K) (tOp (uIx K) (tVar 0) (tC (.int 2))) (tC (.int 1))) (gSub (tVar 0) (tC (.int 2)) rSetL))
    (tSeq (tAsg (tOp SL.rMod (tOp (uAdd K) (tOp (uAdd K) (tOp (uMul K) (tOp (uIx K) (tVar 0) (tC (.int 1))) (tC (.int 48271))) (tOp (uMul K) (tC (.int 6007)) (tOp (uIx K) (tVar 0) (tC (.int 2))))) (tC (.int 31))) (tC (.int 2147483647))) (gName 2))
    (tSeq (tAsg (tOp SL.rMod (tOp SL.rPow (tOp (uAdd K) (tVar 2) (tOp (uMul K) (tC (.int 15485863)) (tOp (uIx K) (tVar 0) (tC (.int 2))))) (tC (.int 2))) (tC (.int 2147483629))) (gName 3))
    (tRet (tOp SL.rMod (tOp (uAdd K) (tOp SL.rDiv (tOp SL.rMod (tOp SL.rPow (tVar 3) (tC (.int 2))) (tC (.int 2147483587))) (tC (.int 16))) (tOp SL.rDiv (tVar 2) (tC (.int 64)))) (tVar 1)))))))
theorem si_l_law_take {K : PySem.W.Frag} {WW : WX} (kf : KF K) : SimS K WW (t_l_law_take K) b_l_law_take := (sim_seq (sim_ifs (sim_test (sim_op o_gt (sim_op o_ix sim_var (sim_c fun _ _ _ => .int _)) (sim_c fun _ _ _ => .int _))) (sim_seq (sim_asg (sim_op o_mod (sim_op o_ix sim_var (sim_c fun _ _ _ => .int _)) sim_var) sim_gnameC)
    (sim_seq (sim_asg (sim_op o_div (sim_op o_ix sim_var (sim_c fun _ _ _ => .int _)) sim_var) (sim_gsub sim_var (sim_c fun _ _ _ => .int _)))
    (sim_ret sim_var))) sim_next)
    (sim_seq (sim_asg (sim_op o_add (sim_op o_ix sim_var (sim_c fun _ _ _ => .int _)) (sim_c fun _ _ _ => .int _)) (sim_gsub sim_var (sim_c fun _ _ _ => .int _)))
    (sim_seq (sim_asg (sim_op o_mod (sim_op o_add (sim_op o_add (sim_op o_mul (sim_op o_ix sim_var (sim_c fun _ _ _ => .int _)) (sim_c fun _ _ _ => .int _)) (sim_op o_mul (sim_c fun _ _ _ => .int _) (sim_op o_ix sim_var (sim_c fun _ _ _ => .int _)))) (sim_c fun _ _ _ => .int _)) (sim_c fun _ _ _ => .int _)) sim_gnameC)
    (sim_seq (sim_asg (sim_op o_mod (sim_op o_pow (sim_op o_add sim_var (sim_op o_mul (sim_c fun _ _ _ => .int _) (sim_op o_ix sim_var (sim_c fun _ _ _ => .int _)))) (sim_c fun _ _ _ => .int _)) (sim_c fun _ _ _ => .int _)) sim_gnameC)
    (sim_ret (sim_op o_mod (sim_op o_add (sim_op o_div (sim_op o_mod (sim_op o_pow sim_var (sim_c fun _ _ _ => .int _)) (sim_c fun _ _ _ => .int _)) (sim_c fun _ _ _ => .int _)) (sim_op o_div sim_var (sim_c fun _ _ _ => .int _))) sim_var))))))
theorem len_l_law_take {K : PySem.W.Frag} {vs : List V} {H : Hp} {Q : VK} {E : XK} (h : sp_l_law_take K vs H Q E) : vs.length = ["_law_box_here", "_law_many"].length := len_spM (ps := ["_law_box_here", "_law_many"]) (fun _ _ _ h => len_fnM h) h
theorem pure_l_law_take {K : PySem.W.Frag} (kf : KF K) (vs : List V) (H : Hp) (Q : VK) (E : XK) (h : sp_l_law_take K vs H Q E) : t_l_law_take K { nx := fun _ H' => Q .non H', rt := Q } (L2.start ["_law_box_here", "_law_many", "_law_front", "_law_back", "_law_digit"] vs) H := pure_fnM (n := 2) (k := 3) rfl (si_l_law_take kf) h
abbrev sp_l_law_mixed (K : PySem.W.Frag) : Sp := spM K m_l_law_mixed
def t_l_law_mixed (K : PySem.W.Frag) : TS := (tSeq (tAsg (tCB (uList K) (tCons (tVar 1) tNil)) (gName 2))
    (tRet (tLc (iRng1 (tCons (tCB (uLen K) (tCons (tVar 1) tNil)) tNil)) (gName 3) tYes (tBM K "list" rPopAt (tVar 2) (tCons (tCall (sp_l_law_take K) [] E0 (tCons (tVar 0) (tCons (tCB (uLen K) (tCons (tVar 2) tNil)) tNil))) tNil)) [3])))
theorem si_l_law_mixed {K : PySem.W.Frag} {WW : WX} (kf : KF K) : SimS K WW (t_l_law_mixed K) b_l_law_mixed := (sim_seq (sim_asg (sim_cb o_list (sim_cons sim_var sim_nil)) sim_gname)
    (sim_ret (sim_lc (sim_rng1 (sim_cons (sim_cb o_len (sim_cons sim_var sim_nil)) sim_nil)) sim_gnameC (ok_name (by decide)) sim_yes (sim_mut rfl mu_popAt sim_var (sim_cons (sim_call (sim_cons (sim_ce sim_var) (sim_cons (sim_fr (sim_cb o_len (sim_cons sim_var sim_nil))) sim_nil))) sim_nil)))))
theorem len_l_law_mixed {K : PySem.W.Frag} {vs : List V} {H : Hp} {Q : VK} {E : XK} (h : sp_l_law_mixed K vs H Q E) : vs.length = ["_law_box_here", "_law_some"].length := len_spM (ps := ["_law_box_here", "_law_some"]) (fun _ _ _ h => len_fnM h) h
theorem pure_l_law_mixed {K : PySem.W.Frag} (kf : KF K) (vs : List V) (H : Hp) (Q : VK) (E : XK) (h : sp_l_law_mixed K vs H Q E) : t_l_law_mixed K { nx := fun _ H' => Q .non H', rt := Q } (L2.start ["_law_box_here", "_law_some", "_law_left", "_law_k"] vs) H := pure_fnM (n := 2) (k := 2) rfl (si_l_law_mixed kf) h
abbrev sp_l_law_columns (K : PySem.W.Frag) : Sp := spM K m_l_law_columns
def t_l_law_columns (K : PySem.W.Frag) : TS := (tSeq (tAsg (tC (.str "abcdefghijklmnopqrstuvwxyz")) (gName 2))
    (tSeq (tAsg (tTup (tCons (tCall (sp_l_law_take K) [] E0 (tCons (tVar 0) (tCons (tC (.int 4)) tNil))) (tCons (tCall (sp_l_law_take K) [] E0 (tCons (tVar 0) (tCons (tC (.int 26)) tNil))) tNil))) (gTup K 2 (gCons (gName 3) (gCons (gName 4) gNil))))
    (tSeq (tAsg (tBM K "str" (rJoin K) (tC (.str "")) (tCons (tLc (iRng1 (tCons (tC (.int 8)) tNil)) (gName 9) tYes (tOp (uIx K) (tVar 2) (tCall (sp_l_law_take K) [] E0 (tCons (tVar 0) (tCons (tC (.int 26)) tNil)))) [9]) tNil)) (gName 5))
    (tSeq (tAsg (tCall (sp_l_law_take K) [] E0 (tCons (tVar 0) (tCons (tC (.int 8)) tNil))) (gName 6))
    (tSeq (tAsg (tLc (iRng1 (tCons (tVar 1) tNil)) (gName 9) tYes (tOp (uAdd K) (tOp (uAdd K) (tSl (uSl K) (tVar 5) tNoPart (tPart (tVar 6))) (tOp (uIx K) (tVar 2) (tOp SL.rMod (tOp (uAdd K) (tVar 4) (tOp (uMul K) (tC (.int 11)) (tVar 9))) (tC (.int 26))))) (tSl (uSl K) (tVar 5) (tPart (tOp (uAdd K) (tVar 6) (tC (.int 1)))) tNoPart)) [9]) (gName 7))
    (tSeq (tIfS (tTest (tOp (uEq K) (tVar 3) (tC (.int 0)))) (tAsg (tLc (iRng1 (tCons (tVar 1) tNil)) (gName 9) tYes (tOp (uIx K) (tVar 2) (tOp SL.rMod (tOp (uAdd K) (tVar 4) (tOp (uMul K) (tC (.int 3)) (tVar 9))) (tC (.int 26)))) [9]) (gName 7)) tNext)
    (tSeq (tIfS (tTest (tOp (uEq K) (tVar 3) (tC (.int 1)))) (tSeq (tAsg (tCall (sp_l_law_take K) [] E0 (tCons (tVar 0) (tCons (tC (.int 4)) tNil))) (gName 8))
    (tAsg (tLc (iRng1 (tCons (tVar 1) tNil)) (gName 9) tYes (tSl (uSl K) (tVar 5) tNoPart (tPart (tOp (uAdd K) (tOp (uAdd K) (tVar 8) (tVar 9)) (tC (.int 1))))) [9]) (gName 7))) tNext)
    (tSeq (tIfS (tTest (tOp (uEq K) (tVar 3) (tC (.int 2)))) (tAsg (tLc (iRng1 (tCons (tVar 1) tNil)) (gName 9) tYes (tOp (uAdd K) (tOp (uIx K) (tVar 2) (tOp SL.rMod (tOp (uAdd K) (tVar 4) (tOp (uMul K) (tC (.int 7)) (tVar 9))) (tC (.int 26)))) (tSl (uSl K) (tVar 5) tNoPart (tPart (tCall (sp_l_law_take K) [] E0 (tCons (tVar 0) (tCons (tC (.int 8)) tNil)))))) [9]) (gName 7)) tNext)
    (tRet (tCall (sp_l_law_mixed K) [] E0 (tCons (tVar 0) (tCons (tVar 7) tNil))))))))))))
theorem si_l_law_columns {K : PySem.W.Frag} {WW : WX} (kf : KF K) : SimS K WW (t_l_law_columns K) b_l_law_columns := (sim_seq (sim_asg (sim_c fun _ _ _ => .str _) sim_gnameC)
    (sim_seq (sim_asg (sim_tup (sim_cons (sim_fr (sim_call (sim_cons (sim_ce sim_var) (sim_cons (sim_fr (sim_c fun _ _ _ => .int _)) sim_nil)))) (sim_cons (sim_fr (sim_call (sim_cons (sim_ce sim_var) (sim_cons (sim_fr (sim_c fun _ _ _ => .int _)) sim_nil)))) sim_nil))) (sim_gtup (sim_gcons sim_gnameC (sim_gcons sim_gnameC sim_gnil))))
    (sim_seq (sim_asg (sim_bs rfl o_join (sim_c fun _ _ _ => .str _) (sim_cons (sim_lc (sim_rng1 (sim_cons (sim_c fun _ _ _ => .int _) sim_nil)) sim_gnameC (ok_name (by decide)) sim_yes (sim_op o_ix sim_var (sim_call (sim_cons (sim_ce sim_var) (sim_cons (sim_fr (sim_c fun _ _ _ => .int _)) sim_nil))))) sim_nil)) sim_gnameC)
    (sim_seq (sim_asg (sim_call (sim_cons (sim_ce sim_var) (sim_cons (sim_fr (sim_c fun _ _ _ => .int _)) sim_nil))) sim_gnameC)
    (sim_seq (sim_asg (sim_lc (sim_rng1 (sim_cons sim_var sim_nil)) sim_gnameC (ok_name (by decide)) sim_yes (sim_op o_add (sim_op o_add (sim_sl sim_var sim_nopart (sim_part sim_var)) (sim_op o_ix sim_var (sim_op o_mod (sim_op o_add sim_var (sim_op o_mul (sim_c fun _ _ _ => .int _) sim_var)) (sim_c fun _ _ _ => .int _)))) (sim_sl sim_var (sim_part (sim_op o_add sim_var (sim_c fun _ _ _ => .int _))) sim_nopart))) sim_gnameC)
    (sim_seq (sim_ifs (sim_test (sim_op o_eq sim_var (sim_c fun _ _ _ => .int _))) (sim_asg (sim_lc (sim_rng1 (sim_cons sim_var sim_nil)) sim_gnameC (ok_name (by decide)) sim_yes (sim_op o_ix sim_var (sim_op o_mod (sim_op o_add sim_var (sim_op o_mul (sim_c fun _ _ _ => .int _) sim_var)) (sim_c fun _ _ _ => .int _)))) sim_gnameC) sim_next)
    (sim_seq (sim_ifs (sim_test (sim_op o_eq sim_var (sim_c fun _ _ _ => .int _))) (sim_seq (sim_asg (sim_call (sim_cons (sim_ce sim_var) (sim_cons (sim_fr (sim_c fun _ _ _ => .int _)) sim_nil))) sim_gnameC)
    (sim_asg (sim_lc (sim_rng1 (sim_cons sim_var sim_nil)) sim_gnameC (ok_name (by decide)) sim_yes (sim_sl sim_var sim_nopart (sim_part (sim_op o_add (sim_op o_add sim_var sim_var) (sim_c fun _ _ _ => .int _))))) sim_gnameC)) sim_next)
    (sim_seq (sim_ifs (sim_test (sim_op o_eq sim_var (sim_c fun _ _ _ => .int _))) (sim_asg (sim_lc (sim_rng1 (sim_cons sim_var sim_nil)) sim_gnameC (ok_name (by decide)) sim_yes (sim_op o_add (sim_op o_ix sim_var (sim_op o_mod (sim_op o_add sim_var (sim_op o_mul (sim_c fun _ _ _ => .int _) sim_var)) (sim_c fun _ _ _ => .int _))) (sim_sl sim_var sim_nopart (sim_part (sim_call (sim_cons (sim_ce sim_var) (sim_cons (sim_fr (sim_c fun _ _ _ => .int _)) sim_nil))))))) sim_gnameC) sim_next)
    (sim_ret (sim_call (sim_cons (sim_ce sim_var) (sim_cons (sim_fr sim_var) sim_nil))))))))))))
theorem len_l_law_columns {K : PySem.W.Frag} {vs : List V} {H : Hp} {Q : VK} {E : XK} (h : sp_l_law_columns K vs H Q E) : vs.length = ["_law_box_here", "_law_many"].length := len_spM (ps := ["_law_box_here", "_law_many"]) (fun _ _ _ h => len_fnM h) h
theorem pure_l_law_columns {K : PySem.W.Frag} (kf : KF K) (vs : List V) (H : Hp) (Q : VK) (E : XK) (h : sp_l_law_columns K vs H Q E) : t_l_law_columns K { nx := fun _ H' => Q .non H', rt := Q } (L2.start ["_law_box_here", "_law_many", "_law_letters", "_law_way", "_law_first", "_law_stem", "_law_at", "_law_found", "_law_begin", "_law_k"] vs) H := pure_fnM (n := 2) (k := 8) rfl (si_l_law_columns kf) h
abbrev sp_l_law_told_right (K : PySem.W.Frag) : Sp := spM K m_l_law_told_right
def t_l_law_told_right (K : PySem.W.Frag) : TS := (tSeq (tFor (iRng1 (tCons (tC (.int 2)) tNil)) (gName 2) (tSeq (tAsg (tMeth (He.ga K "Order") "columns" (sp_Order_columns K) [] E0 (tVar 0) tNil) (gName 3))
    (tSeq (tIfS (tTest (tOp (uNe K) (tCB (uRepr K) (tCons (tLst (tCons (tVar 3) (tCons (tCB (rLenO (He.ga K "Order") (sp_Order_D_len_D K) E0) (tCons (tVar 0) tNil)) (tCons (tCB (rStrO (He.ga K "Order") (sp_Order_D_str_D K) E0) (tCons (tVar 0) tNil)) tNil)))) tNil)) (tCB (uRepr K) (tCons (tLst (tCons (tVar 1) (tCons (tCB (uLen K) (tCons (tVar 1) tNil)) (tCons (tBM K "str" (rJoin K) (tC (.str " ")) (tCons (tVar 1) tNil)) tNil)))) tNil)))) (tRet (tC (.bl false))) tNext)
    (tDrop (tBM K "list" rAppend (tVar 3) (tCons (tC (.str "late")) tNil))))))
    (tRet (tCB (vIsi K) (tCons (tCB (rReprO (He.ga K "Order") (sp_Order_D_repr_D K) E0) (tCons (tVar 0) tNil)) (tCons (tC (.ty "str")) tNil)))))
theorem si_l_law_told_right {K : PySem.W.Frag} {WW : WX} (kf : KF K) : SimS K WW (t_l_law_told_right K) b_l_law_told_right := (sim_seq (sim_for (sim_rng1 (sim_cons (sim_c fun _ _ _ => .int _) sim_nil)) sim_gnameC (sim_seq (sim_asg (sim_meth sim_var sim_nil) sim_gname)
    (sim_seq (sim_ifs (sim_test (sim_op o_ne (sim_cbS o_repr (sim_cons (sim_lst (sim_cons sim_var (sim_cons (sim_lenO (sim_cons sim_var sim_nil)) (sim_cons (sim_strO (sim_cons sim_var sim_nil)) sim_nil)))) sim_nil)) (sim_cb o_repr (sim_cons (sim_lst (sim_cons sim_var (sim_cons (sim_cb o_len (sim_cons sim_var sim_nil)) (sim_cons (sim_bs rfl o_join (sim_c fun _ _ _ => .str _) (sim_cons sim_var sim_nil)) sim_nil)))) sim_nil)))) (sim_ret (sim_c fun _ _ _ => .bl _)) sim_next)
    (sim_drop (sim_mut rfl mu_append sim_var (sim_cons (sim_c fun _ _ _ => .str _) sim_nil))))))
    (sim_ret (sim_cb (o_isi kf.k0) (sim_cons (sim_reprO (sim_cons sim_var sim_nil)) (sim_cons (sim_c fun _ _ _ => .ty _) sim_nil)))))
theorem len_l_law_told_right {K : PySem.W.Frag} {vs : List V} {H : Hp} {Q : VK} {E : XK} (h : sp_l_law_told_right K vs H Q E) : vs.length = ["_law_order", "_law_columns_here"].length := len_spM (ps := ["_law_order", "_law_columns_here"]) (fun _ _ _ h => len_fnM h) h
theorem pure_l_law_told_right {K : PySem.W.Frag} (kf : KF K) (vs : List V) (H : Hp) (Q : VK) (E : XK) (h : sp_l_law_told_right K vs H Q E) : t_l_law_told_right K { nx := fun _ H' => Q .non H', rt := Q } (L2.start ["_law_order", "_law_columns_here", "_law_turn", "_law_found"] vs) H := pure_fnM (n := 2) (k := 2) rfl (si_l_law_told_right kf) h
abbrev sp_l_law_others (K : PySem.W.Frag) : Sp := spM K m_l_law_others
def t_l_law_others (K : PySem.W.Frag) : TS := (tSeq (tAsg (tSl (uSl K) (tLc (iU K (tC (.str "abcdef"))) (gName 6) (tTest (tOp (uNi K) (tVar 6) (tVar 1))) (tVar 6) [6]) tNoPart (tPart (tC (.int 1)))) (gName 2))
    (tSeq (tAsg (tLst tNil) (gName 3))
    (tSeq (tIfS (tTest (tOp SL.rGt (tCB (uLen K) (tCons (tVar 1) tNil)) (tC (.int 1)))) (tSeq (tAsg (tCall (sp_l_law_take K) [] E0 (tCons (tVar 0) (tCons (tOp SL.rSub (tCB (uLen K) (tCons (tVar 1) tNil)) (tC (.int 1))) tNil))) (gName 4))
    (tSeq (tAsg (tRevL K (tSl (uSl K) (tVar 1) (tPart (tVar 4)) (tPart (tOp (uAdd K) (tVar 4) (tC (.int 2)))))) (gName 5))
    (tAsg (tLst (tCons (tRevL K (tVar 1)) (tCons (tSl (uSl K) (tVar 1) tNoPart (tPart (tUn SL.rNeg (tC (.int 1))))) (tCons (tOp (uAdd K) (tOp (uAdd K) (tSl (uSl K) (tVar 1) tNoPart (tPart (tVar 4))) (tVar 5)) (tSl (uSl K) (tVar 1) (tPart (tOp (uAdd K) (tVar 4) (tC (.int 2)))) tNoPart)) tNil)))) (gName 3)))) tNext)
    (tSeq (tIfS (tTest (tOp (uLt K) (tCB (uLen K) (tCons (tVar 1) tNil)) (tC (.int 5)))) (tDrop (tBM K "list" rAppend (tVar 3) (tCons (tOp (uAdd K) (tVar 1) (tVar 2)) tNil))) tNext)
    (tSeq (tAsg (tCall (sp_l_law_take K) [] E0 (tCons (tVar 0) (tCons (tCB (uLen K) (tCons (tVar 1) tNil)) tNil))) (gName 4))
    (tRet (tOp (uAdd K) (tVar 3) (tLst (tCons (tOp (uAdd K) (tOp (uAdd K) (tSl (uSl K) (tVar 1) tNoPart (tPart (tVar 4))) (tVar 2)) (tSl (uSl K) (tVar 1) (tPart (tOp (uAdd K) (tVar 4) (tC (.int 1)))) tNoPart)) tNil)))))))))
theorem si_l_law_others {K : PySem.W.Frag} {WW : WX} (kf : KF K) : SimS K WW (t_l_law_others K) b_l_law_others := (sim_seq (sim_asg (sim_sl (sim_lc (sim_iU (sim_c fun _ _ _ => .str _)) sim_gnameC (ok_name (by decide)) (sim_test (sim_op o_ni sim_var sim_var)) sim_var) sim_nopart (sim_part (sim_c fun _ _ _ => .int _))) sim_gnameC)
    (sim_seq (sim_asg (sim_lst sim_nil) sim_gname)
    (sim_seq (sim_ifs (sim_test (sim_op o_gt (sim_cb o_len (sim_cons sim_var sim_nil)) (sim_c fun _ _ _ => .int _))) (sim_seq (sim_asg (sim_call (sim_cons (sim_ce sim_var) (sim_cons (sim_fr (sim_op o_sub (sim_cb o_len (sim_cons sim_var sim_nil)) (sim_c fun _ _ _ => .int _))) sim_nil))) sim_gnameC)
    (sim_seq (sim_asg (sim_rev (sim_sl sim_var (sim_part sim_var) (sim_part (sim_op o_add sim_var (sim_c fun _ _ _ => .int _))))) sim_gnameC)
    (sim_asg (sim_lst (sim_cons (sim_rev sim_var) (sim_cons (sim_sl sim_var sim_nopart (sim_part (sim_un o_neg (sim_c fun _ _ _ => .int _)))) (sim_cons (sim_op o_add (sim_op o_add (sim_sl sim_var sim_nopart (sim_part sim_var)) sim_var) (sim_sl sim_var (sim_part (sim_op o_add sim_var (sim_c fun _ _ _ => .int _))) sim_nopart)) sim_nil)))) sim_gname))) sim_next)
    (sim_seq (sim_ifs (sim_test (sim_op o_lt (sim_cb o_len (sim_cons sim_var sim_nil)) (sim_c fun _ _ _ => .int _))) (sim_drop (sim_mut rfl mu_append sim_var (sim_cons (sim_op o_add sim_var sim_var) sim_nil))) sim_next)
    (sim_seq (sim_asg (sim_call (sim_cons (sim_ce sim_var) (sim_cons (sim_fr (sim_cb o_len (sim_cons sim_var sim_nil))) sim_nil))) sim_gnameC)
    (sim_ret (sim_op o_add sim_var (sim_lst (sim_cons (sim_op o_add (sim_op o_add (sim_sl sim_var sim_nopart (sim_part sim_var)) sim_var) (sim_sl sim_var (sim_part (sim_op o_add sim_var (sim_c fun _ _ _ => .int _))) sim_nopart)) sim_nil)))))))))
theorem len_l_law_others {K : PySem.W.Frag} {vs : List V} {H : Hp} {Q : VK} {E : XK} (h : sp_l_law_others K vs H Q E) : vs.length = ["_law_box_here", "_law_columns_here"].length := len_spM (ps := ["_law_box_here", "_law_columns_here"]) (fun _ _ _ h => len_fnM h) h
theorem pure_l_law_others {K : PySem.W.Frag} (kf : KF K) (vs : List V) (H : Hp) (Q : VK) (E : XK) (h : sp_l_law_others K vs H Q E) : t_l_law_others K { nx := fun _ H' => Q .non H', rt := Q } (L2.start ["_law_box_here", "_law_columns_here", "_law_fresh", "_law_found", "_law_at", "_law_two", "_law_letter"] vs) H := pure_fnM (n := 2) (k := 5) rfl (si_l_law_others kf) h
abbrev sp_law (K : PySem.W.Frag) : Sp := spM K m_law
def t_law (K : PySem.W.Frag) : TS := (tSeq (tFor (iRng1 (tCons (tCB rMax2 (tCons (tC (.int 2)) (tCons (tCB rMin2 (tCons (tCB (uLen K) (tCons (tVar 0) tNil)) (tCons (tC (.int 8)) tNil))) tNil))) tNil)) (gName 1) (tSeq (tAsg (tCall (sp_l_law_box K) [] E0 (tCons (tCall (sp_l_law_cell K) [] E0 (tCons (tVar 0) (tCons (tVar 1) tNil))) tNil)) (gName 2))
    (tSeq (tAsg (tCall (sp_l_law_columns K) [] E0 (tCons (tVar 2) (tCons (tOp (uAdd K) (tC (.int 1)) (tCall (sp_l_law_take K) [] E0 (tCons (tVar 2) (tCons (tC (.int 5)) tNil)))) tNil))) (gName 3))
    (tSeq (tAsg (tCB (uList K) (tCons (tVar 3) tNil)) (gName 4))
    (tSeq (tAsg (tTup (tCons (tMake (He.ga K "Order") (sp_Order_D_init_D K) [] E0 (tCons (tVar 4) tNil)) (tCons (tMake (He.ga K "Order") (sp_Order_D_init_D K) [] E0 (tCons (tCB (uTuple K) (tCons (tVar 3) tNil)) tNil)) tNil))) (gTup K 2 (gCons (gName 5) (gCons (gName 6) gNil))))
    (tSeq (tAsg (tCall (sp_parse_order K) [] E0 (tCons (tBM K "str" (rJoin K) (tC (.str " ")) (tCons (tVar 3) tNil)) tNil)) (gName 7))
    (tSeq (tIfS (tTest (tOp (uNe K) (tVar 4) (tVar 3))) (tRet (tC (.bl false))) tNext)
    (tSeq (tDrop (tBM0 K "list" rClear (tVar 4)))
    (tSeq (tFor (iU K (tTup (tCons (tVar 5) (tCons (tVar 6) (tCons (tVar 7) tNil))))) (gName 8) (tIfS (tOr (tNot (tTruK K (tCB (vIsi K) (tCons (tVar 8) (tCons (tC (.ref (He.ga K "Order"))) tNil))))) (tOr (tNot (tTruK K (tCall (sp_l_law_told_right K) [] E0 (tCons (tVar 8) (tCons (tVar 3) tNil))))) (tOr (tTest (tOp (rNeO K (He.ga K "Order") (sp_Order_D_eq_D K) E0) (tVar 8) (tVar 5))) (tNot (tTest (tOp (rEqO K (He.ga K "Order") (sp_Order_D_eq_D K) E0) (tVar 8) (tVar 6))))))) (tRet (tC (.bl false))) tNext))
    (tSeq (tFor (iU K (tCall (sp_l_law_others K) [] E0 (tCons (tVar 2) (tCons (tVar 3) tNil)))) (gName 9) (tSeq (tAsg (tMake (He.ga K "Order") (sp_Order_D_init_D K) [] E0 (tCons (tVar 9) tNil)) (gName 11))
    (tIfS (tOr (tTest (tOp (rEqO K (He.ga K "Order") (sp_Order_D_eq_D K) E0) (tVar 5) (tVar 11))) (tOr (tNot (tTest (tOp (rNeO K (He.ga K "Order") (sp_Order_D_eq_D K) E0) (tVar 5) (tVar 11)))) (tNot (tTruK K (tCall (sp_l_law_told_right K) [] E0 (tCons (tVar 11) (tCons (tVar 9) tNil))))))) (tRet (tC (.bl false))) tNext)))
    (tSeq (tAsg (tLst (tCons (tC .non) (tCons (tC (.int 0)) (tCons (tVar 3) (tCons (tCB (uTuple K) (tCons (tVar 3) tNil)) (tCons (tBM K "str" (rJoin K) (tC (.str " ")) (tCons (tVar 3) tNil)) (tCons tDNewK (tCons (tMake (He.ga K "Shape") (sp_Shape_D_init_D K) [V.non] E0 (tCons (tVar 3) tNil)) (tCons (tC (.bl true)) (tCons (tMake (He.ga K "Blocks") (sp_Blocks_D_init_D K) [] E0 (tCons (tLst (tCons (tVar 3) tNil)) tNil)) tNil)))))))))) (gName 10))
    (tIfS (tTest (tOp (uNe K) (tLc (iU K (tVar 10)) (gName 12) (tOr (tTest (tOp (rEqO K (He.ga K "Order") (sp_Order_D_eq_D K) E0) (tVar 5) (tVar 12))) (tTest (tOp (fun x y H Q => (uEq K) x y H Q ∨ (fun x y H Q => (rEqO K (He.ga K "Shape") (sp_Shape_D_eq_D K) E0) x y H Q ∨ (fun x y H Q => (rEqO K (He.ga K "Order") (sp_Order_D_eq_D K) E0) x y H Q ∨ (fun x y H Q => (rEqO K (He.ga K "Blocks") (sp_Blocks_D_eq_D K) E0) x y H Q ∨ (rRevO K (He.ga K "Order") (sp_Order_D_eq_D K) E0) x y H Q) x y H Q) x y H Q) x y H Q) (tVar 12) (tVar 5)))) (tVar 12) [12]) (tLst tNil))) (tRet (tC (.bl false))) tNext))))))))))))
    (tRet (tC (.bl true))))
theorem si_law {K : PySem.W.Frag} {WW : WX} (kf : KF K) : SimS K WW (t_law K) b_law := (sim_seq (sim_for (sim_rng1 (sim_cons (sim_cb o_max2 (sim_cons (sim_c fun _ _ _ => .int _) (sim_cons (sim_cb o_min2 (sim_cons (sim_cb o_len (sim_cons sim_var sim_nil)) (sim_cons (sim_c fun _ _ _ => .int _) sim_nil))) sim_nil))) sim_nil)) sim_gnameC (sim_seq (sim_asg (sim_call (sim_cons (sim_fr (sim_call (sim_cons (sim_fr sim_var) (sim_cons (sim_fr sim_var) sim_nil)))) sim_nil)) sim_gname)
    (sim_seq (sim_asg (sim_call (sim_cons (sim_ce sim_var) (sim_cons (sim_fr (sim_op o_add (sim_c fun _ _ _ => .int _) (sim_call (sim_cons (sim_ce sim_var) (sim_cons (sim_fr (sim_c fun _ _ _ => .int _)) sim_nil))))) sim_nil))) sim_gnameC)
    (sim_seq (sim_asg (sim_cb o_list (sim_cons sim_var sim_nil)) sim_gname)
    (sim_seq (sim_asg (sim_tup (sim_cons (sim_fr (sim_make (fun _ _ _ => .nil) (sim_cons (sim_fr sim_var) sim_nil))) (sim_cons (sim_fr (sim_make (fun _ _ _ => .nil) (sim_cons (sim_fr (sim_cb o_tuple (sim_cons sim_var sim_nil))) sim_nil))) sim_nil))) (sim_gtup (sim_gcons sim_gnameC (sim_gcons sim_gnameC sim_gnil))))
    (sim_seq (sim_asg (sim_call (sim_cons (sim_fr (sim_bs rfl o_join (sim_c fun _ _ _ => .str _) (sim_cons sim_var sim_nil))) sim_nil)) sim_gnameC)
    (sim_seq (sim_ifs (sim_test (sim_op o_ne sim_var sim_var)) (sim_ret (sim_c fun _ _ _ => .bl _)) sim_next)
    (sim_seq (sim_drop (sim_mut0 rfl mu_clear sim_var))
    (sim_seq (sim_for (sim_iU (sim_tup (sim_cons sim_var (sim_cons sim_var (sim_cons sim_var sim_nil))))) sim_gnameC (sim_ifs (sim_or (sim_not (sim_tru (sim_cb (o_isi kf.k8) (sim_cons sim_var (sim_cons (sim_c fun _ _ _ => .glo _) sim_nil))))) (sim_or (sim_not (sim_tru (sim_call (sim_cons (sim_fr sim_var) (sim_cons (sim_fr sim_var) sim_nil))))) (sim_or (sim_test (sim_neO kf.k13 sim_var sim_var)) (sim_not (sim_test (sim_eqO kf.k13 sim_var sim_var)))))) (sim_ret (sim_c fun _ _ _ => .bl _)) sim_next))
    (sim_seq (sim_for (sim_iU (sim_call (sim_cons (sim_ce sim_var) (sim_cons (sim_fr sim_var) sim_nil)))) sim_gnameC (sim_seq (sim_asg (sim_make (fun _ _ _ => .nil) (sim_cons (sim_fr sim_var) sim_nil)) sim_gnameC)
    (sim_ifs (sim_or (sim_test (sim_eqO kf.k13 sim_var sim_var)) (sim_or (sim_not (sim_test (sim_neO kf.k13 sim_var sim_var))) (sim_not (sim_tru (sim_call (sim_cons (sim_fr sim_var) (sim_cons (sim_fr sim_var) sim_nil))))))) (sim_ret (sim_c fun _ _ _ => .bl _)) sim_next)))
    (sim_seq (sim_asg (sim_lst (sim_cons (sim_c fun _ _ _ => .non) (sim_cons (sim_c fun _ _ _ => .int _) (sim_cons sim_var (sim_cons (sim_cb o_tuple (sim_cons sim_var sim_nil)) (sim_cons (sim_bs rfl o_join (sim_c fun _ _ _ => .str _) (sim_cons sim_var sim_nil)) (sim_cons sim_dnew (sim_cons (sim_make (fun _ _ _ => (.cons .non .nil)) (sim_cons (sim_fr sim_var) sim_nil)) (sim_cons (sim_c fun _ _ _ => .bl _) (sim_cons (sim_make (fun _ _ _ => .nil) (sim_cons (sim_fr (sim_lst (sim_cons sim_var sim_nil))) sim_nil)) sim_nil)))))))))) sim_gnameC)
    (sim_ifs (sim_test (sim_op o_ne (sim_lc (sim_iU sim_var) sim_gnameC (ok_name (by decide)) (sim_or (sim_test (sim_eqO kf.k13 sim_var sim_var)) (sim_test (sim_alt (sim_opi o_eq (fun _ _ _ _ h => (.inl h)) sim_var sim_var) (sim_alt (sim_eqOi (fun _ _ _ _ h => (.inr (.inl h))) kf.k12 sim_var sim_var) (sim_alt (sim_eqOi (fun _ _ _ _ h => (.inr (.inr (.inl h)))) kf.k13 sim_var sim_var) (sim_alt (sim_eqOi (fun _ _ _ _ h => (.inr (.inr (.inr (.inl h))))) kf.k14 sim_var sim_var) (sim_revOi (fun _ _ _ _ h => (.inr (.inr (.inr (.inr h))))) sim_var sim_var))))))) sim_var) (sim_lst sim_nil))) (sim_ret (sim_c fun _ _ _ => .bl _)) sim_next))))))))))))
    (sim_ret (sim_c fun _ _ _ => .bl _)))
theorem len_law {K : PySem.W.Frag} {vs : List V} {H : Hp} {Q : VK} {E : XK} (h : sp_law K vs H Q E) : vs.length = ["_law_script"].length := len_spM (ps := ["_law_script"]) (fun _ _ _ h => len_fnM h) h
theorem pure_law {K : PySem.W.Frag} (kf : KF K) (vs : List V) (H : Hp) (Q : VK) (E : XK) (h : sp_law K vs H Q E) : t_law K { nx := fun _ H' => Q .non H', rt := Q } (L2.start ["_law_script", "_law_k", "_law_box_here", "_law_columns_here", "_law_given", "_law_order", "_law_twin", "_law_read", "_law_one", "_law_some", "_law_things", "_law_other", "_law_thing"] vs) H := pure_fnM (n := 1) (k := 12) rfl (si_law kf) h
end K10
namespace K10
open PySem PySem.Spec PySem.Calls PyProof PyProof.Rows L2 SL CM
theorem kf_ok {K : PySem.W.Frag} (c : SaysA looks0 defs0 K) : KF K := ⟨tabB_ok (c.look 2), tabBT_ok (c.look 10), ownB_ok (c.look 11), He.noat_ok (c.look 12), He.noat_ok (c.look 14), tabB_ok (c.look 19), ownB_ok (c.look 22), He.noat_ok (c.look 23), tabB_ok (c.look 26), ownB_ok (c.look 30), He.noat_ok (c.look 31), tabB_ok (c.look 34), eqKsB_ok (c.look 45), eqKsB_ok (c.look 47), eqKsB_ok (c.look 49)⟩
theorem sc_is_name : FnScope ["value", "letter"] ["value"] (defScope s_is_name) := ⟨rfl, rfl, rfl, by decide +kernel, rfl, by decide +kernel, by decide +kernel⟩
theorem ok_is_name {P : Program} {w : World} {K : PySem.W.Frag} {mg : Str → Option Value} {base h : Heap} {fd : FuncData} (c : SaysA looks0 defs0 K) (hX : K.In h) (hG : h.Ns mainGlobals mg) (F_is_name : Fun_is_name K fd) : FnOk P w K mg base CX0 1 (He.fAd K d_is_name.at_) fd ["value"] (sp_is_name K) := by
  have F := F_is_name
  refine F.ok sc_is_name (fun vs H Q E h => len_is_name h) (fun cdv A outer s H vs Q E hr h => ⟨t_is_name K, PSs.nox ?_, pure_is_name (kf_ok c) vs H Q E h⟩)
  have hu := SL.hu64 hr
  exact (pss_cons (ps_if (PW.pt (pw_or (pt_not (pt_tru (pe_callB call_vIsi (by rfl) (He.free_ok hX hG (c.look 0)) (by decide +kernel) (pa_cons (pv 0) (pa_cons (pe_bltn (v := .ty "str") rfl (He.free_ok hX hG (c.look 1)) (by decide +kernel) rfl) pa_nil))) (by intro _; rfl))) (pw_or1 (pt_not (pt_chain (op_uLt hu) op_uLe pe_int (pe_callB call_uLen (by rfl) (He.free_ok hX hG (c.look 6)) (by decide +kernel) (pa_cons (pv 0) pa_nil)) (pe_gc rfl (gv_int (He.int_ok hX hG (c.look 7))))))))) (pss_one (ps_ret pe_bl)) pss_nil)
    (pss_one (ps_ret (pe_callB (cr_all rfl) (by rfl) (He.free_ok hX hG (c.look 4)) (by decide +kernel) (pa_cons (pe_lc (own := [("letter", 1)]) (wi := (iU K (tVar 0))) (g := (gName 1)) (tt := tYes) (te := (tOp (uIn K) (tVar 1) (tC (.str "abcdefghijklmnopqrstuvwxyz")))) (by rfl) sc_is_name.nd (pi_u (pv 0)) (blkOk_by (own := [("letter", 1)]) (N := ["value", "letter"]) (sc := defScope s_is_name) (by decide +kernel)) (fun _ _ _ _ _ => (pg_name (i := 1) sc_is_name.nd rfl (by first | exact Or.inl rfl | exact Or.inr rfl))) (fun _ _ _ _ _ => pts_nil) (fun _ _ _ _ _ => (pe_cmpR op_uIn (pv 1) (pe_gc rfl (gv_str (He.str_ok hX hG (c.look 5)))) (by rfl)))) pa_nil)))))
theorem sc_is_list : FnScope ["value"] ["value"] (defScope s_is_list) := ⟨rfl, rfl, rfl, by decide +kernel, rfl, by decide +kernel, by decide +kernel⟩
theorem ok_is_list {P : Program} {w : World} {K : PySem.W.Frag} {mg : Str → Option Value} {base h : Heap} {fd : FuncData} (c : SaysA looks0 defs0 K) (hX : K.In h) (hG : h.Ns mainGlobals mg) (F_is_list : Fun_is_list K fd) : FnOk P w K mg base CX0 1 (He.fAd K d_is_list.at_) fd ["value"] (sp_is_list K) := by
  have F := F_is_list
  refine F.ok sc_is_list (fun vs H Q E h => len_is_list h) (fun cdv A outer s H vs Q E hr h => ⟨t_is_list K, PSs.nox ?_, pure_is_list (kf_ok c) vs H Q E h⟩)
  have hu := SL.hu64 hr
  exact (pss_one (ps_ret (pe_callB call_vIsi (by rfl) (He.free_ok hX hG (c.look 0)) (by decide +kernel) (pa_cons (pv 0) (pa_cons (pe_tup (pa_cons (pe_bltn (v := .ty "list") rfl (He.free_ok hX hG (c.look 9)) (by decide +kernel) rfl) (pa_cons (pe_bltn (v := .ty "tuple") rfl (He.free_ok hX hG (c.look 8)) (by decide +kernel) rfl) pa_nil))) pa_nil)))))
theorem sc_split_words : FnScope ["text", "separator", "words"] ["text", "separator"] (defScope s_split_words) := ⟨rfl, rfl, rfl, by decide +kernel, rfl, by decide +kernel, by decide +kernel⟩
theorem ok_split_words {P : Program} {w : World} {K : PySem.W.Frag} {mg : Str → Option Value} {base h : Heap} {fd : FuncData} (c : SaysA looks0 defs0 K) (hX : K.In h) (hG : h.Ns mainGlobals mg) (F_split_words : Fun_split_words K fd) : FnOk P w K mg base CX0 1 (He.fAd K d_split_words.at_) fd ["text", "separator"] (sp_split_words K) := by
  have F := F_split_words
  refine F.ok sc_split_words (fun vs H Q E h => len_split_words h) (fun cdv A outer s H vs Q E hr h => ⟨t_split_words K, PSs.nox ?_, pure_split_words (kf_ok c) vs H Q E h⟩)
  have hu := SL.hu64 hr
  exact (pss_cons (ps_if (PW.pt (pw_or (pt_not (pt_tru (pe_callB call_vIsi (by rfl) (He.free_ok hX hG (c.look 0)) (by decide +kernel) (pa_cons (pv 0) (pa_cons (pe_bltn (v := .ty "str") rfl (He.free_ok hX hG (c.look 1)) (by decide +kernel) rfl) pa_nil))) (by intro _; rfl))) (pw_or1 (pt_cmpR op_uIn pe_str (pv 0) (by rfl))))) (pss_one (ps_ret pe_non)) pss_nil)
    (pss_cons (ps_set (i := 2) sc_split_words.nd rfl (by first | exact Or.inl rfl | exact Or.inr rfl) (pe_bm PySem.F.plainAttrs_str PySem.F.slot_str_split PySem.F.type_str_split mt_uSplit (pv 0) (pa_cons (pv 1) pa_nil)))
    (pss_one (ps_ret (pe_ifExp (pt_cmpR op_uIn pe_str (pv 2) (by rfl)) pe_non (pv 2))))))
theorem sc_Shape_D_init_D : FnScope ["self", "fixed", "span", "at", "column"] ["self", "fixed", "span"] (defScope s_Shape_D_init_D) := ⟨rfl, rfl, rfl, by decide +kernel, rfl, by decide +kernel, by decide +kernel⟩
theorem ok_Shape_D_init_D {P : Program} {w : World} {K : PySem.W.Frag} {mg : Str → Option Value} {base h : Heap} {fd : FuncData} {fd_is_name : FuncData} {fd_is_list : FuncData} (c : SaysA looks0 defs0 K) (hX : K.In h) (hG : h.Ns mainGlobals mg) (F_Shape_D_init_D : Fun_Shape_D_init_D K fd) (O_is_name : FnOk P w K mg base CX0 1 (He.fAd K d_is_name.at_) fd_is_name ["value"] (sp_is_name K)) (D_is_name : Fun_is_name K fd_is_name) (O_is_list : FnOk P w K mg base CX0 1 (He.fAd K d_is_list.at_) fd_is_list ["value"] (sp_is_list K)) (D_is_list : Fun_is_list K fd_is_list) : FnOk P w K mg base CX0 2 (He.fAd K d_Shape_D_init_D.at_) fd ["self", "fixed", "span"] (sp_Shape_D_init_D K) := by
  have B_is_name := bind_is_name D_is_name
  have K_is_name := D_is_name.kp
  have B_is_list := bind_is_list D_is_list
  have K_is_list := D_is_list.kp
  have F := F_Shape_D_init_D
  refine F.ok sc_Shape_D_init_D (fun vs H Q E h => len_Shape_D_init_D h) (fun cdv A outer s H vs Q E hr h => ⟨t_Shape_D_init_D K, PSs.nox ?_, pure_Shape_D_init_D (kf_ok c) vs H Q E h⟩)
  have hu := SL.hu64 hr
  have hr_is_name : Room 1 _ := hr.mono (by decide)
  have hr_is_list : Room 1 _ := hr.mono (by decide)
  exact (pss_cons (ps_if (PW.pt (pw_or (pt_not (pt_tru (pe_call O_is_list hr_is_list (by rfl) (He.glo_ok hX hG (c.look 17)) K_is_list B_is_list .nil pass0 (pa_cons (pv 1) pa_nil)) (by intro _; rfl))) (pw_or1 (pt_cmpR op_gt (pe_callB call_uLen (by rfl) (He.free_ok hX hG (c.look 6)) (by decide +kernel) (pa_cons (pv 1) pa_nil)) (pe_gc rfl (gv_int (He.int_ok hX hG (c.look 15)))) (nomark _))))) (pss_one ps_never) pss_nil)
    (pss_cons (ps_for PassesOwn.never rfl (pi_enumB (by rfl) (He.free_ok hX hG (c.look 16)) (pa_cons (pv 1) pa_nil)) (pg_tup rfl (pgs_cons (pg_name (i := 3) sc_Shape_D_init_D.nd rfl (by first | exact Or.inl rfl | exact Or.inr rfl)) (pgs_cons (pg_name (i := 4) sc_Shape_D_init_D.nd rfl (by first | exact Or.inl rfl | exact Or.inr rfl)) pgs_nil))) (pss_cons (ps_if (pt_not (pt_tru (pe_call O_is_name hr_is_name (by rfl) (He.glo_ok hX hG (c.look 3)) K_is_name B_is_name .nil pass0 (pa_cons (pv 4) pa_nil)) (by intro _; rfl))) (pss_one ps_never) pss_nil)
    (pss_one (ps_if (pt_cmpR op_uIn (pv 4) (pe_slice sl_u (pv 1) po_none (po_some (pv 3))) (by rfl)) (pss_one ps_never) pss_nil))))
    (pss_cons (ps_if (PW.pt (pw_and (pt_cmpR op_uIn0 (pv 2) pe_non (nomark _)) (pw_and1 (pt_not (pt_tru (pe_call O_is_name hr_is_name (by rfl) (He.glo_ok hX hG (c.look 3)) K_is_name B_is_name .nil pass0 (pa_cons (pv 2) pa_nil)) (by intro _; rfl)))))) (pss_one ps_never) pss_nil)
    (pss_cons (ps_if (pt_cmpR op_uIn (pv 2) (pv 1) (by rfl)) (pss_one ps_never) pss_nil)
    (pss_cons (ps_if (PW.pt (pw_and (pt_cmpR op_uIn0 (pv 2) pe_non (nomark _)) (pw_and1 (pt_cmpR (op_uEq hu) (pe_callB call_uLen (by rfl) (He.free_ok hX hG (c.look 6)) (by decide +kernel) (pa_cons (pv 1) pa_nil)) (pe_gc rfl (gv_int (He.int_ok hX hG (c.look 15)))) (nomark _))))) (pss_one ps_never) pss_nil)
    (pss_cons (ps_fld (pv 0) (pe_callB call_srt (by rfl) (He.free_ok hX hG (c.look 13)) (by decide +kernel) (pa_cons (pv 1) pa_nil)) rfl)
    (pss_one (ps_fld (pv 0) (pv 2) rfl))))))))
theorem sc_Shape_D_eq_D : FnScope ["self", "other"] ["self", "other"] (defScope s_Shape_D_eq_D) := ⟨rfl, rfl, rfl, by decide +kernel, rfl, by decide +kernel, by decide +kernel⟩
theorem ok_Shape_D_eq_D {P : Program} {w : World} {K : PySem.W.Frag} {mg : Str → Option Value} {base h : Heap} {fd : FuncData} (c : SaysA looks0 defs0 K) (hX : K.In h) (hG : h.Ns mainGlobals mg) (F_Shape_D_eq_D : Fun_Shape_D_eq_D K fd) : FnOk P w K mg base CX0 1 (He.fAd K d_Shape_D_eq_D.at_) fd ["self", "other"] (sp_Shape_D_eq_D K) := by
  have F := F_Shape_D_eq_D
  refine F.ok sc_Shape_D_eq_D (fun vs H Q E h => len_Shape_D_eq_D h) (fun cdv A outer s H vs Q E hr h => ⟨t_Shape_D_eq_D K, PSs.nox ?_, pure_Shape_D_eq_D (kf_ok c) vs H Q E h⟩)
  have hu := SL.hu64 hr
  exact (pss_cons (ps_if (pt_not (pt_tru (pe_callB call_vIsi (by rfl) (He.free_ok hX hG (c.look 0)) (by decide +kernel) (pa_cons (pv 1) (pa_cons (pe_gc rfl (gv_ref (He.glo_ok hX hG (c.look 18)))) pa_nil))) (by intro _; rfl))) (pss_one (ps_ret pe_bl)) pss_nil)
    (pss_one (ps_ret (pe_and (pe_cmpR (op_uEq hu) (pe_fld (pv 0) rfl) (pe_fld (pv 1) rfl) (nomark _)) (pe_one (pe_cmpR (op_uEq hu) (pe_fld (pv 0) rfl) (pe_fld (pv 1) rfl) (nomark _)))))))
theorem sc_checked_columns : FnScope ["columns", "found", "name"] ["columns"] (defScope s_checked_columns) := ⟨rfl, rfl, rfl, by decide +kernel, rfl, by decide +kernel, by decide +kernel⟩
theorem ok_checked_columns {P : Program} {w : World} {K : PySem.W.Frag} {mg : Str → Option Value} {base h : Heap} {fd : FuncData} {fd_is_name : FuncData} {fd_is_list : FuncData} (c : SaysA looks0 defs0 K) (hX : K.In h) (hG : h.Ns mainGlobals mg) (F_checked_columns : Fun_checked_columns K fd) (O_is_name : FnOk P w K mg base CX0 1 (He.fAd K d_is_name.at_) fd_is_name ["value"] (sp_is_name K)) (D_is_name : Fun_is_name K fd_is_name) (O_is_list : FnOk P w K mg base CX0 1 (He.fAd K d_is_list.at_) fd_is_list ["value"] (sp_is_list K)) (D_is_list : Fun_is_list K fd_is_list) : FnOk P w K mg base CX0 2 (He.fAd K d_checked_columns.at_) fd ["columns"] (sp_checked_columns K) := by
  have B_is_name := bind_is_name D_is_name
  have K_is_name := D_is_name.kp
  have B_is_list := bind_is_list D_is_list
  have K_is_list := D_is_list.kp
  have F := F_checked_columns
  refine F.ok sc_checked_columns (fun vs H Q E h => len_checked_columns h) (fun cdv A outer s H vs Q E hr h => ⟨t_checked_columns K, PSs.nox ?_, pure_checked_columns (kf_ok c) vs H Q E h⟩)
  have hu := SL.hu64 hr
  have hr_is_name : Room 1 _ := hr.mono (by decide)
  have hr_is_list : Room 1 _ := hr.mono (by decide)
  exact (pss_cons (ps_if (PW.pt (pw_or (pt_not (pt_tru (pe_call O_is_list hr_is_list (by rfl) (He.glo_ok hX hG (c.look 17)) K_is_list B_is_list .nil pass0 (pa_cons (pv 0) pa_nil)) (by intro _; rfl))) (pw_or1 (pt_not (pt_chain op_uLe op_uLe pe_int (pe_callB call_uLen (by rfl) (He.free_ok hX hG (c.look 6)) (by decide +kernel) (pa_cons (pv 0) pa_nil)) (pe_gc rfl (gv_int (He.int_ok hX hG (c.look 20))))))))) (pss_one ps_never) pss_nil)
    (pss_cons (ps_set (i := 1) sc_checked_columns.nd rfl (by first | exact Or.inl rfl | exact Or.inr rfl) (pe_lst pa_nil))
    (pss_cons (ps_for PassesOwn.never rfl (pi_u (pv 0)) (pg_name (i := 2) sc_checked_columns.nd rfl (by first | exact Or.inl rfl | exact Or.inr rfl)) (pss_cons (ps_if (pt_not (pt_tru (pe_call O_is_name hr_is_name (by rfl) (He.glo_ok hX hG (c.look 3)) K_is_name B_is_name .nil pass0 (pa_cons (pv 2) pa_nil)) (by intro _; rfl))) (pss_one ps_never) pss_nil)
    (pss_cons (ps_if (pt_cmpR op_uIn (pv 2) (pv 1) (by rfl)) (pss_one ps_never) pss_nil)
    (pss_one (ps_expr (pe_bm PySem.F.plainAttrs_list PySem.F.slot_list_append PySem.F.type_list_append mt_append (pv 1) (pa_cons (pv 2) pa_nil)))))))
    (pss_one (ps_ret (pv 1))))))
theorem sc_Order_D_init_D : FnScope ["self", "columns"] ["self", "columns"] (defScope s_Order_D_init_D) := ⟨rfl, rfl, rfl, by decide +kernel, rfl, by decide +kernel, by decide +kernel⟩
theorem ok_Order_D_init_D {P : Program} {w : World} {K : PySem.W.Frag} {mg : Str → Option Value} {base h : Heap} {fd : FuncData} {fd_checked_columns : FuncData} (c : SaysA looks0 defs0 K) (hX : K.In h) (hG : h.Ns mainGlobals mg) (F_Order_D_init_D : Fun_Order_D_init_D K fd) (O_checked_columns : FnOk P w K mg base CX0 2 (He.fAd K d_checked_columns.at_) fd_checked_columns ["columns"] (sp_checked_columns K)) (D_checked_columns : Fun_checked_columns K fd_checked_columns) : FnOk P w K mg base CX0 3 (He.fAd K d_Order_D_init_D.at_) fd ["self", "columns"] (sp_Order_D_init_D K) := by
  have B_checked_columns := bind_checked_columns D_checked_columns
  have K_checked_columns := D_checked_columns.kp
  have F := F_Order_D_init_D
  refine F.ok sc_Order_D_init_D (fun vs H Q E h => len_Order_D_init_D h) (fun cdv A outer s H vs Q E hr h => ⟨t_Order_D_init_D K, PSs.nox ?_, pure_Order_D_init_D (kf_ok c) vs H Q E h⟩)
  have hu := SL.hu64 hr
  have hr_checked_columns : Room 2 _ := hr.mono (by decide)
  exact (pss_one (ps_fld (pv 0) (pe_call O_checked_columns hr_checked_columns (by rfl) (He.glo_ok hX hG (c.look 21)) K_checked_columns B_checked_columns .nil pass0 (pa_cons (pv 1) pa_nil)) rfl))
theorem sc_Order_columns : FnScope ["self"] ["self"] (defScope s_Order_columns) := ⟨rfl, rfl, rfl, by decide +kernel, rfl, by decide +kernel, by decide +kernel⟩
theorem ok_Order_columns {P : Program} {w : World} {K : PySem.W.Frag} {mg : Str → Option Value} {base h : Heap} {fd : FuncData} (c : SaysA looks0 defs0 K) (hX : K.In h) (hG : h.Ns mainGlobals mg) (F_Order_columns : Fun_Order_columns K fd) : FnOk P w K mg base CX0 1 (He.fAd K d_Order_columns.at_) fd ["self"] (sp_Order_columns K) := by
  have F := F_Order_columns
  refine F.ok sc_Order_columns (fun vs H Q E h => len_Order_columns h) (fun cdv A outer s H vs Q E hr h => ⟨t_Order_columns K, PSs.nox ?_, pure_Order_columns (kf_ok c) vs H Q E h⟩)
  have hu := SL.hu64 hr
  exact (pss_one (ps_ret (pe_callTy call_list_u (by rfl) (He.free_ok hX hG (c.look 9)) (by decide +kernel) (pa_cons (pe_fld (pv 0) rfl) pa_nil))))
theorem sc_Order_D_len_D : FnScope ["self"] ["self"] (defScope s_Order_D_len_D) := ⟨rfl, rfl, rfl, by decide +kernel, rfl, by decide +kernel, by decide +kernel⟩
theorem ok_Order_D_len_D {P : Program} {w : World} {K : PySem.W.Frag} {mg : Str → Option Value} {base h : Heap} {fd : FuncData} (c : SaysA looks0 defs0 K) (hX : K.In h) (hG : h.Ns mainGlobals mg) (F_Order_D_len_D : Fun_Order_D_len_D K fd) : FnOk P w K mg base CX0 1 (He.fAd K d_Order_D_len_D.at_) fd ["self"] (sp_Order_D_len_D K) := by
  have F := F_Order_D_len_D
  refine F.ok sc_Order_D_len_D (fun vs H Q E h => len_Order_D_len_D h) (fun cdv A outer s H vs Q E hr h => ⟨t_Order_D_len_D K, PSs.nox ?_, pure_Order_D_len_D (kf_ok c) vs H Q E h⟩)
  have hu := SL.hu64 hr
  exact (pss_one (ps_ret (pe_callB call_uLen (by rfl) (He.free_ok hX hG (c.look 6)) (by decide +kernel) (pa_cons (pe_fld (pv 0) rfl) pa_nil))))
theorem sc_Order_D_eq_D : FnScope ["self", "other"] ["self", "other"] (defScope s_Order_D_eq_D) := ⟨rfl, rfl, rfl, by decide +kernel, rfl, by decide +kernel, by decide +kernel⟩
theorem ok_Order_D_eq_D {P : Program} {w : World} {K : PySem.W.Frag} {mg : Str → Option Value} {base h : Heap} {fd : FuncData} {fd_Order_columns : FuncData} (c : SaysA looks0 defs0 K) (hX : K.In h) (hG : h.Ns mainGlobals mg) (F_Order_D_eq_D : Fun_Order_D_eq_D K fd) (O_Order_columns : FnOk P w K mg base CX0 1 (He.fAd K d_Order_columns.at_) fd_Order_columns ["self"] (sp_Order_columns K)) (D_Order_columns : Fun_Order_columns K fd_Order_columns) : FnOk P w K mg base CX0 2 (He.fAd K d_Order_D_eq_D.at_) fd ["self", "other"] (sp_Order_D_eq_D K) := by
  have B_Order_columns := bind_Order_columns D_Order_columns
  have K_Order_columns := D_Order_columns.kp
  have F := F_Order_D_eq_D
  refine F.ok sc_Order_D_eq_D (fun vs H Q E h => len_Order_D_eq_D h) (fun cdv A outer s H vs Q E hr h => ⟨t_Order_D_eq_D K, PSs.nox ?_, pure_Order_D_eq_D (kf_ok c) vs H Q E h⟩)
  have hu := SL.hu64 hr
  have hr_Order_columns : Room 1 _ := hr.mono (by decide)
  exact (pss_one (ps_ret (pe_and (pe_callB call_vIsi (by rfl) (He.free_ok hX hG (c.look 0)) (by decide +kernel) (pa_cons (pv 1) (pa_cons (pe_gc rfl (gv_ref (He.glo_ok hX hG (c.look 25)))) pa_nil))) (pe_one (pe_cmpR (op_uEq hu) (pe_fld (pv 0) rfl) (pe_meth0 (pv 1) (ownB_ok (c.look 22)).cls (He.meth_ok (c.look 24)) O_Order_columns hr_Order_columns B_Order_columns .nil pass0) (nomark _))))))
theorem sc_Order_D_str_D : FnScope ["self"] ["self"] (defScope s_Order_D_str_D) := ⟨rfl, rfl, rfl, by decide +kernel, rfl, by decide +kernel, by decide +kernel⟩
theorem ok_Order_D_str_D {P : Program} {w : World} {K : PySem.W.Frag} {mg : Str → Option Value} {base h : Heap} {fd : FuncData} (c : SaysA looks0 defs0 K) (hX : K.In h) (hG : h.Ns mainGlobals mg) (F_Order_D_str_D : Fun_Order_D_str_D K fd) : FnOk P w K mg base CX0 1 (He.fAd K d_Order_D_str_D.at_) fd ["self"] (sp_Order_D_str_D K) := by
  have F := F_Order_D_str_D
  refine F.ok sc_Order_D_str_D (fun vs H Q E h => len_Order_D_str_D h) (fun cdv A outer s H vs Q E hr h => ⟨t_Order_D_str_D K, PSs.nox ?_, pure_Order_D_str_D (kf_ok c) vs H Q E h⟩)
  have hu := SL.hu64 hr
  exact (pss_one (ps_ret (pe_bm PySem.F.plainAttrs_str PySem.F.slot_str_join PySem.F.type_str_join mt_uJoin pe_str (pa_cons (pe_fld (pv 0) rfl) pa_nil))))
theorem sc_Order_D_repr_D : FnScope ["self"] ["self"] (defScope s_Order_D_repr_D) := ⟨rfl, rfl, rfl, by decide +kernel, rfl, by decide +kernel, by decide +kernel⟩
theorem ok_Order_D_repr_D {P : Program} {w : World} {K : PySem.W.Frag} {mg : Str → Option Value} {base h : Heap} {fd : FuncData} (c : SaysA looks0 defs0 K) (hX : K.In h) (hG : h.Ns mainGlobals mg) (F_Order_D_repr_D : Fun_Order_D_repr_D K fd) : SL.FnG P w K mg base CX0 1 (He.fAd K d_Order_D_repr_D.at_) fd ["self"] (sp_Order_D_repr_D K) := by
  have F := F_Order_D_repr_D
  refine SL.fun_g F sc_Order_D_repr_D (fun vs H Q E h => len_Order_D_repr_D h) (fun cdv A hg0 outer s H vs Q E hr h => ⟨t_Order_D_repr_D K, PSs.nox ?_, pure_Order_D_repr_D (kf_ok c) vs H Q E h⟩)
  have hg : (A.deeper (envOfC d_Order_D_repr_D.qual d_Order_D_repr_D.scope s.heap.objs.size (He.fAd K d_Order_D_repr_D.at_) cdv)).guards = some [] := SL.guards_deeper hg0
  have hu := SL.hu64 hr
  exact (pss_one (ps_ret (pe_joined (.cons pe_str (.cons (pe_fmtRU hg hu (pe_fld (pv 0) rfl)) (.cons pe_str .nil))))))
theorem sc_parse_order : FnScope ["text", "words", "word"] ["text"] (defScope s_parse_order) := ⟨rfl, rfl, rfl, by decide +kernel, rfl, by decide +kernel, by decide +kernel⟩
theorem ok_parse_order {P : Program} {w : World} {K : PySem.W.Frag} {mg : Str → Option Value} {base h : Heap} {fd : FuncData} {fd_Order_D_init_D : FuncData} {fd_is_name : FuncData} {fd_split_words : FuncData} (c : SaysA looks0 defs0 K) (hX : K.In h) (hG : h.Ns mainGlobals mg) (F_parse_order : Fun_parse_order K fd) (O_Order_D_init_D : FnOk P w K mg base CX0 3 (He.fAd K d_Order_D_init_D.at_) fd_Order_D_init_D ["self", "columns"] (sp_Order_D_init_D K)) (D_Order_D_init_D : Fun_Order_D_init_D K fd_Order_D_init_D) (O_is_name : FnOk P w K mg base CX0 1 (He.fAd K d_is_name.at_) fd_is_name ["value"] (sp_is_name K)) (D_is_name : Fun_is_name K fd_is_name) (O_split_words : FnOk P w K mg base CX0 1 (He.fAd K d_split_words.at_) fd_split_words ["text", "separator"] (sp_split_words K)) (D_split_words : Fun_split_words K fd_split_words) : FnOk P w K mg base CX0 5 (He.fAd K d_parse_order.at_) fd ["text"] (sp_parse_order K) := by
  have B_Order_D_init_D := bind_Order_D_init_D D_Order_D_init_D
  have K_Order_D_init_D := D_Order_D_init_D.kp
  have B_is_name := bind_is_name D_is_name
  have K_is_name := D_is_name.kp
  have W_split_words := kl_split_words D_split_words
  have K_split_words := D_split_words.kp
  have F := F_parse_order
  refine F.ok sc_parse_order (fun vs H Q E h => len_parse_order h) (fun cdv A outer s H vs Q E hr h => ⟨t_parse_order K, PSs.nox ?_, pure_parse_order (kf_ok c) vs H Q E h⟩)
  have hu := SL.hu64 hr
  have hr_Order_D_init_D_1 : Room 4 _ := hr.mono (by decide)
  have hr_is_name : Room 1 _ := hr.mono (by decide)
  have hr_split_words : Room 1 _ := hr.mono (by decide)
  exact (pss_cons (ps_set (i := 1) sc_parse_order.nd rfl (by first | exact Or.inl rfl | exact Or.inr rfl) (pe_kl1 O_split_words hr_split_words (by rfl) (He.glo_ok hX hG (c.look 28)) K_split_words W_split_words pass0 (pa_cons (pv 0) pa_nil) pk_nil rfl))
    (pss_cons (ps_if (PW.pt (pw_or (pt_cmpR op_uIs (pv 1) pe_non (nomark _)) (pw_or (pt_cmpR op_gt (pe_callB call_uLen (by rfl) (He.free_ok hX hG (c.look 6)) (by decide +kernel) (pa_cons (pv 1) pa_nil)) (pe_gc rfl (gv_int (He.int_ok hX hG (c.look 20)))) (nomark _)) (pw_or1 (pt_not (pt_tru (pe_callB (cr_all rfl) (by rfl) (He.free_ok hX hG (c.look 4)) (by decide +kernel) (pa_cons (pe_lc (own := [("word", 2)]) (wi := (iU K (tVar 1))) (g := (gName 2)) (tt := tYes) (te := (tCall (sp_is_name K) [] E0 (tCons (tVar 2) tNil))) (by rfl) sc_parse_order.nd (pi_u (pv 1)) (blkOk_by (own := [("word", 2)]) (N := ["text", "words", "word"]) (sc := defScope s_parse_order) (by decide +kernel)) (fun _ _ _ _ _ => (pg_name (i := 2) sc_parse_order.nd rfl (by first | exact Or.inl rfl | exact Or.inr rfl))) (fun _ _ _ _ _ => pts_nil) (fun _ _ _ _ _ => (pe_call O_is_name hr_is_name (by rfl) (He.glo_ok hX hG (c.look 3)) K_is_name B_is_name .nil pass0 (pa_cons (pv 2) pa_nil)))) pa_nil)) (by intro _; rfl))))))) (pss_one ps_never) pss_nil)
    (pss_cons (ps_if (pt_cmpR (op_uLt hu) (pe_lenSc (own := [("word", 2)]) (wi := (iU K (tVar 1))) (g := (gName 2)) (te := (tVar 2)) (by rfl) sc_parse_order.nd (by rfl) (He.free_ok hX hG (c.look 6)) (pi_u (pv 1)) (blkOk_by (own := [("word", 2)]) (N := ["text", "words", "word"]) (sc := defScope s_parse_order) (by decide +kernel)) (fun _ _ _ _ _ => (pg_name (i := 2) sc_parse_order.nd rfl (by first | exact Or.inl rfl | exact Or.inr rfl))) (fun _ _ _ _ _ => (pv 2))) (pe_callB call_uLen (by rfl) (He.free_ok hX hG (c.look 6)) (by decide +kernel) (pa_cons (pv 1) pa_nil)) (nomark _)) (pss_one ps_never) pss_nil)
    (pss_one (ps_ret (pe_make (He.mkr_ok (c.look 27)) O_Order_D_init_D hr_Order_D_init_D_1 rfl (He.glo_ok hX hG (c.look 25)) B_Order_D_init_D .nil pass0 (pa_cons (pv 1) pa_nil)))))))
theorem sc_checked_parts : FnScope ["parts", "found", "known", "part", "name"] ["parts"] (defScope s_checked_parts) := ⟨rfl, rfl, rfl, by decide +kernel, rfl, by decide +kernel, by decide +kernel⟩
theorem ok_checked_parts {P : Program} {w : World} {K : PySem.W.Frag} {mg : Str → Option Value} {base h : Heap} {fd : FuncData} {fd_is_name : FuncData} {fd_is_list : FuncData} (c : SaysA looks0 defs0 K) (hX : K.In h) (hG : h.Ns mainGlobals mg) (F_checked_parts : Fun_checked_parts K fd) (O_is_name : FnOk P w K mg base CX0 1 (He.fAd K d_is_name.at_) fd_is_name ["value"] (sp_is_name K)) (D_is_name : Fun_is_name K fd_is_name) (O_is_list : FnOk P w K mg base CX0 1 (He.fAd K d_is_list.at_) fd_is_list ["value"] (sp_is_list K)) (D_is_list : Fun_is_list K fd_is_list) : FnOk P w K mg base CX0 2 (He.fAd K d_checked_parts.at_) fd ["parts"] (sp_checked_parts K) := by
  have B_is_name := bind_is_name D_is_name
  have K_is_name := D_is_name.kp
  have B_is_list := bind_is_list D_is_list
  have K_is_list := D_is_list.kp
  have F := F_checked_parts
  refine F.ok sc_checked_parts (fun vs H Q E h => len_checked_parts h) (fun cdv A outer s H vs Q E hr h => ⟨t_checked_parts K, PSs.nox ?_, pure_checked_parts (kf_ok c) vs H Q E h⟩)
  have hu := SL.hu64 hr
  have hr_is_name : Room 1 _ := hr.mono (by decide)
  have hr_is_list : Room 1 _ := hr.mono (by decide)
  exact (pss_cons (ps_if (PW.pt (pw_or (pt_not (pt_tru (pe_call O_is_list hr_is_list (by rfl) (He.glo_ok hX hG (c.look 17)) K_is_list B_is_list .nil pass0 (pa_cons (pv 0) pa_nil)) (by intro _; rfl))) (pw_or1 (pt_not (pt_chain op_uLe op_uLe pe_int (pe_callB call_uLen (by rfl) (He.free_ok hX hG (c.look 6)) (by decide +kernel) (pa_cons (pv 0) pa_nil)) (pe_gc rfl (gv_int (He.int_ok hX hG (c.look 20))))))))) (pss_one ps_never) pss_nil)
    (pss_cons (ps_par (i := 1) (j := 2) (by rfl) sc_checked_parts.nd rfl rfl (by decide) rfl rfl (pa_cons (pe_lst pa_nil) (pa_cons (pe_lst pa_nil) pa_nil)) (by rfl))
    (pss_cons (ps_for PassesOwn.never rfl (pi_u (pv 0)) (pg_name (i := 3) sc_checked_parts.nd rfl (by first | exact Or.inl rfl | exact Or.inr rfl)) (pss_cons (ps_if (PW.pt (pw_or (pt_not (pt_tru (pe_call O_is_list hr_is_list (by rfl) (He.glo_ok hX hG (c.look 17)) K_is_list B_is_list .nil pass0 (pa_cons (pv 3) pa_nil)) (by intro _; rfl))) (pw_or1 (pt_cmpR (op_uEq hu) (pe_callB call_uLen (by rfl) (He.free_ok hX hG (c.look 6)) (by decide +kernel) (pa_cons (pv 3) pa_nil)) pe_int (nomark _))))) (pss_one ps_never) pss_nil)
    (pss_cons (ps_for PassesOwn.never rfl (pi_u (pv 3)) (pg_name (i := 4) sc_checked_parts.nd rfl (by first | exact Or.inl rfl | exact Or.inr rfl)) (pss_cons (ps_if (pt_not (pt_tru (pe_call O_is_name hr_is_name (by rfl) (He.glo_ok hX hG (c.look 3)) K_is_name B_is_name .nil pass0 (pa_cons (pv 4) pa_nil)) (by intro _; rfl))) (pss_one ps_never) pss_nil)
    (pss_cons (ps_if (pt_cmpR op_uIn (pv 4) (pv 2) (by rfl)) (pss_one ps_never) pss_nil)
    (pss_one (ps_expr (pe_bm PySem.F.plainAttrs_list PySem.F.slot_list_append PySem.F.type_list_append mt_append (pv 2) (pa_cons (pv 4) pa_nil)))))))
    (pss_one (ps_expr (pe_bm PySem.F.plainAttrs_list PySem.F.slot_list_append PySem.F.type_list_append mt_append (pv 1) (pa_cons (pe_callB call_srt (by rfl) (He.free_ok hX hG (c.look 13)) (by decide +kernel) (pa_cons (pv 3) pa_nil)) pa_nil)))))))
    (pss_cons (ps_if (pt_cmpR op_gt (pe_callB call_uLen (by rfl) (He.free_ok hX hG (c.look 6)) (by decide +kernel) (pa_cons (pv 2) pa_nil)) (pe_gc rfl (gv_int (He.int_ok hX hG (c.look 20)))) (nomark _)) (pss_one ps_never) pss_nil)
    (pss_one (ps_ret (pv 1)))))))
theorem sc_Blocks_D_init_D : FnScope ["self", "parts"] ["self", "parts"] (defScope s_Blocks_D_init_D) := ⟨rfl, rfl, rfl, by decide +kernel, rfl, by decide +kernel, by decide +kernel⟩
theorem ok_Blocks_D_init_D {P : Program} {w : World} {K : PySem.W.Frag} {mg : Str → Option Value} {base h : Heap} {fd : FuncData} {fd_checked_parts : FuncData} (c : SaysA looks0 defs0 K) (hX : K.In h) (hG : h.Ns mainGlobals mg) (F_Blocks_D_init_D : Fun_Blocks_D_init_D K fd) (O_checked_parts : FnOk P w K mg base CX0 2 (He.fAd K d_checked_parts.at_) fd_checked_parts ["parts"] (sp_checked_parts K)) (D_checked_parts : Fun_checked_parts K fd_checked_parts) : FnOk P w K mg base CX0 3 (He.fAd K d_Blocks_D_init_D.at_) fd ["self", "parts"] (sp_Blocks_D_init_D K) := by
  have B_checked_parts := bind_checked_parts D_checked_parts
  have K_checked_parts := D_checked_parts.kp
  have F := F_Blocks_D_init_D
  refine F.ok sc_Blocks_D_init_D (fun vs H Q E h => len_Blocks_D_init_D h) (fun cdv A outer s H vs Q E hr h => ⟨t_Blocks_D_init_D K, PSs.nox ?_, pure_Blocks_D_init_D (kf_ok c) vs H Q E h⟩)
  have hu := SL.hu64 hr
  have hr_checked_parts : Room 2 _ := hr.mono (by decide)
  exact (pss_one (ps_fld (pv 0) (pe_call O_checked_parts hr_checked_parts (by rfl) (He.glo_ok hX hG (c.look 29)) K_checked_parts B_checked_parts .nil pass0 (pa_cons (pv 1) pa_nil)) rfl))
theorem sc_Blocks_parts : FnScope ["self", "part"] ["self"] (defScope s_Blocks_parts) := ⟨rfl, rfl, rfl, by decide +kernel, rfl, by decide +kernel, by decide +kernel⟩
theorem ok_Blocks_parts {P : Program} {w : World} {K : PySem.W.Frag} {mg : Str → Option Value} {base h : Heap} {fd : FuncData} (c : SaysA looks0 defs0 K) (hX : K.In h) (hG : h.Ns mainGlobals mg) (F_Blocks_parts : Fun_Blocks_parts K fd) : FnOk P w K mg base CX0 1 (He.fAd K d_Blocks_parts.at_) fd ["self"] (sp_Blocks_parts K) := by
  have F := F_Blocks_parts
  refine F.ok sc_Blocks_parts (fun vs H Q E h => len_Blocks_parts h) (fun cdv A outer s H vs Q E hr h => ⟨t_Blocks_parts K, PSs.nox ?_, pure_Blocks_parts (kf_ok c) vs H Q E h⟩)
  have hu := SL.hu64 hr
  exact (pss_one (ps_ret (pe_lc (own := [("part", 1)]) (wi := (iU K (tFld K (tVar 0) "own_parts"))) (g := (gName 1)) (tt := tYes) (te := (tCB (uList K) (tCons (tVar 1) tNil))) (by rfl) sc_Blocks_parts.nd (pi_u (pe_fld (pv 0) rfl)) (blkOk_by (own := [("part", 1)]) (N := ["self", "part"]) (sc := defScope s_Blocks_parts) (by decide +kernel)) (fun _ _ _ _ _ => (pg_name (i := 1) sc_Blocks_parts.nd rfl (by first | exact Or.inl rfl | exact Or.inr rfl))) (fun _ _ _ _ _ => pts_nil) (fun _ _ _ _ _ => (pe_callTy call_list_u (by rfl) (He.free_ok hX hG (c.look 9)) (by decide +kernel) (pa_cons (pv 1) pa_nil))))))
theorem sc_Blocks_D_eq_D : FnScope ["self", "other"] ["self", "other"] (defScope s_Blocks_D_eq_D) := ⟨rfl, rfl, rfl, by decide +kernel, rfl, by decide +kernel, by decide +kernel⟩
theorem ok_Blocks_D_eq_D {P : Program} {w : World} {K : PySem.W.Frag} {mg : Str → Option Value} {base h : Heap} {fd : FuncData} {fd_Blocks_parts : FuncData} (c : SaysA looks0 defs0 K) (hX : K.In h) (hG : h.Ns mainGlobals mg) (F_Blocks_D_eq_D : Fun_Blocks_D_eq_D K fd) (O_Blocks_parts : FnOk P w K mg base CX0 1 (He.fAd K d_Blocks_parts.at_) fd_Blocks_parts ["self"] (sp_Blocks_parts K)) (D_Blocks_parts : Fun_Blocks_parts K fd_Blocks_parts) : FnOk P w K mg base CX0 2 (He.fAd K d_Blocks_D_eq_D.at_) fd ["self", "other"] (sp_Blocks_D_eq_D K) := by
  have B_Blocks_parts := bind_Blocks_parts D_Blocks_parts
  have K_Blocks_parts := D_Blocks_parts.kp
  have F := F_Blocks_D_eq_D
  refine F.ok sc_Blocks_D_eq_D (fun vs H Q E h => len_Blocks_D_eq_D h) (fun cdv A outer s H vs Q E hr h => ⟨t_Blocks_D_eq_D K, PSs.nox ?_, pure_Blocks_D_eq_D (kf_ok c) vs H Q E h⟩)
  have hu := SL.hu64 hr
  have hr_Blocks_parts : Room 1 _ := hr.mono (by decide)
  exact (pss_one (ps_ret (pe_and (pe_callB call_vIsi (by rfl) (He.free_ok hX hG (c.look 0)) (by decide +kernel) (pa_cons (pv 1) (pa_cons (pe_gc rfl (gv_ref (He.glo_ok hX hG (c.look 33)))) pa_nil))) (pe_one (pe_cmpR (op_uEq hu) (pe_fld (pv 0) rfl) (pe_meth0 (pv 1) (ownB_ok (c.look 30)).cls (He.meth_ok (c.look 32)) O_Blocks_parts hr_Blocks_parts B_Blocks_parts .nil pass0) (nomark _))))))
theorem sc_l_law_cell : FnScope ["_law_script", "_law_k"] ["_law_script", "_law_k"] (defScope s_l_law_cell) := ⟨rfl, rfl, rfl, by decide +kernel, rfl, by decide +kernel, by decide +kernel⟩
theorem ok_l_law_cell {P : Program} {w : World} {K : PySem.W.Frag} {mg : Str → Option Value} {base h : Heap} {fd : FuncData} (c : SaysA looks0 defs0 K) (hX : K.In h) (hG : h.Ns mainGlobals mg) (F_l_law_cell : Fun_l_law_cell K fd) : FnOk P w K mg base CX0 1 (He.fAd K d_l_law_cell.at_) fd ["_law_script", "_law_k"] (sp_l_law_cell K) := by
  have F := F_l_law_cell
  refine F.ok sc_l_law_cell (fun vs H Q E h => len_l_law_cell h) (fun cdv A outer s H vs Q E hr h => ⟨t_l_law_cell K, PSs.nox ?_, pure_l_law_cell (kf_ok c) vs H Q E h⟩)
  have hu := SL.hu64 hr
  exact (pss_cons (ps_if (pt_cmpR (op_uLt hu) (pv 1) (pe_callB call_uLen (by rfl) (He.free_ok hX hG (c.look 6)) (by decide +kernel) (pa_cons (pv 0) pa_nil)) (nomark _)) (pss_one (ps_ret (pe_ix ix_u (pv 0) (pv 1) (fun _ _ => rfl)))) pss_nil)
    (pss_one (ps_ret (pe_op op_uAdd (pe_op op_uMul pe_int (pv 1)) pe_int))))
theorem sc_l_law_box : FnScope ["_law_cell_here"] ["_law_cell_here"] (defScope s_l_law_box) := ⟨rfl, rfl, rfl, by decide +kernel, rfl, by decide +kernel, by decide +kernel⟩
theorem ok_l_law_box {P : Program} {w : World} {K : PySem.W.Frag} {mg : Str → Option Value} {base h : Heap} {fd : FuncData} (c : SaysA looks0 defs0 K) (hX : K.In h) (hG : h.Ns mainGlobals mg) (F_l_law_box : Fun_l_law_box K fd) : FnOk P w K mg base CX0 1 (He.fAd K d_l_law_box.at_) fd ["_law_cell_here"] (sp_l_law_box K) := by
  have F := F_l_law_box
  refine F.ok sc_l_law_box (fun vs H Q E h => len_l_law_box h) (fun cdv A outer s H vs Q E hr h => ⟨t_l_law_box K, PSs.nox ?_, pure_l_law_box (kf_ok c) vs H Q E h⟩)
  have hu := SL.hu64 hr
  exact (pss_one (ps_ret (pe_lst (pa_cons (pe_callB (call_max2 rfl) (by rfl) (He.free_ok hX hG (c.look 35)) (by decide +kernel) (pa_cons pe_int (pa_cons (pe_op op_sub (pv 0) (pe_op op_pow pe_int pe_int)) pa_nil))) (pa_cons (pe_op op_modN (pv 0) pe_int) (pa_cons pe_int pa_nil))))))
theorem sc_l_law_take : FnScope ["_law_box_here", "_law_many", "_law_front", "_law_back", "_law_digit"] ["_law_box_here", "_law_many"] (defScope s_l_law_take) := ⟨rfl, rfl, rfl, by decide +kernel, rfl, by decide +kernel, by decide +kernel⟩
theorem ok_l_law_take {P : Program} {w : World} {K : PySem.W.Frag} {mg : Str → Option Value} {base h : Heap} {fd : FuncData} (c : SaysA looks0 defs0 K) (hX : K.In h) (hG : h.Ns mainGlobals mg) (F_l_law_take : Fun_l_law_take K fd) : FnOk P w K mg base CX0 1 (He.fAd K d_l_law_take.at_) fd ["_law_box_here", "_law_many"] (sp_l_law_take K) := by
  have F := F_l_law_take
  refine F.ok sc_l_law_take (fun vs H Q E h => len_l_law_take h) (fun cdv A outer s H vs Q E hr h => ⟨t_l_law_take K, PSs.nox ?_, pure_l_law_take (kf_ok c) vs H Q E h⟩)
  have hu := SL.hu64 hr
  exact (pss_cons (ps_if (pt_cmpR op_gt (pe_ix ix_u (pv 0) pe_int (fun _ _ => rfl)) pe_int (nomark _)) (pss_cons (ps_set (i := 4) sc_l_law_take.nd rfl (by first | exact Or.inl rfl | exact Or.inr rfl) (pe_op op_modN (pe_ix ix_u (pv 0) pe_int (fun _ _ => rfl)) (pv 1)))
    (pss_cons (ps_asg (pe_op op_fdivW (pe_ix ix_u (pv 0) pe_int (fun _ _ => rfl)) (pv 1)) (pg_sub (pv 0) pe_int set_list))
    (pss_one (ps_ret (pv 4))))) pss_nil)
    (pss_cons (ps_asg (pe_op op_uAdd (pe_ix ix_u (pv 0) pe_int (fun _ _ => rfl)) pe_int) (pg_sub (pv 0) pe_int set_list))
    (pss_cons (ps_set (i := 2) sc_l_law_take.nd rfl (by first | exact Or.inl rfl | exact Or.inr rfl) (pe_op op_modN (pe_op op_uAdd (pe_op op_uAdd (pe_op op_uMul (pe_ix ix_u (pv 0) pe_int (fun _ _ => rfl)) pe_int) (pe_op op_uMul pe_int (pe_ix ix_u (pv 0) pe_int (fun _ _ => rfl)))) pe_int) pe_int))
    (pss_cons (ps_set (i := 3) sc_l_law_take.nd rfl (by first | exact Or.inl rfl | exact Or.inr rfl) (pe_op op_modN (pe_op op_pow (pe_op op_uAdd (pv 2) (pe_op op_uMul pe_int (pe_ix ix_u (pv 0) pe_int (fun _ _ => rfl)))) pe_int) pe_int))
    (pss_one (ps_ret (pe_op op_modN (pe_op op_uAdd (pe_op op_fdivW (pe_op op_modN (pe_op op_pow (pv 3) pe_int) pe_int) pe_int) (pe_op op_fdivW (pv 2) pe_int)) (pv 1))))))))
theorem sc_l_law_mixed : FnScope ["_law_box_here", "_law_some", "_law_left", "_law_k"] ["_law_box_here", "_law_some"] (defScope s_l_law_mixed) := ⟨rfl, rfl, rfl, by decide +kernel, rfl, by decide +kernel, by decide +kernel⟩
theorem ok_l_law_mixed {P : Program} {w : World} {K : PySem.W.Frag} {mg : Str → Option Value} {base h : Heap} {fd : FuncData} {fd_l_law_take : FuncData} (c : SaysA looks0 defs0 K) (hX : K.In h) (hG : h.Ns mainGlobals mg) (F_l_law_mixed : Fun_l_law_mixed K fd) (O_l_law_take : FnOk P w K mg base CX0 1 (He.fAd K d_l_law_take.at_) fd_l_law_take ["_law_box_here", "_law_many"] (sp_l_law_take K)) (D_l_law_take : Fun_l_law_take K fd_l_law_take) : FnOk P w K mg base CX0 2 (He.fAd K d_l_law_mixed.at_) fd ["_law_box_here", "_law_some"] (sp_l_law_mixed K) := by
  have B_l_law_take := bind_l_law_take D_l_law_take
  have K_l_law_take := D_l_law_take.kp
  have F := F_l_law_mixed
  refine F.ok sc_l_law_mixed (fun vs H Q E h => len_l_law_mixed h) (fun cdv A outer s H vs Q E hr h => ⟨t_l_law_mixed K, PSs.nox ?_, pure_l_law_mixed (kf_ok c) vs H Q E h⟩)
  have hu := SL.hu64 hr
  have hr_l_law_take : Room 1 _ := hr.mono (by decide)
  exact (pss_cons (ps_set (i := 2) sc_l_law_mixed.nd rfl (by first | exact Or.inl rfl | exact Or.inr rfl) (pe_callTy call_list_u (by rfl) (He.free_ok hX hG (c.look 9)) (by decide +kernel) (pa_cons (pv 1) pa_nil)))
    (pss_one (ps_ret (pe_lc (own := [("_law_k", 3)]) (wi := (iRng1 (tCons (tCB (uLen K) (tCons (tVar 1) tNil)) tNil))) (g := (gName 3)) (tt := tYes) (te := (tBM K "list" rPopAt (tVar 2) (tCons (tCall (sp_l_law_take K) [] E0 (tCons (tVar 0) (tCons (tCB (uLen K) (tCons (tVar 2) tNil)) tNil))) tNil))) (by rfl) sc_l_law_mixed.nd (pi_range1 rfl (He.free_ok hX hG (c.look 36)) (pa_cons (pe_callB call_uLen (by rfl) (He.free_ok hX hG (c.look 6)) (by decide +kernel) (pa_cons (pv 1) pa_nil)) pa_nil)) (blkOk_by (own := [("_law_k", 3)]) (N := ["_law_box_here", "_law_some", "_law_left", "_law_k"]) (sc := defScope s_l_law_mixed) (by decide +kernel)) (fun _ _ _ _ _ => (pg_name (i := 3) sc_l_law_mixed.nd rfl (by first | exact Or.inl rfl | exact Or.inr rfl))) (fun _ _ _ _ _ => pts_nil) (fun _ _ _ _ _ => (pe_bm PySem.F.plainAttrs_list PySem.F.slot_list_pop PySem.F.type_list_pop mt_popAt (pv 2) (pa_cons (pe_call O_l_law_take hr_l_law_take (by rfl) (He.glo_ok hX hG (c.look 37)) K_l_law_take B_l_law_take .nil pass0 (pa_cons (pv 0) (pa_cons (pe_callB call_uLen (by rfl) (He.free_ok hX hG (c.look 6)) (by decide +kernel) (pa_cons (pv 2) pa_nil)) pa_nil))) pa_nil)))))))
theorem sc_l_law_columns : FnScope ["_law_box_here", "_law_many", "_law_letters", "_law_way", "_law_first", "_law_stem", "_law_at", "_law_found", "_law_begin", "_law_k"] ["_law_box_here", "_law_many"] (defScope s_l_law_columns) := ⟨rfl, rfl, rfl, by decide +kernel, rfl, by decide +kernel, by decide +kernel⟩
theorem ok_l_law_columns {P : Program} {w : World} {K : PySem.W.Frag} {mg : Str → Option Value} {base h : Heap} {fd : FuncData} {fd_l_law_mixed : FuncData} {fd_l_law_take : FuncData} (c : SaysA looks0 defs0 K) (hX : K.In h) (hG : h.Ns mainGlobals mg) (F_l_law_columns : Fun_l_law_columns K fd) (O_l_law_mixed : FnOk P w K mg base CX0 2 (He.fAd K d_l_law_mixed.at_) fd_l_law_mixed ["_law_box_here", "_law_some"] (sp_l_law_mixed K)) (D_l_law_mixed : Fun_l_law_mixed K fd_l_law_mixed) (O_l_law_take : FnOk P w K mg base CX0 1 (He.fAd K d_l_law_take.at_) fd_l_law_take ["_law_box_here", "_law_many"] (sp_l_law_take K)) (D_l_law_take : Fun_l_law_take K fd_l_law_take) : FnOk P w K mg base CX0 3 (He.fAd K d_l_law_columns.at_) fd ["_law_box_here", "_law_many"] (sp_l_law_columns K) := by
  have B_l_law_mixed := bind_l_law_mixed D_l_law_mixed
  have K_l_law_mixed := D_l_law_mixed.kp
  have B_l_law_take := bind_l_law_take D_l_law_take
  have K_l_law_take := D_l_law_take.kp
  have F := F_l_law_columns
  refine F.ok sc_l_law_columns (fun vs H Q E h => len_l_law_columns h) (fun cdv A outer s H vs Q E hr h => ⟨t_l_law_columns K, PSs.nox ?_, pure_l_law_columns (kf_ok c) vs H Q E h⟩)
  have hu := SL.hu64 hr
  have hr_l_law_mixed : Room 2 _ := hr.mono (by decide)
  have hr_l_law_take : Room 1 _ := hr.mono (by decide)
  exact (pss_cons (ps_set (i := 2) sc_l_law_columns.nd rfl (by first | exact Or.inl rfl | exact Or.inr rfl) pe_str)
    (pss_cons (ps_asg (pe_tup (pa_cons (pe_call O_l_law_take hr_l_law_take (by rfl) (He.glo_ok hX hG (c.look 37)) K_l_law_take B_l_law_take .nil pass0 (pa_cons (pv 0) (pa_cons pe_int pa_nil))) (pa_cons (pe_call O_l_law_take hr_l_law_take (by rfl) (He.glo_ok hX hG (c.look 37)) K_l_law_take B_l_law_take .nil pass0 (pa_cons (pv 0) (pa_cons pe_int pa_nil))) pa_nil))) (pg_tup rfl (pgs_cons (pg_name (i := 3) sc_l_law_columns.nd rfl (by first | exact Or.inl rfl | exact Or.inr rfl)) (pgs_cons (pg_name (i := 4) sc_l_law_columns.nd rfl (by first | exact Or.inl rfl | exact Or.inr rfl)) pgs_nil))))
    (pss_cons (ps_set (i := 5) sc_l_law_columns.nd rfl (by first | exact Or.inl rfl | exact Or.inr rfl) (pe_bm PySem.F.plainAttrs_str PySem.F.slot_str_join PySem.F.type_str_join mt_uJoin pe_str (pa_cons (pe_lc (own := [("_law_k", 9)]) (wi := (iRng1 (tCons (tC (.int 8)) tNil))) (g := (gName 9)) (tt := tYes) (te := (tOp (uIx K) (tVar 2) (tCall (sp_l_law_take K) [] E0 (tCons (tVar 0) (tCons (tC (.int 26)) tNil))))) (by rfl) sc_l_law_columns.nd (pi_range1 rfl (He.free_ok hX hG (c.look 36)) (pa_cons pe_int pa_nil)) (blkOk_by (own := [("_law_k", 9)]) (N := ["_law_box_here", "_law_many", "_law_letters", "_law_way", "_law_first", "_law_stem", "_law_at", "_law_found", "_law_begin", "_law_k"]) (sc := defScope s_l_law_columns) (by decide +kernel)) (fun _ _ _ _ _ => (pg_name (i := 9) sc_l_law_columns.nd rfl (by first | exact Or.inl rfl | exact Or.inr rfl))) (fun _ _ _ _ _ => pts_nil) (fun _ _ _ _ _ => (pe_ix ix_u (pv 2) (pe_call O_l_law_take hr_l_law_take (by rfl) (He.glo_ok hX hG (c.look 37)) K_l_law_take B_l_law_take .nil pass0 (pa_cons (pv 0) (pa_cons pe_int pa_nil))) (fun _ _ => rfl)))) pa_nil)))
    (pss_cons (ps_set (i := 6) sc_l_law_columns.nd rfl (by first | exact Or.inl rfl | exact Or.inr rfl) (pe_call O_l_law_take hr_l_law_take (by rfl) (He.glo_ok hX hG (c.look 37)) K_l_law_take B_l_law_take .nil pass0 (pa_cons (pv 0) (pa_cons pe_int pa_nil))))
    (pss_cons (ps_setLc (i := 7) (own := [("_law_k", 9)]) (wi := (iRng1 (tCons (tVar 1) tNil))) (g := (gName 9)) (tt := tYes) (te := (tOp (uAdd K) (tOp (uAdd K) (tSl (uSl K) (tVar 5) tNoPart (tPart (tVar 6))) (tOp (uIx K) (tVar 2) (tOp SL.rMod (tOp (uAdd K) (tVar 4) (tOp (uMul K) (tC (.int 11)) (tVar 9))) (tC (.int 26))))) (tSl (uSl K) (tVar 5) (tPart (tOp (uAdd K) (tVar 6) (tC (.int 1)))) tNoPart))) (by rfl) sc_l_law_columns.nd rfl rfl (sw_true rfl rfl rfl (by decide +kernel)) (pi_range1 rfl (He.free_ok hX hG (c.look 36)) (pa_cons (pv 1) pa_nil)) (blkOk_by (own := [("_law_k", 9)]) (N := ["_law_box_here", "_law_many", "_law_letters", "_law_way", "_law_first", "_law_stem", "_law_at", "_law_found", "_law_begin", "_law_k"]) (sc := defScope s_l_law_columns) (by decide +kernel)) (fun _ _ _ _ _ => (pg_name (i := 9) sc_l_law_columns.nd rfl (by first | exact Or.inl rfl | exact Or.inr rfl))) (fun _ _ _ _ _ => pts_nil) (fun _ _ _ _ _ => (pe_op op_uAdd (pe_op op_uAdd (pe_slice sl_u (pv 5) po_none (po_some (pv 6))) (pe_ix ix_u (pv 2) (pe_op op_modN (pe_op op_uAdd (pv 4) (pe_op op_uMul pe_int (pv 9))) pe_int) (fun _ _ => rfl))) (pe_slice sl_u (pv 5) (po_some (pe_op op_uAdd (pv 6) pe_int)) po_none))))
    (pss_cons (ps_if (pt_cmpR (op_uEq hu) (pv 3) pe_int (nomark _)) (pss_one (ps_setLc (i := 7) (own := [("_law_k", 9)]) (wi := (iRng1 (tCons (tVar 1) tNil))) (g := (gName 9)) (tt := tYes) (te := (tOp (uIx K) (tVar 2) (tOp SL.rMod (tOp (uAdd K) (tVar 4) (tOp (uMul K) (tC (.int 3)) (tVar 9))) (tC (.int 26))))) (by rfl) sc_l_law_columns.nd rfl rfl (sw_true rfl rfl rfl (by decide +kernel)) (pi_range1 rfl (He.free_ok hX hG (c.look 36)) (pa_cons (pv 1) pa_nil)) (blkOk_by (own := [("_law_k", 9)]) (N := ["_law_box_here", "_law_many", "_law_letters", "_law_way", "_law_first", "_law_stem", "_law_at", "_law_found", "_law_begin", "_law_k"]) (sc := defScope s_l_law_columns) (by decide +kernel)) (fun _ _ _ _ _ => (pg_name (i := 9) sc_l_law_columns.nd rfl (by first | exact Or.inl rfl | exact Or.inr rfl))) (fun _ _ _ _ _ => pts_nil) (fun _ _ _ _ _ => (pe_ix ix_u (pv 2) (pe_op op_modN (pe_op op_uAdd (pv 4) (pe_op op_uMul pe_int (pv 9))) pe_int) (fun _ _ => rfl))))) pss_nil)
    (pss_cons (ps_if (pt_cmpR (op_uEq hu) (pv 3) pe_int (nomark _)) (pss_cons (ps_set (i := 8) sc_l_law_columns.nd rfl (by first | exact Or.inl rfl | exact Or.inr rfl) (pe_call O_l_law_take hr_l_law_take (by rfl) (He.glo_ok hX hG (c.look 37)) K_l_law_take B_l_law_take .nil pass0 (pa_cons (pv 0) (pa_cons pe_int pa_nil))))
    (pss_one (ps_setLc (i := 7) (own := [("_law_k", 9)]) (wi := (iRng1 (tCons (tVar 1) tNil))) (g := (gName 9)) (tt := tYes) (te := (tSl (uSl K) (tVar 5) tNoPart (tPart (tOp (uAdd K) (tOp (uAdd K) (tVar 8) (tVar 9)) (tC (.int 1)))))) (by rfl) sc_l_law_columns.nd rfl rfl (sw_true rfl rfl rfl (by decide +kernel)) (pi_range1 rfl (He.free_ok hX hG (c.look 36)) (pa_cons (pv 1) pa_nil)) (blkOk_by (own := [("_law_k", 9)]) (N := ["_law_box_here", "_law_many", "_law_letters", "_law_way", "_law_first", "_law_stem", "_law_at", "_law_found", "_law_begin", "_law_k"]) (sc := defScope s_l_law_columns) (by decide +kernel)) (fun _ _ _ _ _ => (pg_name (i := 9) sc_l_law_columns.nd rfl (by first | exact Or.inl rfl | exact Or.inr rfl))) (fun _ _ _ _ _ => pts_nil) (fun _ _ _ _ _ => (pe_slice sl_u (pv 5) po_none (po_some (pe_op op_uAdd (pe_op op_uAdd (pv 8) (pv 9)) pe_int))))))) pss_nil)
    (pss_cons (ps_if (pt_cmpR (op_uEq hu) (pv 3) pe_int (nomark _)) (pss_one (ps_setLc (i := 7) (own := [("_law_k", 9)]) (wi := (iRng1 (tCons (tVar 1) tNil))) (g := (gName 9)) (tt := tYes) (te := (tOp (uAdd K) (tOp (uIx K) (tVar 2) (tOp SL.rMod (tOp (uAdd K) (tVar 4) (tOp (uMul K) (tC (.int 7)) (tVar 9))) (tC (.int 26)))) (tSl (uSl K) (tVar 5) tNoPart (tPart (tCall (sp_l_law_take K) [] E0 (tCons (tVar 0) (tCons (tC (.int 8)) tNil))))))) (by rfl) sc_l_law_columns.nd rfl rfl (sw_true rfl rfl rfl (by decide +kernel)) (pi_range1 rfl (He.free_ok hX hG (c.look 36)) (pa_cons (pv 1) pa_nil)) (blkOk_by (own := [("_law_k", 9)]) (N := ["_law_box_here", "_law_many", "_law_letters", "_law_way", "_law_first", "_law_stem", "_law_at", "_law_found", "_law_begin", "_law_k"]) (sc := defScope s_l_law_columns) (by decide +kernel)) (fun _ _ _ _ _ => (pg_name (i := 9) sc_l_law_columns.nd rfl (by first | exact Or.inl rfl | exact Or.inr rfl))) (fun _ _ _ _ _ => pts_nil) (fun _ _ _ _ _ => (pe_op op_uAdd (pe_ix ix_u (pv 2) (pe_op op_modN (pe_op op_uAdd (pv 4) (pe_op op_uMul pe_int (pv 9))) pe_int) (fun _ _ => rfl)) (pe_slice sl_u (pv 5) po_none (po_some (pe_call O_l_law_take hr_l_law_take (by rfl) (He.glo_ok hX hG (c.look 37)) K_l_law_take B_l_law_take .nil pass0 (pa_cons (pv 0) (pa_cons pe_int pa_nil))))))))) pss_nil)
    (pss_one (ps_ret (pe_call O_l_law_mixed hr_l_law_mixed (by rfl) (He.glo_ok hX hG (c.look 38)) K_l_law_mixed B_l_law_mixed .nil pass0 (pa_cons (pv 0) (pa_cons (pv 7) pa_nil)))))))))))))
theorem sc_l_law_told_right : FnScope ["_law_order", "_law_columns_here", "_law_turn", "_law_found"] ["_law_order", "_law_columns_here"] (defScope s_l_law_told_right) := ⟨rfl, rfl, rfl, by decide +kernel, rfl, by decide +kernel, by decide +kernel⟩
theorem ok_l_law_told_right {P : Program} {w : World} {K : PySem.W.Frag} {mg : Str → Option Value} {base h : Heap} {fd : FuncData} {fd_Order_D_repr_D : FuncData} {fd_Order_D_str_D : FuncData} {fd_Order_D_len_D : FuncData} {fd_Order_columns : FuncData} (c : SaysA looks0 defs0 K) (hX : K.In h) (hG : h.Ns mainGlobals mg) (F_l_law_told_right : Fun_l_law_told_right K fd) (O_Order_D_repr_D : SL.FnG P w K mg base CX0 1 (He.fAd K d_Order_D_repr_D.at_) fd_Order_D_repr_D ["self"] (sp_Order_D_repr_D K)) (D_Order_D_repr_D : Fun_Order_D_repr_D K fd_Order_D_repr_D) (O_Order_D_str_D : FnOk P w K mg base CX0 1 (He.fAd K d_Order_D_str_D.at_) fd_Order_D_str_D ["self"] (sp_Order_D_str_D K)) (D_Order_D_str_D : Fun_Order_D_str_D K fd_Order_D_str_D) (O_Order_D_len_D : FnOk P w K mg base CX0 1 (He.fAd K d_Order_D_len_D.at_) fd_Order_D_len_D ["self"] (sp_Order_D_len_D K)) (D_Order_D_len_D : Fun_Order_D_len_D K fd_Order_D_len_D) (O_Order_columns : FnOk P w K mg base CX0 1 (He.fAd K d_Order_columns.at_) fd_Order_columns ["self"] (sp_Order_columns K)) (D_Order_columns : Fun_Order_columns K fd_Order_columns) : SL.FnG P w K mg base CX0 4 (He.fAd K d_l_law_told_right.at_) fd ["_law_order", "_law_columns_here"] (sp_l_law_told_right K) := by
  have B_Order_D_repr_D := bind_Order_D_repr_D D_Order_D_repr_D
  have K_Order_D_repr_D := D_Order_D_repr_D.kp
  have B_Order_D_str_D := bind_Order_D_str_D D_Order_D_str_D
  have K_Order_D_str_D := D_Order_D_str_D.kp
  have B_Order_D_len_D := bind_Order_D_len_D D_Order_D_len_D
  have K_Order_D_len_D := D_Order_D_len_D.kp
  have B_Order_columns := bind_Order_columns D_Order_columns
  have K_Order_columns := D_Order_columns.kp
  have F := F_l_law_told_right
  refine SL.fun_g F sc_l_law_told_right (fun vs H Q E h => len_l_law_told_right h) (fun cdv A hg0 outer s H vs Q E hr h => ⟨t_l_law_told_right K, PSs.nox ?_, pure_l_law_told_right (kf_ok c) vs H Q E h⟩)
  have hg : (A.deeper (envOfC d_l_law_told_right.qual d_l_law_told_right.scope s.heap.objs.size (He.fAd K d_l_law_told_right.at_) cdv)).guards = some [] := SL.guards_deeper hg0
  have hu := SL.hu64 hr
  have hr_Order_D_repr_D_1 : Room 2 _ := hr.mono (by decide)
  have hr_Order_D_str_D_2 : Room 3 _ := hr.mono (by decide)
  have hr_Order_D_len_D_1 : Room 2 _ := hr.mono (by decide)
  have hr_Order_columns : Room 1 _ := hr.mono (by decide)
  exact (pss_cons (ps_for PassesOwn.never rfl (pi_range1 rfl (He.free_ok hX hG (c.look 36)) (pa_cons pe_int pa_nil)) (pg_name (i := 2) sc_l_law_told_right.nd rfl (by first | exact Or.inl rfl | exact Or.inr rfl)) (pss_cons (ps_set (i := 3) sc_l_law_told_right.nd rfl (by first | exact Or.inl rfl | exact Or.inr rfl) (pe_meth0 (pv 0) (ownB_ok (c.look 22)).cls (He.meth_ok (c.look 24)) O_Order_columns hr_Order_columns B_Order_columns .nil pass0))
    (pss_cons (ps_if (pt_cmpR (op_uNe hu) (pe_callB (call_uRepr hg hu) (by rfl) (He.free_ok hX hG (c.look 39)) (by decide +kernel) (pa_cons (pe_lst (pa_cons (pv 3) (pa_cons (pe_callB (call_lenO (specB_ok (c.look 42)).1 (specB_ok (c.look 42)).2 (raw0 O_Order_D_len_D B_Order_D_len_D) hr_Order_D_len_D_1 pass0) (by rfl) (He.free_ok hX hG (c.look 6)) (by decide +kernel) (pa_cons (pv 0) pa_nil)) (pa_cons (pe_callTy (call_strO (specB_ok (c.look 41)).1 (specB_ok (c.look 41)).2 (raw0 O_Order_D_str_D B_Order_D_str_D) hr_Order_D_str_D_2 pass0) (by rfl) (He.free_ok hX hG (c.look 1)) (by decide +kernel) (pa_cons (pv 0) pa_nil)) pa_nil)))) pa_nil)) (pe_callB (call_uRepr hg hu) (by rfl) (He.free_ok hX hG (c.look 39)) (by decide +kernel) (pa_cons (pe_lst (pa_cons (pv 1) (pa_cons (pe_callB call_uLen (by rfl) (He.free_ok hX hG (c.look 6)) (by decide +kernel) (pa_cons (pv 1) pa_nil)) (pa_cons (pe_bm PySem.F.plainAttrs_str PySem.F.slot_str_join PySem.F.type_str_join mt_uJoin pe_str (pa_cons (pv 1) pa_nil)) pa_nil)))) pa_nil)) (nomark _)) (pss_one (ps_ret pe_bl)) pss_nil)
    (pss_one (ps_expr (pe_bm PySem.F.plainAttrs_list PySem.F.slot_list_append PySem.F.type_list_append mt_append (pv 3) (pa_cons pe_str pa_nil)))))))
    (pss_one (ps_ret (pe_callB call_vIsi (by rfl) (He.free_ok hX hG (c.look 0)) (by decide +kernel) (pa_cons (pe_callB (call_reprOG hg (specB_ok (c.look 40)).1 (specB_ok (c.look 40)).2 (raw0G O_Order_D_repr_D B_Order_D_repr_D) hr_Order_D_repr_D_1 pass0) (by rfl) (He.free_ok hX hG (c.look 39)) (by decide +kernel) (pa_cons (pv 0) pa_nil)) (pa_cons (pe_bltn (v := .ty "str") rfl (He.free_ok hX hG (c.look 1)) (by decide +kernel) rfl) pa_nil))))))
theorem sc_l_law_others : FnScope ["_law_box_here", "_law_columns_here", "_law_fresh", "_law_found", "_law_at", "_law_two", "_law_letter"] ["_law_box_here", "_law_columns_here"] (defScope s_l_law_others) := ⟨rfl, rfl, rfl, by decide +kernel, rfl, by decide +kernel, by decide +kernel⟩
theorem ok_l_law_others {P : Program} {w : World} {K : PySem.W.Frag} {mg : Str → Option Value} {base h : Heap} {fd : FuncData} {fd_l_law_take : FuncData} (c : SaysA looks0 defs0 K) (hX : K.In h) (hG : h.Ns mainGlobals mg) (F_l_law_others : Fun_l_law_others K fd) (O_l_law_take : FnOk P w K mg base CX0 1 (He.fAd K d_l_law_take.at_) fd_l_law_take ["_law_box_here", "_law_many"] (sp_l_law_take K)) (D_l_law_take : Fun_l_law_take K fd_l_law_take) : FnOk P w K mg base CX0 2 (He.fAd K d_l_law_others.at_) fd ["_law_box_here", "_law_columns_here"] (sp_l_law_others K) := by
  have B_l_law_take := bind_l_law_take D_l_law_take
  have K_l_law_take := D_l_law_take.kp
  have F := F_l_law_others
  refine F.ok sc_l_law_others (fun vs H Q E h => len_l_law_others h) (fun cdv A outer s H vs Q E hr h => ⟨t_l_law_others K, PSs.nox ?_, pure_l_law_others (kf_ok c) vs H Q E h⟩)
  have hu := SL.hu64 hr
  have hr_l_law_take : Room 1 _ := hr.mono (by decide)
  exact (pss_cons (ps_set (i := 2) sc_l_law_others.nd rfl (by first | exact Or.inl rfl | exact Or.inr rfl) (pe_slice sl_u (pe_lc (own := [("_law_letter", 6)]) (wi := (iU K (tC (.str "abcdef")))) (g := (gName 6)) (tt := (tTest (tOp (uNi K) (tVar 6) (tVar 1)))) (te := (tVar 6)) (by rfl) sc_l_law_others.nd (pi_u pe_str) (blkOk_by (own := [("_law_letter", 6)]) (N := ["_law_box_here", "_law_columns_here", "_law_fresh", "_law_found", "_law_at", "_law_two", "_law_letter"]) (sc := defScope s_l_law_others) (by decide +kernel)) (fun _ _ _ _ _ => (pg_name (i := 6) sc_l_law_others.nd rfl (by first | exact Or.inl rfl | exact Or.inr rfl))) (fun _ _ _ _ _ => (pts_one (pt_cmpR op_uNi (pv 6) (pv 1) (by rfl)))) (fun _ _ _ _ _ => (pv 6))) po_none (po_some pe_int)))
    (pss_cons (ps_set (i := 3) sc_l_law_others.nd rfl (by first | exact Or.inl rfl | exact Or.inr rfl) (pe_lst pa_nil))
    (pss_cons (ps_if (pt_cmpR op_gt (pe_callB call_uLen (by rfl) (He.free_ok hX hG (c.look 6)) (by decide +kernel) (pa_cons (pv 1) pa_nil)) pe_int (nomark _)) (pss_cons (ps_set (i := 4) sc_l_law_others.nd rfl (by first | exact Or.inl rfl | exact Or.inr rfl) (pe_call O_l_law_take hr_l_law_take (by rfl) (He.glo_ok hX hG (c.look 37)) K_l_law_take B_l_law_take .nil pass0 (pa_cons (pv 0) (pa_cons (pe_op op_sub (pe_callB call_uLen (by rfl) (He.free_ok hX hG (c.look 6)) (by decide +kernel) (pa_cons (pv 1) pa_nil)) pe_int) pa_nil))))
    (pss_cons (ps_set (i := 5) sc_l_law_others.nd rfl (by first | exact Or.inl rfl | exact Or.inr rfl) (pe_revL (pe_slice sl_u (pv 1) (po_some (pv 4)) (po_some (pe_op op_uAdd (pv 4) pe_int)))))
    (pss_one (ps_set (i := 3) sc_l_law_others.nd rfl (by first | exact Or.inl rfl | exact Or.inr rfl) (pe_lst (pa_cons (pe_revL (pv 1)) (pa_cons (pe_slice sl_u (pv 1) po_none (po_some (pe_un un_neg pe_int))) (pa_cons (pe_op op_uAdd (pe_op op_uAdd (pe_slice sl_u (pv 1) po_none (po_some (pv 4))) (pv 5)) (pe_slice sl_u (pv 1) (po_some (pe_op op_uAdd (pv 4) pe_int)) po_none)) pa_nil)))))))) pss_nil)
    (pss_cons (ps_if (pt_cmpR (op_uLt hu) (pe_callB call_uLen (by rfl) (He.free_ok hX hG (c.look 6)) (by decide +kernel) (pa_cons (pv 1) pa_nil)) pe_int (nomark _)) (pss_one (ps_expr (pe_bm PySem.F.plainAttrs_list PySem.F.slot_list_append PySem.F.type_list_append mt_append (pv 3) (pa_cons (pe_op op_uAdd (pv 1) (pv 2)) pa_nil)))) pss_nil)
    (pss_cons (ps_set (i := 4) sc_l_law_others.nd rfl (by first | exact Or.inl rfl | exact Or.inr rfl) (pe_call O_l_law_take hr_l_law_take (by rfl) (He.glo_ok hX hG (c.look 37)) K_l_law_take B_l_law_take .nil pass0 (pa_cons (pv 0) (pa_cons (pe_callB call_uLen (by rfl) (He.free_ok hX hG (c.look 6)) (by decide +kernel) (pa_cons (pv 1) pa_nil)) pa_nil))))
    (pss_one (ps_ret (pe_op op_uAdd (pv 3) (pe_lst (pa_cons (pe_op op_uAdd (pe_op op_uAdd (pe_slice sl_u (pv 1) po_none (po_some (pv 4))) (pv 2)) (pe_slice sl_u (pv 1) (po_some (pe_op op_uAdd (pv 4) pe_int)) po_none)) pa_nil))))))))))
theorem sc_law : FnScope ["_law_script", "_law_k", "_law_box_here", "_law_columns_here", "_law_given", "_law_order", "_law_twin", "_law_read", "_law_one", "_law_some", "_law_things", "_law_other", "_law_thing"] ["_law_script"] (defScope s_law) := ⟨rfl, rfl, rfl, by decide +kernel, rfl, by decide +kernel, by decide +kernel⟩
theorem ok_law {P : Program} {w : World} {K : PySem.W.Frag} {mg : Str → Option Value} {base h : Heap} {fd : FuncData} {fd_Shape_D_eq_D : FuncData} {fd_Order_D_eq_D : FuncData} {fd_Blocks_D_eq_D : FuncData} {fd_Blocks_D_init_D : FuncData} {fd_Shape_D_init_D : FuncData} {fd_l_law_others : FuncData} {fd_l_law_told_right : FuncData} {fd_Order_D_init_D : FuncData} {fd_parse_order : FuncData} {fd_l_law_columns : FuncData} {fd_l_law_take : FuncData} {fd_l_law_box : FuncData} {fd_l_law_cell : FuncData} (c : SaysA looks0 defs0 K) (hX : K.In h) (hG : h.Ns mainGlobals mg) (F_law : Fun_law K fd) (O_Shape_D_eq_D : FnOk P w K mg base CX0 1 (He.fAd K d_Shape_D_eq_D.at_) fd_Shape_D_eq_D ["self", "other"] (sp_Shape_D_eq_D K)) (D_Shape_D_eq_D : Fun_Shape_D_eq_D K fd_Shape_D_eq_D) (O_Order_D_eq_D : FnOk P w K mg base CX0 2 (He.fAd K d_Order_D_eq_D.at_) fd_Order_D_eq_D ["self", "other"] (sp_Order_D_eq_D K)) (D_Order_D_eq_D : Fun_Order_D_eq_D K fd_Order_D_eq_D) (O_Blocks_D_eq_D : FnOk P w K mg base CX0 2 (He.fAd K d_Blocks_D_eq_D.at_) fd_Blocks_D_eq_D ["self", "other"] (sp_Blocks_D_eq_D K)) (D_Blocks_D_eq_D : Fun_Blocks_D_eq_D K fd_Blocks_D_eq_D) (O_Blocks_D_init_D : FnOk P w K mg base CX0 3 (He.fAd K d_Blocks_D_init_D.at_) fd_Blocks_D_init_D ["self", "parts"] (sp_Blocks_D_init_D K)) (D_Blocks_D_init_D : Fun_Blocks_D_init_D K fd_Blocks_D_init_D) (O_Shape_D_init_D : FnOk P w K mg base CX0 2 (He.fAd K d_Shape_D_init_D.at_) fd_Shape_D_init_D ["self", "fixed", "span"] (sp_Shape_D_init_D K)) (D_Shape_D_init_D : Fun_Shape_D_init_D K fd_Shape_D_init_D) (O_l_law_others : FnOk P w K mg base CX0 2 (He.fAd K d_l_law_others.at_) fd_l_law_others ["_law_box_here", "_law_columns_here"] (sp_l_law_others K)) (D_l_law_others : Fun_l_law_others K fd_l_law_others) (O_l_law_told_right : SL.FnG P w K mg base CX0 4 (He.fAd K d_l_law_told_right.at_) fd_l_law_told_right ["_law_order", "_law_columns_here"] (sp_l_law_told_right K)) (D_l_law_told_right : Fun_l_law_told_right K fd_l_law_told_right) (O_Order_D_init_D : FnOk P w K mg base CX0 3 (He.fAd K d_Order_D_init_D.at_) fd_Order_D_init_D ["self", "columns"] (sp_Order_D_init_D K)) (D_Order_D_init_D : Fun_Order_D_init_D K fd_Order_D_init_D) (O_parse_order : FnOk P w K mg base CX0 5 (He.fAd K d_parse_order.at_) fd_parse_order ["text"] (sp_parse_order K)) (D_parse_order : Fun_parse_order K fd_parse_order) (O_l_law_columns : FnOk P w K mg base CX0 3 (He.fAd K d_l_law_columns.at_) fd_l_law_columns ["_law_box_here", "_law_many"] (sp_l_law_columns K)) (D_l_law_columns : Fun_l_law_columns K fd_l_law_columns) (O_l_law_take : FnOk P w K mg base CX0 1 (He.fAd K d_l_law_take.at_) fd_l_law_take ["_law_box_here", "_law_many"] (sp_l_law_take K)) (D_l_law_take : Fun_l_law_take K fd_l_law_take) (O_l_law_box : FnOk P w K mg base CX0 1 (He.fAd K d_l_law_box.at_) fd_l_law_box ["_law_cell_here"] (sp_l_law_box K)) (D_l_law_box : Fun_l_law_box K fd_l_law_box) (O_l_law_cell : FnOk P w K mg base CX0 1 (He.fAd K d_l_law_cell.at_) fd_l_law_cell ["_law_script", "_law_k"] (sp_l_law_cell K)) (D_l_law_cell : Fun_l_law_cell K fd_l_law_cell) : SL.FnG P w K mg base CX0 6 (He.fAd K d_law.at_) fd ["_law_script"] (sp_law K) := by
  have B_Shape_D_eq_D := bind_Shape_D_eq_D D_Shape_D_eq_D
  have K_Shape_D_eq_D := D_Shape_D_eq_D.kp
  have B_Order_D_eq_D := bind_Order_D_eq_D D_Order_D_eq_D
  have K_Order_D_eq_D := D_Order_D_eq_D.kp
  have B_Blocks_D_eq_D := bind_Blocks_D_eq_D D_Blocks_D_eq_D
  have K_Blocks_D_eq_D := D_Blocks_D_eq_D.kp
  have B_Blocks_D_init_D := bind_Blocks_D_init_D D_Blocks_D_init_D
  have K_Blocks_D_init_D := D_Blocks_D_init_D.kp
  have B_Shape_D_init_D := bind_Shape_D_init_D D_Shape_D_init_D
  have K_Shape_D_init_D := D_Shape_D_init_D.kp
  have B_l_law_others := bind_l_law_others D_l_law_others
  have K_l_law_others := D_l_law_others.kp
  have B_l_law_told_right := bind_l_law_told_right D_l_law_told_right
  have K_l_law_told_right := D_l_law_told_right.kp
  have B_Order_D_init_D := bind_Order_D_init_D D_Order_D_init_D
  have K_Order_D_init_D := D_Order_D_init_D.kp
  have B_parse_order := bind_parse_order D_parse_order
  have K_parse_order := D_parse_order.kp
  have B_l_law_columns := bind_l_law_columns D_l_law_columns
  have K_l_law_columns := D_l_law_columns.kp
  have B_l_law_take := bind_l_law_take D_l_law_take
  have K_l_law_take := D_l_law_take.kp
  have B_l_law_box := bind_l_law_box D_l_law_box
  have K_l_law_box := D_l_law_box.kp
  have B_l_law_cell := bind_l_law_cell D_l_law_cell
  have K_l_law_cell := D_l_law_cell.kp
  obtain ⟨us1_Shape_D_init_D, VD1_Shape_D_init_D, BD1_Shape_D_init_D⟩ := bindD1_Shape_D_init_D D_Shape_D_init_D
  have F := F_law
  refine SL.fun_g F sc_law (fun vs H Q E h => len_law h) (fun cdv A hg0 outer s H vs Q E hr h => ⟨t_law K, PSs.nox ?_, pure_law (kf_ok c) vs H Q E h⟩)
  have hg : (A.deeper (envOfC d_law.qual d_law.scope s.heap.objs.size (He.fAd K d_law.at_) cdv)).guards = some [] := SL.guards_deeper hg0
  have hu := SL.hu64 hr
  have hr_Shape_D_eq_D : Room 1 _ := hr.mono (by decide)
  have hr_Order_D_eq_D : Room 2 _ := hr.mono (by decide)
  have hr_Order_D_eq_D_1 : Room 3 _ := hr.mono (by decide)
  have hr_Blocks_D_eq_D : Room 2 _ := hr.mono (by decide)
  have hr_Blocks_D_init_D_1 : Room 4 _ := hr.mono (by decide)
  have hr_Shape_D_init_D_1 : Room 3 _ := hr.mono (by decide)
  have hr_l_law_others : Room 2 _ := hr.mono (by decide)
  have hr_l_law_told_right : Room 4 _ := hr.mono (by decide)
  have hr_Order_D_init_D_1 : Room 4 _ := hr.mono (by decide)
  have hr_parse_order : Room 5 _ := hr.mono (by decide)
  have hr_l_law_columns : Room 3 _ := hr.mono (by decide)
  have hr_l_law_take : Room 1 _ := hr.mono (by decide)
  have hr_l_law_box : Room 1 _ := hr.mono (by decide)
  have hr_l_law_cell : Room 1 _ := hr.mono (by decide)
  exact (pss_cons (ps_for PassesOwn.never rfl (pi_range1 rfl (He.free_ok hX hG (c.look 36)) (pa_cons (pe_callB (call_max2 rfl) (by rfl) (He.free_ok hX hG (c.look 35)) (by decide +kernel) (pa_cons pe_int (pa_cons (pe_callB (call_min2 rfl) (by rfl) (He.free_ok hX hG (c.look 43)) (by decide +kernel) (pa_cons (pe_callB call_uLen (by rfl) (He.free_ok hX hG (c.look 6)) (by decide +kernel) (pa_cons (pv 0) pa_nil)) (pa_cons pe_int pa_nil))) pa_nil))) pa_nil)) (pg_name (i := 1) sc_law.nd rfl (by first | exact Or.inl rfl | exact Or.inr rfl)) (pss_cons (ps_set (i := 2) sc_law.nd rfl (by first | exact Or.inl rfl | exact Or.inr rfl) (pe_call O_l_law_box hr_l_law_box (by rfl) (He.glo_ok hX hG (c.look 58)) K_l_law_box B_l_law_box .nil pass0 (pa_cons (pe_call O_l_law_cell hr_l_law_cell (by rfl) (He.glo_ok hX hG (c.look 59)) K_l_law_cell B_l_law_cell .nil pass0 (pa_cons (pv 0) (pa_cons (pv 1) pa_nil))) pa_nil)))
    (pss_cons (ps_set (i := 3) sc_law.nd rfl (by first | exact Or.inl rfl | exact Or.inr rfl) (pe_call O_l_law_columns hr_l_law_columns (by rfl) (He.glo_ok hX hG (c.look 57)) K_l_law_columns B_l_law_columns .nil pass0 (pa_cons (pv 2) (pa_cons (pe_op op_uAdd pe_int (pe_call O_l_law_take hr_l_law_take (by rfl) (He.glo_ok hX hG (c.look 37)) K_l_law_take B_l_law_take .nil pass0 (pa_cons (pv 2) (pa_cons pe_int pa_nil)))) pa_nil))))
    (pss_cons (ps_set (i := 4) sc_law.nd rfl (by first | exact Or.inl rfl | exact Or.inr rfl) (pe_callTy call_list_u (by rfl) (He.free_ok hX hG (c.look 9)) (by decide +kernel) (pa_cons (pv 3) pa_nil)))
    (pss_cons (ps_asg (pe_tup (pa_cons (pe_make (He.mkr_ok (c.look 27)) O_Order_D_init_D hr_Order_D_init_D_1 rfl (He.glo_ok hX hG (c.look 25)) B_Order_D_init_D .nil pass0 (pa_cons (pv 4) pa_nil)) (pa_cons (pe_make (He.mkr_ok (c.look 27)) O_Order_D_init_D hr_Order_D_init_D_1 rfl (He.glo_ok hX hG (c.look 25)) B_Order_D_init_D .nil pass0 (pa_cons (pe_callTy call_tuple_u (by rfl) (He.free_ok hX hG (c.look 8)) (by decide +kernel) (pa_cons (pv 3) pa_nil)) pa_nil)) pa_nil))) (pg_tup rfl (pgs_cons (pg_name (i := 5) sc_law.nd rfl (by first | exact Or.inl rfl | exact Or.inr rfl)) (pgs_cons (pg_name (i := 6) sc_law.nd rfl (by first | exact Or.inl rfl | exact Or.inr rfl)) pgs_nil))))
    (pss_cons (ps_set (i := 7) sc_law.nd rfl (by first | exact Or.inl rfl | exact Or.inr rfl) (pe_call O_parse_order hr_parse_order (by rfl) (He.glo_ok hX hG (c.look 56)) K_parse_order B_parse_order .nil pass0 (pa_cons (pe_bm PySem.F.plainAttrs_str PySem.F.slot_str_join PySem.F.type_str_join mt_uJoin pe_str (pa_cons (pv 3) pa_nil)) pa_nil)))
    (pss_cons (ps_if (pt_cmpR (op_uNe hu) (pv 4) (pv 3) (nomark _)) (pss_one (ps_ret pe_bl)) pss_nil)
    (pss_cons (ps_expr (pe_bm0 PySem.F.plainAttrs_list PySem.F.slot_list_clear PySem.F.type_list_clear mt_clear (pv 4)))
    (pss_cons (ps_for PassesOwn.never rfl (pi_u (pe_tup (pa_cons (pv 5) (pa_cons (pv 6) (pa_cons (pv 7) pa_nil))))) (pg_name (i := 8) sc_law.nd rfl (by first | exact Or.inl rfl | exact Or.inr rfl)) (pss_one (ps_if (PW.pt (pw_or (pt_not (pt_tru (pe_callB call_vIsi (by rfl) (He.free_ok hX hG (c.look 0)) (by decide +kernel) (pa_cons (pv 8) (pa_cons (pe_gc rfl (gv_ref (He.glo_ok hX hG (c.look 25)))) pa_nil))) (by intro _; rfl))) (pw_or (pt_not (pt_tru (pe_cg O_l_law_told_right hg hr_l_law_told_right (by rfl) (He.glo_ok hX hG (c.look 54)) K_l_law_told_right B_l_law_told_right .nil pass0 (pa_cons (pv 8) (pa_cons (pv 3) pa_nil))) (by intro _; rfl))) (pw_or (pt_cmpR (op_neO (ownB_ok (c.look 22)).hm (of_decide_eq_true (c.look 55)) (specB_ok (c.look 46)).1 (specB_ok (c.look 46)).2 (raw0 O_Order_D_eq_D B_Order_D_eq_D) hr_Order_D_eq_D_1 pass0) (pv 8) (pv 5) (nomark _)) (pw_or1 (pt_not (pt_cmpR (op_eqO (specB_ok (c.look 46)).1 (specB_ok (c.look 46)).2 (raw0 O_Order_D_eq_D B_Order_D_eq_D) hr_Order_D_eq_D pass0) (pv 8) (pv 6) (nomark _)))))))) (pss_one (ps_ret pe_bl)) pss_nil)))
    (pss_cons (ps_for PassesOwn.never rfl (pi_u (pe_call O_l_law_others hr_l_law_others (by rfl) (He.glo_ok hX hG (c.look 53)) K_l_law_others B_l_law_others .nil pass0 (pa_cons (pv 2) (pa_cons (pv 3) pa_nil)))) (pg_name (i := 9) sc_law.nd rfl (by first | exact Or.inl rfl | exact Or.inr rfl)) (pss_cons (ps_set (i := 11) sc_law.nd rfl (by first | exact Or.inl rfl | exact Or.inr rfl) (pe_make (He.mkr_ok (c.look 27)) O_Order_D_init_D hr_Order_D_init_D_1 rfl (He.glo_ok hX hG (c.look 25)) B_Order_D_init_D .nil pass0 (pa_cons (pv 9) pa_nil)))
    (pss_one (ps_if (PW.pt (pw_or (pt_cmpR (op_eqO (specB_ok (c.look 46)).1 (specB_ok (c.look 46)).2 (raw0 O_Order_D_eq_D B_Order_D_eq_D) hr_Order_D_eq_D pass0) (pv 5) (pv 11) (nomark _)) (pw_or (pt_not (pt_cmpR (op_neO (ownB_ok (c.look 22)).hm (of_decide_eq_true (c.look 55)) (specB_ok (c.look 46)).1 (specB_ok (c.look 46)).2 (raw0 O_Order_D_eq_D B_Order_D_eq_D) hr_Order_D_eq_D_1 pass0) (pv 5) (pv 11) (nomark _))) (pw_or1 (pt_not (pt_tru (pe_cg O_l_law_told_right hg hr_l_law_told_right (by rfl) (He.glo_ok hX hG (c.look 54)) K_l_law_told_right B_l_law_told_right .nil pass0 (pa_cons (pv 11) (pa_cons (pv 9) pa_nil))) (by intro _; rfl))))))) (pss_one (ps_ret pe_bl)) pss_nil))))
    (pss_cons (ps_set (i := 10) sc_law.nd rfl (by first | exact Or.inl rfl | exact Or.inr rfl) (pe_lst (pa_cons pe_non (pa_cons pe_int (pa_cons (pv 3) (pa_cons (pe_callTy call_tuple_u (by rfl) (He.free_ok hX hG (c.look 8)) (by decide +kernel) (pa_cons (pv 3) pa_nil)) (pa_cons (pe_bm PySem.F.plainAttrs_str PySem.F.slot_str_join PySem.F.type_str_join mt_uJoin pe_str (pa_cons (pv 3) pa_nil)) (pa_cons pe_dnewK (pa_cons (pe_make (He.mkr_ok (c.look 52)) O_Shape_D_init_D hr_Shape_D_init_D_1 rfl (He.glo_ok hX hG (c.look 18)) BD1_Shape_D_init_D VD1_Shape_D_init_D pass0 (pa_cons (pv 3) pa_nil)) (pa_cons pe_bl (pa_cons (pe_make (He.mkr_ok (c.look 51)) O_Blocks_D_init_D hr_Blocks_D_init_D_1 rfl (He.glo_ok hX hG (c.look 33)) B_Blocks_D_init_D .nil pass0 (pa_cons (pe_lst (pa_cons (pv 3) pa_nil)) pa_nil)) pa_nil)))))))))))
    (pss_one (ps_if (pt_cmpR (op_uNe hu) (pe_lc (own := [("_law_thing", 12)]) (wi := (iU K (tVar 10))) (g := (gName 12)) (tt := (tOr (tTest (tOp (rEqO K (He.ga K "Order") (sp_Order_D_eq_D K) E0) (tVar 5) (tVar 12))) (tTest (tOp (fun x y H Q => (uEq K) x y H Q ∨ (fun x y H Q => (rEqO K (He.ga K "Shape") (sp_Shape_D_eq_D K) E0) x y H Q ∨ (fun x y H Q => (rEqO K (He.ga K "Order") (sp_Order_D_eq_D K) E0) x y H Q ∨ (fun x y H Q => (rEqO K (He.ga K "Blocks") (sp_Blocks_D_eq_D K) E0) x y H Q ∨ (rRevO K (He.ga K "Order") (sp_Order_D_eq_D K) E0) x y H Q) x y H Q) x y H Q) x y H Q) (tVar 12) (tVar 5))))) (te := (tVar 12)) (by rfl) sc_law.nd (pi_u (pv 10)) (blkOk_by (own := [("_law_thing", 12)]) (N := ["_law_script", "_law_k", "_law_box_here", "_law_columns_here", "_law_given", "_law_order", "_law_twin", "_law_read", "_law_one", "_law_some", "_law_things", "_law_other", "_law_thing"]) (sc := defScope s_law) (by decide +kernel)) (fun _ _ _ _ _ => (pg_name (i := 12) sc_law.nd rfl (by first | exact Or.inl rfl | exact Or.inr rfl))) (fun _ _ _ _ _ => (pts_one (PW.pt (pw_or (pt_cmpR (op_eqO (specB_ok (c.look 46)).1 (specB_ok (c.look 46)).2 (raw0 O_Order_D_eq_D B_Order_D_eq_D) hr_Order_D_eq_D pass0) (pv 5) (pv 12) (nomark _)) (pw_or1 (pt_cmpR (OpR.or (op_uEq hu) (OpR.or (op_eqO (specB_ok (c.look 44)).1 (specB_ok (c.look 44)).2 (raw0 O_Shape_D_eq_D B_Shape_D_eq_D) hr_Shape_D_eq_D pass0) (OpR.or (op_eqO (specB_ok (c.look 46)).1 (specB_ok (c.look 46)).2 (raw0 O_Order_D_eq_D B_Order_D_eq_D) hr_Order_D_eq_D pass0) (OpR.or (op_eqO (specB_ok (c.look 48)).1 (specB_ok (c.look 48)).2 (raw0 O_Blocks_D_eq_D B_Blocks_D_eq_D) hr_Blocks_D_eq_D pass0) (op_revO (c.look 50) (specB_ok (c.look 46)).1 (specB_ok (c.look 46)).2 (raw0 O_Order_D_eq_D B_Order_D_eq_D) hr_Order_D_eq_D pass0))))) (pv 12) (pv 5) (nomark _))))))) (fun _ _ _ _ _ => (pv 12))) (pe_lst pa_nil) (nomark _)) (pss_one (ps_ret pe_bl)) pss_nil)))))))))))))
    (pss_one (ps_ret pe_bl)))
theorem facts {P : Program} {w : World} {K : PySem.W.Frag} {h : Heap} {mg : Str → Option Value} {f : Addr} (X : K.In h) (G : h.Ns mainGlobals mg) (hfa : mg ("law" : Str) = some (.ref f)) (c : CM.SaysA looks0 defs0 K) :
    ∃ fd : FuncData, (∀ (s : Shared) (v : Value), BindsTo s fd ⟨[v], []⟩ [("_law_script", v)]) ∧ ∀ base : Heap, K.In base → base.Ns mainGlobals mg → SL.FnG P w K mg base CX0 6 f fd ["_law_script"] (sp_law K) := by
  obtain ⟨fd_is_name, F_is_name⟩ := c.defn 0 (d := ⟨fun K => (He.fAd K d_is_name.at_), d_is_name⟩) rfl
  obtain ⟨fd_is_list, F_is_list⟩ := c.defn 1 (d := ⟨fun K => (He.fAd K d_is_list.at_), d_is_list⟩) rfl
  obtain ⟨fd_split_words, F_split_words⟩ := c.defn 2 (d := ⟨fun K => (He.fAd K d_split_words.at_), d_split_words⟩) rfl
  obtain ⟨fd_Shape_D_init_D, F_Shape_D_init_D⟩ := c.defn 3 (d := ⟨fun K => (He.fAd K d_Shape_D_init_D.at_), d_Shape_D_init_D⟩) rfl
  obtain ⟨fd_Shape_D_eq_D, F_Shape_D_eq_D⟩ := c.defn 4 (d := ⟨fun K => (He.fAd K d_Shape_D_eq_D.at_), d_Shape_D_eq_D⟩) rfl
  obtain ⟨fd_checked_columns, F_checked_columns⟩ := c.defn 5 (d := ⟨fun K => (He.fAd K d_checked_columns.at_), d_checked_columns⟩) rfl
  obtain ⟨fd_Order_D_init_D, F_Order_D_init_D⟩ := c.defn 6 (d := ⟨fun K => (He.fAd K d_Order_D_init_D.at_), d_Order_D_init_D⟩) rfl
  obtain ⟨fd_Order_columns, F_Order_columns⟩ := c.defn 7 (d := ⟨fun K => (He.fAd K d_Order_columns.at_), d_Order_columns⟩) rfl
  obtain ⟨fd_Order_D_len_D, F_Order_D_len_D⟩ := c.defn 8 (d := ⟨fun K => (He.fAd K d_Order_D_len_D.at_), d_Order_D_len_D⟩) rfl
  obtain ⟨fd_Order_D_eq_D, F_Order_D_eq_D⟩ := c.defn 9 (d := ⟨fun K => (He.fAd K d_Order_D_eq_D.at_), d_Order_D_eq_D⟩) rfl
  obtain ⟨fd_Order_D_str_D, F_Order_D_str_D⟩ := c.defn 10 (d := ⟨fun K => (He.fAd K d_Order_D_str_D.at_), d_Order_D_str_D⟩) rfl
  obtain ⟨fd_Order_D_repr_D, F_Order_D_repr_D⟩ := c.defn 11 (d := ⟨fun K => (He.fAd K d_Order_D_repr_D.at_), d_Order_D_repr_D⟩) rfl
  obtain ⟨fd_parse_order, F_parse_order⟩ := c.defn 12 (d := ⟨fun K => (He.fAd K d_parse_order.at_), d_parse_order⟩) rfl
  obtain ⟨fd_checked_parts, F_checked_parts⟩ := c.defn 13 (d := ⟨fun K => (He.fAd K d_checked_parts.at_), d_checked_parts⟩) rfl
  obtain ⟨fd_Blocks_D_init_D, F_Blocks_D_init_D⟩ := c.defn 14 (d := ⟨fun K => (He.fAd K d_Blocks_D_init_D.at_), d_Blocks_D_init_D⟩) rfl
  obtain ⟨fd_Blocks_parts, F_Blocks_parts⟩ := c.defn 15 (d := ⟨fun K => (He.fAd K d_Blocks_parts.at_), d_Blocks_parts⟩) rfl
  obtain ⟨fd_Blocks_D_eq_D, F_Blocks_D_eq_D⟩ := c.defn 16 (d := ⟨fun K => (He.fAd K d_Blocks_D_eq_D.at_), d_Blocks_D_eq_D⟩) rfl
  obtain ⟨fd_l_law_cell, F_l_law_cell⟩ := c.defn 17 (d := ⟨fun K => (He.fAd K d_l_law_cell.at_), d_l_law_cell⟩) rfl
  obtain ⟨fd_l_law_box, F_l_law_box⟩ := c.defn 18 (d := ⟨fun K => (He.fAd K d_l_law_box.at_), d_l_law_box⟩) rfl
  obtain ⟨fd_l_law_take, F_l_law_take⟩ := c.defn 19 (d := ⟨fun K => (He.fAd K d_l_law_take.at_), d_l_law_take⟩) rfl
  obtain ⟨fd_l_law_mixed, F_l_law_mixed⟩ := c.defn 20 (d := ⟨fun K => (He.fAd K d_l_law_mixed.at_), d_l_law_mixed⟩) rfl
  obtain ⟨fd_l_law_columns, F_l_law_columns⟩ := c.defn 21 (d := ⟨fun K => (He.fAd K d_l_law_columns.at_), d_l_law_columns⟩) rfl
  obtain ⟨fd_l_law_told_right, F_l_law_told_right⟩ := c.defn 22 (d := ⟨fun K => (He.fAd K d_l_law_told_right.at_), d_l_law_told_right⟩) rfl
  obtain ⟨fd_l_law_others, F_l_law_others⟩ := c.defn 23 (d := ⟨fun K => (He.fAd K d_l_law_others.at_), d_l_law_others⟩) rfl
  obtain ⟨fd_law, F_law⟩ := c.defn 24 (d := ⟨fun K => (He.fAd K d_law.at_), d_law⟩) rfl
  have e := hfa.symm.trans (He.glo_ok X G (c.look 60))
  cases e
  have b := FunD.bindsA (ps := ["_law_script"]) F_law fun _ _ _ _ _ _ us hl => match us, hl with | [_], _ => rfl
  refine ⟨fd_law, fun s v => b s [v] rfl, fun base X2 G2 => ?_⟩
  have O_is_name := ok_is_name (P := P) (w := w) (base := base) c X G F_is_name
  have O_is_list := ok_is_list (P := P) (w := w) (base := base) c X G F_is_list
  have O_split_words := ok_split_words (P := P) (w := w) (base := base) c X G F_split_words
  have O_Shape_D_init_D := ok_Shape_D_init_D (P := P) (w := w) (base := base) c X G F_Shape_D_init_D O_is_name F_is_name O_is_list F_is_list
  have O_Shape_D_eq_D := ok_Shape_D_eq_D (P := P) (w := w) (base := base) c X G F_Shape_D_eq_D
  have O_checked_columns := ok_checked_columns (P := P) (w := w) (base := base) c X G F_checked_columns O_is_name F_is_name O_is_list F_is_list
  have O_Order_D_init_D := ok_Order_D_init_D (P := P) (w := w) (base := base) c X G F_Order_D_init_D O_checked_columns F_checked_columns
  have O_Order_columns := ok_Order_columns (P := P) (w := w) (base := base) c X G F_Order_columns
  have O_Order_D_len_D := ok_Order_D_len_D (P := P) (w := w) (base := base) c X G F_Order_D_len_D
  have O_Order_D_eq_D := ok_Order_D_eq_D (P := P) (w := w) (base := base) c X G F_Order_D_eq_D O_Order_columns F_Order_columns
  have O_Order_D_str_D := ok_Order_D_str_D (P := P) (w := w) (base := base) c X G F_Order_D_str_D
  have O_Order_D_repr_D := ok_Order_D_repr_D (P := P) (w := w) (base := base) c X G F_Order_D_repr_D
  have O_parse_order := ok_parse_order (P := P) (w := w) (base := base) c X G F_parse_order O_Order_D_init_D F_Order_D_init_D O_is_name F_is_name O_split_words F_split_words
  have O_checked_parts := ok_checked_parts (P := P) (w := w) (base := base) c X G F_checked_parts O_is_name F_is_name O_is_list F_is_list
  have O_Blocks_D_init_D := ok_Blocks_D_init_D (P := P) (w := w) (base := base) c X G F_Blocks_D_init_D O_checked_parts F_checked_parts
  have O_Blocks_parts := ok_Blocks_parts (P := P) (w := w) (base := base) c X G F_Blocks_parts
  have O_Blocks_D_eq_D := ok_Blocks_D_eq_D (P := P) (w := w) (base := base) c X G F_Blocks_D_eq_D O_Blocks_parts F_Blocks_parts
  have O_l_law_cell := ok_l_law_cell (P := P) (w := w) (base := base) c X G F_l_law_cell
  have O_l_law_box := ok_l_law_box (P := P) (w := w) (base := base) c X G F_l_law_box
  have O_l_law_take := ok_l_law_take (P := P) (w := w) (base := base) c X G F_l_law_take
  have O_l_law_mixed := ok_l_law_mixed (P := P) (w := w) (base := base) c X G F_l_law_mixed O_l_law_take F_l_law_take
  have O_l_law_columns := ok_l_law_columns (P := P) (w := w) (base := base) c X G F_l_law_columns O_l_law_mixed F_l_law_mixed O_l_law_take F_l_law_take
  have O_l_law_told_right := ok_l_law_told_right (P := P) (w := w) (base := base) c X G F_l_law_told_right O_Order_D_repr_D F_Order_D_repr_D O_Order_D_str_D F_Order_D_str_D O_Order_D_len_D F_Order_D_len_D O_Order_columns F_Order_columns
  have O_l_law_others := ok_l_law_others (P := P) (w := w) (base := base) c X G F_l_law_others O_l_law_take F_l_law_take
  have O_law := ok_law (P := P) (w := w) (base := base) c X G F_law O_Shape_D_eq_D F_Shape_D_eq_D O_Order_D_eq_D F_Order_D_eq_D O_Blocks_D_eq_D F_Blocks_D_eq_D O_Blocks_D_init_D F_Blocks_D_init_D O_Shape_D_init_D F_Shape_D_init_D O_l_law_others F_l_law_others O_l_law_told_right F_l_law_told_right O_Order_D_init_D F_Order_D_init_D O_parse_order F_parse_order O_l_law_columns F_l_law_columns O_l_law_take F_l_law_take O_l_law_box F_l_law_box O_l_law_cell F_l_law_cell
  exact O_law
end K10
open PySem PySem.W PySem.Calls PyProof.Rows
theorem PySem.Challenge.cw_searchorders_k10_orders_told_holds : PySem.Challenge.rw_searchorders_k10_orders_told.Holds := by
  w_on; o_law
  refine HandSHeadRun.head_any (r := OpenLaw.row PySem.Challenge.rw_searchorders_k10_orders_told) (q := view (OpenLaw.row PySem.Challenge.rw_searchorders_k10_orders_told).prog [34]) (H := K10.hk0) (ob := K10.ob0) (M := 12000) (loose := K10.loose0) (d := HandSHeadRun.topDef (OpenLaw.row PySem.Challenge.rw_searchorders_k10_orders_told).prog 34) (kwd := []) K10.ob_eq0
    (by kernel_rfl) (fun s => by kernel_rfl) K10.run0 (by kernel_rfl) (by kernel_rfl) (by kernel_rfl) (by rfl) (by first | assumption | decide +kernel) (by decide +kernel) ⟨rfl, rfl, rfl, rfl, rfl, by decide +kernel⟩ ?hw ?hc
  case hw => w_witness2
  case hc =>
    refine SL.walk_g (l := PySem.Challenge.rw_searchorders_k10_orders_told) (n := 63) (k := 6) (x := "_law_script") (CX := L2.CX0) rfl (by decide) (by kernel_rfl) ⟨rfl, by decide, by decide⟩ ?F (fun _ _ _ _ z => z)
    intro w mg fa h Y G hmg0
    obtain ⟨K, KX, c⟩ := Y
    have hmg : mg ("law" : PySem.Str) = some (.ref fa) := by
      have e : (HandSHeadRun.topDef (OpenLaw.row PySem.Challenge.rw_searchorders_k10_orders_told).prog 34).name = ("law" : PySem.Str) := by kernel_rfl
      rw [← e]
      exact hmg0
    obtain ⟨fd, hb, hF⟩ := K10.facts (P := (PySem.Challenge.rw_searchorders_k10_orders_told).prog) (w := w) KX G hmg c
    exact ⟨K, fd, K10.sp_law K, KX, hb, fun H a ns hl _ hS => ((K10.law_ok ns hl).elim fun _ h => CM.law_sp h hS), hF⟩
