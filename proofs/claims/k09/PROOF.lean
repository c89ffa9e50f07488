import PyProof.Rows.All
import Wide.All
import OpenK.AllK
import Wide.FinOn
import HandS.ForMost
import HandS.Exc
import HandS.TryOnly
import HandS.ExcOwn
import HandS.WordsExc
import HandS.Flow
import HandS.Defaults
import HandS.IsInst
import HandS.Wide
import HandS.TupAny
import HandS.TupMul
import HandS.Head0
import HandS.Head1
import HandS.Head2
import HandS.HeadEnd
import HandS.HeadHook1
import HandS.HeadHook2
import PyProof.ReprRoads
import HandS.Sort
import HandS.More
import HandS.RaiseMore
import HandS.Conv
import HandS.Style
import PyProof.IsiBase
import PyProof.FactsAll.set
import PyProof.IsiH_set
import KE.KExcIs
import HandS.ExcInit
import HandS.Walk
import HandS.StrMore
import HandS.MakeKwOnly
import HandS.Codes
import OpenK.KOps
import KE.KCallOwn
import HandS.OwnEq
import HandS.SlotsOwn
import PyProof.InstNe
import PyProof.EqKinds
import PyProof.NeKinds
import KE.GoesEnum
import PyProof.TupleOfSeq
import HandS.ExcValue
import HandS.ExcField
import HandS.Property
import HandS.FStr
import HandS.Deep
import HandS.Dict
import PyProof.FString4
import HandS.Small
import KE.KExcInit
import HandS.Spec
import HandS.SetBool
import HandS.SetKeys
import HandS.Strs
import HandS.TryMany
import HandS.DeepEq
import HandS.ClsMeth
import HandS.SetFor
import HandS.SetTxt0
import HandS.DictComp
import PyProof.Rows.SortShellAny
import PySem.Challenge.RW_searchorders_k09_texts_of_shapes
set_option Elab.async false
set_option linter.all false
set_option maxRecDepth 100000
set_option maxHeartbeats 0
namespace SL
open PySem PySem.Spec PyProof.Rows L2
/-- as the layer's promise, where no guard stands around the call -/
structure FnG (P : Program) (w : World) (K : PySem.W.Frag) (mg : Str → Option Value) (base : Heap) (CX : CXT) (k : Nat) (f : Addr) (fd : FuncData) (ps : List Str) (sp : Sp) : Prop where
  len : ∀ vs H Q E, sp vs H Q E → vs.length = ps.length
  go : ∀ (A : Around), A.guards = some [] → ∀ (outer : List Env) (s : Shared) (H : Hp) (args : Args) (us : List Value) (vs : List V) (Q : VK) (E : XK), Room k A →
    Env0 P w K mg base A outer s H → BindsTo s fd args (ps.zip us) → Vals vs us → sp vs H Q E → codeAny (model P w) A (.call (.ref f) args) (CR CX outer P w H s Q E) s
section
variable {P : Program} {w : World} {K : PySem.W.Frag} {mg : Str → Option Value} {base : Heap} {CX : CXT} {j k : Nat} {f : Addr} {fd : FuncData} {ps : List Str} {sp sp' : Sp}
theorem FnG.of (F : FnOk P w K mg base CX k f fd ps sp) : FnG P w K mg base CX k f fd ps sp :=
  ⟨F.len, fun A _ outer s H args us vs Q E hr => F.run A outer s H args us vs Q E hr⟩
theorem FnG.mono (F : FnG P w K mg base CX j f fd ps sp) (h : j ≤ k) : FnG P w K mg base CX k f fd ps sp :=
  ⟨F.len, fun A g outer s H args us vs Q E hr => F.go A g outer s H args us vs Q E (hr.mono h)⟩
/-- a def by its body; the body may use that no guard stands around -/
theorem fn_g {name qual : Str} {params : Arguments} {body : List Stmt} {scope : Scope} {dV kV doc pm cdv ct oc : Value} {an od : Option Addr} {osl : Array (Option Value)} {N : List Str}
    (lk : K.lookup f = some ⟨oc, od, .func (PySem.W.fnOf name qual params body scope dV kV doc pm an cdv ct), osl⟩) (hcd : PySem.W.codeIn K cdv qual = true) (S : FnScope N ps scope)
    (len : ∀ vs H Q E, sp vs H Q E → vs.length = ps.length)
    (hb : ∀ (A : Around), A.guards = some [] → ∀ (outer : List Env) (s : Shared) (H : Hp) (vs : List V) (Q : VK) (E : XK), Room k (A.deeper (envOfC qual scope s.heap.objs.size f cdv)) → sp vs H Q E →
      ∃ t, PSs (cxOf CX P w K mg base N qual scope f cdv A outer s H E) body t ∧ t { nx := fun _ H' => Q .non H', rt := Q } (start N vs) H) :
    FnG P w K mg base CX (k + 1) f (PySem.W.fnOf name qual params body scope dV kV doc pm an cdv ct) ps sp := by
  constructor
  · exact len
  · intro A hg outer s H args us vs Q E room e0 bnd rv hs
    have lenv : vs.length = ps.length := len vs H Q E hs
    have inK : K.In s.heap := e0.mod.kin.keeps (fun b o e => (e0.bs b o e).1)
    have noL : s.heap.NoLimit := e0.mod.nolimit.keeps (fun b o e => (e0.bs b o e).1)
    have hk : ∀ y ∈ ps.zip us, scope.names.lookup y.1 = some .local ∨ (scope.names.lookup y.1 = some .cell ∧ ((cellsFrom (s.heap.objs.size + 1) scope.names []).lookup y.1).isSome = true) := by
      rintro ⟨n, v⟩ hy
      cases S.par n (List.of_mem_zip hy).1 with
      | inl z => exact Or.inl z
      | inr z => exact Or.inr ⟨z, PySem.W.cellsFrom_some _ _ _ (Or.inl z)⟩
    refine codeAny_call_function room.depth (inK _ _ lk) rfl S.co S.gen rfl (PySem.W.codeRec_of inK hcd) (bnd _ _ _ _ ?_)
    refine wpAny_newFunctionEnv_cells S.kind hk (fun env henv s1 inc => ?_)
    subst henv
    refine ⟨noL.keeps inc.toInCall.keep, codeAny_func ?_⟩
    rcases hb A hg outer s H vs Q E (room.deeper _) hs with ⟨t, pss, rd⟩
    have iv : Inv (cxOf CX P w K mg base N qual scope f cdv A outer s H E) [] (start N vs) H s1 := inv_start S room.hd e0 lenv rv inc
    refine wpAny_mono (pss.run [] s1 (start N vs) H _ iv rd) ?_ (fun _ _ z => z)
    have done : ∀ {σ' : L2.St} {H' : Hp} {v : V} {u : Value} {s' : Shared}, Inv (cxOf CX P w K mg base N qual scope f cdv A outer s H E) [] σ' H' s' → RelV v u → Q v H' → CE outer P w H s Q u s' := by
      intro σ' H' v u s' J r q
      exact ⟨v, H', J.os, J.bare, J.base, J.hok, r, q⟩
    intro fl s' z
    match fl, z with
    | .ret u, ⟨v, σ', H', J, r, q⟩ => exact done J r q
    | .next, ⟨σ', H', J, q⟩ => exact done (v := V.non) (u := Value.none) J rfl q
    | .brk, ⟨_, _, _, q⟩ => exact q.elim
    | .cont, ⟨_, _, _, q⟩ => exact q.elim
/-- the same of a def of the text, told by the head -/
theorem fun_g {x qual : Str} {params : Arguments} {body : List Stmt} {scope : Scope} {dvs : List V} {kws : List (Str × V)} {N : List Str} (F : FunD K x qual params body scope dvs kws f fd) (S : FnScope N ps scope)
    (len : ∀ vs H Q E, sp vs H Q E → vs.length = ps.length)
    (hb : ∀ (cdv : Value) (A : Around), A.guards = some [] → ∀ (outer : List Env) (s : Shared) (H : Hp) (vs : List V) (Q : VK) (E : XK), Room k (A.deeper (envOfC qual scope s.heap.objs.size f cdv)) → sp vs H Q E →
      ∃ t, PSs (cxOf CX P w K mg base N qual scope f cdv A outer s H E) body t ∧ t { nx := fun _ H' => Q .non H', rt := Q } (start N vs) H) : FnG P w K mg base CX (k + 1) f fd ps sp := by
  obtain ⟨oc, od, dV, kV, doc, pm, an, cdv, ct, osl, rfl, lk, hcd, _, _⟩ := F.ex
  exact fn_g lk hcd S len fun A hg outer s H vs Q E hr hs => hb cdv A hg outer s H vs Q E hr hs
end
/-- the abstract heap at the law's entry: the script alone, locked as its object, unless it is the text's own -/
def entryH (a : Addr) (o : Obj) (xs : List V) : Hp := fun b => if b = a then some (.frz o (.lst xs)) else none
theorem entryH_ne {a b : Addr} {o : Obj} {xs : List V} (h : b ≠ a) : entryH a o xs b = none := if_neg h
theorem entryH_at {a : Addr} {o : Obj} {xs : List V} : entryH a o xs a = some (.frz o (.lst xs)) := if_pos rfl
section
variable {P : Program} {w : World} {K : PySem.W.Frag} {mg mb : Str → Option Value} {CX : CXT} {k : Nat} {fa a : Addr} {fd : FuncData} {x : Str} {sp : Sp} {s₁ : Shared} {vs : List Value} {ns : List Int}
/-- the law's call, once an abstract heap is chosen that tracks at most the script -/
theorem call_from (KX : K.In s₁.heap) (hns : s₁.heap.Ns mainGlobals mg) (hb : s₁.heap.Ns builtinsNs mb) (hbb : ∀ x : Str, x ≠ "__name__" → mb x = bootBuiltins x) (hlim : s₁.heap.NoLimit) (hg : s₁.gens = #[])
    (ha : s₁.heap.get? a = some { cls := .type "list", data := .seq vs.toArray }) (hr : Room k callerA)
    (F : ∀ base : Heap, K.In base → base.Ns mainGlobals mg → FnG P w K mg base CX k fa fd [x] sp) (hbind : ∀ (s : Shared) (u : Value), BindsTo s fd ⟨[u], []⟩ [(x, u)])
    (hCX : ∀ H e s', CX [] H s₁ (fun _ _ _ => False) e s' → False) (H : Hp) (only : ∀ b, H b = none ∨ (b = a ∧ ∃ o xs, H b = some (.frz o (.lst xs)))) (hK : H a ≠ none → K.lookup a = none) (ok : HOk P w H s₁.heap)
    (hsp : sp [.ref a] H (fun v _ => v = .bl true) fun _ _ _ => False) :
    codeAny (model P w) callerA (.call (.ref fa) ⟨[.ref a], []⟩) (fun r s' => r = .ok (.ret (.bool true)) ∧ OldK s₁.heap s'.heap ∧ s'.os = s₁.os ∧ AllBare s'.gens) s₁ := by
  have dictFree : ∀ {b : Addr} {o : Obj} {es : Array DictEntry} {ep : Nat}, s₁.heap.get? b = some o → o.data = .dict es ep → H b = none := by
    intro b o es ep hb hd
    rcases only b with z | ⟨rfl, _⟩
    · exact z
    · rw [ha] at hb
      cases hb
      cases hd
  have inB : ∀ {b : Addr} {o : Obj}, s₁.heap.get? b = some o → H b = none → (hidT s₁.heap H).get? b = some o := fun e n => hidT_get e n
  have nsB : ∀ {b : Addr} {m : Str → Option Value}, s₁.heap.Ns b m → (hidT s₁.heap H).Ns b m := by
    rintro b m ⟨o, es, ep, e, d, r⟩
    exact ⟨o, es, ep, inB e (dictFree e d), d, r⟩
  have kB : K.In (hidT s₁.heap H) := by
    intro b o e
    refine inB (KX b o e) ?_
    rcases only b with z | ⟨rfl, o', xs, z⟩
    · exact z
    · have q := hK (by rw [z]; exact fun y => by cases y)
      rw [q] at e
      cases e
  obtain ⟨mc, m1, m2⟩ := hlim
  have md : Mod K mg (hidT s₁.heap H) := ⟨kB, nsB hns, ⟨mb, nsB hb, hbb⟩, mc, nsB m1, m2⟩
  have ev : Env0 P w K mg (hidT s₁.heap H) callerA [] s₁ H := ⟨rfl, md, fun b o e => of_hidT e, Nat.le_of_eq (hidT_size _ _), trivial, fun b z => (List.not_mem_nil z).elim, ok, .of_eq hg⟩
  refine codeAny_mono ((F _ kB (nsB hns)).go callerA rfl [] s₁ H ⟨[.ref a], []⟩ [.ref a] [.ref a] _ _ hr ev (hbind s₁ (.ref a)) (.cons rfl .nil) hsp) ?_
  intro r s' z
  match r, z with
  | .error e, z => exact (hCX H e s' z).elim
  | .ok .next, z => exact z.elim
  | .ok .brk, z => exact z.elim
  | .ok .cont, z => exact z.elim
  | .ok (.ret u), z =>
    obtain ⟨v, H', hos, hbare, un, ok', rv, rfl⟩ := z
    cases (show u = Value.bool true from rv)
    refine ⟨rfl, OldK.of_keep (fun b o e => ?_), hos, hbare⟩
    rcases only b with q | ⟨rfl, ob, xs, q⟩
    · exact un.keep b o e q (fun y => (List.not_mem_nil y).elim) (fun y => (List.not_mem_nil y).elim)
    · have e1 := (ok b _ q).1
      have e2 := (ok' b _ (un.frzs b ob _ q)).1
      rw [e] at e1
      cases e1
      exact e2
theorem law_g (KX : K.In s₁.heap) (hns : s₁.heap.Ns mainGlobals mg) (hb : s₁.heap.Ns builtinsNs mb) (hbb : ∀ x : Str, x ≠ "__name__" → mb x = bootBuiltins x) (hlim : s₁.heap.NoLimit) (hg : s₁.gens = #[])
    (ha : s₁.heap.get? a = some { cls := .type "list", data := .seq vs.toArray }) (hi : IntsAre vs ns) (hl : ns.length ≤ sizeLine) (hr : Room k callerA)
    (F : ∀ base : Heap, K.In base → base.Ns mainGlobals mg → FnG P w K mg base CX k fa fd [x] sp) (hbind : ∀ (s : Shared) (u : Value), BindsTo s fd ⟨[u], []⟩ [(x, u)])
    (hCX : ∀ H e s', CX [] H s₁ (fun _ _ _ => False) e s' → False)
    (hsp : ∀ H : Hp, Only H → SqL K H a (ns.map V.int) → sp [.ref a] H (fun v _ => v = .bl true) fun _ _ _ => False) :
    codeAny (model P w) callerA (.call (.ref fa) ⟨[.ref a], []⟩) (fun r s' => r = .ok (.ret (.bool true)) ∧ OldK s₁.heap s'.heap ∧ s'.os = s₁.os ∧ AllBare s'.gens) s₁ := by
  have rv := vals_ints hi
  cases hk : K.lookup a with
  | some o =>
    have e : s₁.heap.get? a = some o := KX a o hk
    rw [ha] at e
    cases e
    refine call_from KX hns hb hbb hlim hg ha hr F hbind hCX (fun _ => none) (fun _ => Or.inl rfl) (fun z => absurd rfl z) (fun b u z => by cases (show (none : Option HO) = some u from z)) (hsp _ (fun _ => Or.inl rfl) ?_)
    exact Or.inr ⟨_, vs.toArray, _, hk, rfl, rfl, rfl, (by rw [List.size_toArray, hi.length]; exact hl), (by simpa using rv)⟩
  | none =>
    have only : ∀ b, entryH a { cls := .type "list", data := .seq vs.toArray } (ns.map V.int) b = none ∨ (b = a ∧ ∃ o xs, entryH a { cls := .type "list", data := .seq vs.toArray } (ns.map V.int) b = some (.frz o (.lst xs))) := by
      intro b
      by_cases e : b = a
      · subst e
        exact Or.inr ⟨rfl, _, _, entryH_at⟩
      · exact Or.inl (entryH_ne e)
    refine call_from KX hns hb hbb hlim hg ha hr F hbind hCX _ only (fun _ => hk) ?_ (hsp _ (fun b => (only b).imp id fun z => z.2) (Or.inl (Or.inr ⟨_, entryH_at⟩)))
    intro b u z
    rcases only b with q | ⟨rfl, _⟩
    · rw [q] at z
      cases z
    · rw [entryH_at] at z
      cases z
      exact ⟨ha, (by rw [List.length_map]; exact hl), vs, _, rv, ha⟩
end
/-- the goal that the head leaves, from the law's promise -/
theorem walk_g {l : PySem.W.OpenLaw} {n k : Nat} {q : Program} {loose : List Str} {XP : (Str → Option Value) → Heap → Prop} {YP : World → Heap → Prop} {d : DefRec} {CX : CXT} {x : Str}
    (hn : l.most = some n) (hn2 : n ≤ sizeLine) (hdf : d.params.defaults = []) (hr : Room k callerA)
    (F : ∀ (w : World) (mg : Str → Option Value) (fa : Addr) (h : Heap), YP w h → h.Ns mainGlobals mg → mg d.name = some (.ref fa) →
      ∃ (K : PySem.W.Frag) (fd : FuncData) (sp : Sp), K.In h ∧ (∀ (s : Shared) (u : Value), BindsTo s fd ⟨[u], []⟩ [(x, u)]) ∧
        (∀ (H : Hp) (a : Addr) (ns : List Int), ns.length ≤ n → Only H → SqL K H a (ns.map V.int) → sp [.ref a] H (fun v _ => v = .bl true) fun _ _ _ => False) ∧
        ∀ base : Heap, K.In base → base.Ns mainGlobals mg → FnG l.prog w K mg base CX k fa fd [x] sp)
    (hCX : ∀ (H : Hp) (s : Shared) (e : Value) (s' : Shared), CX [] H s (fun _ _ _ => False) e s' → False) :
    PySem.W.WalkO q loose XP YP l.row.toRowW d [] (fun f vs => PySem.call f vs) := by
  refine Att.attach_call hn hdf ?_
  intro w s₀ s₁ mg mb fa o pm cd doc a vs ns G Y ho hd hcd hmg hobj hints hlen hg
  obtain ⟨K, fd, sp, KX, hb, hs, hF⟩ := F w mg fa _ Y G.T.g hmg
  exact law_g KX G.T.g G.T.b G.T.builtins G.T.nolimit hg hobj hints (Nat.le_trans hlen hn2) hr hF hb (fun H e s' => hCX H s₁ e s') (fun H hO hS => hs H a ns hlen hO hS)
end SL
namespace SL
open PySem PySem.Spec PyProof.Rows L2
abbrev Looks := List (PySem.W.Frag → Bool)
abbrev AlM : Type := Bool × List He.FnW
def obsM (ok : Looks) (fn : List He.DefD) (K : PySem.W.Frag) : AlM := ((ok.all fun f => f K) && fn.all fun d => d.ok K, fn.map fun d => He.fnW K d.at_)
def valM (fn : List He.DefD) : AlM := (true, fn.map He.DefD.val)
/-- what the end leans on -/
def Says (ok : Looks) (fn : List He.DefD) (K : PySem.W.Frag) : Prop := obsM ok fn K = valM fn
section
variable {ok : Looks} {fn : List He.DefD} {K : PySem.W.Frag}
theorem Says.look (c : Says ok fn K) (i : Nat) {f : PySem.W.Frag → Bool} (h : ok[i]? = some f := by rfl) : f K = true := by
  have c1 : ((ok.all fun f => f K) && fn.all fun d => d.ok K) = true := congrArg Prod.fst c
  exact List.all_eq_true.mp (Bool.and_eq_true_iff.mp c1).1 f (List.mem_of_getElem? h)
theorem Says.defn (c : Says ok fn K) (i : Nat) {d : He.DefD} (h : fn[i]? = some d := by rfl) : ∃ fd, FunD K d.name d.qual d.params d.body d.scope (d.dvs K) (d.kws K) (He.fAd K d.at_) fd := by
  have c1 : ((ok.all fun f => f K) && fn.all fun d => d.ok K) = true := congrArg Prod.fst c
  have c2 : fn.map (fun d => He.fnW K d.at_) = fn.map He.DefD.val := congrArg Prod.snd c
  have c3 : (fn.map fun d => He.fnW K d.at_)[i]? = (fn.map He.DefD.val)[i]? := congrArg (fun l => l[i]?) c2
  rw [List.getElem?_map, List.getElem?_map, h] at c3
  exact He.DefD.funD (Option.some.inj c3) (List.all_eq_true.mp (Bool.and_eq_true_iff.mp c1).2 d (List.mem_of_getElem? h))
end
end SL
namespace SL
open PySem PySem.Spec PyProof.Rows L2
theorem hu64 {k : Nat} {A : Around} {env : Env} (hr : Room k (A.deeper env)) : (A.deeper env).units + 130 < cLine := by
  have := hr.un
  omega
theorem guards_deeper {A : Around} {env : Env} (h : A.guards = some []) : (A.deeper env).guards = some [] := by
  first
    | exact h
    | simp [Around.deeper, h]
section
variable {mg : Str → Option Value} {x : Str}
theorem gv_int {i : Int} (h : ∃ t, mg x = some (.int i t)) : ∃ u, mg x = some u ∧ RelV (.int i) u := by
  obtain ⟨t, e⟩ := h
  exact ⟨_, e, t, rfl⟩
theorem gv_str {z : Str} (h : ∃ t, mg x = some (.str z t)) : ∃ u, mg x = some u ∧ RelV (.str z) u := by
  obtain ⟨t, e⟩ := h
  exact ⟨_, e, t, rfl⟩
theorem gv_ref {a : Addr} (h : mg x = some (.ref a)) : ∃ u, mg x = some u ∧ RelV (.ref a) u := ⟨_, h, rfl⟩
end
abbrev rSub : R2 := rI0 fun i j => .int (i - j)
abbrev rMod : R2 := rI (fun _ j => j ≠ 0) fun i j => .int (i.fmod j)
abbrev rDiv : R2 := rI CDivW fun i j => .int (i / j)
abbrev rPow : R2 := rI CPow fun i j => .int (i ^ j.toNat)
def rAddI : R2 := rI0 fun i j => .int (i + j)
def rAddS : R2 := fun x y H Q => ∃ i j, x = .str i ∧ y = .str j ∧ i.length + j.length ≤ sizeLine ∧ Q (.str (i ++ j)) H
def uAdd (K : PySem.W.Frag) : R2 := fun x y H Q => rAddI x y H Q ∨ rAddS x y H Q ∨ rCat x y H Q ∨ rCatA K x y H Q
def rMulW : R2 := rI CMulW fun i j => .int (i * j)
def uMul (K : PySem.W.Frag) : R2 := fun x y H Q => rMulW x y H Q ∨ rRep x y H Q ∨ rRepT K x y H Q
section
variable {X : Cx}
theorem op_uAdd : OpR X (binaryOp .Add) (uAdd X.K) := op_add.or (op_add_str.or (op_cat.or op_catA))
theorem op_uMul : OpR X (binaryOp .Mult) (uMul X.K) := op_mulW.or (op_rep.or op_repT)
end
def uEq (K : PySem.W.Frag) : R2 := fun x y H Q => rEq x y H Q ∨ rEqD K x y H Q
def uNe (K : PySem.W.Frag) : R2 := fun x y H Q => rNe x y H Q ∨ rNeD K x y H Q
def rLtI : R2 := rI0 fun i j => .bl (decide (i < j))
def rLtS : R2 := fun x y H Q => ∃ i j, x = .str i ∧ y = .str j ∧ Q (.bl (decide (i.cps.toList < j.cps.toList))) H
def uLt (K : PySem.W.Frag) : R2 := fun x y H Q => rLtI x y H Q ∨ rLtS x y H Q ∨ rLtT K x y H Q
def uLe : R2 := rI0 fun i j => .bl (decide (i ≤ j))
abbrev rGt : R2 := rI0 fun i j => .bl (decide (j < i))
def rInS : R2 := fun x y H Q => ∃ (c : Nat) (z : Str), x = .str ⟨#[c]⟩ ∧ y = .str z ∧ Q (.bl (decide (c ∈ z.cps.toList))) H
def rNiS : R2 := fun x y H Q => ∃ (c : Nat) (z : Str), x = .str ⟨#[c]⟩ ∧ y = .str z ∧ Q (.bl (!decide (c ∈ z.cps.toList))) H
def rInR : R2 := fun x y H Q => ∃ i a lo hi, x = V.int i ∧ y = V.ref a ∧ H a = some (.rng lo hi) ∧ Q (.bl (decide (lo ≤ i ∧ i < hi))) H
def uIn (K : PySem.W.Frag) : R2 := fun x y H Q => rInS x y H Q ∨ rIn K false x y H Q ∨ rInR x y H Q
def uNi (K : PySem.W.Frag) : R2 := fun x y H Q => rNiS x y H Q ∨ rIn K true x y H Q
def uIs : R2 := fun x y H Q => y = .non ∧ Q (.bl (decide (x = .non))) H
def uIsnt : R2 := fun x y H Q => y = .non ∧ Q (.bl (!decide (x = .non))) H
section
variable {X : Cx}
theorem op_uEq (hu : X.A.units + 130 < cLine) : OpR X (compareOp .Eq) (uEq X.K) := op_eq.or (op_eqD (by omega))
theorem op_uNe (hu : X.A.units + 130 < cLine) : OpR X (compareOp .NotEq) (uNe X.K) := op_ne.or (op_neD (by omega))
theorem op_uLt (hu : X.A.units + 130 < cLine) : OpR X (compareOp .Lt) (uLt X.K) := op_lt.or (op_lt_str.or (op_ltT (by omega)))
theorem op_uLe : OpR X (compareOp .LtE) uLe := op_le
theorem op_uIn : OpR X (compareOp .In) (uIn X.K) := op_in_sign.or (op_in_seq.or op_in_rng)
theorem op_uNi : OpR X (compareOp .NotIn) (uNi X.K) := op_notIn_sign.or op_notIn_seq
theorem op_uIs : OpR X (compareOp .Is) uIs := op_isN
theorem op_uIn0 : OpR X (compareOp .IsNot) uIsnt := op_notN
end
def uIx (K : PySem.W.Frag) : R2 := rIx K
theorem ix_u {X : Cx} : IxR X (uIx X.K) := ix_seq
def uSl (K : PySem.W.Frag) : V → Option Int → Option Int → Hp → VK → Prop := fun x lo hi H Q => rSlS x lo hi H Q ∨ rSlL K x lo hi H Q ∨ rSlA K x lo hi H Q
theorem sl_u {X : Cx} : SlR X (uSl X.K) := sl_str.or (sl_list.or sl_tupA)
/-- what is walked -/
theorem PI.or {X : Cx} {tg it : Expr} {w1 w2 : TI} (h1 : PI X tg it w1) (h2 : PI X tg it w2) : PI X tg it (fun σ H R => w1 σ H R ∨ w2 σ H R) :=
  ⟨fun pins s σ H R I h => h.elim (h1.run pins s σ H R I) (h2.run pins s σ H R I)⟩
def iU (K : PySem.W.Frag) (t : TE) : TI := fun σ H R => iList K t σ H R ∨ (iTup K t σ H R ∨ iStr t σ H R)
theorem pi_u {X : Cx} {tg e : Expr} {t : TE} (h : PE X e t) : PI X tg e (iU X.K t) := PI.or (pi_list h) (PI.or (pi_tup h) (pi_str h))
/-- a test by the value's truth -/
def tTruK (K : PySem.W.Frag) (t : TE) : TT := fun σ H Q => t σ H fun x H' => ∃ k, TruV K x H' k ∧ Q k H'
theorem pt_tru {X : Cx} {a : Expr} {t : TE} (h : PE X a t) (he : ∀ whole, isTrue a X.env whole = (do let v ← whole; standAt a.pos; holding [v] (truthy v))) : PT X a (tTruK X.K t) := pt_truth h he
def uLen (K : PySem.W.Frag) : List V → Hp → VK → Prop := fun xs H Q => (∃ p ys, xs = [.ref p] ∧ (SqL K H p ys ∨ SqT K H p ys) ∧ Q (.int ys.length) H) ∨ (∃ x n, xs = [x] ∧ LenV K x H n ∧ Q (.int n) H)
theorem call_uLen {X : Cx} : CallR X (.builtin "len") (uLen X.K) := call_len_seq.or call_len
def rMax2 : List V → Hp → VK → Prop := fun xs H Q => ∃ i j, xs = [.int i, .int j] ∧ Q (.int (if j > i then j else i)) H
def rMin2 : List V → Hp → VK → Prop := fun xs H Q => ∃ i j, xs = [.int i, .int j] ∧ Q (.int (if j < i then j else i)) H
abbrev rAllL := L2.rAll
abbrev rAnyL := L2.rAny
def uList (K : PySem.W.Frag) : List V → Hp → VK → Prop := fun xs H Q => ∃ p ys, xs = [.ref p] ∧ (SqL K H p ys ∨ SqT K H p ys) ∧ ∀ l, H l = none → Q (.ref l) (upd H l (.lst ys))
theorem call_list_u {X : Cx} : CallR X (.type "list") (uList X.K) := call_list_of
def uTuple (K : PySem.W.Frag) : List V → Hp → VK → Prop := fun xs H Q => ∃ p ys, xs = [.ref p] ∧ ((SqL K H p ys ∧ ∀ l, H l = none → Q (.ref l) (upd H l (.tup ys))) ∨ (SqT K H p ys ∧ Q (.ref p) H))
theorem call_tuple_u {X : Cx} : CallR X (.type "tuple") (uTuple X.K) := call_tuple_of
def rJoin (K : PySem.W.Frag) : V → List V → Hp → VK → Prop := fun x xs H Q => ∃ a p, ∃ ys : List Str, x = .str a ∧ xs = [.ref p] ∧ (SqL K H p (ys.map V.str) ∨ SqT K H p (ys.map V.str)) ∧ (ys.map (·.length)).sum + ys.length * a.length ≤ 16777216 ∧ Q (.str (Txt.join a ys)) H
theorem mt_uJoin {X : Cx} : MtR X "str.join" (rJoin X.K) := mt_join
inductive Pm where
  | pos (i : Nat)
  | key (i : Nat)
def Pm.u (us ws : List Value) : Pm → Value
  | .pos i => us.getD i .none
  | .key i => ws.getD i .none
end SL
namespace SL
open PySem PySem.Spec PyProof.Rows L2
def Ex (M : List Addr) (H H' : Hp) : Prop := ∀ a o, a ∉ M → H a = some o → H' a = some o
section
variable {M M' : List Addr} {K : PySem.W.Frag} {H H' H1 H2 : Hp} {p q b : Addr} {o : HO} {xs : List V}
theorem Ex.refl : Ex M H H := fun _ _ _ h => h
theorem Ex.trans (a : Ex M H H1) (c : Ex M H1 H2) : Ex M H H2 := fun x o m h => c x o m (a x o m h)
theorem Ex.mono (h : ∀ x ∈ M, x ∈ M') (e : Ex M H H') : Ex M' H H' := fun x o m z => e x o (fun y => m (h x y)) z
theorem Ex.nil (e : Ex [] H H') : Ex M H H' := Ex.mono (fun x z => absurd z (List.not_mem_nil)) e
theorem Ex.new (h : H p = none) : Ex M H (upd H p o) := fun a u _ z => by
  rw [upd_ne (ne_of_none z h)]
  exact z
theorem Ex.mut (h : p ∈ M) : Ex M H (upd H p o) := fun a u m z => by
  rw [upd_ne (fun e => m (by rw [e]; exact h))]
  exact z
theorem Ex.free (e : Ex M H H') (h : H' p = none) (hm : p ∉ M) : H p = none := by
  cases z : H p with
  | none => rfl
  | some u =>
    rw [e p u hm z] at h
    cases h
structure Lt (M : List Addr) (K : PySem.W.Frag) (H : Hp) (p : Addr) (xs : List V) : Prop where
  sq : SqL K H p xs
  off : p ∉ M
structure Tp (M : List Addr) (K : PySem.W.Frag) (H : Hp) (p : Addr) (xs : List V) : Prop where
  sq : SqT K H p xs
  off : p ∉ M
structure At (M : List Addr) (H : Hp) (p : Addr) (o : HO) : Prop where
  at_ : H p = some o
  off : p ∉ M
theorem rd_ex {u : HO} (e : Ex M H H') (off : p ∉ M) (h : Rd H p u) : Rd H' p u := by
  rcases h with h | ⟨o, h⟩
  · exact Or.inl (e p _ off h)
  · exact Or.inr ⟨o, e p _ off h⟩
theorem Lt.ex (h : Lt M K H p xs) (e : Ex M H H') : Lt M K H' p xs := ⟨h.sq.imp (rd_ex e h.off) id, h.off⟩
theorem Tp.ex (h : Tp M K H p xs) (e : Ex M H H') : Tp M K H' p xs := ⟨h.sq.imp (rd_ex e h.off) id, h.off⟩
theorem At.ex (h : At M H p o) (e : Ex M H H') : At M H' p o := ⟨e p o h.off h.at_, h.off⟩
theorem At.lt (h : At M H p (.lst xs)) : Lt M K H p xs := ⟨Or.inl (Or.inl h.at_), h.off⟩
theorem Lt.mono (hm : ∀ x ∈ M', x ∈ M) (h : Lt M K H p xs) : Lt M' K H p xs := ⟨h.sq, fun z => h.off (hm p z)⟩
theorem Tp.mono (hm : ∀ x ∈ M', x ∈ M) (h : Tp M K H p xs) : Tp M' K H p xs := ⟨h.sq, fun z => h.off (hm p z)⟩
theorem At.mono (hm : ∀ x ∈ M', x ∈ M) (h : At M H p o) : At M' H p o := ⟨h.at_, fun z => h.off (hm p z)⟩
def Box (b : Addr) (n : Nat) (H : Hp) : Prop := ∃ a s c : Int, H b = some (.lst [.int a, .int s, .int c]) ∧ 0 ≤ a ∧ 0 ≤ s ∧ s < 2147483648 ∧ 0 ≤ c ∧ c ≤ (n : Int)
theorem Box.ex {n : Nat} (h : Box b n H) (e : Ex M H H') (off : b ∉ M) : Box b n H' := by
  obtain ⟨a, s, c, h1, h2⟩ := h
  exact ⟨a, s, c, e b _ off h1, h2⟩
theorem Box.mono {n m : Nat} (h : Box b n H) (hn : n ≤ m) : Box b m H := by
  obtain ⟨a, s, c, h1, h2, h3, h4, h5, h6⟩ := h
  exact ⟨a, s, c, h1, h2, h3, h4, h5, by omega⟩
theorem Box.new {n : Nat} (h : Box b n H) (hp : H p = none) : Box b n (upd H p o) := h.ex (M := []) (Ex.new hp) (List.not_mem_nil)
theorem Box.ne {n : Nat} (h : Box b n H) (hp : H p = none) : p ≠ b := by
  obtain ⟨a, s, c, h1, _⟩ := h
  intro e
  rw [e, h1] at hp
  cases hp
theorem Box.off {n : Nat} (h : Box b n H) (hp : H p = none) : p ∉ [b] := fun z => h.ne hp (List.mem_singleton.mp z)
end
mutual
inductive Rp (M : List Addr) (K : PySem.W.Frag) (H : Hp) : V → PyData → Prop
  | non : Rp M K H .non .none
  | bl (b : Bool) : Rp M K H (.bl b) (.bool b)
  | int (i : Int) : Rp M K H (.int i) (.int i)
  | str (x : Str) : Rp M K H (.str x) (.str x)
  | lst {a : Addr} {xs : List V} {ds : List PyData} : Lt M K H a xs → RpA M K H xs ds → Rp M K H (.ref a) (.list ds)
  | tup {a : Addr} {xs : List V} {ds : List PyData} : Tp M K H a xs → RpA M K H xs ds → Rp M K H (.ref a) (.tuple ds)
inductive RpA (M : List Addr) (K : PySem.W.Frag) (H : Hp) : List V → List PyData → Prop
  | nil : RpA M K H [] []
  | cons {v : V} {vs : List V} {d : PyData} {ds : List PyData} : Rp M K H v d → RpA M K H vs ds → RpA M K H (v :: vs) (d :: ds)
end
section
variable {M M' : List Addr} {K : PySem.W.Frag} {H H' : Hp}
mutual
theorem Rp.ex (e : Ex M H H') : ∀ {v : V} {d : PyData}, Rp M K H v d → Rp M K H' v d
  | _, _, .non => .non
  | _, _, .bl b => .bl b
  | _, _, .int i => .int i
  | _, _, .str x => .str x
  | _, _, .lst h a => .lst (h.ex e) (RpA.ex e a)
  | _, _, .tup h a => .tup (h.ex e) (RpA.ex e a)
theorem RpA.ex (e : Ex M H H') : ∀ {vs : List V} {ds : List PyData}, RpA M K H vs ds → RpA M K H' vs ds
  | _, _, .nil => .nil
  | _, _, .cons h a => .cons (Rp.ex e h) (RpA.ex e a)
end
mutual
theorem Rp.mono (hm : ∀ x ∈ M', x ∈ M) : ∀ {v : V} {d : PyData}, Rp M K H v d → Rp M' K H v d
  | _, _, .non => .non
  | _, _, .bl b => .bl b
  | _, _, .int i => .int i
  | _, _, .str x => .str x
  | _, _, .lst h a => .lst (h.mono hm) (RpA.mono hm a)
  | _, _, .tup h a => .tup (h.mono hm) (RpA.mono hm a)
theorem RpA.mono (hm : ∀ x ∈ M', x ∈ M) : ∀ {vs : List V} {ds : List PyData}, RpA M K H vs ds → RpA M' K H vs ds
  | _, _, .nil => .nil
  | _, _, .cons h a => .cons (Rp.mono hm h) (RpA.mono hm a)
end
mutual
theorem Rp.dp : ∀ {v : V} {d : PyData}, Rp M K H v d → Dp K H v d
  | _, _, .non => .non
  | _, _, .bl b => .bl b
  | _, _, .int i => .int i
  | _, _, .str x => .str x
  | _, _, .lst h a => .lst h.sq (RpA.dp a)
  | _, _, .tup h a => .tup h.sq (RpA.dp a)
theorem RpA.dp : ∀ {vs : List V} {ds : List PyData}, RpA M K H vs ds → DpAll K H vs ds
  | _, _, .nil => .nil
  | _, _, .cons h a => .cons (Rp.dp h) (RpA.dp a)
end
mutual
theorem dp_noDict : ∀ {v : V} {d : PyData}, Dp K H v d → d.hasDict = false
  | _, _, .non => by simp only [PyData.hasDict]
  | _, _, .bl b => by simp only [PyData.hasDict]
  | _, _, .int i => by simp only [PyData.hasDict]
  | _, _, .str x => by simp only [PyData.hasDict]
  | _, _, .lst _ a => by
    simp only [PyData.hasDict]
    exact dpA_noDict a
  | _, _, .tup _ a => by
    simp only [PyData.hasDict]
    exact dpA_noDict a
theorem dpA_noDict : ∀ {vs : List V} {ds : List PyData}, DpAll K H vs ds → PyData.hasDictAll ds = false
  | _, _, .nil => by simp only [PyData.hasDictAll]
  | _, _, .cons h a => by
    simp only [PyData.hasDictAll, Bool.or_eq_false_iff]
    exact ⟨dp_noDict h, dpA_noDict a⟩
end
theorem RpA.append : ∀ {vs ws : List V} {ds es : List PyData}, RpA M K H vs ds → RpA M K H ws es → RpA M K H (vs ++ ws) (ds ++ es)
  | _, _, _, _, .nil, b => b
  | _, _, _, _, .cons h a, b => .cons h (RpA.append a b)
theorem RpA.strs : ∀ zs : List Str, RpA M K H (zs.map V.str) (zs.map PyData.str)
  | [] => .nil
  | z :: zs => .cons (.str z) (RpA.strs zs)
theorem RpA.ints : ∀ zs : List Int, RpA M K H (zs.map V.int) (zs.map PyData.int)
  | [] => .nil
  | z :: zs => .cons (.int z) (RpA.ints zs)
end
/-- data whose repr fits -/
structure Shows (d : PyData) : Prop where
  sh : d.showable = true
  ex : ∃ B, 8 ≤ B ∧ d.leavesShort B = true ∧ (B + 2) * d.bulk + B ≤ 16777216
  dp : d.depth ≤ 60
theorem Shows.fits {d : PyData} (h : Shows d) : d.shown.length ≤ sizeLine := by
  obtain ⟨B, h1, h2, h3⟩ := h.ex
  rw [sizeLine_eq]
  exact Nat.le_trans (PyData.shown_le_bulk B h1 d h2) h3
def uRepr (K : PySem.W.Frag) : List V → Hp → VK → Prop := fun xs H Q => ∃ v d, xs = [v] ∧ Dp K H v d ∧ Shows d ∧ Q (.str d.shown) H
theorem call_uRepr {X : Cx} (hg : X.A.guards = some []) (hu : X.A.units + 130 < cLine) : CallR X (.builtin "repr") (uRepr X.K) := by
  intro pins s σ H xs us Q I r h
  obtain ⟨v, d, rfl, hd, sh, q⟩ := h
  obtain ⟨u, rfl, ru⟩ := vals1 r
  obtain ⟨as, rd⟩ := Dp.reads I d v u hd ru
  have nd := dp_noDict hd
  cases hd with
  | non =>
    cases (show u = Value.none from ru)
    rw [PyData.shown_none] at q
    exact PySem.P.repr_of_none ⟨.str _, H, I.tok _, ⟨_, rfl⟩, q⟩
  | bl b =>
    cases (show u = Value.bool b from ru)
    rw [PyData.shown_bool] at q
    refine PySem.P.repr_of_bool ⟨.str _, H, I.tok _, ⟨_, rfl⟩, ?_⟩
    cases b
    · exact q
    · exact q
  | int i =>
    obtain ⟨t, rfl⟩ := ru
    rw [PyData.shown_int] at q
    refine PySem.P.repr_of_int ?_ ⟨.str _, H, I.tok _, ⟨_, rfl⟩, q⟩
    have z := sh.sh
    simp only [PyData.showable, decide_eq_true_eq] at z
    exact z
  | str x =>
    obtain ⟨t, rfl⟩ := ru
    have z := sh.fits
    rw [PyData.shown_str] at q z
    exact PySem.P.repr_of_str ⟨.str _, H, I.tok _, ⟨_, rfl⟩, q⟩ z
  | lst _ _ =>
    cases (show u = Value.ref _ from ru)
    refine repr_of_reads' rd sh.sh (PyData.noDict_hsm nd) hg (by have := sh.dp; omega) (fun _ _ e => e) (fun h' t tk k => ⟨.str _, H, I.kept k, ⟨_, rfl⟩, q⟩) sh.fits
  | tup _ _ =>
    cases (show u = Value.ref _ from ru)
    refine repr_of_reads' rd sh.sh (PyData.noDict_hsm nd) hg (by have := sh.dp; omega) (fun _ _ e => e) (fun h' t tk k => ⟨.str _, H, I.kept k, ⟨_, rfl⟩, q⟩) sh.fits
end SL
namespace SL
open PySem PySem.Spec PyProof.Rows L2
section
variable {K : PySem.W.Frag} {σ : L2.St} {H : Hp} {D : Ends} {i j : Nat} {v x y : V} {Q : VK} {ta tb tc te : TE} {t u : TS} {c : TT} {QB : Bool → Hp → Prop} {r r' : R2} {g : TG} {QS : L2.St → Hp → Prop} {tr tk : TA} {QA : List V → Hp → Prop} {R : List V → Hp → VK → Prop}
variable {tt tu : TT}
variable {m n : Int} {w z : Str} {a b : Addr} {xs ys : List V}
theorem u_add_i (q : Q (.int (m + n)) H) : uAdd K (.int m) (.int n) H Q := Or.inl ⟨m, n, rfl, rfl, q⟩
theorem u_add_s (hl : w.length + z.length ≤ sizeLine) (q : Q (.str (w ++ z)) H) : uAdd K (.str w) (.str z) H Q := Or.inr (Or.inl ⟨w, z, rfl, rfl, hl, q⟩)
theorem u_add_l (h1 : H a = some (.lst xs)) (h2 : H b = some (.lst ys)) (hl : xs.length + ys.length ≤ sizeLine) (q : ∀ p, H p = none → Q (.ref p) (upd H p (.lst (xs ++ ys)))) : uAdd K (.ref a) (.ref b) H Q :=
  Or.inr (Or.inr (Or.inl ⟨a, b, xs, ys, rfl, rfl, h1, h2, hl, q⟩))
theorem u_add_t (h1 : SqT K H a xs) (h2 : SqT K H b ys) (hl : xs.length + ys.length ≤ sizeLine) (q0 : xs = [] → Q (.ref b) H) (q1 : xs ≠ [] → ys = [] → Q (.ref a) H) (q : xs ≠ [] → ys ≠ [] → ∀ p, H p = none → Q (.ref p) (upd H p (.tup (xs ++ ys)))) : uAdd K (.ref a) (.ref b) H Q :=
  Or.inr (Or.inr (Or.inr ⟨a, b, xs, ys, rfl, rfl, h1, h2, hl, q0, q1, q⟩))
theorem u_sub (q : Q (.int (m - n)) H) : rSub (.int m) (.int n) H Q := ⟨m, n, rfl, rfl, q⟩
theorem u_mul (h : CMulW m n) (q : Q (.int (m * n)) H) : uMul K (.int m) (.int n) H Q := Or.inl ⟨m, n, rfl, rfl, h, q⟩
theorem u_mul_l (h1 : H a = some (.lst xs)) (hn : 0 ≤ n) (hn2 : n < 2 ^ 63) (hl : xs.length * n.toNat ≤ sizeLine) (q : ∀ p, H p = none → Q (.ref p) (upd H p (.lst (List.replicate n.toNat xs).flatten))) : uMul K (.ref a) (.int n) H Q :=
  Or.inr (Or.inl ⟨a, n, xs, rfl, rfl, h1, by omega, hn2, hl, q⟩)
theorem u_modp (h : 0 < n) (q : Q (.int (m % n)) H) : rMod (.int m) (.int n) H Q := ⟨m, n, rfl, rfl, by omega, by
  show Q (.int (m.fmod n)) H
  rw [Int.fmod_eq_emod_of_nonneg m (by omega)]
  exact q⟩
theorem u_div (h : CDivW m n) (q : Q (.int (m / n)) H) : rDiv (.int m) (.int n) H Q := ⟨m, n, rfl, rfl, h, q⟩
theorem u_pow (h : CPow m n) (q : Q (.int (m ^ n.toNat)) H) : rPow (.int m) (.int n) H Q := ⟨m, n, rfl, rfl, h, q⟩
theorem u_eq_s (q : Q (.bl (decide (w = z))) H) : uEq K (.str w) (.str z) H Q := Or.inl ⟨rfl, by
  have e : decide (V.str w = V.str z) = decide (w = z) := by simp
  rw [e]
  exact q⟩
theorem u_ne_s (q : Q (.bl (!decide (w = z))) H) : uNe K (.str w) (.str z) H Q := Or.inl ⟨rfl, by
  have e : decide (V.str w = V.str z) = decide (w = z) := by simp
  rw [e]
  exact q⟩
theorem u_eq_d {d e : PyData} (h1 : Dp K H x d) (h2 : Dp K H y e) (s1 : SeqAt.shaped d = true) (s2 : SeqAt.shaped e = true) (q : Q (.bl (PyData.eqv d e)) H) : uEq K x y H Q := Or.inr ⟨d, e, h1, h2, s1, s2, q⟩
theorem u_ne_d {d e : PyData} (h1 : Dp K H x d) (h2 : Dp K H y e) (s1 : SeqAt.shaped d = true) (s2 : SeqAt.shaped e = true) (q : Q (.bl (!PyData.eqv d e)) H) : uNe K x y H Q := Or.inr ⟨d, e, h1, h2, s1, s2, q⟩
theorem u_lt_i (q : Q (.bl (decide (m < n))) H) : uLt K (.int m) (.int n) H Q := Or.inl ⟨m, n, rfl, rfl, q⟩
theorem u_lt_s (q : Q (.bl (decide (w.cps.toList < z.cps.toList))) H) : uLt K (.str w) (.str z) H Q := Or.inr (Or.inl ⟨w, z, rfl, rfl, q⟩)
theorem u_le_i (q : Q (.bl (decide (m ≤ n))) H) : uLe (.int m) (.int n) H Q := ⟨m, n, rfl, rfl, q⟩
theorem u_gt_i (q : Q (.bl (decide (n < m))) H) : rGt (.int m) (.int n) H Q := ⟨m, n, rfl, rfl, q⟩
theorem u_in_s {c : Nat} (q : Q (.bl (decide (c ∈ z.cps.toList))) H) : uIn K (.str ⟨#[c]⟩) (.str z) H Q := Or.inl ⟨c, z, rfl, rfl, q⟩
theorem u_ni_s {c : Nat} (q : Q (.bl (!decide (c ∈ z.cps.toList))) H) : uNi K (.str ⟨#[c]⟩) (.str z) H Q := Or.inl ⟨c, z, rfl, rfl, q⟩
theorem u_in_l (h : SqL K H b ys ∨ SqT K H b ys) (fx : flatV x = true) (fy : ys.all flatV = true) (q : Q (.bl (inV x ys)) H) : uIn K x (.ref b) H Q := Or.inr (Or.inl ⟨b, ys, rfl, h, fx, fy, q⟩)
theorem u_ni_l (h : SqL K H b ys ∨ SqT K H b ys) (fx : flatV x = true) (fy : ys.all flatV = true) (q : Q (.bl (!inV x ys)) H) : uNi K x (.ref b) H Q := Or.inr ⟨b, ys, rfl, h, fx, fy, q⟩
theorem u_in_r {lo hi : Int} (h : H b = some (.rng lo hi)) (q : Q (.bl (decide (lo ≤ m ∧ m < hi))) H) : uIn K (.int m) (.ref b) H Q := Or.inr (Or.inr ⟨m, b, lo, hi, rfl, rfl, h, q⟩)
theorem u_ix_l (h : SqL K H a xs) (e : atI xs n = some v) (q : Q v H) : uIx K (.ref a) (.int n) H Q := Or.inl ⟨a, xs, n, v, rfl, rfl, h, e, q⟩
theorem u_ix_t (h : SqT K H a xs) (e : atI xs n = some v) (q : Q v H) : uIx K (.ref a) (.int n) H Q := Or.inr (Or.inl ⟨a, xs, n, v, rfl, rfl, h, e, q⟩)
theorem u_ix_s {c : Nat} (hl : w.length ≤ sizeLine) (e : atI w.cps.toList n = some c) (q : Q (.str ⟨#[c]⟩) H) : uIx K (.str w) (.int n) H Q := Or.inr (Or.inr ⟨w, n, c, rfl, rfl, hl, e, q⟩)
theorem u_sl_s {lo hi : Option Int} (hl : w.length ≤ sizeLine) (q : Q (.str (cutS w lo hi)) H) : uSl K (.str w) lo hi H Q := Or.inl ⟨w, rfl, hl, q⟩
theorem u_sl_l {lo hi : Option Int} (h : SqL K H a xs) (q : ∀ p, H p = none → Q (.ref p) (upd H p (.lst (cutV xs lo hi)))) : uSl K (.ref a) lo hi H Q := Or.inr (Or.inl ⟨a, xs, rfl, h, q⟩)
theorem u_len_q (h : SqL K H a xs ∨ SqT K H a xs) (q : Q (.int xs.length) H) : uLen K [.ref a] H Q := Or.inl ⟨a, xs, rfl, h, q⟩
theorem u_len_s (hl : w.length ≤ sizeLine) (q : Q (.int w.length) H) : uLen K [.str w] H Q := Or.inr ⟨.str w, w.length, rfl, ⟨hl, rfl⟩, q⟩
theorem u_max2 (q : Q (.int (if n > m then n else m)) H) : rMax2 [.int m, .int n] H Q := ⟨m, n, rfl, q⟩
theorem u_min2 (q : Q (.int (if n < m then n else m)) H) : rMin2 [.int m, .int n] H Q := ⟨m, n, rfl, q⟩
theorem u_all {bs : List Bool} (h : SqL K H a (bs.map V.bl)) (q : Q (.bl (bs.all id)) H) : rAllL K [.ref a] H Q := ⟨a, bs, rfl, h, q⟩
theorem u_any {bs : List Bool} (h : SqL K H a (bs.map V.bl)) (q : Q (.bl (bs.any id)) H) : rAnyL K [.ref a] H Q := ⟨a, bs, rfl, h, q⟩
theorem u_repr {d : PyData} (h : Dp K H x d) (s : Shows d) (q : Q (.str d.shown) H) : uRepr K [x] H Q := ⟨x, d, rfl, h, s, q⟩
theorem u_list (h : SqL K H a xs ∨ SqT K H a xs) (q : ∀ p, H p = none → Q (.ref p) (upd H p (.lst xs))) : uList K [.ref a] H Q := ⟨a, xs, rfl, h, q⟩
end
end SL
namespace SL
open PySem PySem.Spec PyProof.Rows L2
/-- a kind whose things are looked at by object's own `__getattribute__`, and whose class is told by object's `__class__` -/
structure Tells (T : String) : Prop where
  ga : Slot T "__getattribute__" "object.__getattribute__"
  cls : typeLookup (.type T) "__class__" = pure (some (.builtin "object.__class__"))
  other : (Value.type T == Value.type "builtin_function_or_method") = false
  low : isSubtype (.type T) (.type (".".intercalate ("object.__class__".cutAt '.').dropLast)) = pure true
theorem ga_entry : entryFor table "object.__getattribute__" = some Builtin.«object.__getattribute__» := entryFor_of_tree (by kernel_rfl)
theorem ga_args (a b : Value) : argsOk "object.__getattribute__" ⟨[a, b], []⟩ := by unfold argsOk; kernel_rfl
section
variable {prog : Program} {w : World} {A : Around} {E : Value → Shared → Prop} {s : Shared} {a : Addr} {T : String}
/-- object's `__class__` tells the type -/
theorem Tells.descr (W : Tells T) {R : Result → Shared → Prop} (ty : s.TypeIs (.ref a) T) (q : R (.ok (.ret (.type T))) s) : codeAny (model prog w) A (.call (.builtin "getset_descriptor.__get__") ⟨[.builtin "object.__class__", .ref a, .type T], []⟩) R s := by
  have kind : s.TypeIs (.builtin "object.__class__") "getset_descriptor" := PySem.F.typeOf_object_class
  have low := W.low
  obtain ⟨o, at_, cl⟩ := id ty
  rcases s with ⟨o1, o2, o3, o4, o5⟩
  refine codeAny_call_builtin PySem.F.slot_gs_get.plain PySem.F.entry_gs_get (PySem.F.slot_gs_get.check _ _ _ _ _ _ _ _ kind (PySem.F.args_gs_get _ _ _) ?_)
  repeat (any_goals (first | assumption | wp_step))
  refine ⟨Code.quiet_builtin _ (by decide +kernel), codeAny_builtin PySem.F.entry_object_class ?_⟩
  repeat (any_goals (first | assumption | wp_step))
  rw [W.other]
  repeat (any_goals (first | assumption | wp_step))
/-- so x.__class__ is the type -/
theorem Tells.attr (W : Tells T) {Q : Option Value → Shared → Prop} (ty : s.TypeIs (.ref a) T) (q : Q (some (.type T)) { s with toks := s.toks + 1 }) : wpAny (model prog w) A (getAttr? (.ref a) "__class__") Q E s := by
  have ga := W.ga.lookup
  have bd := W.ga.bind (.ref a)
  have cls := W.cls
  have kind := PySem.F.typeOf_object_class
  have g1 := PySem.F.slot_gs_get.lookup
  have g2 := PySem.F.slot_gs_set.lookup
  have read : ∀ {A' : Around} {tk : Tok} {R : Result → Shared → Prop} {s' : Shared}, s'.TypeIs (.ref a) T → R (.ok (.ret (.type T))) s' → codeAny (model prog w) A' (.call (.builtin "object.__getattribute__") ⟨[.ref a, .str "__class__" tk], []⟩) R s' := by
    intro A' tk R s' ty q
    refine codeAny_call_builtin W.ga.plain ga_entry (W.ga.check _ _ _ _ _ _ _ _ ty (ga_args _ _) ?_)
    obtain ⟨o, at_, cl⟩ := id ty
    rcases s' with ⟨o1, o2, o3, o4, o5⟩
    repeat (any_goals (first | assumption | wp_step))
    refine W.descr ty ?_
    repeat (any_goals (first | assumption | wp_step))
  rcases s with ⟨o1, o2, o3, o4, o5⟩
  have by_ : ∀ {tk : Tok} {Q : Value → Shared → Prop} {E : Value → Shared → Prop}, Q (.type T) ⟨o1, o2, o3, o4 + 1, o5⟩ → wpAny (model prog w) A (getAttrBy (.ref a) (.str "__class__" tk) false) Q E ⟨o1, o2, o3, o4 + 1, o5⟩ := by
    intro tk Q E q
    have ty' : (⟨o1, o2, o3, o4 + 1, o5⟩ : Shared).TypeIs (.ref a) T := ty
    repeat (any_goals (first | assumption | wp_step))
    refine read ty ?_
    repeat (any_goals (first | assumption | wp_step))
  unfold getAttr? getAttrBy?
  repeat (any_goals (first | assumption | with_reducible apply by_ | wp_step))
end
theorem fn_tells : Tells "function" where
  ga := .of (owner := "object") (n := "__getattribute__") (by rw [typeLookup_type, builtinLookup_eq_fast]; kernel_rfl) (by decide +kernel) (by decide +kernel) (by decide +kernel) (by first | exact .inl (by decide +kernel) | exact .inr (by decide +kernel)) (by rw [isSubtype_type]; kernel_rfl)
  cls := by rw [typeLookup_type, builtinLookup_eq_fast]; kernel_rfl
  other := rfl
  low := by rw [PySem.F.owner_object_class, isSubtype_type]; kernel_rfl
theorem kit_fn {K : PySem.W.Frag} {a : Addr} : PySem.W.KitX K (.ref a) (.type "function") (PySem.W.KitAt a "function") :=
  PySem.W.kitx_of PySem.W.kitAt_ty (fun {_ _ _ _ _ s} p k => fn_tells.attr p k)
end SL
namespace SL
open PySem PySem.Spec PyProof.Rows L2
/-- what the written part says of an own exception class, for isinstance -/
def isiB (K : PySem.W.Frag) (C : Addr) : Bool := (PySem.W.clsIn K C).isSome && (decide (PySem.W.findIn K (.ref C) "__getattribute__" = some (some (.builtin "BaseException.__getattribute__"))) && ((PySem.W.findIn K (.ref C) "__getattr__").isSome &&
  (decide (PySem.W.subIn K (.ref C) (.type "BaseException") = some true) && (decide (PySem.W.findIn K (.ref C) "__class__" = some (some (.builtin "object.__class__"))) && (decide (PySem.W.specialIn K (.builtin "object.__class__") "__get__" = some (some (.builtin "getset_descriptor.__get__"))) &&
  (decide (PySem.W.takesIn K (.builtin "object.__class__") = some true) && decide (PySem.W.mroIn K C (.type "object") = some true)))))))
inductive TyY (K : PySem.W.Frag) (H : Hp) : V → Value → Prop where
  | base {x : V} {t : Value} (h : TyX K H x t) : TyY K H x t
  | fn {a : Addr} {o : Obj} (e : K.lookup a = some o) (c : o.cls = .type "function") : TyY K H (.ref a) (.type "function")
  | exc {a C dx : Addr} (e : H a = some (exo a C (some dx))) (fs : List (Str × V)) (d : H dx = some (exd dx fs)) (b : isiB K C = true) : TyY K H (.ref a) (.ref C)
theorem kit_y {X : Cx} {pins : List (Addr × Obj)} {σ : L2.St} {H : Hp} {s : Shared} {x : V} {u t : Value} (I : Inv X pins σ H s) (rx : RelV x u) (ty : TyY X.K H x t) :
    ∃ P : Heap → Prop, PySem.W.KitX X.K u t P ∧ P s.heap ∧ u ≠ .builtin "__main__.__loader__#opaque" := by
  cases ty with
  | base h => exact kit_of I rx h
  | @fn a o e c =>
    cases (show u = Value.ref a from rx)
    exact ⟨_, kit_fn, ⟨o, I.kIn _ _ e, c⟩, fun z => nomatch z⟩
  | @exc a C dx e fs hd b =>
    cases (show u = Value.ref a from rx)
    simp only [isiB, Bool.and_eq_true, decide_eq_true_eq] at b
    obtain ⟨b1, b2, b3, b4, b5, b6, b7, b8⟩ := b
    obtain ⟨gt, b3⟩ := Option.isSome_iff_exists.mp b3
    obtain ⟨t1, ho⟩ := exo_at I.hok e
    obtain ⟨mA, ⟨oD, es, ep, hD, _⟩, _⟩ := exd_at I.hok hd
    refine ⟨_, PySem.W.kitx_exc (od := some oD) b1 b2 b3 b4 b5 b6 b7 b8, (show PySem.W.InstAt s.heap a { cls := .ref C, dict := some dx, data := .fields #[.ref t1, .none, .none, .none, .bool false, .none] } C (some oD) from ⟨ho, rfl, rfl, hD⟩), fun z => nomatch z⟩
def rIsiY (K : PySem.W.Frag) : List V → Hp → VK → Prop := fun xs H Q => ∃ (x c : V) (t u : Value) (b : Bool), xs = [x, c] ∧ ClsV c u ∧ TyY K H x t ∧ PySem.W.kitOne K t u = some b ∧ Q (.bl b) H
def rIsiYT (K : PySem.W.Frag) : List V → Hp → VK → Prop := fun xs H Q => ∃ (x : V) (tp : Addr) (cs : List V) (t : Value) (us : List Value) (b : Bool), xs = [x, .ref tp] ∧ H tp = some (.tup cs) ∧ Paired ClsV cs us ∧ TyY K H x t ∧ PySem.W.kitAny K t us = some b ∧ Q (.bl b) H
section
variable {X : Cx}
theorem call_isiY : CallR X (.builtin "isinstance") (rIsiY X.K) := by
  rintro pins s σ H _ us Q I r ⟨x, c, t, u, b, rfl, k, ty, told, q⟩
  obtain ⟨v, w, rfl, rv, rw⟩ := vals2 r
  obtain rfl := k.eq rw
  obtain ⟨P, Z, p, far⟩ := kit_y I rv ty
  exact PySem.W.kia_one Z I.kIn p told far fun tk => ⟨.bl b, H, I.tok tk, rfl, q⟩
theorem call_isiYT : CallR X (.builtin "isinstance") (rIsiYT X.K) := by
  rintro pins s σ H _ us Q I r ⟨x, tp, cs, t, ws, b, rfl, tup, k, ty, told, q⟩
  obtain ⟨v, w, rfl, rv, rw⟩ := vals2 r
  obtain rfl : w = .ref tp := rw
  obtain ⟨P, Z, p, far⟩ := kit_y I rv ty
  obtain ⟨_, its, rs, ⟨oc, od, dt, sl⟩, at_, cl, ep, seq⟩ := (show ObjOk X.prog X.w H s.heap tp (.tup cs) from I.hok tp _ tup)
  obtain rfl : oc = .type "tuple" := cl
  obtain rfl : dt = .seq its.toArray ep := seq
  obtain rfl := ClsV.all k rs
  exact PySem.W.kia_tup Z I.kIn p at_ told far fun tk => ⟨.bl b, H, I.tok tk, rfl, q⟩
def vIsi (K : PySem.W.Frag) : List V → Hp → VK → Prop := fun xs H Q => rIsiY K xs H Q ∨ rIsiYT K xs H Q
theorem call_vIsi : CallR X (.builtin "isinstance") (vIsi X.K) := call_isiY.or call_isiYT
end
section
variable {K : PySem.W.Frag} {H : Hp} {x c : V} {t u : Value} {k : Bool} {Q : VK}
theorem v_isi (hc : ClsV c u) (ht : TyY K H x t) (e : PySem.W.kitOne K t u = some k) (q : Q (.bl k) H) : vIsi K [x, c] H Q := Or.inl ⟨x, c, t, u, k, rfl, hc, ht, e, q⟩
theorem v_isiT {tp : Addr} {cs : List V} {us : List Value} (h : H tp = some (.tup cs)) (hc : Paired ClsV cs us) (ht : TyY K H x t) (e : PySem.W.kitAny K t us = some k) (q : Q (.bl k) H) : vIsi K [x, .ref tp] H Q := Or.inr ⟨x, tp, cs, t, us, k, rfl, h, hc, ht, e, q⟩
end
end SL
namespace SL
open PySem PySem.Spec PyProof.Rows L2
/-- the class object at C is one of an exception above ValueError, in own classes and ValueError's -/
def clsVE (K : PySem.W.Frag) (C : Addr) : Bool := match K.lookup C with
  | some ⟨.type "type", _, .cls ⟨_, _, .ref C' :: bm, _, _, true, _, _, _, _, false⟩, ⟨[_, _, _, _, some (.builtin n), _]⟩⟩ => (C' == C && n == "ValueError.__new__") && PySem.HandSPX.refsVE bm
  | _ => false
theorem clsVE_ok {K : PySem.W.Frag} {C : Addr} (h : clsVE K C = true) : ∃ nm q N bs bm sn sub ab col dd k0 k1 k2 k3 k5, K.lookup C = some (excClassObj nm q C N bs bm true sn sub ab col dd k0 k1 k2 k3 k5 "ValueError.__new__") ∧ PySem.HandSPX.refsVE bm = true := by
  unfold clsVE at h
  split at h
  · next e =>
    simp only [Bool.and_eq_true, beq_iff_eq] at h
    obtain ⟨⟨rfl, rfl⟩, low⟩ := h
    exact ⟨_, _, _, _, _, _, _, _, _, _, _, _, _, _, _, e, low⟩
  · cases h
def oexB (K : PySem.W.Frag) (C : Addr) : Bool := clsVE K C && (decide (PySem.W.findIn K (.ref C) "__setattr__" = some (some (.builtin "object.__setattr__"))) && (decide (PySem.W.subIn K (.ref C) (.type "BaseException") = some true) &&
  (decide (PySem.W.typeIn K (.ref C) = some (.type "type")) && PySem.W.keepIn K (.ref C))))
theorem oexB_ok {K : PySem.W.Frag} {C : Addr} (h : oexB K C = true) : OexC K C := by
  simp only [oexB, Bool.and_eq_true, decide_eq_true_eq] at h
  exact ⟨clsVE_ok h.1, h.2.1, h.2.2.1, h.2.2.2.1, h.2.2.2.2⟩
/-- reading __init__ off the own base class at S -/
def baseB (K : PySem.W.Frag) (S : Addr) : Bool := PySem.W.readsIn K S (.type "type") && ((match PySem.W.findCls K (.ref S) (.type "type") "__init__" with
  | some (.val (.builtin n)) => decide (n = "ValueError.__init__")
  | _ => false) && decide (PySem.W.specialIn K (.ref S) "__getattribute__" = some (some (.builtin "type.__getattribute__"))))
/-- how C's own __init__ is found -/
def initB (K : PySem.W.Frag) (C : Addr) : Bool := decide (PySem.W.findIn K (.ref C) "__init__" = some (some (.ref (He.ma K C "__init__")))) && decide (PySem.W.typeIn K (.ref (He.ma K C "__init__")) = some (.type "function"))
theorem baseB_ok {K : PySem.W.Frag} {S : Addr} (b : baseB K S = true) : PySem.W.readsIn K S (.type "type") = true ∧ PySem.W.findCls K (.ref S) (.type "type") "__init__" = some (.val (.builtin "ValueError.__init__")) ∧ PySem.W.specialIn K (.ref S) "__getattribute__" = some (some (.builtin "type.__getattribute__")) := by
  unfold baseB at b
  rcases e : PySem.W.findCls K (.ref S) (.type "type") "__init__" with _ | y
  · rw [e] at b; simp at b
  · rw [e] at b
    split at b
    · next n q => cases q; simp only [Bool.and_eq_true, decide_eq_true_eq] at b; exact ⟨b.1, by rw [b.2.1], b.2.2⟩
    · simp at b
section
variable {X : Cx} {e : Expr} {es : List Expr} {ta : TA} {x : Str} {S : Addr} {p1 p2 pos : Pos}
theorem pe_sinit {pl : Sem Bool} (hg : Gl X x) (hm : X.mg x = some (.ref S)) (b : baseB X.K S = true) (ha : PA X (e :: es) ta) (hdb : (x == ("__debug__" : Str)) = false := by decide)
    (hc : eval (.Call (.Attribute (.Name x p1) "__init__" p2) (e :: es) [] pos) X.env = (do
      let ov ← eval (.Name x p1) X.env
      standAt p2.atName
      let (f, first) ← holding [ov] (getMethod ov "__init__" pl)
      callWith pos f first (backTo pos (starEach (e :: es) X.env)) (backToKw pos (keywordEach [] X.env))) := by rfl)
    (he : starEach (e :: es) X.env = (false, eval e X.env) :: starEach es X.env := by rfl) (hpl : (backTo pos (starEach es X.env)).any (·.1) = false := by rfl) :
    PE X (.Call (.Attribute (.Name x p1) "__init__" p2) (e :: es) [] pos) (tVeI X.K ta) := by
  obtain ⟨b1, b2, b3⟩ := baseB_ok b
  refine ⟨fun pins s σ H Q I h => PySem.W.methodCall_KW (ld_glob I hg hm (PySem.W.method_cls I.kIn b3 (PySem.W.cls_value I.kIn b1 b2 (by decide +kernel) ?_)) hdb) hc⟩
  refine PyProof.Rows.callWith_method1 (id := "ValueError.__init__") (thn (ha.run pos pins _ σ H _ (I.tok _) h) ?_) he hpl
  rintro _ s1 ⟨_, H1, I1, rs, a, C, ws, rfl, few, T, raw, q⟩
  cases rs with
  | cons ra rw =>
    cases ra
    exact oinit_ok T I1 raw (rw.length ▸ Nat.le_trans few (by decide)) fun s' J => ⟨.non, H1, J, rfl, q⟩
end
/-- what __init__ of a one-field exception promises -/
def spX (K : PySem.W.Frag) (C : Addr) (f : Str) : Sp := fun vs H Q _ => ∃ (a : Addr) (v : V), vs = [.ref a, v] ∧ H a = some (exo a C none) ∧ ∀ dx, H dx = none → dx ≠ a → Q .non (upd (upd H dx (exd dx [(f, v)])) a (exo a C (some dx)))
end SL
namespace SL
open PySem PySem.Spec PyProof.Rows L2
theorem sz_le {n : Nat} (h : n ≤ 100000) : n ≤ sizeLine := Nat.le_trans h (by decide)
theorem sz_lt {n : Nat} (h : n < 100000) : n < sizeLine := Nat.lt_of_lt_of_le h (by decide)
end SL
namespace SL
end SL
namespace SL
open PySem PySem.Spec PyProof.Rows L2
end SL
namespace SL
open PySem PySem.Spec PyProof.Rows L2
section
variable {K : PySem.W.Frag} {H H' : Hp} {p a dx C : Addr} {xs : List V} {o : HO} {M : List Addr} {v x : V} {t : Value}
/-- a value's type, whatever comes outside M -/
def Ky (M : List Addr) (K : PySem.W.Frag) (H : Hp) (v : V) (t : Value) : Prop := ∀ H', Ex M H H' → TyY K H' v t
theorem Ky.ex (h : Ky M K H v t) (e : Ex M H H') : Ky M K H' v t := fun H2 e2 => h H2 (e.trans e2)
theorem Ky.ty (h : Ky M K H v t) : TyY K H v t := h H Ex.refl
theorem Ky.nil (h : Ky M K H v t) : Ky [] K H v t := fun H2 e => h H2 e.nil
theorem Ky.mono {M' : List Addr} (hm : ∀ x ∈ M', x ∈ M) (h : Ky M K H v t) : Ky M' K H v t := fun H2 e => h H2 (e.mono hm)
variable {σ : L2.St} {Q : L2.St → Hp → Prop} {to ti : TE} {ts : TSet} {i : V} {n : Int} {j : Nat} {QH : Hp → Prop} {QV : VK}
end
end SL
namespace SL
open PySem PySem.Spec PyProof.Rows L2
theorem str_ext {a b : Str} (h : a.cps.toList = b.cps.toList) : a = b := by
  cases a with
  | mk x => cases b with
    | mk y =>
      have : x = y := Array.toList_inj.mp h
      rw [this]
theorem len_str (a : Str) : a.length = a.cps.toList.length := by simp [Str.length]
theorem cps_add (a b : Str) : (a ++ b).cps.toList = a.cps.toList ++ b.cps.toList := by
  rw [PySem.Str.cps_append]
  simp
theorem len_add (a b : Str) : (a ++ b).length = a.length + b.length := PySem.Str.length_append a b
end SL
namespace SL
open PySem PySem.Spec PyProof.Rows L2
theorem Box.upd {b p : Addr} {n : Nat} {H : Hp} {o : HO} (h : Box b n H) (ne : p ≠ b) : Box b n (upd H p o) := h.ex (M := [p]) (Ex.mut (List.mem_singleton.mpr rfl)) (fun z => ne (List.mem_singleton.mp z).symm)
theorem strs_of {acc : List V} {P : Str → Prop} (h : ∀ (j : Nat) (y : V), acc[j]? = some y → ∃ z, y = .str z ∧ P z) : ∃ ys : List Str, acc = ys.map V.str ∧ ∀ z ∈ ys, P z := by
  induction acc with
  | nil => exact ⟨[], rfl, fun _ z => absurd z (List.not_mem_nil)⟩
  | cons a r ih =>
    obtain ⟨z, rfl, hz⟩ := h 0 a rfl
    obtain ⟨ys, rfl, hy⟩ := ih (fun j y q => h (j + 1) y (by simpa using q))
    refine ⟨z :: ys, rfl, fun x hx => ?_⟩
    rcases List.mem_cons.mp hx with rfl | hx
    · exact hz
    · exact hy x hx
theorem joinL_nil : ∀ l : List (List Nat), TL.joinL [] l = l.flatten
  | [] => rfl
  | [p] => by simp [TL.joinL]
  | p :: q :: r => by
    have ih := joinL_nil (q :: r)
    simp only [TL.joinL, List.nil_append, ih, List.flatten_cons]
end SL
namespace SL
open PySem PySem.Spec PyProof.Rows L2
/-- plain signs alone -/
def Asc (z : Str) : Prop := ∀ c ∈ z.cps.toList, c < 128
theorem Asc.add {a b : Str} (h : Asc a) (k : Asc b) : Asc (a ++ b) := fun c hc => by
  rw [cps_add] at hc
  rcases List.mem_append.mp hc with q | q
  · exact h c q
  · exact k c q
theorem Asc.cut {a : Str} (h : Asc a) (lo hi : Option Int) : Asc (cutS a lo hi) := fun c hc => by
  unfold cutS at hc
  exact h c (List.mem_of_mem_drop (List.mem_of_mem_take (by simpa using hc)))
theorem Asc.one {c : Nat} (h : c < 128) : Asc ⟨#[c]⟩ := fun d hd => by
  have : d = c := by simpa using hd
  omega
theorem Asc.ok {z : Str} (h : Asc z) : (PyData.str z).canLay0 = true := by
  simp only [PyData.canLay0, PyData.strOk, Array.all_eq_true, decide_eq_true_eq]
  intro i hi
  have := h z.cps[i] (Array.mem_toList_iff.mpr (Array.getElem_mem hi))
  omega
theorem canLay_strs : ∀ {ys : List Str}, (∀ z ∈ ys, Asc z) → PyData.canLayAll0 (ys.map PyData.str) = true
  | [], _ => by simp [PyData.canLayAll0]
  | z :: r, h => by
    rw [List.map_cons, PyData.canLayAll0, (h z (List.mem_cons_self ..)).ok, canLay_strs (fun x q => h x (List.mem_cons_of_mem _ q))]
    rfl
theorem depth_strs : ∀ ys : List Str, PyData.depthAll (ys.map PyData.str) = 0
  | [] => by simp [PyData.depthAll]
  | z :: r => by
    rw [List.map_cons, PyData.depthAll, depth_strs r]
    simp [PyData.depth]
theorem shaped_strs {ys : List Str} (h : ∀ z ∈ ys, Asc z) : SeqAt.shaped (.list (ys.map PyData.str)) = true := by
  simp only [SeqAt.shaped, PyData.canLay0, PyData.depth, canLay_strs h, depth_strs]
  decide
end SL
namespace SL
open PySem PySem.Spec PyProof.Rows L2
section
variable {K : PySem.W.Frag} {σ : L2.St} {H H' H2 : Hp} {Q : VK} {QP : List (V × V) → Hp → Prop} {tk tv : TE} {ta : TA} {r : List (TE × TE)} {xs ys : List V} {o : HO} {v x y : V} {C p : Addr} {f : Str} {M : List Addr} {sp : Sp}
theorem nw (q : ∀ p H', H p = none → Ex [] H H' → H' p = some o → Q (.ref p) H') : ∀ p, H p = none → Q (.ref p) (upd H p o) := fun p hp => q p _ hp (Ex.new hp) upd_same
/-- the values' kinds, a row at a time -/
def KyN (M : List Addr) (K : PySem.W.Frag) (H : Hp) (T : String) (v : V) : Prop := ∃ t, Ky M K H v t ∧ PySem.W.kitOne K t (.type T) = some false
theorem KyN.ex {T : String} (e : Ex M H H') (h : KyN M K H T v) : KyN M K H' T v := let ⟨t, a, b⟩ := h; ⟨t, a.ex e, b⟩
theorem all_cons {α : Type} {P : α → Prop} {a : α} {l : List α} (h : P a) (t : ∀ x ∈ l, P x) : ∀ x ∈ a :: l, P x := fun x z => by
  rcases List.mem_cons.mp z with rfl | z
  · exact h
  · exact t x z
theorem all_nil {α : Type} {P : α → Prop} : ∀ x ∈ ([] : List α), P x := fun _ z => absurd z (List.not_mem_nil)
end
section
variable {K : PySem.W.Frag} {σ : L2.St} {H : Hp} {Q : VK} {ta tb tc : TE} {a b c : Int}
/-- a reading that gives a value at once -/
def Pv (t : TE) (σ : L2.St) (H : Hp) (v : V) : Prop := ∀ Q : VK, Q v H → t σ H Q
end
theorem Ex.drop {b : Addr} {H H' : Hp} (hb : H b = none) (e : Ex [b] H H') : Ex [] H H' := fun a o _ z => e a o (fun q => by
  have q := List.mem_singleton.mp q
  rw [q, hb] at z
  cases z) z
/-- the body of an own exception of one field -/
theorem exc_init {K : PySem.W.Frag} {C a : Addr} {f m : Str} {v : V} {H : Hp} {D : Ends} (T : OexC K C) (hno : PySem.W.findIn K (.ref C) f = some none) (ha : H a = some (exo a C none))
    (q : ∀ dx, H dx = none → dx ≠ a → D.nx [some (.ref a), some v] (upd (upd H dx (exd dx [(f, v)])) a (exo a C (some dx)))) :
    tSeq (tDrop (tVeI K (tCons (tVar 0) (tCons (tC (.str m)) tNil)))) (tOst K f (tVar 0) (tVar 1)) D [some (.ref a), some v] H :=
  ⟨_, rfl, a, C, [.str m], rfl, (by show 1 ≤ 1000; decide), T, ha, _, rfl, _, rfl, a, C, rfl, T, hno, Or.inl ⟨ha, q⟩⟩
/-- a name of the module by its value -/
theorem pe_gc {X : Cx} {x : Str} {pos : Pos} {v : V} (hg : Gl X x) (h : ∃ u, X.mg x = some u ∧ RelV v u) (hd : (x == ("__debug__" : Str)) = false := by decide) : PE X (.Name x pos) (tC v) :=
  let ⟨_, hm, r⟩ := h
  pe_glob hg hm r hd
end SL
namespace SL
open PySem PySem.Spec PyProof.Rows L2
def rSplit : V → List V → Hp → VK → Prop := fun x xs H Q => ∃ a b, x = .str a ∧ xs = [.str b] ∧ (b.length == 0) = false ∧ a.length + 2 ≤ sizeLine ∧ rNewStrs (Txt.split a b) H Q
theorem mt_uSplit {X : Cx} : MtR X "str.split" rSplit := mt_split
end SL
namespace SL
open PySem PySem.Spec PyProof.Rows L2
inductive Pl where
  | pos (i : Nat)
  | key (i : Nat)
  | low (i : Nat)
def Pl.u (us ms ws : List Value) : Pl → Value
  | .pos i => us.getD i .none
  | .key i => ws.getD i .none
  | .low i => ms.getD i .none
end SL
namespace SL
open PySem PySem.Spec PyProof.Rows L2
theorem asc_of {z : Str} (h : (z.cps.toList.all fun c => decide (c < 128)) = true) : Asc z := fun c hc => of_decide_eq_true (List.all_eq_true.mp h c hc)
end SL
namespace SL
open PySem PySem.Spec PyProof.Rows L2
section
variable {X : Cx} {CX : CXT} {C g : Addr} {n : Nat} {sp : Sp} {E : XK}
/-- an own instance stands -/
def Ins (H : Hp) (a C dx : Addr) (fs : List (Str × V)) : Prop := H a = some (.ins C dx fs)
section
variable {pins : List (Addr × Obj)} {s : Shared} {σ : L2.St} {H : Hp} {a dx : Addr} {fs : List (Str × V)}
/-- an own instance as the class's rules want it -/
theorem Ins.at_ (hi : Ins H a C dx fs) (I : Inv X pins σ H s) : ∃ ox od, PySem.W.InstAt s.heap a ox C od :=
  let ⟨_, J, _⟩ := ins_get I.hok hi
  let ⟨od, J', _⟩ := J.look
  ⟨_, od, J'⟩
/-- the own def, run anywhere below, answers as it promises -/
theorem own_says {A : Around} {us : List Value} {xs : List V} {P : VK} {Q : Value → Shared → Prop} (F : FnR X.prog X.w X.K X.mg X.base CX n g sp) (room : Room n A) (e0 : Env0 X.prog X.w X.K X.mg X.base A X.stack s H) (hx : Passes CX X E) (I : Inv X pins σ H s) (rs : Vals xs us) (q : sp xs H P E)
    (to : ∀ z H' u s', Inv X pins σ H' s' → RelV z u → P z H' → Q u s') : wpAny (model X.prog X.w) A (call (.ref g) us) Q X.xe s :=
  wpAny_mono (wpAny_call (SlX.run_at F room e0 hx I rs q)) (fun u s' ⟨z, H', J, rz, p⟩ => to z H' u s' J rz p) fun _ _ e => e
/-- the only argument is the instance -/
theorem only_ref {us : List Value} (r : Vals [V.ref a] us) : us = [.ref a] := Vals.ref1 r
end
def rReprO (C : Addr) (sp : Sp) (E : XK) : List V → Hp → VK → Prop := fun xs H Q => ∃ (a dx : Addr) (fs : List (Str × V)), xs = [V.ref a] ∧ Ins H a C dx fs ∧ sp [.ref a] H (fun z H' => ∃ y : Str, z = .str y ∧ Q z H') E
def rStrO (C : Addr) (sp : Sp) (E : XK) : List V → Hp → VK → Prop := fun xs H Q => ∃ (a dx : Addr) (fs : List (Str × V)), xs = [V.ref a] ∧ Ins H a C dx fs ∧ sp [.ref a] H (fun z H' => ∃ y : Str, z = .str y ∧ Q z H') E
theorem call_strO (hs : PySem.W.findIn X.K (.ref C) "__str__" = some (some (.ref g))) (hf : PySem.W.isFn X.K (.ref g) = true) (F : FnR X.prog X.w X.K X.mg X.base CX n g sp) (hr : Room (n + 2) X.A) (hx : Passes CX X E) : CallR X (.type "str") (rStrO C sp E) := by
  rintro pins s σ H _ us Q I r ⟨a, dx, fs, rfl, hi, q⟩
  obtain rfl := only_ref r
  obtain ⟨ox, od, J⟩ := hi.at_ I
  have room : Room n X.A.in1.in1 := (Room.in1 (k := n + 1) hr).in1
  refine PySem.W.kso_call room.units0 I.kIn J hs hf (own_says (xs := [.ref a]) F room I.env0.in1.in1 hx I (.cons rfl .nil) q ?_)
  rintro _ H' u s' J' rz ⟨y, rfl, q'⟩
  obtain ⟨t, rfl⟩ := rz
  exact ⟨.str y, H', J', ⟨_, rfl⟩, q'⟩
end
end SL
namespace SL
open PySem PySem.Spec PyProof.Rows L2
open AutoSeq1 (wpAny_loadPart')
open MeetsSeq MeetsSeq2 MeetsSeq3 SeqRoads2
end SL
namespace SL
open PySem PySem.Spec PyProof.Rows L2
end SL
namespace SL
open PySem PySem.Spec PyProof.Rows L2
end SL
namespace SL
open PySem PySem.SeqAt GQ AutoSeq1 MeetsSeq MeetsSeq2 MeetsSeq3 SeqRoads2
end SL
namespace SL
open PySem PySem.Spec PyProof.Rows L2
section
variable {prog : Program} {w : World} {A : Around} {E : Value → Shared → Prop} {s : Shared}
/-- sorted(t) of a tuple: whatever list.sort makes of its items; h1 = the heap in which the new list is laid -/
theorem sorted_tup {l : Addr} {vs : List Value} {Good : Array Value → Prop} {Q : Value → Shared → Prop} (hl : s.heap.IsTuple l vs.toArray) (few : vs.length < 64)
    (srt : ∀ (s2 : Shared) (p : Addr) (P : PySem.Fin → Shared → Prop) (A2 : Around) (E2 : Value → Shared → Prop), s2.heap.get? p = some (seqObj "list" vs.toArray 0) → (∀ out, Good out → P (.done (.ret .none)) { s2 with heap := sortedHeap s2.heap p vs out }) → wpAny (model prog w) A2 (Builtin.«list.sort» ⟨[.ref p], []⟩) P E2 s2)
    (h : ∀ (h1 h2 : Heap) (c : Nat) out, (∀ b o, s.heap.get? b = some o → h1.get? b = some o) → (∀ b o, s.heap.get? b = some o → h2.get? b = some o) → h2.get? h1.objs.size = some (seqObj "list" out c) → Good out → Q (.ref h1.objs.size) { s with heap := h2 }) : wpAny (model prog w) A (call (.builtin "sorted") [.ref l]) Q E s := by
  obtain ⟨ob, at_, cl, ep, its⟩ := hl
  have room : vs.toArray.size ≤ sizeLine := small64 few
  refine Calls.call_function_entry kind_sorted plain_sorted entry_sorted (args_sorted1 _) ?_
  show wpAny _ _ (checkCount "sorted" 1 1 _ >>= _) _ _ _
  refine wpAny_bind (wpAny_pure (wpAny_bind (wpAny_collect_seq l (.inr rfl) at_ cl its (fun h1 grown => wpAny_bind (wpAny_newList ?_)) room)))
  have new : (h1.push (seqObj "list" vs.toArray 0)).get? h1.objs.size = some (seqObj "list" vs.toArray 0) := Heap.get?_push_size _ rfl
  refine wpAny_bind (wpAny_holding (wpAny_call_entry slot_list_sort ⟨_, new, rfl⟩ entry_list_sort (srt _ _ _ _ _ new fun out good => ⟨_, rfl, ?_⟩) (args_list_sort _)))
  obtain ⟨c, there⟩ := sortedHeap_at (vs := vs) (out := out) new
  refine wpAny_pure ⟨_, rfl, h h1 _ c out grown (fun b o e => ?_) there good⟩
  have lt : b < h1.objs.size := Heap.lt_size (grown b o e)
  exact (sortedHeap_old (Nat.ne_of_lt lt) (by rw [size_push']; exact Nat.lt_succ_of_lt lt)).trans (Heap.get?_push_of_some _ (grown b o e))
end
section
variable {X : Cx}
def rSortedIT (K : PySem.W.Frag) : List V → Hp → VK → Prop := fun vs H Q => ∃ (a : Addr) (ns : List Int), vs = [V.ref a] ∧ SqT K H a (ns.map V.int) ∧ ns.length < 64 ∧
  ∀ (ns' : List Int) (p : Addr), ns'.Perm ns → ns'.Pairwise (· ≤ ·) → H p = none → Q (.ref p) (upd H p (.lst (ns'.map V.int)))
def rSortedST (K : PySem.W.Frag) : List V → Hp → VK → Prop := fun vs H Q => ∃ (a : Addr) (xs : List Str), vs = [V.ref a] ∧ SqT K H a (xs.map V.str) ∧ xs.length < 64 ∧
  ∀ (ys : List Str) (p : Addr), ys.Perm xs → sortedS ys = true → H p = none → Q (.ref p) (upd H p (.lst (ys.map V.str)))
/-- a sorted list is laid and tracked -/
theorem laid_sorted {pins : List (Addr × Obj)} {s : Shared} {σ : L2.St} {H : Hp} {zs : List V} {out : List Value} {h1 h2 : Heap} {c : Nat} (I : Inv X pins σ H s) (g1 : ∀ b o, s.heap.get? b = some o → h1.get? b = some o) (g2 : ∀ b o, s.heap.get? b = some o → h2.get? b = some o)
    (there : h2.get? h1.objs.size = some (seqObj "list" out.toArray c)) (r : Vals zs out) (few : zs.length < 64) : H h1.objs.size = none ∧ Inv X pins σ (upd H h1.objs.size (.lst zs)) { s with heap := h2 } := by
  have off : H h1.objs.size = none := (I.hok.kept g1).fresh (Nat.le_refl _)
  have free : s.heap.get? h1.objs.size = none := by
    cases q : s.heap.get? h1.objs.size with
    | none => rfl
    | some o => exact absurd (Heap.lt_size (g1 _ o q)) (Nat.lt_irrefl _)
  exact ⟨off, I.laidN (t' := s.toks) g2 free off ⟨small64 few, out, c, r, there⟩⟩
theorem cr_sortedIT : CallR X (.builtin "sorted") (rSortedIT X.K) := by
  rintro pins s σ H vs us Q I r ⟨a, ns, rfl, hs, few, q⟩
  obtain ⟨its, rv, tup, _⟩ := I.tuple hs
  have areI := rv.ints
  have len : its.length = ns.length := areI.length
  rw [Vals.ref1 r]
  refine sorted_tup (Good := fun out => ∃ ns', IntsAre out.toList ns' ∧ ns'.Perm ns ∧ ns'.Pairwise (· ≤ ·)) tup (len ▸ few) (fun s2 p P A2 E2 new fin => list_sort_tree new areI (len ▸ few) fun out ns' a1 a2 a3 => fin out ⟨ns', a1, a2, a3⟩) ?_
  rintro h1 h2 c out g1 g2 there ⟨ns', a1, a2, a3⟩
  obtain ⟨off, J⟩ := laid_sorted (zs := ns'.map V.int) (out := out.toList) I g1 g2 there (vals_of_ints a1) (by rw [List.length_map, a2.length_eq]; exact few)
  exact ⟨.ref _, _, J, rfl, q ns' _ a2 a3 off⟩
theorem cr_sortedST : CallR X (.builtin "sorted") (rSortedST X.K) := by
  rintro pins s σ H vs us Q I r ⟨a, xs, rfl, hs, few, q⟩
  obtain ⟨its, rv, tup, _⟩ := I.tuple hs
  have areS := rv.strs
  have len : its.length < 64 := by rw [← rv.length, List.length_map]; exact few
  rw [Vals.ref1 r]
  refine sorted_tup (Good := fun out => ∃ ys, StrsAre out.toList ys ∧ ys.Perm xs ∧ sortedS ys = true) tup len (fun s2 p P A2 E2 new fin => ?_) ?_
  · refine list_sort_treeK strKind_oneLt new areS.keysOf (fun v₁ v₂ rest e => keyKind_strs (e ▸ areS)) len fun st' hp hs' => fin _ ?_
    obtain ⟨ys, a1, a2, a3⟩ := sorted_out_str areS hp hs'
    exact ⟨ys, a1, a2, a3⟩
  · rintro h1 h2 c out g1 g2 there ⟨ys, a1, a2, a3⟩
    obtain ⟨off, J⟩ := laid_sorted (zs := ys.map V.str) (out := out.toList) I g1 g2 there (vals_of_strs a1) (by rw [List.length_map, a2.length_eq]; exact few)
    exact ⟨.ref _, _, J, rfl, q ys _ a2 a3 off⟩
end
/-- enumerate(t): the iterator of the tuple, and what counts over it -/
theorem tup_counted (t : Addr) (items : Array Value) :
    Meets (Builtin.«enumerate.__new__» ⟨[.type "enumerate", .ref t], []⟩) (fun _ R s => s.heap.IsTuple t items ∧
      ∀ h' e it, (∀ b o, s.heap.get? b = some o → h'.get? b = some o) → s.heap.objs.size ≤ e → s.heap.objs.size ≤ it → e ≠ it → IsEnum h' e it 0 .none → h'.IsTupleIter it t 0 → R (.ok (.ret (.ref e))) { s with heap := h' }) := by
  refine .of_wp fun prog w A R s ⟨tup, to⟩ => ?_
  obtain ⟨hp, g, d, tk, os⟩ := s
  have sub := sub_enumerate
  have start : ∀ {A' : Around} {E : Value → Shared → Prop} {Q : Value → Shared → Prop}, Q (.ref hp.objs.size) _ → wpAny (model prog w) A' (pyIter (.ref t)) Q E ⟨hp, g, d, tk, os⟩ := fun q => wpAny_pyIter_tuple tup q
  let ti : Obj := { cls := .type "tuple_iterator", data := .fields #[.ref t, .int 0 0] }
  let en : Obj := { cls := .type "enumerate", data := .fields #[.none, .bool false, .ref hp.objs.size, rawInt 0, .none, .none] }
  have end_ : R (.ok (.ret (.ref (hp.push ti).objs.size))) ⟨(hp.push ti).push en, g, d, tk, os⟩ :=
    to _ (hp.push ti).objs.size hp.objs.size (fun b o at_ => Heap.get?_push_of_some _ (Heap.get?_push_of_some _ at_)) (by rw [Heap.size_push]; exact Nat.le_succ _) (Nat.le_refl _) (by rw [Heap.size_push]; exact Nat.succ_ne_self _) (Heap.get?_push_size _ rfl)
      ⟨ti, Heap.get?_push_of_some _ (Heap.get?_push_size _ rfl), rfl, rfl⟩
  wp_walk using start
  refine wpAny_stack_any fun _ => wpAny_pure ?_
  split
  case h_1 => rename_i c _ _ _ _ _; cases (c == Value.type "enumerate") <;> (wp_walk using start; exact ⟨_, rfl, end_⟩)
  all_goals (wp_walk using start; exact ⟨_, rfl, end_⟩)
/-- what enumerate draws from a tuple -/
theorem tup_walk {prog : Program} {w : World} {A : Around} (calm : A.handled = none) {a e it : Addr} (d1 : e ≠ it) (d2 : a ≠ it) (d3 : a ≠ e) (items : Array Value) :
    ∃ Mid, WalksT prog w A e [e, it, a] [e, it] items.size (fun i vals => ∃ t x, items[i]? = some x ∧ vals = #[.int i t, x]) (fun i h => (∃ old, IsEnum h e it i old) ∧ h.IsTupleIter it a i ∧ h.IsTuple a items) Mid :=
  ⟨_, WalksT.enumerateD (Draws.tuple (A := A.in1) calm it a d2 items) e d1 (by simp [d1, Ne.symm d3]) (by simp)⟩
/-- an iterator that stands behind the last item -/
theorem tup_spent {prog : Program} {w : World} {A : Around} (calm : A.handled = none) {a it : Addr} {i : Nat} {items : Array Value} (out : items[i]? = none) :
    Draws prog w A it [it, a] i (fun _ _ => False) (fun j h => j = i ∧ h.IsTupleIter it a i ∧ h.IsTuple a items) where
  live := fun _ _ ⟨_, ⟨o, at_, _⟩, _⟩ => ⟨o, at_⟩
  frame := fun _ _ _ ⟨ej, it_, tup⟩ k => ⟨ej, it_.at (k it (List.mem_cons_self ..)), tup.at (k a (List.mem_cons_of_mem _ (List.mem_cons_self ..)))⟩
  item := fun j _ _ _ lt ⟨ej, _⟩ _ => absurd ej (Nat.ne_of_lt lt)
  done := fun _ _ _ ⟨_, it_, tup⟩ to => wpAny_nextOf_tuple_end calm it_ tup out to
/-- the tuple at a, each item in a new pair -/
def IteT (K : PySem.W.Frag) (a : Addr) : It :=
  ⟨fun i H => ∃ (xs : List V) (x : V), SqT K H a xs ∧ xs[i]? = some x, fun i H v H' => ∃ (T : Addr) (x : V), v = .ref T ∧ H T = none ∧ H' = upd H T (.tup [.int i, x]) ∧ ∀ xs, SqT K H a xs → xs[i]? = some x, fun i H => ∃ xs : List V, SqT K H a xs ∧ xs.length ≤ i⟩
theorem turn_enumT {P : Program} {w : World} {K : PySem.W.Frag} {elts : List Expr} {kk : Nat} {tpos : Pos} {a e it : Addr} (d1 : e ≠ it) (d2 : a ≠ it) (d3 : a ≠ e) :
    Turn P w K (.Tuple elts kk tpos) (IteT K a) [e, it] e (fun i h => (∃ old, IsEnum h e it i old) ∧ h.IsTupleIter it a i) where
  mem := List.mem_cons_self ..
  obj := by
    rintro i h ⟨⟨old, is⟩, ⟨o, at_, _, dt⟩⟩ b hb
    rcases List.mem_cons.1 hb with rfl | hb
    · exact ⟨_, is, nofun⟩
    · cases List.mem_singleton.1 hb
      exact ⟨o, at_, fun v q => by cases dt.symm.trans q⟩
  keep := fun i h h' ⟨⟨old, is⟩, at_⟩ k => ⟨⟨old, k e (List.mem_cons_self ..) _ is⟩, at_.at fun o q => k it (List.mem_cons_of_mem _ (List.mem_cons_self ..)) o q⟩
  item := by
    rintro X rfl rfl rfl calm i pins s σ H E I away ⟨is, at_⟩ ⟨xs, x, held, nth⟩
    obtain ⟨its, rv, tup, _⟩ := I.tuple held
    obtain ⟨u, nth', ru⟩ := rv.get nth
    have few : i < its.toArray.size := by rw [List.size_toArray]; exact (List.getElem?_eq_some_iff.1 nth').1
    obtain ⟨Mid, W⟩ := tup_walk (prog := X.prog) (w := X.w) (I.ok.hd calm) d1 d2 d3 its.toArray
    refine W.item i s _ _ few ⟨is, at_, tup⟩ fun T vals h1 tk ⟨t, y, nth2, ev⟩ new pair mid same => ⟨_, rfl, W.go elts kk tpos i T _ _ _ mid fun h2 st same2 => ?_⟩
    obtain rfl : u = y := by rw [List.getElem?_toArray, nth'] at nth2; exact Option.some.inj nth2
    subst ev
    have pair2 : h2.IsTuple T #[.int i t, u] := pair.at fun o q => same2 T o (W.apart i T h1 mid) q
    have off : H T = none := I.hok.fresh new
    refine ⟨.ref T, upd H T (.tup [.int i, x]), ?_, rfl, ⟨T, x, rfl, off, rfl, fun ys hy => I.tuple_inj hy held ▸ nth⟩, ⟨st.1, st.2.1⟩, fun b hb => ?_⟩
    · exact I.turnedNew (t' := tk) (ch := [e, it]) (fun b o out q => same2 b o out (same b o out q)) away new ⟨by show 2 ≤ sizeLine; decide, [.int i t, u], .cons ⟨_, rfl⟩ (.cons ru .nil), pair2⟩
    · rw [upd_ne (fun z : b = T => W.apart i T h1 mid (z ▸ hb))]
      exact (away b hb).1
  done := by
    rintro X rfl rfl rfl calm i pins s σ H E I away ⟨⟨old, is⟩, at_⟩ ⟨xs, held, out⟩
    obtain ⟨its, rv, tup, _⟩ := I.tuple held
    obtain ⟨f0, f1, f2, f3, f4, f5⟩ := away it (List.mem_cons_of_mem _ (List.mem_cons_self ..))
    exact wpAny_pyNext_enum_endD (tup_spent (A := X.A.in1) (I.ok.hd calm) (items := its.toArray) (by rw [List.getElem?_toArray, List.getElem?_eq_none_iff, ← rv.length]; exact out)) is ⟨rfl, at_, tup⟩ fun h' same => ⟨rfl, I.turned (t' := s.toks) same f0 f1 f3 f4 f5⟩
  self := fun A i s Q E ⟨⟨_, is⟩, _⟩ h => wpAny_pyIter_enum is h
theorem call_enumT {prog : Program} {w : World} {A : Around} {E : Value → Shared → Prop} {s : Shared} {a : Addr} {items : Array Value} {Q : Value → Shared → Prop} (tup : s.heap.IsTuple a items)
    (to : ∀ h' e it, (∀ b o, s.heap.get? b = some o → h'.get? b = some o) → s.heap.objs.size ≤ e → s.heap.objs.size ≤ it → e ≠ it → IsEnum h' e it 0 .none → h'.IsTupleIter it a 0 → Q (.ref e) { s with heap := h' }) :
    wpAny (model prog w) A (call (.type "enumerate") [.ref a]) Q E s :=
  callType_new F.called_enumerate (by decide) (F.typeCall_enumerate_1 _) (F.newCall_enumerate_1 _) (fun obj => F.args_object_init_2 obj _) F.entry_enumerate_new (tup_counted a items)
    ⟨tup, fun h' e it grown le1 le2 ne is at_ => ⟨⟨_, is, rfl⟩, to h' e it grown le1 le2 ne is at_⟩⟩
/-- enumerate of a list or of a tuple -/
def iEnumB (K : PySem.W.Frag) (ta : TA) : TI := fun σ H R => ta σ H fun vs H1 => ∃ a xs, vs = [.ref a] ∧ ((SqL K H1 a xs ∧ R (Ite K a) H1) ∨ (SqT K H1 a xs ∧ R (IteT K a) H1))
section
variable {X : Cx} {pins : List (Addr × Obj)} {σ : L2.St} {H : Hp} {s : Shared} {R : It → Hp → Prop} {elts : List Expr} {kk : Nat} {tpos : Pos}
/-- two new cells that the heap does not know -/
theorem new_two {h' : Heap} {J : It} {e it : Addr} {tn : Nat → Heap → Prop} (I : Inv X pins σ H s) (grown : ∀ b o, s.heap.get? b = some o → h'.get? b = some o) (le1 : s.heap.objs.size ≤ e) (le2 : s.heap.objs.size ≤ it)
    (T : Turn X.prog X.w X.K (.Tuple elts kk tpos) J [e, it] e tn) (st : tn 0 h') (q : R J H) : PIE X pins σ (.Tuple elts kk tpos) R (.ref e) { s with heap := h' } :=
  ⟨e, [e, it], tn, J, H, rfl, I.kept (t' := s.toks) grown, T, st, List.forall_mem_cons.2 ⟨I.fpOk le1 (I.hok.fresh le1), List.forall_mem_cons.2 ⟨I.fpOk le2 (I.hok.fresh le2), nofun⟩⟩, q⟩
theorem counts_list {a : Addr} {xs : List V} (I : Inv X pins σ H s) (held : SqL X.K H a xs) (q : R (Ite X.K a) H) :
    wpAny (model X.prog X.w) X.A (call (.type "enumerate") [.ref a]) (fun v s1 => wpAny (model X.prog X.w) X.A (pyIter v) (PIE X pins σ (.Tuple elts kk tpos) R) X.xe s1) X.xe s := by
  obtain ⟨its, _, lst, _⟩ := I.list held
  exact call_enumerate_list lst.isList fun h' is at_ _ grown => wpAny_pyIter_enum is (new_two I grown (Nat.le_succ _) (Nat.le_refl _) (turn_enum ..) ⟨⟨.none, is⟩, at_, Nat.succ_ne_self _⟩ q)
theorem counts_tuple {a : Addr} {xs : List V} (I : Inv X pins σ H s) (held : SqT X.K H a xs) (q : R (IteT X.K a) H) :
    wpAny (model X.prog X.w) X.A (call (.type "enumerate") [.ref a]) (fun v s1 => wpAny (model X.prog X.w) X.A (pyIter v) (PIE X pins σ (.Tuple elts kk tpos) R) X.xe s1) X.xe s := by
  obtain ⟨its, _, tup, _⟩ := I.tuple held
  have lt : a < s.heap.objs.size := Heap.lt_size tup.choose_spec.1
  exact call_enumT tup fun h' e it grown le1 le2 ne is at_ => wpAny_pyIter_enum is (new_two I grown le1 le2 (turn_enumT ne (Nat.ne_of_lt (Nat.lt_of_lt_of_le lt le2)) (Nat.ne_of_lt (Nat.lt_of_lt_of_le lt le1))) ⟨⟨.none, is⟩, at_⟩ q)
theorem pi_enumB {e : Expr} {ta : TA} {p pos : Pos} (hg : Gl X "enumerate") (hm : X.mg "enumerate" = none) (ha : PA X [e] ta) (hs : starEach [e] X.env = [(false, eval e X.env)] := by rfl) :
    PI X (.Tuple elts kk tpos) (.Call (.Name "enumerate" p) [e] [] pos) (iEnumB X.K ta) where
  run pins s σ H R I h := by
    refine Call_ (ld_blt I hg hm boot_enumerate (PyProof.Rows.callWith_type1 (thn (ha.run pos pins s σ H _ I h) ?_) hs rfl))
    rintro us s1 ⟨_, H1, I1, rs, a, xs, rfl, q⟩
    obtain rfl := Vals.ref1 rs
    rcases q with ⟨held, q⟩ | ⟨held, q⟩
    · exact counts_list I1 held q
    · exact counts_tuple I1 held q
end
end SL
namespace SL
open PySem PySem.Spec PyProof.Rows L2
abbrev Cl := Value × Nat × (Addr → Value → Option Addr → TS)
/-- what the clauses wish of an exception of the body, one after the other; one of them takes it -/
def wAses (K : PySem.W.Frag) (D : Ends) : List Cl → WX
  | [] => fun _ _ _ _ => False
  | (c, i, ts) :: r => fun cls d σ H => ∃ b, PySem.W.exmOne K cls c = some b ∧ (b = true → ∀ a, H a = none → ts a cls d { nx := fun σ' H' => D.nx (σ'.set i none) H', rt := D.rt, bk := fun σ' H' => D.bk (σ'.set i none) H', ct := fun σ' H' => D.ct (σ'.set i none) H' } (σ.set i (some (.ref a))) H) ∧ (b = false → wAses K D r cls d σ H)
inductive HdsA (X : Cx) : List ExceptHandler → List Cl → Prop
  | rest (hds : List ExceptHandler) : HdsA X hds []
  | cons {x n : Str} {c : Value} {i : Nat} {ts : Addr → Value → Option Addr → TS} {b₀ : Stmt} {suite : List Stmt} {np pos' : Pos} {hds : List ExceptHandler} {l : List Cl} (hi : X.N[i]? = some n) (hln : X.env.kindOf n = some .local) (hc : Names X x c)
      (hsu : ∀ (a : Addr) (oe : Obj) (cls : Value) (d : Option Addr) (pn : List (Addr × Obj)), Zc cls d oe → (∃ vs, oe.data = .fields vs) → PSs (X.suite a ((a, oe) :: pn)) (b₀ :: suite) (ts a cls d)) (r : HdsA X hds l) :
      HdsA X (.ExceptHandler (some (.Name x np)) (some n) (b₀ :: suite) pos' :: hds) ((c, i, ts) :: l)
section
variable {X : Cx} {body : List Stmt} {h₀ : ExceptHandler} {hds : List ExceptHandler} {l : List Cl} {pos : Pos} {tb : WX → TS} {pins : List (Addr × Obj)} {D : Ends} {σ : L2.St} {H : Hp} {s : Shared} {B : Heap} {a : Addr} {cls c : Value} {d : Option Addr} {x n : Str} {i : Nat}
/-- what ends within the try's body ends so without it -/
theorem out_of_try {pn : List (Addr × Obj)} {xe : Value → Shared → Prop} {f : Flow} (lift : ∀ {σ H}, Inv (X.tr pn xe) [] σ H s → Inv X pins σ H s) (q : SP (X.tr pn xe) [] D f s) : SP X pins D f s := by
  match f, q with
  | .next, ⟨σ', H', J, q⟩ => exact ⟨σ', H', lift J, q⟩
  | .brk, ⟨σ', H', J, q⟩ => exact ⟨σ', H', lift J, q⟩
  | .cont, ⟨σ', H', J, q⟩ => exact ⟨σ', H', lift J, q⟩
  | .ret u, ⟨v, σ', H', J, r, q⟩ => exact ⟨v, σ', H', lift J, r, q⟩
/-- an exception of the body is in the air at a: it can be landed wherever the heap goes on -/
structure Air (X : Cx) (pins : List (Addr × Obj)) (σ : L2.St) (H : Hp) (B : Heap) (a : Addr) (cls : Value) (d : Option Addr) (s : Shared) : Prop where
  fl : HandSPX.FlyingZ B (X.env :: X.outer) a (Zc cls d) s.heap
  land : ∀ h', B.StaysIn h' → s.heap.UpToSlots h' → Inv X pins σ H { s with heap := h' }
  off : H a = none
/-- it is no frame of the function's -/
theorem Air.apart (q : Air X pins σ H B a cls d s) (hf : X.env.frame = some X.env.locals) {o : Obj} {vs : Array Value} (at_ : s.heap.get? a = some o) (fd : o.data = .fields vs) : a ≠ X.env.locals ∧ a ∉ X.fs := by
  have no : a ∉ frs (X.env :: X.outer) := fun m => by
    obtain ⟨_, o2, e2, hn⟩ := q.fl.2.2.1.mem m
    obtain rfl : o = o2 := Option.some.inj (at_.symm.trans e2)
    exact hn vs fd
  refine ⟨fun e => no (List.mem_filterMap.mpr ⟨X.env, .head _, by rw [hf, e]⟩), fun m => ?_⟩
  obtain ⟨y, m1, m2⟩ := List.mem_filterMap.mp m
  exact no (List.mem_filterMap.mpr ⟨y, .tail _ m1, m2⟩)
/-- so a suite may run on it -/
theorem Air.suit (q : Air X pins σ H B a cls d s) (hf : X.env.frame = some X.env.locals) (J : Inv X pins σ H s) : ∃ oe, s.heap.get? a = some oe ∧ Zc cls d oe ∧ (∃ vs, oe.data = .fields vs) ∧ Inv (X.suite a ((a, oe) :: (X.pn ++ pins))) [] σ H s := by
  obtain ⟨oe, vs, h1, h2, h3⟩ := q.fl.there
  obtain ⟨k1, k2⟩ := q.apart hf h1 h3
  exact ⟨oe, h1, h2, ⟨vs, h3⟩, J.suite h1 h3 q.off k1 k2⟩
/-- the clause's name, looked up while the exception is handled -/
theorem clause_name {pn : List (Addr × Obj)} {np : Pos} {Q : Value → Shared → Prop} {E : Value → Shared → Prop} (S : Inv (X.suite a pn) [] σ H s) (hc : Names X x c) (q : Q c s) : wpAny (model X.prog X.w) (X.A.mark (some (.ref a))) (eval (.Name x np) X.env) Q E s := by
  rcases hc with ⟨g1, g2, g3 | ⟨g3, g4, g5⟩⟩
  · exact ld_glob (X := X.suite a pn) S g1 g3 q g2
  · exact ld_blt (X := X.suite a pn) S g1 g3 g4 q g5 g2
/-- the clauses, one after the other -/
theorem Air.handle (hf : X.env.frame = some X.env.locals) (ok : X.Ok) (hN : X.N.Nodup) (q : Air X pins σ H B a cls d s) (J : Inv X pins σ H s) (hh : HdsA X hds l) (w : wAses X.K D l cls d σ H) : wpAny (model X.prog X.w) X.A (handleBy (.ref a) X.env hds) (SP X pins D) X.xe s := by
  induction hh with
  | rest _ => exact w.elim
  | @cons x n c i ts b₀ suite np pos' hds2 l2 hi hln hc hsu _ more =>
    obtain ⟨b, fits, yes, no⟩ := w
    obtain ⟨oe, here, hz, _, S⟩ := q.suit hf J
    have kind : PySem.W.Looks (model X.prog X.w) s.heap (typeOf (.ref a)) cls := fun _ _ _ _ k z => wpAny_typeOf_ref (k _ _ here) (hz.1.symm ▸ z)
    refine wpAny_handleBy_cons (codeAny_handlers_test (clause_name S hc ((PySem.W.exm_one (M := model X.prog X.w) J.kIn kind fits).here ?_))) (fun z => nomatch z)
    match b, yes, no with
    | false, _, no => exact more (no rfl)
    | true, yes, _ =>
      refine codeAny_handlers_suite_as (HandSPX.lands_againZ q.fl fun h4 fl4 up4 => ?_)
      have q4 : Air X pins σ H B a cls d { s with heap := h4 } := ⟨fl4, fun h5 st up => q.land h5 st (up4.trans up), q.off⟩
      obtain ⟨oe4, _, hz4, hv4, S4⟩ := q4.suit hf (q.land h4 fl4.1 up4)
      refine store_ok (X := X.suite a ((a, oe4) :: (X.pn ++ pins))) (v := .ref a) S4 hN hi (.inl hln) rfl (fun s5 S5 => wpAny_mono ((hsu a oe4 cls d _ hz4 hv4).run [] s5 _ H _ S5 (yes rfl a q.off)) (fun f s6 ends => ?_) fun _ _ z => z.elim) (.inr hln)
      match f, ends with
      | .next, ⟨_, _, S6, e⟩ => exact gone_ok (S6.unsuite ok) hN hi hln fun _ J7 => ⟨_, _, J7, e⟩
      | .brk, ⟨_, _, S6, e⟩ => exact gone_ok (S6.unsuite ok) hN hi hln fun _ J7 => ⟨_, _, J7, e⟩
      | .cont, ⟨_, _, S6, e⟩ => exact gone_ok (S6.unsuite ok) hN hi hln fun _ J7 => ⟨_, _, J7, e⟩
      | .ret _, ⟨_, _, _, S6, r, e⟩ => exact gone_ok (S6.unsuite ok) hN hi hln fun _ J7 => ⟨_, _, _, J7, r, e⟩
theorem ps_try_ases (hs : X.stack = X.env :: X.outer) (hf : X.env.frame = some X.env.locals) (hN : X.N.Nodup)
    (run : ∀ (W : WX) (pn : List (Addr × Obj)) (xe : Value → Shared → Prop), Takes (X.tr pn xe) W → PassesOwn (model X.prog X.w) X.A X.env xe → PSs (X.tr pn xe) body (tb W))
    (hh : HdsA X (h₀ :: hds) l) : PS X (.Try body (h₀ :: hds) [] [] pos) (fun D σ H => tb (wAses X.K D l) D σ H) := by
  constructor
  intro pins s σ H D I h
  have body := fun z0 => run (wAses X.K D l) (X.pn ++ pins) (fun e s1 => wpAny (model X.prog X.w) X.A (noteFrame e X.env) (fun _ s2 => wpAny (model X.prog X.w) X.A (setFlight e none) (fun _ s3 => wpAny (model X.prog X.w) X.A (handleBy e X.env (h₀ :: hds)) (SP X pins D) X.xe s3) X.xe s2) X.xe s1) z0 PassesOwn.looking
  refine wpAny_Try_except (wpAny_mono ((body fun u s1 z => ?_).run [] s σ H D (I.toTry _) h) (fun f s1 ends => ?_) fun _ _ z => z)
  · obtain ⟨a, B, sI, _, σ', H', cls, d, rfl, J, nb, up, sky, off, os, ag, w⟩ := z
    rw [hs] at sky
    refine Sky.land Zc.steady (by rw [I.ok.frames, hs]) hf sky fun h3 fl up3 => ?_
    have land : ∀ h5, B.StaysIn h5 → h3.UpToSlots h5 → Inv X pins σ' H' { s1 with heap := h5 } := fun h5 st up5 => (J.ofTry I.ok).landed nb st ((up.trans up3).trans up5) os ag
    exact Air.handle (B := B) (cls := cls) (d := d) hf I.ok hN ⟨fl, land, off⟩ (land h3 fl.1 (.refl _)) hh w
  · have ends := out_of_try (X := X) (fun J => J.ofTry I.ok) ends
    match f, ends with
    | .next, ends => exact wpAny_execs_nil ends
    | .brk, ends => exact ends
    | .cont, ends => exact ends
    | .ret _, ends => exact ends
end
end SL
namespace SL
open PySem PySem.Spec PyProof.Rows L2
def pdKey : Key → PyData
  | .inl i => .int i
  | .inr x => .str x
inductive ScA : List (Key × V) → List (PyData × PyData) → Prop
  | nil : ScA [] []
  | non {k : Key} {r : List (Key × V)} {s : List (PyData × PyData)} : ScA r s → ScA ((k, .non) :: r) ((pdKey k, .none) :: s)
  | bl {k : Key} {r : List (Key × V)} {s : List (PyData × PyData)} (b : Bool) : ScA r s → ScA ((k, .bl b) :: r) ((pdKey k, .bool b) :: s)
  | int {k : Key} {r : List (Key × V)} {s : List (PyData × PyData)} (i : Int) : ScA r s → ScA ((k, .int i) :: r) ((pdKey k, .int i) :: s)
  | str {k : Key} {r : List (Key × V)} {s : List (PyData × PyData)} (x : Str) : ScA r s → ScA ((k, .str x) :: r) ((pdKey k, .str x) :: s)
theorem reads_key {h : Heap} {k : Key} {u : Value} (e : keyIs k u = true) : Reads h u (pdKey k) [] := by
  have r := relV_key e
  cases k with
  | inl i =>
    obtain ⟨t, rfl⟩ := (show ∃ t, u = .int i t from r)
    exact .int i t
  | inr x =>
    obtain ⟨t, rfl⟩ := (show ∃ t, u = .str x t from r)
    exact .str x t
theorem reads_kvs {P : Program} {w : World} {h : Heap} : ∀ {kvs : List (Key × V)} {ds : List (PyData × PyData)} {vs : List (Key × Value)} {es : List DictEntry}, ScA kvs ds → KV kvs vs → Pairs (mixKind P w) es vs →
    ReadsAll h (es.map (·.key)) (ds.map (·.1)) [] ∧ ReadsAll h (es.map (·.val)) (ds.map (·.2)) []
  | _, _, _, _, .nil, .nil, .nil => ⟨.nil, .nil⟩
  | _, _, _, _, .non s, .cons r t, .cons k1 k2 k3 => by
    obtain ⟨i1, i2⟩ := reads_kvs s t k3
    obtain ⟨e1, e2⟩ := r
    refine ⟨.cons (as := []) (reads_key (by dsimp only at e1; rw [e1]; exact k1)) i1, .cons (as := []) ?_ i2⟩
    dsimp only at k2 e2 ⊢
    rw [k2, (show _ = Value.none from e2)]
    exact .none
  | _, _, _, _, .bl b s, .cons r t, .cons k1 k2 k3 => by
    obtain ⟨i1, i2⟩ := reads_kvs s t k3
    obtain ⟨e1, e2⟩ := r
    refine ⟨.cons (as := []) (reads_key (by dsimp only at e1; rw [e1]; exact k1)) i1, .cons (as := []) ?_ i2⟩
    dsimp only at k2 e2 ⊢
    rw [k2, (show _ = Value.bool b from e2)]
    exact .bool b
  | _, _, _, _, .int i s, .cons r t, .cons k1 k2 k3 => by
    obtain ⟨i1, i2⟩ := reads_kvs s t k3
    obtain ⟨e1, e2⟩ := r
    refine ⟨.cons (as := []) (reads_key (by dsimp only at e1; rw [e1]; exact k1)) i1, .cons (as := []) ?_ i2⟩
    dsimp only at k2 e2 ⊢
    rw [k2]
    obtain ⟨q, e⟩ := (show ∃ q, _ = Value.int i q from e2)
    rw [e]
    exact .int i q
  | _, _, _, _, .str x s, .cons r t, .cons k1 k2 k3 => by
    obtain ⟨i1, i2⟩ := reads_kvs s t k3
    obtain ⟨e1, e2⟩ := r
    refine ⟨.cons (as := []) (reads_key (by dsimp only at e1; rw [e1]; exact k1)) i1, .cons (as := []) ?_ i2⟩
    dsimp only at k2 e2 ⊢
    rw [k2]
    obtain ⟨q, e⟩ := (show ∃ q, _ = Value.str x q from e2)
    rw [e]
    exact .str x q
def uReprD : List V → Hp → VK → Prop := fun xs H Q => ∃ a kvs ds, xs = [.ref a] ∧ H a = some (.dK kvs) ∧ ScA kvs ds ∧ Shows (.dict ds) ∧ Q (.str (PyData.dict ds).shown) H
theorem call_uReprD {X : Cx} (hg : X.A.guards = some []) (hu : X.A.units + 130 < cLine) : CallR X (.builtin "repr") uReprD := by
  intro pins s σ H xs us Q I r h
  obtain ⟨a, kvs, ds, rfl, ha, sc, sh, q⟩ := h
  obtain ⟨u, rfl, ru⟩ := vals1 r
  cases (show u = Value.ref a from ru)
  obtain ⟨_, hs, vs, kv, o, es, ep, ho, hx, hdt, _, hp, _⟩ := I.hok a _ ha
  obtain ⟨r1, r2⟩ := reads_kvs (h := s.heap) sc kv hp
  have rd : Reads s.heap (.ref a) (.dict ds) (a :: [] ++ []) := .dict ho hx.1 hdt r1 r2
  refine repr_of_reads' rd sh.sh (fun _ hm => ?_) hg (by have := sh.dp; omega) (fun _ _ e => e) (fun h' t tk k => ⟨.str _, H, I.kept k, ⟨_, rfl⟩, q⟩) sh.fits
  have : sysModules = a := by simpa using hm
  rw [← this] at hs
  simp at hs
def uReprX (K : PySem.W.Frag) : List V → Hp → VK → Prop := fun xs H Q => uRepr K xs H Q ∨ uReprD xs H Q
theorem call_uReprX {X : Cx} (hg : X.A.guards = some []) (hu : X.A.units + 130 < cLine) : CallR X (.builtin "repr") (uReprX X.K) := (call_uRepr hg hu).or (call_uReprD hg hu)
end SL
namespace CM
open PySem PySem.Spec PyProof.Rows L2 SL
/-- the written part, and where the cells stand -/
structure Kx where
  fr : PySem.W.Frag
  ka : List Addr
instance : CoeOut Kx PySem.W.Frag := ⟨Kx.fr⟩
def Kx.up (K : Kx) (l : List Addr) : Kx := ⟨K.fr, K.ka ++ l⟩
inductive D where
  | non | bl (b : Bool) | int (i : Int) | str (z : Str) | ty (n : String) | glo (x : Str)
  | lst (xs : List D) | scr (ns : List Int) | tup (xs : List D) | dK (kvs : List (L2.Key × D)) | rng (lo hi : Int)
  | ins (C : Str) (fs : List (Str × D)) | ce (n : Nat) | exc (C : Str) (fs : List (Str × D)) | tg (v : V) (d : D) | bo (v : V) (d e : D)
def D.u : D → D
  | .tg _ d => d.u
  | d => d
/-- a list, a tuple to be read, off M -/
def LtR (M : List Addr) (K : Kx) (H : Hp) (a : Addr) (xs : List V) : Prop := (Rd H a (.lst xs) ∧ a ∉ M) ∨
  ∃ (o : Obj) (its : Array Value) (n : Nat), K.fr.lookup a = some o ∧ o.cls = .type "list" ∧ o.dict = none ∧ o.data = .seq its n ∧ its.size ≤ sizeLine ∧ Vals xs its.toList
def TpR (M : List Addr) (H : Hp) (a : Addr) (xs : List V) : Prop := H a = some (.tup xs) ∧ a ∉ M
section
variable {M M' : List Addr} {K : Kx} {H H' : Hp} {a p : Addr} {xs : List V} {o : HO}
theorem LtR.sq (h : LtR M K H a xs) : SqL K H a xs := h.imp (·.1) id
theorem TpR.sq {f : PySem.W.Frag} (h : TpR M H a xs) : SqT f H a xs := .inl (.inl h.1)
theorem LtR.ex (h : LtR M K H a xs) (e : Ex M H H') : LtR M K H' a xs := h.imp (fun z => ⟨rd_ex e z.2 z.1, z.2⟩) id
theorem TpR.ex (h : TpR M H a xs) (e : Ex M H H') : TpR M H' a xs := ⟨e _ _ h.2 h.1, h.2⟩
theorem LtR.mono (hm : ∀ x ∈ M', x ∈ M) (h : LtR M K H a xs) : LtR M' K H a xs := h.imp (fun z => ⟨z.1, fun q => z.2 (hm _ q)⟩) id
theorem TpR.mono (hm : ∀ x ∈ M', x ∈ M) (h : TpR M H a xs) : TpR M' H a xs := ⟨h.1, fun q => h.2 (hm _ q)⟩
theorem rd_ne {u : HO} (h : Rd H a u) (hp : H p = none) : a ≠ p := by
  intro e
  subst e
  rcases h with h | ⟨o, h⟩ <;> (rw [hp] at h; cases h)
theorem LtR.fresh (hp : H p = none) (hm : ∀ x ∈ M', x ∈ M ∨ x = p) (h : LtR M K H a xs) : LtR M' K H a xs := h.imp (fun z => ⟨z.1, fun q => (hm _ q).elim z.2 (rd_ne z.1 hp)⟩) id
theorem TpR.fresh (hp : H p = none) (hm : ∀ x ∈ M', x ∈ M ∨ x = p) (h : TpR M H a xs) : TpR M' H a xs := ⟨h.1, fun q => (hm _ q).elim h.2 (ne_of_none h.1 hp)⟩
theorem At.fresh (hp : H p = none) (hm : ∀ x ∈ M', x ∈ M ∨ x = p) (h : At M H a o) : At M' H a o := ⟨h.at_, fun q => (hm _ q).elim h.off (ne_of_none h.at_ hp)⟩
end
mutual
inductive Rep (M : List Addr) (K : Kx) (H : Hp) : V → D → Prop
  | non : Rep M K H .non .non
  | bl (b : Bool) : Rep M K H (.bl b) (.bl b)
  | int (i : Int) : Rep M K H (.int i) (.int i)
  | str (z : Str) : Rep M K H (.str z) (.str z)
  | ty (n : String) : Rep M K H (.ty n) (.ty n)
  | glo (x : Str) : Rep M K H (.ref (He.ga K x)) (.glo x)
  | lst {a : Addr} {xs : List V} {ds : List D} : At M H a (.lst xs) → RepA M K H xs ds → Rep M K H (.ref a) (.lst ds)
  | scr {a : Addr} {ns : List Int} : LtR M K H a (ns.map V.int) → Rep M K H (.ref a) (.scr ns)
  | tup {a : Addr} {xs : List V} {ds : List D} : TpR M H a xs → RepA M K H xs ds → Rep M K H (.ref a) (.tup ds)
  | dK {a : Addr} {kvs : List (L2.Key × V)} {ds : List (L2.Key × D)} : At M H a (.dK kvs) → kvs.map (·.1) = ds.map (·.1) → RepA M K H (kvs.map (·.2)) (ds.map (·.2)) → Rep M K H (.ref a) (.dK ds)
  | rng {a : Addr} {lo hi : Int} : At M H a (.rng lo hi) → Rep M K H (.ref a) (.rng lo hi)
  | ins {a dx : Addr} {C : Str} {vs : List (Str × V)} {ds : List (Str × D)} : At M H a (.ins (He.ga K C) dx vs) → vs.map (·.1) = ds.map (·.1) → RepA M K H (vs.map (·.2)) (ds.map (·.2)) → Rep M K H (.ref a) (.ins C ds)
  | exc {a dx : Addr} {C : Str} {vs : List (Str × V)} {ds : List (Str × D)} : At M H a (exo a (He.ga K C) (some dx)) → At M H dx (exd dx vs) → vs.map (·.1) = ds.map (·.1) → RepA M K H (vs.map (·.2)) (ds.map (·.2)) → Rep M K H (.ref a) (.exc C ds)
  | ce {a : Addr} {n : Nat} : K.ka[n]? = some a → Rep M K H (.ref a) (.ce n)
  | tg {v : V} {d : D} : Rep M K H v d → Rep M K H v (.tg v d)
  | bo {a : Addr} {w : V} {d e : D} : Rep M K H (.ref a) d → Rep M K H w e → Rep M K H (.ref a) (.bo w d e)
inductive RepA (M : List Addr) (K : Kx) (H : Hp) : List V → List D → Prop
  | nil : RepA M K H [] []
  | cons {v : V} {vs : List V} {d : D} {ds : List D} : Rep M K H v d → RepA M K H vs ds → RepA M K H (v :: vs) (d :: ds)
end
section
variable {M M' : List Addr} {K : Kx} {H H' : Hp} {p : Addr} {o : HO}
mutual
theorem Rep.ex (e : Ex M H H') : ∀ {v : V} {d : D}, Rep M K H v d → Rep M K H' v d
  | _, _, .non => .non
  | _, _, .bl b => .bl b
  | _, _, .int i => .int i
  | _, _, .str x => .str x
  | _, _, .ty n => .ty n
  | _, _, .glo x => .glo x
  | _, _, .lst h a => .lst (h.ex e) (RepA.ex e a)
  | _, _, .scr h => .scr (h.ex e)
  | _, _, .tup h a => .tup (h.ex e) (RepA.ex e a)
  | _, _, .dK h n a => .dK (h.ex e) n (RepA.ex e a)
  | _, _, .rng h => .rng (h.ex e)
  | _, _, .ins h n a => .ins (h.ex e) n (RepA.ex e a)
  | _, _, .exc h h2 n a => .exc (h.ex e) (h2.ex e) n (RepA.ex e a)
  | _, _, .ce h => .ce h
  | _, _, .tg h => .tg (Rep.ex e h)
  | _, _, .bo h h2 => .bo (Rep.ex e h) (Rep.ex e h2)
theorem RepA.ex (e : Ex M H H') : ∀ {vs : List V} {ds : List D}, RepA M K H vs ds → RepA M K H' vs ds
  | _, _, .nil => .nil
  | _, _, .cons h a => .cons (Rep.ex e h) (RepA.ex e a)
end
mutual
theorem Rep.mono (hm : ∀ x ∈ M', x ∈ M) : ∀ {v : V} {d : D}, Rep M K H v d → Rep M' K H v d
  | _, _, .non => .non
  | _, _, .bl b => .bl b
  | _, _, .int i => .int i
  | _, _, .str x => .str x
  | _, _, .ty n => .ty n
  | _, _, .glo x => .glo x
  | _, _, .lst h a => .lst (h.mono hm) (RepA.mono hm a)
  | _, _, .scr h => .scr (h.mono hm)
  | _, _, .tup h a => .tup (h.mono hm) (RepA.mono hm a)
  | _, _, .dK h n a => .dK (h.mono hm) n (RepA.mono hm a)
  | _, _, .rng h => .rng (h.mono hm)
  | _, _, .ins h n a => .ins (h.mono hm) n (RepA.mono hm a)
  | _, _, .exc h h2 n a => .exc (h.mono hm) (h2.mono hm) n (RepA.mono hm a)
  | _, _, .ce h => .ce h
  | _, _, .tg h => .tg (Rep.mono hm h)
  | _, _, .bo h h2 => .bo (Rep.mono hm h) (Rep.mono hm h2)
theorem RepA.mono (hm : ∀ x ∈ M', x ∈ M) : ∀ {vs : List V} {ds : List D}, RepA M K H vs ds → RepA M' K H vs ds
  | _, _, .nil => .nil
  | _, _, .cons h a => .cons (Rep.mono hm h) (RepA.mono hm a)
end
mutual
theorem Rep.fresh (hp : H p = none) (hm : ∀ x ∈ M', x ∈ M ∨ x = p) : ∀ {v : V} {d : D}, Rep M K H v d → Rep M' K H v d
  | _, _, .non => .non
  | _, _, .bl b => .bl b
  | _, _, .int i => .int i
  | _, _, .str x => .str x
  | _, _, .ty n => .ty n
  | _, _, .glo x => .glo x
  | _, _, .lst h a => .lst (At.fresh hp hm h) (RepA.fresh hp hm a)
  | _, _, .scr h => .scr (h.fresh hp hm)
  | _, _, .tup h a => .tup (h.fresh hp hm) (RepA.fresh hp hm a)
  | _, _, .dK h n a => .dK (At.fresh hp hm h) n (RepA.fresh hp hm a)
  | _, _, .rng h => .rng (At.fresh hp hm h)
  | _, _, .ins h n a => .ins (At.fresh hp hm h) n (RepA.fresh hp hm a)
  | _, _, .exc h h2 n a => .exc (At.fresh hp hm h) (At.fresh hp hm h2) n (RepA.fresh hp hm a)
  | _, _, .ce h => .ce h
  | _, _, .tg h => .tg (Rep.fresh hp hm h)
  | _, _, .bo h h2 => .bo (Rep.fresh hp hm h) (Rep.fresh hp hm h2)
theorem RepA.fresh (hp : H p = none) (hm : ∀ x ∈ M', x ∈ M ∨ x = p) : ∀ {vs : List V} {ds : List D}, RepA M K H vs ds → RepA M' K H vs ds
  | _, _, .nil => .nil
  | _, _, .cons h a => .cons (Rep.fresh hp hm h) (RepA.fresh hp hm a)
end
theorem Rep.u : ∀ {v : V} {d : D}, Rep M K H v d → Rep M K H v d.u
  | _, _, .non => .non
  | _, _, .bl b => .bl b
  | _, _, .int i => .int i
  | _, _, .str x => .str x
  | _, _, .ty n => .ty n
  | _, _, .glo x => .glo x
  | _, _, .lst h a => .lst h a
  | _, _, .scr h => .scr h
  | _, _, .tup h a => .tup h a
  | _, _, .dK h n a => .dK h n a
  | _, _, .rng h => .rng h
  | _, _, .ins h n a => .ins h n a
  | _, _, .exc h h2 n a => .exc h h2 n a
  | _, _, .bo h h2 => .bo h h2
  | _, _, .ce h => .ce h
  | _, _, .tg (d := d) h => (Rep.u (d := d) h : Rep M K H _ d.u)
theorem RepA.append : ∀ {vs ws : List V} {ds es : List D}, RepA M K H vs ds → RepA M K H ws es → RepA M K H (vs ++ ws) (ds ++ es)
  | _, _, _, _, .nil, b => b
  | _, _, _, _, .cons h a, b => .cons h (RepA.append a b)
theorem RepA.len : ∀ {vs : List V} {ds : List D}, RepA M K H vs ds → vs.length = ds.length
  | _, _, .nil => rfl
  | _, _, .cons _ a => congrArg (· + 1) (RepA.len a)
theorem RepA.get : ∀ {vs : List V} {ds : List D} {i : Nat} {d : D}, RepA M K H vs ds → ds[i]? = some d → ∃ v, vs[i]? = some v ∧ Rep M K H v d
  | _, _, i, d, .nil, e => by simp at e
  | _, _, 0, d, .cons h _, e => by simp at e; subst e; exact ⟨_, rfl, h⟩
  | _, _, i + 1, d, .cons _ a, e => by
    obtain ⟨v, h1, h2⟩ := RepA.get (i := i) a (by simpa using e)
    exact ⟨v, by simpa using h1, h2⟩
theorem RepA.getV {vs : List V} {ds : List D} {i : Nat} {v : V} (h : RepA M K H vs ds) (e : vs[i]? = some v) : ∃ d, ds[i]? = some d ∧ Rep M K H v d := by
  have hi : i < ds.length := by
    rw [← h.len]
    exact (List.getElem?_eq_some_iff.mp e).1
  obtain ⟨v', h1, h2⟩ := h.get (List.getElem?_eq_getElem hi)
  rw [e] at h1
  cases h1
  exact ⟨_, List.getElem?_eq_getElem hi, h2⟩
theorem RepA.take : ∀ {vs : List V} {ds : List D} (n : Nat), RepA M K H vs ds → RepA M K H (vs.take n) (ds.take n)
  | _, _, 0, _ => .nil
  | _, _, _ + 1, .nil => .nil
  | _, _, n + 1, .cons h a => .cons h (RepA.take n a)
theorem RepA.drop : ∀ {vs : List V} {ds : List D} (n : Nat), RepA M K H vs ds → RepA M K H (vs.drop n) (ds.drop n)
  | _, _, 0, h => h
  | _, _, _ + 1, .nil => .nil
  | _, _, n + 1, .cons _ a => RepA.drop n a
theorem RepA.set : ∀ {vs : List V} {ds : List D} {v : V} {d : D} (n : Nat), RepA M K H vs ds → Rep M K H v d → RepA M K H (vs.set n v) (ds.set n d)
  | _, _, _, _, _, .nil, _ => .nil
  | _, _, _, _, 0, .cons _ a, r => .cons r a
  | _, _, _, _, n + 1, .cons h a, r => .cons h (RepA.set n a r)
theorem RepA.ints : ∀ ns : List Int, RepA M K H (ns.map V.int) (ns.map D.int)
  | [] => .nil
  | n :: r => .cons (.int n) (RepA.ints r)
theorem RepA.strs : ∀ ns : List Str, RepA M K H (ns.map V.str) (ns.map D.str)
  | [] => .nil
  | n :: r => .cons (.str n) (RepA.strs r)
end
section
variable {M M' : List Addr} {K : Kx} {H : Hp} {a : Addr} {xs : List V} {o : HO}
theorem LtR.frs (hm : ∀ x ∈ M', x ∈ M ∨ H x = none) (h : LtR M K H a xs) : LtR M' K H a xs := h.imp (fun z => ⟨z.1, fun q => (hm _ q).elim z.2 fun e => rd_ne z.1 e rfl⟩) id
theorem TpR.frs (hm : ∀ x ∈ M', x ∈ M ∨ H x = none) (h : TpR M H a xs) : TpR M' H a xs := ⟨h.1, fun q => (hm _ q).elim h.2 fun e => by rw [h.1] at e; cases e⟩
theorem At.frs (hm : ∀ x ∈ M', x ∈ M ∨ H x = none) (h : At M H a o) : At M' H a o := ⟨h.at_, fun q => (hm _ q).elim h.off fun e => by rw [h.at_] at e; cases e⟩
mutual
theorem Rep.frs (hm : ∀ x ∈ M', x ∈ M ∨ H x = none) : ∀ {v : V} {d : D}, Rep M K H v d → Rep M' K H v d
  | _, _, .non => .non
  | _, _, .bl b => .bl b
  | _, _, .int i => .int i
  | _, _, .str x => .str x
  | _, _, .ty n => .ty n
  | _, _, .glo x => .glo x
  | _, _, .lst h a => .lst (At.frs hm h) (RepA.frs hm a)
  | _, _, .scr h => .scr (h.frs hm)
  | _, _, .tup h a => .tup (h.frs hm) (RepA.frs hm a)
  | _, _, .dK h n a => .dK (At.frs hm h) n (RepA.frs hm a)
  | _, _, .rng h => .rng (At.frs hm h)
  | _, _, .ins h n a => .ins (At.frs hm h) n (RepA.frs hm a)
  | _, _, .exc h h2 n a => .exc (At.frs hm h) (At.frs hm h2) n (RepA.frs hm a)
  | _, _, .ce h => .ce h
  | _, _, .tg h => .tg (Rep.frs hm h)
  | _, _, .bo h h2 => .bo (Rep.frs hm h) (Rep.frs hm h2)
theorem RepA.frs (hm : ∀ x ∈ M', x ∈ M ∨ H x = none) : ∀ {vs : List V} {ds : List D}, RepA M K H vs ds → RepA M' K H vs ds
  | _, _, .nil => .nil
  | _, _, .cons h a => .cons (Rep.frs hm h) (RepA.frs hm a)
end
end
section
variable {M : List Addr} {K : Kx} {l : List Addr} {H : Hp}
theorem up_at {K : Kx} {l : List Addr} {n : Nat} {a : Addr} (h : K.ka[n]? = some a) : (K.up l).ka[n]? = some a := by
  show (K.ka ++ l)[n]? = some a
  rw [List.getElem?_append_left (List.getElem?_eq_some_iff.mp h).1]
  exact h
mutual
theorem Rep.up : ∀ {v : V} {d : D}, Rep M K H v d → Rep M (K.up l) H v d
  | _, _, .non => .non
  | _, _, .bl b => .bl b
  | _, _, .int i => .int i
  | _, _, .str x => .str x
  | _, _, .ty n => .ty n
  | _, _, .glo x => .glo x
  | _, _, .lst h a => .lst h (RepA.up a)
  | _, _, .scr h => .scr h
  | _, _, .tup h a => .tup h (RepA.up a)
  | _, _, .dK h n a => .dK h n (RepA.up a)
  | _, _, .rng h => .rng h
  | _, _, .ins h n a => .ins h n (RepA.up a)
  | _, _, .exc h h2 n a => .exc h h2 n (RepA.up a)
  | _, _, .ce h => .ce (up_at h)
  | _, _, .tg h => .tg (Rep.up h)
  | _, _, .bo h h2 => .bo (Rep.up h) (Rep.up h2)
theorem RepA.up : ∀ {vs : List V} {ds : List D}, RepA M K H vs ds → RepA M (K.up l) H vs ds
  | _, _, .nil => .nil
  | _, _, .cons h a => .cons (Rep.up h) (RepA.up a)
end
end
mutual
/-- no cell from k on is told of -/
def below (k : Nat) : D → Bool
  | .lst xs => belows k xs
  | .tup xs => belows k xs
  | .dK kvs => belowK k kvs
  | .ins _ fs => belowF k fs
  | .exc _ fs => belowF k fs
  | .ce n => decide (n < k)
  | .tg _ d => below k d
  | .bo _ d e => below k d && below k e
  | _ => true
def belows (k : Nat) : List D → Bool
  | [] => true
  | d :: ds => below k d && belows k ds
def belowF (k : Nat) : List (Str × D) → Bool
  | [] => true
  | (_, d) :: ds => below k d && belowF k ds
def belowK (k : Nat) : List (L2.Key × D) → Bool
  | [] => true
  | (_, d) :: ds => below k d && belowK k ds
end
theorem belows_eq {k : Nat} : ∀ ds : List D, belows k ds = ds.all (below k)
  | [] => by simp only [belows, List.all_nil]
  | d :: ds => by simp only [belows, List.all_cons, belows_eq ds]
theorem belowF_eq {k : Nat} : ∀ ds : List (Str × D), belowF k ds = belows k (ds.map (·.2))
  | [] => by simp only [belows, belowF, List.map_nil]
  | (a, d) :: ds => by simp only [belows, belowF, List.map_cons, belowF_eq ds]
theorem belowK_eq {k : Nat} : ∀ ds : List (L2.Key × D), belowK k ds = belows k (ds.map (·.2))
  | [] => by simp only [belows, belowK, List.map_nil]
  | (a, d) :: ds => by simp only [belows, belowK, List.map_cons, belowK_eq ds]
section
variable {M : List Addr} {f : PySem.W.Frag} {κ l : List Addr} {H : Hp}
mutual
theorem Rep.dn : ∀ {v : V} {d : D}, Rep M ⟨f, κ ++ l⟩ H v d → below κ.length d = true → Rep M ⟨f, κ⟩ H v d
  | _, _, .non, _ => .non
  | _, _, .bl b, _ => .bl b
  | _, _, .int i, _ => .int i
  | _, _, .str x, _ => .str x
  | _, _, .ty n, _ => .ty n
  | _, _, .glo x, _ => .glo x
  | _, _, .lst h a, e => .lst h (RepA.dn a (by simpa only [below] using e))
  | _, _, .scr h, _ => .scr h
  | _, _, .tup h a, e => .tup h (RepA.dn a (by simpa only [below] using e))
  | _, _, .dK h n a, e => .dK h n (RepA.dn a (by
      simp only [below] at e
      rw [belowK_eq] at e
      exact e))
  | _, _, .rng h, _ => .rng h
  | _, _, .ins h n a, e => .ins h n (RepA.dn a (by
      simp only [below] at e
      rw [belowF_eq] at e
      exact e))
  | _, _, .exc h h2 n a, e => .exc h h2 n (RepA.dn a (by
      simp only [below] at e
      rw [belowF_eq] at e
      exact e))
  | _, _, .ce h, e => .ce (by
      simp only [below, decide_eq_true_eq] at e
      have h : (κ ++ l)[_]? = some _ := h
      rwa [List.getElem?_append_left e] at h)
  | _, _, .tg h, e => .tg (Rep.dn h (by simpa only [below] using e))
  | _, _, .bo h h2, e => .bo (Rep.dn h (by
      simp only [below, Bool.and_eq_true] at e
      exact e.1)) (Rep.dn h2 (by
      simp only [below, Bool.and_eq_true] at e
      exact e.2))
theorem RepA.dn : ∀ {vs : List V} {ds : List D}, RepA M ⟨f, κ ++ l⟩ H vs ds → belows κ.length ds = true → RepA M ⟨f, κ⟩ H vs ds
  | _, _, .nil, _ => .nil
  | _, _, .cons h a, e => .cons (Rep.dn h (by
      simp only [belows, Bool.and_eq_true] at e
      exact e.1)) (RepA.dn a (by
      simp only [belows, Bool.and_eq_true] at e
      exact e.2))
end
mutual
/-- what is told of stands -/
theorem Rep.wf : ∀ {v : V} {d : D}, Rep M ⟨f, κ⟩ H v d → below κ.length d = true
  | _, _, .non => by simp only [below]
  | _, _, .bl b => by simp only [below]
  | _, _, .int i => by simp only [below]
  | _, _, .str x => by simp only [below]
  | _, _, .ty n => by simp only [below]
  | _, _, .glo x => by simp only [below]
  | _, _, .lst h a => by simp only [below]; exact RepA.wf a
  | _, _, .scr h => by simp only [below]
  | _, _, .tup h a => by simp only [below]; exact RepA.wf a
  | _, _, .dK h n a => by simp only [below]; rw [belowK_eq]; exact RepA.wf a
  | _, _, .rng h => by simp only [below]
  | _, _, .ins h n a => by simp only [below]; rw [belowF_eq]; exact RepA.wf a
  | _, _, .exc h h2 n a => by simp only [below]; rw [belowF_eq]; exact RepA.wf a
  | _, _, .ce h => by
    simp only [below, decide_eq_true_eq]
    exact (List.getElem?_eq_some_iff.mp h).1
  | _, _, .tg h => by simp only [below]; exact Rep.wf h
  | _, _, .bo h h2 => by simp only [below, Rep.wf h, Rep.wf h2, Bool.and_self]
theorem RepA.wf : ∀ {vs : List V} {ds : List D}, RepA M ⟨f, κ⟩ H vs ds → belows κ.length ds = true
  | _, _, .nil => by simp only [belows]
  | _, _, .cons h a => by simp only [belows, Rep.wf h, RepA.wf a, Bool.and_self]
end
end
end CM
namespace CM
open PySem PySem.Spec PyProof.Rows L2 SL
inductive Sl where
  | un | cl (d : D)
/-- a held value: one that may be kept; a new thing of which nobody else knows -/
inductive W where
  | cl (d : D) | nw (c : D)
abbrev W.fr (ds : List D) : W := .nw (.lst ds)
abbrev Tb := List D
structure Fm where
  A : List Addr
  Io : List Addr
  H0 : Hp
structure Fm.Ok (F : Fm) : Prop where
  tr : ∀ a ∈ F.A, F.H0 a ≠ none
  io : ∀ a ∈ F.Io, a ∈ F.A
def rootW : V × W → Option Addr
  | (.ref p, .nw _) => some p
  | _ => none
abbrev rootsW (st : List (V × W)) : List Addr := st.filterMap rootW
/-- a thing that may change: what it holds -/
inductive Own (M : List Addr) (K : Kx) (H : Hp) (p : Addr) : D → Prop
  | lst {xs : List V} {ds : List D} : H p = some (.lst xs) → RepA M K H xs ds → Own M K H p (.lst ds)
  | dK {kvs : List (L2.Key × V)} {ds : List (L2.Key × D)} : H p = some (.dK kvs) → kvs.map (·.1) = ds.map (·.1) → RepA M K H (kvs.map (·.2)) (ds.map (·.2)) → Own M K H p (.dK ds)
  | ins {C : Str} {dx : Addr} {vs : List (Str × V)} {ds : List (Str × D)} : H p = some (.ins (He.ga K C) dx vs) → vs.map (·.1) = ds.map (·.1) → RepA M K H (vs.map (·.2)) (ds.map (·.2)) → Own M K H p (.ins C ds)
inductive SlR (M : List Addr) (K : Kx) (H : Hp) : Option V → Sl → Prop
  | un {o : Option V} : SlR M K H o .un
  | cl {v : V} {d : D} : Rep M K H v d → SlR M K H (some v) (.cl d)
inductive WR (F : Fm) (M : List Addr) (K : Kx) (H : Hp) : V → W → Prop
  | cl {v : V} {d : D} : Rep M K H v d → WR F M K H v (.cl d)
  | nw {p : Addr} {c : D} : F.H0 p = none → Own M K H p c → WR F M K H (.ref p) (.nw c)
/-- what must be kept off by what stays -/
abbrev av (F : Fm) (κ : List Addr) (st : List (V × W)) : List Addr := F.A ++ (κ ++ rootsW st)
structure EnvK (f : PySem.W.Frag) (κ : List Addr) (F : Fm) (σ : L2.St) (H : Hp) (ρ : List Sl) (h : Tb) (st : List (V × W)) : Prop where
  ok : F.Ok
  len : σ.length = ρ.length
  kl : κ.length = h.length
  io : ∃ l, κ = F.Io ++ l ∧ ∀ p ∈ l, F.H0 p = none
  ex : Ex F.Io F.H0 H
  tr : ∀ a, F.H0 a ≠ none → H a ≠ none
  nd : (κ ++ rootsW st).Nodup
  sl : ∀ (i : Nat) (o : Option V) (s : Sl), σ[i]? = some o → ρ[i]? = some s → SlR (av F κ st) ⟨f, κ⟩ H o s
  ce : ∀ (n : Nat) (p : Addr) (c : D), κ[n]? = some p → h[n]? = some c → Own (av F κ st) ⟨f, κ⟩ H p c
  wv : ∀ x ∈ st, WR F (av F κ st) ⟨f, κ⟩ H x.1 x.2
def EnvR (f : PySem.W.Frag) (F : Fm) (σ : L2.St) (H : Hp) (ρ : List Sl) (h : Tb) (st : List (V × W)) : Prop := ∃ κ, EnvK f κ F σ H ρ h st
section
variable {f : PySem.W.Frag} {κ : List Addr} {F : Fm} {M M' : List Addr} {K : Kx} {H H' : Hp} {p r : Addr} {o : Option V} {s s' : Sl} {σ : L2.St} {ρ ρ' : List Sl} {h h' : Tb} {st st' l : List (V × W)} {v : V} {w : W} {i n : Nat} {d c c' : D} {ds es : List D} {xs ys : List V}
theorem rootW_cl : rootW (v, .cl d) = none := by cases v <;> rfl
theorem Own.mono (hm : ∀ x ∈ M', x ∈ M) {d : D} (h : Own M K H p d) : Own M' K H p d := by
  cases h with
  | lst a b => exact .lst a (b.mono hm)
  | dK a n b => exact .dK a n (b.mono hm)
  | ins a n b => exact .ins a n (b.mono hm)
theorem SlR.mono (hm : ∀ x ∈ M', x ∈ M) (h : SlR M K H o s) : SlR M' K H o s := by
  cases h with
  | un => exact .un
  | cl r => exact .cl (r.mono hm)
theorem WR.mono (hm : ∀ x ∈ M', x ∈ M) (h : WR F M K H v w) : WR F M' K H v w := by
  cases h with
  | cl r => exact .cl (r.mono hm)
  | nw e r => exact .nw e (r.mono hm)
theorem Own.fresh (hp : H p = none) (hm : ∀ x ∈ M', x ∈ M ∨ x = p) {q : Addr} {d : D} (h : Own M K H q d) : Own M' K H q d := by
  cases h with
  | lst a b => exact .lst a (b.fresh hp hm)
  | dK a n b => exact .dK a n (b.fresh hp hm)
  | ins a n b => exact .ins a n (b.fresh hp hm)
theorem SlR.fresh (hp : H p = none) (hm : ∀ x ∈ M', x ∈ M ∨ x = p) (h : SlR M K H o s) : SlR M' K H o s := by
  cases h with
  | un => exact .un
  | cl r => exact .cl (r.fresh hp hm)
theorem WR.fresh (hp : H p = none) (hm : ∀ x ∈ M', x ∈ M ∨ x = p) (h : WR F M K H v w) : WR F M' K H v w := by
  cases h with
  | cl r => exact .cl (r.fresh hp hm)
  | nw n a => exact .nw n (a.fresh hp hm)
theorem Own.ex (e : Ex M H H') (hq : H' p = H p) {d : D} (h : Own M K H p d) : Own M K H' p d := by
  cases h with
  | lst a b => exact .lst (hq.trans a) (b.ex e)
  | dK a n b => exact .dK (hq.trans a) n (b.ex e)
  | ins a n b => exact .ins (hq.trans a) n (b.ex e)
theorem Own.up {l : List Addr} {d : D} (h : Own M K H p d) : Own M (K.up l) H p d := by
  cases h with
  | lst a b => exact .lst a b.up
  | dK a n b => exact .dK a n b.up
  | ins a n b => exact .ins a n b.up
theorem Own.some {d : D} (h : Own M K H p d) : H p ≠ none := by
  cases h with
  | lst a b => rw [a]; exact fun z => by cases z
  | dK a n b => rw [a]; exact fun z => by cases z
  | ins a n b => rw [a]; exact fun z => by cases z
theorem SlR.ex (e : Ex M H H') (h : SlR M K H o s) : SlR M K H' o s := by
  cases h with
  | un => exact .un
  | cl r => exact .cl (r.ex e)
theorem SlR.up {l : List Addr} (h : SlR M K H o s) : SlR M (K.up l) H o s := by
  cases h with
  | un => exact .un
  | cl r => exact .cl r.up
theorem WR.ex (e : Ex M H H') (hq : ∀ p c, v = .ref p → w = .nw c → H p ≠ none → H' p = H p) (h : WR F M K H v w) : WR F M K H' v w := by
  cases h with
  | cl r => exact .cl (r.ex e)
  | nw n r => exact .nw n (r.ex e (hq _ _ rfl rfl r.some))
theorem WR.up {l : List Addr} (h : WR F M K H v w) : WR F M (K.up l) H v w := by
  cases h with
  | cl r => exact .cl r.up
  | nw n r => exact .nw n r.up
theorem ex_same (e : Ex [] H H') (h : H p ≠ none) : H' p = H p := by
  cases q : H p with
  | none => exact absurd q h
  | some u => exact e p u (List.not_mem_nil) q
theorem mem_rootsW : r ∈ rootsW st ↔ ∃ x ∈ st, rootW x = some r := List.mem_filterMap
theorem EnvK.root_some (E : EnvK f κ F σ H ρ h st) (hr : r ∈ rootsW st) : H r ≠ none ∧ F.H0 r = none := by
  obtain ⟨⟨v, w⟩, hx, e⟩ := mem_rootsW.mp hr
  have q := E.wv _ hx
  dsimp only at q
  generalize av F κ st = M at q
  cases q with
  | cl r => rw [rootW_cl] at e; cases e
  | nw n a => cases e; exact ⟨a.some, n⟩
theorem EnvK.at_cell (E : EnvK f κ F σ H ρ h st) {n : Nat} (hn : κ[n]? = some p) : ∃ c, h[n]? = some c ∧ Own (av F κ st) ⟨f, κ⟩ H p c := by
  have hl : n < h.length := by
    rw [← E.kl]
    exact (List.getElem?_eq_some_iff.mp hn).1
  exact ⟨_, List.getElem?_eq_getElem hl, E.ce n p _ hn (List.getElem?_eq_getElem hl)⟩
theorem EnvK.ka_some (E : EnvK f κ F σ H ρ h st) (hr : r ∈ κ) : H r ≠ none := by
  obtain ⟨n, hn⟩ := List.mem_iff_getElem?.mp hr
  obtain ⟨c, _, q⟩ := E.at_cell hn
  exact q.some
theorem EnvK.av_some (E : EnvK f κ F σ H ρ h st) (hr : r ∈ av F κ st) : H r ≠ none := by
  rcases List.mem_append.mp hr with h | h
  · exact E.tr r (E.ok.tr r h)
  · rcases List.mem_append.mp h with h | h
    · exact E.ka_some h
    · exact (E.root_some h).1
theorem av_new (E : EnvK f κ F σ H ρ h st) (hp : H p = none) : p ∉ av F κ st := fun h => E.av_some h hp
theorem av_ka (h : r ∈ κ) : r ∈ av F κ st := List.mem_append.mpr (.inr (List.mem_append.mpr (.inl h)))
theorem av_st (h : r ∈ rootsW st) : r ∈ av F κ st := List.mem_append.mpr (.inr (List.mem_append.mpr (.inr h)))
theorem av_sub (hm : ∀ x ∈ st', x ∈ st) : ∀ x ∈ av F κ st', x ∈ av F κ st := fun x hx => by
  rcases List.mem_append.mp hx with h | h
  · exact List.mem_append.mpr (.inl h)
  · rcases List.mem_append.mp h with h | h
    · exact av_ka h
    · obtain ⟨y, hy, e⟩ := mem_rootsW.mp h
      exact av_st (mem_rootsW.mpr ⟨y, hm y hy, e⟩)
theorem slot_at (E : EnvK f κ F σ H ρ h st) (h2 : ρ[i]? = some s) : ∃ o, σ[i]? = some o ∧ SlR (av F κ st) ⟨f, κ⟩ H o s := by
  have hi : i < σ.length := by
    rw [E.len]
    exact (List.getElem?_eq_some_iff.mp h2).1
  exact ⟨_, List.getElem?_eq_getElem hi, E.sl i _ s (List.getElem?_eq_getElem hi) h2⟩
/-- new things alone -/
theorem EnvK.grow (E : EnvK f κ F σ H ρ h st) (e : Ex [] H H') : EnvK f κ F σ H' ρ h st where
  ok := E.ok
  len := E.len
  kl := E.kl
  io := E.io
  ex := E.ex.trans e.nil
  tr := fun a h => by
    have q := E.tr a h
    rw [ex_same e q]
    exact q
  nd := E.nd
  sl := fun i o s h1 h2 => (E.sl i o s h1 h2).ex e.nil
  ce := fun n p c h1 h2 => (E.ce n p c h1 h2).ex e.nil (ex_same e (E.ce n p c h1 h2).some)
  wv := fun x hx => (E.wv x hx).ex e.nil fun p c _ _ h => ex_same e h
theorem EnvK.st_sub (E : EnvK f κ F σ H ρ h st) (hm : ∀ x ∈ st', x ∈ st) (hn : (κ ++ rootsW st').Nodup) : EnvK f κ F σ H ρ h st' := by
  have ha := av_sub (F := F) (κ := κ) hm
  exact ⟨E.ok, E.len, E.kl, E.io, E.ex, E.tr, hn, fun i o s h1 h2 => (E.sl i o s h1 h2).mono ha, fun n p c h1 h2 => (E.ce n p c h1 h2).mono ha, fun x hx => (E.wv x (hm x hx)).mono ha⟩
theorem EnvK.perm (E : EnvK f κ F σ H ρ h st) (q : st.Perm st') : EnvK f κ F σ H ρ h st' :=
  E.st_sub (fun x hx => q.mem_iff.mpr hx) (((List.Perm.append_left κ (q.filterMap rootW)).nodup_iff).mp E.nd)
theorem EnvK.sub (E : EnvK f κ F σ H ρ h st) (q : List.Sublist st' st) : EnvK f κ F σ H ρ h st' :=
  E.st_sub (fun x hx => q.subset hx) (E.nd.sublist (List.Sublist.append_left (q.filterMap _) _))
theorem EnvK.pop {x : V × W} (E : EnvK f κ F σ H ρ h (x :: st)) : EnvK f κ F σ H ρ h st := E.sub (List.sublist_cons_self x st)
theorem EnvK.popL {l : List (V × W)} (E : EnvK f κ F σ H ρ h (l ++ st)) : EnvK f κ F σ H ρ h st := E.sub (List.sublist_append_right l st)
theorem roots_cl : rootsW ((v, .cl d) :: st) = rootsW st := by
  unfold rootsW
  rw [List.filterMap_cons, rootW_cl]
theorem roots_nw : rootsW ((.ref p, .nw c) :: st) = p :: rootsW st := rfl
theorem EnvK.pushC (E : EnvK f κ F σ H ρ h st) (r : Rep (av F κ st) ⟨f, κ⟩ H v d) : EnvK f κ F σ H ρ h ((v, .cl d) :: st) := by
  have er : av F κ ((v, .cl d) :: st) = av F κ st := by
    show F.A ++ (κ ++ rootsW _) = _
    rw [roots_cl]
  refine ⟨E.ok, E.len, E.kl, E.io, E.ex, E.tr, by rw [roots_cl]; exact E.nd, by rw [er]; exact E.sl, by rw [er]; exact E.ce, fun x hx => ?_⟩
  rw [er]
  rcases List.mem_cons.mp hx with rfl | hx
  · exact .cl r
  · exact E.wv x hx
theorem av_nw {x : Addr} (hx : x ∈ av F κ ((.ref p, .nw c) :: st)) : x = p ∨ x ∈ av F κ st := by
  rcases List.mem_append.mp hx with h | h
  · exact .inr (List.mem_append.mpr (.inl h))
  · rcases List.mem_append.mp h with h | h
    · exact .inr (av_ka h)
    · rw [roots_nw] at h
      rcases List.mem_cons.mp h with h | h
      · exact .inl h
      · exact .inr (av_st h)
/-- a new thing is held -/
theorem EnvK.pushN (E : EnvK f κ F σ H ρ h st) (hp : H p = none) (e : Ex [] H H') (r : Own (p :: av F κ st) ⟨f, κ⟩ H' p c) : EnvK f κ F σ H' ρ h ((.ref p, .nw c) :: st) := by
  have hf : ∀ x ∈ av F κ ((V.ref p, W.nw c) :: st), x ∈ av F κ st ∨ x = p := fun x hx => (av_nw hx).symm
  have h0 : F.H0 p = none := by
    cases q : F.H0 p with
    | none => rfl
    | some u => exact absurd hp (E.tr p (by rw [q]; exact fun z => by cases z))
  refine ⟨E.ok, E.len, E.kl, E.io, E.ex.trans e.nil, fun a h => ?_, ?_, fun i o s h1 h2 => ?_, fun n q c h1 h2 => ?_, fun x hx => ?_⟩
  · have q := E.tr a h
    rw [ex_same e q]
    exact q
  · rw [roots_nw]
    refine (List.perm_middle.nodup_iff).mpr (List.nodup_cons.mpr ⟨fun h => ?_, E.nd⟩)
    rcases List.mem_append.mp h with h | h
    · exact E.ka_some h hp
    · exact (E.root_some h).1 hp
  · exact ((E.sl i o s h1 h2).fresh hp hf).ex e.nil
  · exact ((E.ce n q c h1 h2).fresh hp hf).ex e.nil (ex_same e (E.ce n q c h1 h2).some)
  · rcases List.mem_cons.mp hx with rfl | hx
    · refine .nw h0 (r.mono fun x hx => ?_)
      rcases hf x hx with h | h
      · exact List.mem_cons_of_mem _ h
      · rw [h]
        exact List.mem_cons_self ..
    · exact ((E.wv x hx).fresh hp hf).ex e.nil fun p _ _ _ h => ex_same e h
theorem EnvK.held (E : EnvK f κ F σ H ρ h ((v, .nw c) :: st)) : ∃ p, v = .ref p ∧ F.H0 p = none ∧ Own (av F κ ((v, .nw c) :: st)) ⟨f, κ⟩ H p c ∧ p ∉ av F κ st := by
  have q := E.wv _ (List.mem_cons_self ..)
  have nd := E.nd
  have ok := E.ok
  dsimp only at q
  generalize hM : av F κ ((v, W.nw c) :: st) = M at q
  cases q with
  | @nw p _ n a =>
    refine ⟨p, rfl, n, hM ▸ a, fun z => ?_⟩
    rw [roots_nw] at nd
    have nd := (List.nodup_cons.mp ((List.perm_middle.nodup_iff).mp nd)).1
    rcases List.mem_append.mp z with h | h
    · exact ok.tr p h n
    · exact nd h
theorem Own.tree (hp : p ∉ M) (r : Own M K H p c) : Rep M K H (.ref p) c := by
  cases r with
  | lst a b => exact .lst ⟨a, hp⟩ b
  | dK a n b => exact .dK ⟨a, hp⟩ n b
  | ins a n b => exact .ins ⟨a, hp⟩ n b
/-- a held new thing is held as a tree that stays -/
theorem EnvK.freeze (E : EnvK f κ F σ H ρ h ((v, .nw c) :: st)) : EnvK f κ F σ H ρ h ((v, .cl c) :: st) := by
  obtain ⟨p, rfl, h0, own, hn⟩ := E.held
  exact E.pop.pushC ((own.mono (av_sub fun x hx => List.mem_cons_of_mem _ hx)).tree hn)
/-- a held new thing becomes a cell -/
theorem EnvK.cell (E : EnvK f κ F σ H ρ h ((v, .nw c) :: st)) : ∃ p, v = .ref p ∧ EnvK f (κ ++ [p]) F σ H ρ (h ++ [c]) ((v, .cl (.ce h.length)) :: st) := by
  obtain ⟨p, rfl, h0, own, hn⟩ := E.held
  refine ⟨p, rfl, ?_⟩
  have hm : ∀ x, x ∈ av F (κ ++ [p]) ((V.ref p, W.cl (D.ce h.length)) :: st) → x ∈ av F κ ((V.ref p, W.nw c) :: st) := fun x hx => by
    rcases List.mem_append.mp hx with h | h
    · exact List.mem_append.mpr (.inl h)
    · rw [roots_cl] at h
      refine List.mem_append.mpr (.inr ?_)
      rw [roots_nw]
      simp only [List.mem_append, List.mem_cons, List.not_mem_nil, or_false] at h ⊢
      rcases h with (h | h) | h
      · exact .inl h
      · exact .inr (.inl h)
      · exact .inr (.inr h)
  obtain ⟨l, e1, e2⟩ := E.io
  refine ⟨E.ok, E.len, by simp [E.kl], ⟨l ++ [p], by rw [e1, List.append_assoc], fun q hq => ?_⟩, E.ex, E.tr, ?_, fun i o s h1 h2 => ((E.sl i o s h1 h2).mono hm).up, fun n q d h1 h2 => ?_, fun x hx => ?_⟩
  · rcases List.mem_append.mp hq with hq | hq
    · exact e2 q hq
    · rw [List.mem_singleton.mp hq]
      exact h0
  · rw [roots_cl, List.append_assoc]
    exact E.nd
  · by_cases hk : n < κ.length
    · rw [List.getElem?_append_left hk] at h1
      rw [List.getElem?_append_left (by rw [← E.kl]; exact hk)] at h2
      exact ((E.ce n q d h1 h2).mono hm).up
    · rw [List.getElem?_append_right (by omega)] at h1
      rw [List.getElem?_append_right (by rw [← E.kl]; omega)] at h2
      have hz : n - κ.length = 0 := by
        have := (List.getElem?_eq_some_iff.mp h1).1
        simp at this
        omega
      have hz2 : n - h.length = 0 := by rw [← E.kl]; exact hz
      rw [hz] at h1
      rw [hz2] at h2
      simp at h1 h2
      subst h1 h2
      exact (own.mono hm).up
  · rcases List.mem_cons.mp hx with rfl | hx
    · refine .cl (.ce ?_)
      show (κ ++ [p])[h.length]? = some p
      rw [← E.kl]
      simp
    · exact ((E.wv x (List.mem_cons_of_mem _ hx)).mono hm).up
theorem set_self {α : Type} {l : List α} {i : Nat} {a : α} (h : l[i]? = some a) : l.set i a = l := by
  apply List.ext_getElem?
  intro k
  by_cases hk : i = k
  · subst hk
    rw [List.getElem?_set_self (List.getElem?_eq_some_iff.mp h).1, h]
  · rw [List.getElem?_set_ne hk]
theorem EnvK.slot (E : EnvK f κ F σ H ρ h st) {o' : Option V} (r : SlR (av F κ st) ⟨f, κ⟩ H o' s') : EnvK f κ F (σ.set i o') H (ρ.set i s') h st := by
  refine ⟨E.ok, by rw [List.length_set, List.length_set]; exact E.len, E.kl, E.io, E.ex, E.tr, E.nd, fun j oj sj g1 g2 => ?_, E.ce, E.wv⟩
  by_cases hj : i = j
  · subst hj
    have l1 : i < σ.length := by
      have := (List.getElem?_eq_some_iff.mp g1).1
      rwa [List.length_set] at this
    have l2 : i < ρ.length := by rw [← E.len]; exact l1
    rw [List.getElem?_set_self l1] at g1
    rw [List.getElem?_set_self l2] at g2
    cases g1
    cases g2
    exact r
  · rw [List.getElem?_set_ne hj] at g1 g2
    exact E.sl j oj sj g1 g2
/-- x = a value -/
theorem EnvK.setC (E : EnvK f κ F σ H ρ h ((v, .cl d) :: st)) : EnvK f κ F (σ.set i (some v)) H (ρ.set i (.cl d)) h st := by
  refine E.pop.slot ?_
  have q := E.wv _ (List.mem_cons_self ..)
  dsimp only at q
  cases q with
  | cl r => exact .cl (r.mono (av_sub fun x hx => List.mem_cons_of_mem _ hx))
theorem EnvK.forget (E : EnvK f κ F σ H ρ h st) (o' : Option V) : EnvK f κ F (σ.set i o') H (ρ.set i .un) h st := E.slot .un
inductive Nr (M : List Addr) (K : Kx) (H : Hp) : V → D → Prop
  | cl {v : V} {d : D} : Rep M K H v d → Nr M K H v d
  | own {p : Addr} {d : D} : Own M K H p d → Nr M K H (.ref p) d
/-- a value with what its cell holds -/
def top (h : Tb) : D → Option D
  | .ce n => h[n]?
  | d => some d
def deref (h : Tb) : W → Option D
  | .cl d => top h d
  | .nw c => some c
theorem top_ne (hd : ∀ n, d ≠ .ce n) : top h d = some d := by
  cases d <;> first | rfl | exact absurd rfl (hd _)
theorem EnvK.topR (E : EnvK f κ F σ H ρ h st) (r : Rep (av F κ st) ⟨f, κ⟩ H v d) (e : top h d = some c) : Nr (av F κ st) ⟨f, κ⟩ H v c := by
  by_cases hd : ∃ n, d = .ce n
  · obtain ⟨n, rfl⟩ := hd
    generalize hM : av F κ st = M at r
    cases r with
    | ce q =>
      subst hM
      exact .own (E.ce n _ c q e)
  · rw [top_ne fun n z => hd ⟨n, z⟩] at e
    cases e
    exact .cl r
theorem EnvK.near (E : EnvK f κ F σ H ρ h st) (hx : (v, w) ∈ st) (e : deref h w = some d) : Nr (av F κ st) ⟨f, κ⟩ H v d := by
  have q := E.wv _ hx
  dsimp only at q
  generalize hM : av F κ st = M at q
  cases q with
  | cl r => subst hM; exact E.topR r e
  | nw n r => cases e; exact .own r
theorem Nr.mono (hm : ∀ x ∈ M', x ∈ M) (h : Nr M K H v d) : Nr M' K H v d := by
  cases h with
  | cl r => exact .cl (r.mono hm)
  | own r => exact .own (r.mono hm)
theorem Own.rep0 (h : Own M K H p d) : Rep [] K H (.ref p) d := (h.mono (M' := []) fun _ z => absurd z (List.not_mem_nil)).tree List.not_mem_nil
theorem Nr.rep0 (h : Nr M K H v d) : Rep [] K H v d := by
  cases h with
  | cl r => exact r.mono fun _ z => absurd z (List.not_mem_nil)
  | own r => exact r.rep0
theorem Own.u (h : Own M K H p d) : d.u = d := by cases h <;> rfl
theorem Nr.u (h : Nr M K H v d) : Nr M K H v d.u := by
  cases h with
  | cl r => exact .cl r.u
  | own r =>
    rw [r.u]
    exact .own r
/-- what an operation hands back -/
inductive Nw (M : List Addr) (K : Kx) (H H' : Hp) : V → W → Prop
  | cl {v : V} {d : D} : Rep M K H' v d → Nw M K H H' v (.cl d)
  | nw {p : Addr} {c : D} : H p = none → Own (p :: M) K H' p c → Nw M K H H' (.ref p) (.nw c)
theorem RepA.freshN (hp : H p = none) (r : RepA M K H xs ds) {u : HO} : RepA (p :: M) K (upd H p u) xs ds := (r.fresh hp fun x hx => (List.mem_cons.mp hx).symm).ex (Ex.nil (Ex.new hp))
theorem Nw.new (hp : H p = none) (r : RepA M K H xs ds) : Nw M K H (upd H p (.lst xs)) (.ref p) (.fr ds) := .nw hp (.lst upd_same (r.freshN hp))
theorem Nw.tup (hp : H p = none) (hM : p ∉ M) (r : RepA M K H xs ds) : Nw M K H (upd H p (.tup xs)) (.ref p) (.cl (.tup ds)) :=
  .cl (.tup ⟨upd_same, hM⟩ (r.ex (Ex.nil (Ex.new hp))))
theorem EnvK.land (E : EnvK f κ F σ H ρ h (l ++ st)) (e : Ex [] H H') (n : Nw (av F κ (l ++ st)) ⟨f, κ⟩ H H' v w) : EnvK f κ F σ H' ρ h ((v, w) :: st) := by
  have hs : ∀ x ∈ av F κ st, x ∈ av F κ (l ++ st) := av_sub fun x hx => List.mem_append.mpr (.inr hx)
  cases n with
  | cl r => exact (E.popL.grow e).pushC (r.mono hs)
  | nw hp a =>
    refine E.popL.pushN hp e (a.mono fun x hx => ?_)
    rcases List.mem_cons.mp hx with h | h
    · rw [h]
      exact List.mem_cons_self ..
    · exact List.mem_cons_of_mem _ (hs x h)
/-- a cell is changed -/
theorem EnvK.mut {u : HO} (E : EnvK f κ F σ H ρ h st) (h1 : κ[n]? = some p) (r : Own (av F κ st) ⟨f, κ⟩ (upd H p u) p c') : EnvK f κ F σ (upd H p u) ρ (h.set n c') st := by
  have hk : p ∈ κ := List.mem_of_getElem? h1
  have hM : p ∈ av F κ st := av_ka hk
  have eM : Ex (av F κ st) H (upd H p u) := Ex.mut hM
  obtain ⟨l, e1, e2⟩ := E.io
  have h0 : F.H0 p = none ∨ p ∈ F.Io := by
    rw [e1] at hk
    rcases List.mem_append.mp hk with z | z
    · exact .inr z
    · exact .inl (e2 p z)
  refine ⟨E.ok, E.len, by rw [List.length_set]; exact E.kl, E.io, fun a o hn z => ?_, fun a z => ?_, E.nd, fun j oj sj g1 g2 => (E.sl j oj sj g1 g2).ex eM, fun m q c g1 g2 => ?_, fun x hx => (E.wv x hx).ex eM fun q c e ew _ => ?_⟩
  · have hne : a ≠ p := by
      rintro rfl
      rcases h0 with h | h
      · rw [h] at z
        cases z
      · exact hn h
    rw [upd_ne hne]
    exact E.ex a o hn z
  · by_cases hne : a = p
    · rw [hne, upd_same]
      exact fun z => by cases z
    · rw [upd_ne hne]
      exact E.tr a z
  · by_cases hm : n = m
    · subst hm
      rw [h1] at g1
      cases g1
      have hl : n < h.length := by rw [← E.kl]; exact (List.getElem?_eq_some_iff.mp h1).1
      rw [List.getElem?_set_self hl] at g2
      cases g2
      exact r
    · rw [List.getElem?_set_ne hm] at g2
      have hne : q ≠ p := fun z => hm (by
        subst z
        have nd := (List.nodup_append.mp E.nd).1
        exact (List.getElem?_inj (List.getElem?_eq_some_iff.mp h1).1 nd).mp (h1.trans g1.symm))
      exact (E.ce m q c g1 g2).ex eM (upd_ne hne)
  · refine upd_ne fun z => ?_
    subst z
    have hr : q ∈ rootsW st := mem_rootsW.mpr ⟨x, hx, by
      obtain ⟨a, b⟩ := x
      cases e
      cases ew
      rfl⟩
    exact (List.nodup_append.mp E.nd).2.2 q hk q hr rfl
/-- a held new thing is changed -/
theorem EnvK.app {u : HO} (E : EnvK f κ F σ H ρ h ((.ref p, .nw c) :: st)) (r : Own (av F κ ((.ref p, .nw c) :: st)) ⟨f, κ⟩ (upd H p u) p c') : EnvK f κ F σ (upd H p u) ρ h ((.ref p, .nw c') :: st) := by
  obtain ⟨p', e, h0, own, hn⟩ := E.held
  cases e
  have hM : p ∈ av F κ ((V.ref p, W.nw c) :: st) := av_st (by rw [roots_nw]; exact List.mem_cons_self ..)
  have eM : Ex (av F κ ((V.ref p, W.nw c) :: st)) H (upd H p u) := Ex.mut hM
  refine ⟨E.ok, E.len, E.kl, E.io, fun a o hn z => ?_, fun a z => ?_, E.nd, fun j oj sj g1 g2 => (E.sl j oj sj g1 g2).ex eM, fun m q c g1 g2 => (E.ce m q c g1 g2).ex eM (upd_ne fun z => ?_), fun x hx => ?_⟩
  · have hne : a ≠ p := by
      rintro rfl
      rw [h0] at z
      cases z
    rw [upd_ne hne]
    exact E.ex a o hn z
  · by_cases hne : a = p
    · rw [hne, upd_same]
      exact fun z => by cases z
    · rw [upd_ne hne]
      exact E.tr a z
  · subst z
    exact hn (av_ka (List.mem_of_getElem? g1))
  · rcases List.mem_cons.mp hx with rfl | hx2
    · exact .nw h0 r
    · refine (E.wv x (List.mem_cons_of_mem _ hx2)).ex eM fun q c e ew _ => upd_ne fun z => ?_
      subst z
      refine hn (av_st (mem_rootsW.mpr ⟨x, hx2, ?_⟩))
      obtain ⟨a, b⟩ := x
      cases e
      cases ew
      rfl
theorem EnvK.rep (E : EnvK f κ F σ H ρ h st) (hx : (v, W.cl d) ∈ st) : Rep (av F κ st) ⟨f, κ⟩ H v d := by
  have q := E.wv _ hx
  dsimp only at q
  cases q with | cl r => exact r
end
end CM
namespace CM
open PySem PySem.Spec PyProof.Rows L2 SL
inductive R (α : Type) where
  | ok (a : α) (ρ : List Sl) (h : Tb)
  | ex (C : Str) (fs : List (Str × D)) (ρ : List Sl) (h : Tb)
abbrev Mo (α : Type) := List Sl → Tb → Option (R α)
def bindR {α β : Type} (x : Option (R α)) (f : α → List Sl → Tb → Option (R β)) : Option (R β) := match x with
  | some (.ok a ρ h) => f a ρ h
  | some (.ex C fs ρ h) => some (.ex C fs ρ h)
  | none => none
theorem bindR_some {α β : Type} {x : Option (R α)} {f : α → List Sl → Tb → Option (R β)} {r : R β} (q : bindR x f = some r) : (∃ a ρ h, x = some (.ok a ρ h) ∧ f a ρ h = some r) ∨ ∃ C fs ρ h, x = some (.ex C fs ρ h) ∧ r = .ex C fs ρ h := by
  match x, q with
  | some (.ok a ρ h), q => exact .inl ⟨a, ρ, h, rfl, q⟩
  | some (.ex C fs ρ h), q => exact .inr ⟨C, fs, ρ, h, rfl, (Option.some.inj q).symm⟩
/-- a value that may be kept: a new thing is kept as a tree -/
def fzW : W → D
  | .cl d => d
  | .nw c => c
def derefs (h : Tb) : List W → Option (List D)
  | [] => some []
  | w :: ws => (deref h w).bind fun d => (derefs h ws).bind fun ds => some (d :: ds)
section
variable {f : PySem.W.Frag} {κ : List Addr} {K : Kx} {F : Fm} {M : List Addr} {H H' : Hp} {σ : L2.St} {ρ ρ' : List Sl} {h h' : Tb} {st l : List (V × W)} {v : V} {w : W} {d : D} {ds : List D} {vs : List V} {ws : List W}
theorem EnvK.fz (E : EnvK f κ F σ H ρ h ((v, w) :: st)) : EnvK f κ F σ H ρ h ((v, .cl (fzW w)) :: st) := by
  cases w with
  | cl d => exact E
  | nw c => exact E.freeze
theorem EnvK.fzs : ∀ {ws : List W} {vs : List V} {st : List (V × W)}, vs.length = ws.length → EnvK f κ F σ H ρ h (vs.zip ws ++ st) → EnvK f κ F σ H ρ h (vs.zip ((ws.map fzW).map W.cl) ++ st)
  | [], [], st, hl, E => E
  | [], _ :: _, st, hl, E => by cases hl
  | w :: ws, [], st, hl, E => by cases hl
  | w :: ws, v :: vs, st, hl, E => by
    have E1 : EnvK f κ F σ H ρ h ((v, .cl (fzW w)) :: (vs.zip ws ++ st)) := EnvK.fz E
    have E2 : EnvK f κ F σ H ρ h (vs.zip ws ++ ((v, .cl (fzW w)) :: st)) := E1.perm List.perm_middle.symm
    exact (EnvK.fzs (by simpa using hl) E2).perm List.perm_middle
theorem EnvK.repA : ∀ {vs : List V} {ds : List D}, EnvK f κ F σ H ρ h st → vs.length = ds.length → (∀ x ∈ vs.zip (ds.map W.cl), x ∈ st) → RepA (av F κ st) ⟨f, κ⟩ H vs ds
  | [], [], _, _, _ => .nil
  | [], _ :: _, _, h, _ => by cases h
  | _ :: _, [], _, h, _ => by cases h
  | v :: vs, d :: ds, E, hl, hm => .cons (E.rep (hm _ (List.mem_cons_self ..))) (EnvK.repA E (by simpa using hl) fun x hx => hm x (List.mem_cons_of_mem _ hx))
/-- values that can be read now -/
inductive NrA (M : List Addr) (K : Kx) (H : Hp) : List V → List D → Prop
  | nil : NrA M K H [] []
  | cons {v : V} {vs : List V} {d : D} {ds : List D} : Nr M K H v d → NrA M K H vs ds → NrA M K H (v :: vs) (d :: ds)
theorem EnvK.nears : ∀ {ws : List W} {vs : List V} {ds : List D}, EnvK f κ F σ H ρ h st → vs.length = ws.length → (∀ x ∈ vs.zip ws, x ∈ st) → derefs h ws = some ds → NrA (av F κ st) ⟨f, κ⟩ H vs ds
  | [], [], ds, E, _, _, e => by cases e; exact .nil
  | [], _ :: _, _, _, e, _, _ => by cases e
  | _ :: _, [], _, _, e, _, _ => by cases e
  | w :: ws, v :: vs, ds, E, hl, hm, e => by
    unfold derefs at e
    cases h1 : deref h w with
    | none => rw [h1] at e; cases e
    | some d =>
      rw [h1] at e
      dsimp only [Option.bind_some] at e
      cases h2 : derefs h ws with
      | none => rw [h2] at e; cases e
      | some ds' =>
        rw [h2] at e
        cases e
        exact .cons (E.near (hm _ (List.mem_cons_self ..)) h1) (EnvK.nears E (by simpa using hl) (fun x hx => hm x (List.mem_cons_of_mem _ hx)) h2)
end
/-- an own exception's dict -/
inductive XdR (M : List Addr) (K : Kx) (H : Hp) (dx : Addr) (fs : List (Str × D)) : Prop
  | mk {vs : List (Str × V)} : (H dx = some (.xd vs) ∨ H dx = some (exd dx vs)) → vs.map (·.1) = fs.map (·.1) → RepA M K H (vs.map (·.2)) (fs.map (·.2)) → XdR M K H dx fs
def ExR (f : PySem.W.Frag) (F : Fm) (WW : WX) (st : List (V × W)) (C : Str) (fs : List (Str × D)) (ρ : List Sl) (h : Tb) : Prop :=
  ∀ κ σ H dx, EnvK f κ F σ H ρ h st → XdR (av F κ st) ⟨f, κ⟩ H dx fs → WW (.ref (He.ga f C)) (some dx) σ H
def PostE (f : PySem.W.Frag) (F : Fm) (WW : WX) (σ : L2.St) (st : List (V × W)) (Q : VK) : R W → Prop
  | .ok w ρ h => ∀ v H, EnvR f F σ H ρ h ((v, w) :: st) → Q v H
  | .ex C fs ρ h => ExR f F WW st C fs ρ h
def PostA (f : PySem.W.Frag) (F : Fm) (WW : WX) (σ : L2.St) (st : List (V × W)) (Q : List V → Hp → Prop) : R (List W) → Prop
  | .ok ws ρ h => ∀ vs H, vs.length = ws.length → EnvR f F σ H ρ h (vs.zip ws ++ st) → Q vs H
  | .ex C fs ρ h => ExR f F WW st C fs ρ h
def PostT (f : PySem.W.Frag) (F : Fm) (WW : WX) (σ : L2.St) (st : List (V × W)) (Q : Bool → Hp → Prop) : R Bool → Prop
  | .ok b ρ h => ∀ H, EnvR f F σ H ρ h st → Q b H
  | .ex C fs ρ h => ExR f F WW st C fs ρ h
def SimE (f : PySem.W.Frag) (WW : WX) (t : TE) (m : Mo W) : Prop := ∀ (F : Fm) (σ : L2.St) (H : Hp) (ρ : List Sl) (h : Tb) (st : List (V × W)) (r : R W) (Q : VK), EnvR f F σ H ρ h st → m ρ h = some r → PostE f F WW σ st Q r → t σ H Q
def SimA (f : PySem.W.Frag) (WW : WX) (t : TA) (m : Mo (List W)) : Prop := ∀ (F : Fm) (σ : L2.St) (H : Hp) (ρ : List Sl) (h : Tb) (st : List (V × W)) (r : R (List W)) (Q : List V → Hp → Prop), EnvR f F σ H ρ h st → m ρ h = some r → PostA f F WW σ st Q r → t σ H Q
def SimT (f : PySem.W.Frag) (WW : WX) (t : TT) (m : Mo Bool) : Prop := ∀ (F : Fm) (σ : L2.St) (H : Hp) (ρ : List Sl) (h : Tb) (st : List (V × W)) (r : R Bool) (Q : Bool → Hp → Prop), EnvR f F σ H ρ h st → m ρ h = some r → PostT f F WW σ st Q r → t σ H Q
theorem ExR.up {f : PySem.W.Frag} {F : Fm} {WW : WX} {st : List (V × W)} {x : V × W} {C : Str} {fs : List (Str × D)} {ρ : List Sl} {h : Tb} (q : ExR f F WW st C fs ρ h) : ExR f F WW (x :: st) C fs ρ h := fun κ σ H dx E z => q κ σ H dx E.pop (by
  obtain ⟨a, b, c⟩ := z
  exact .mk a b (c.mono (av_sub fun x hx => List.mem_cons_of_mem _ hx)))
def mC (d : D) : Mo W := fun ρ h => some (.ok (.cl d) ρ h)
def mVar (i : Nat) : Mo W := fun ρ h => match ρ[i]? with
  | some (.cl d) => some (.ok (.cl d) ρ h)
  | _ => none
def mOp (g : D → D → Option W) (a b : Mo W) : Mo W := fun ρ h => bindR (a ρ h) fun x ρ h => bindR (b ρ h) fun y ρ h => (deref h x).bind fun dx => (deref h y).bind fun dy => (g dx dy).map fun w => .ok w ρ h
def mUn (g : D → Option W) (a : Mo W) : Mo W := fun ρ h => bindR (a ρ h) fun x ρ h => (deref h x).bind fun dx => (g dx).map fun w => .ok w ρ h
def mNil : Mo (List W) := fun ρ h => some (.ok [] ρ h)
def mCons (a : Mo W) (b : Mo (List W)) : Mo (List W) := fun ρ h => bindR (a ρ h) fun x ρ h => bindR (b ρ h) fun xs ρ h => some (.ok (x :: xs) ρ h)
def mCB (g : List D → Option W) (a : Mo (List W)) : Mo W := fun ρ h => bindR (a ρ h) fun xs ρ h => (derefs h xs).bind fun ds => (g ds).map fun w => .ok w ρ h
def mLst (a : Mo (List W)) : Mo W := fun ρ h => bindR (a ρ h) fun xs ρ h => if xs.length ≤ 100000 then some (.ok (.fr (xs.map fzW)) ρ h) else none
def mTup (a : Mo (List W)) : Mo W := fun ρ h => bindR (a ρ h) fun xs ρ h => if xs.length ≤ 100000 then some (.ok (.cl (.tup (xs.map fzW))) ρ h) else none
/-- a new thing becomes a cell -/
def mCe (a : Mo W) : Mo W := fun ρ h => bindR (a ρ h) fun w ρ h => match w with
  | .nw c => some (.ok (.cl (.ce h.length)) ρ (h ++ [c]))
  | .cl d => some (.ok (.cl d) ρ h)
/-- a new thing is kept as a tree -/
def mFr (a : Mo W) : Mo W := fun ρ h => bindR (a ρ h) fun w ρ h => some (.ok (.cl (fzW w)) ρ h)
def mTest (a : Mo W) : Mo Bool := fun ρ h => bindR (a ρ h) fun x ρ h => match (deref h x).map D.u with
  | some (.bl b) => some (.ok b ρ h)
  | _ => none
def mNotV (a : Mo W) : Mo W := fun ρ h => bindR (mTest a ρ h) fun b ρ h => some (.ok (.cl (.bl (!b))) ρ h)
def mAndV (a b : Mo W) : Mo W := fun ρ h => bindR (mTest a ρ h) fun c ρ h => if c = true then b ρ h else some (.ok (.cl (.bl false)) ρ h)
def mIf (c : Mo Bool) (a b : Mo W) : Mo W := fun ρ h => bindR (c ρ h) fun k ρ h => if k = true then a ρ h else b ρ h
def mAnd (a b : Mo Bool) : Mo Bool := fun ρ h => bindR (a ρ h) fun c ρ h => if c = true then b ρ h else some (.ok false ρ h)
def mOr (a b : Mo Bool) : Mo Bool := fun ρ h => bindR (a ρ h) fun c ρ h => if c = true then some (.ok true ρ h) else b ρ h
def mNot (a : Mo Bool) : Mo Bool := fun ρ h => bindR (a ρ h) fun c ρ h => some (.ok (!c) ρ h)
def mYes : Mo Bool := fun ρ h => some (.ok true ρ h)
/-- a value's truth -/
def dTru : D → Option Bool
  | .non => some false
  | .bl b => some b
  | .int i => some (i != 0)
  | .str z => if z.length ≤ 100000 then some ((z.length : Int) != 0) else none
  | .lst ds => some (!ds.isEmpty)
  | .tup ds => some (!ds.isEmpty)
  | .dK ds => some (!ds.isEmpty)
  | _ => none
def mTru (a : Mo W) : Mo Bool := fun ρ h => bindR (a ρ h) fun x ρ h => ((deref h x).bind fun d => dTru d.u).map fun b => .ok b ρ h
/-- an operator by values -/
def Op2 (f : PySem.W.Frag) (r : R2) (g : D → D → Option W) : Prop := ∀ (κ : List Addr) (M : List Addr) (H : Hp) (x y : V) (dx dy : D) (w : W) (Q : VK), (∀ p, H p = none → p ∉ M) → Nr M ⟨f, κ⟩ H x dx → Nr M ⟨f, κ⟩ H y dy → g dx dy = some w →
  (∀ v H', Ex [] H H' → Nw M ⟨f, κ⟩ H H' v w → Q v H') → r x y H Q
def OpN (f : PySem.W.Frag) (r : List V → Hp → VK → Prop) (g : List D → Option W) : Prop := ∀ (κ : List Addr) (M : List Addr) (H : Hp) (xs : List V) (ds : List D) (w : W) (Q : VK), (∀ p, H p = none → p ∉ M) → NrA M ⟨f, κ⟩ H xs ds → g ds = some w →
  (∀ v H', Ex [] H H' → Nw M ⟨f, κ⟩ H H' v w → Q v H') → r xs H Q
section
variable {f : PySem.W.Frag} {WW : WX} {ta tb tc te : TE} {ma mb mc me : Mo W} {tr tk : TA} {mr mk : Mo (List W)} {tt tu : TT} {mt mu : Mo Bool} {d : D} {i : Nat}
theorem sim_c {v : V} (hr : ∀ M κ H, Rep M ⟨f, κ⟩ H v d) : SimE f WW (tC v) (mC d) := fun F σ H ρ h st r Q ⟨κ, E⟩ e p => by
  cases e
  exact p v H ⟨κ, E.pushC (hr _ _ _)⟩
theorem sim_var : SimE f WW (tVar i) (mVar i) := fun F σ H ρ h st r Q ⟨κ, E⟩ e p => by
  unfold mVar at e
  split at e
  · rename_i d hd
    cases e
    obtain ⟨o, ho, q⟩ := slot_at E hd
    generalize hM : av F κ st = M at q
    cases q with
    | cl a => subst hM; exact ⟨_, ho, p _ H ⟨κ, E.pushC a⟩⟩
  · cases e
theorem sim_op {r : R2} {g : D → D → Option W} (o : Op2 f r g) (ha : SimE f WW ta ma) (hb : SimE f WW tb mb) : SimE f WW (tOp r ta tb) (mOp g ma mb) := fun F σ H ρ h st x Q E e p => by
  rcases bindR_some e with ⟨w1, ρ1, h1, e1, e⟩ | ⟨C, fs, ρ1, h1, e1, rfl⟩
  · refine ha F σ H ρ h st _ _ E e1 fun v1 H1 E1 => ?_
    rcases bindR_some e with ⟨w2, ρ2, h2, e2, e⟩ | ⟨C, fs, ρ2, h2, e2, rfl⟩
    · refine hb F σ H1 ρ1 h1 _ _ _ E1 e2 fun v2 H2 ⟨κ, E2⟩ => ?_
      cases g1 : deref h2 w1 with
      | none => rw [g1] at e; cases e
      | some d1 =>
        rw [g1] at e
        dsimp only [Option.bind_some] at e
        cases g2 : deref h2 w2 with
        | none => rw [g2] at e; cases e
        | some d2 =>
          rw [g2] at e
          dsimp only [Option.bind_some] at e
          cases g3 : g d1 d2 with
          | none => rw [g3] at e; cases e
          | some w =>
            rw [g3] at e
            cases e
            exact o κ _ H2 v1 v2 d1 d2 w Q (fun q hq => av_new E2 hq) (E2.near (List.mem_cons_of_mem _ (List.mem_cons_self ..)) g1) (E2.near (List.mem_cons_self ..) g2) g3
              fun v H' ex nw => p v H' ⟨κ, EnvK.land (l := [(v2, w2), (v1, w1)]) E2 ex nw⟩
    · exact hb F σ H1 ρ1 h1 _ _ _ E1 e2 (ExR.up p)
  · exact ha F σ H ρ h st _ _ E e1 p
theorem sim_nil : SimA f WW tNil mNil := fun F σ H ρ h st x Q E e p => by
  cases e
  exact p [] H rfl E
theorem sim_cons (ha : SimE f WW ta ma) (hb : SimA f WW tr mr) : SimA f WW (tCons ta tr) (mCons ma mr) := fun F σ H ρ h st x Q E e p => by
  rcases bindR_some e with ⟨w1, ρ1, h1, e1, e⟩ | ⟨C, fs, ρ1, h1, e1, rfl⟩
  · refine ha F σ H ρ h st _ _ E e1 fun v1 H1 E1 => ?_
    rcases bindR_some e with ⟨ws, ρ2, h2, e2, e⟩ | ⟨C, fs, ρ2, h2, e2, rfl⟩
    · refine hb F σ H1 ρ1 h1 _ _ _ E1 e2 fun vs H2 hl ⟨κ, E2⟩ => ?_
      cases e
      exact p (v1 :: vs) H2 (by simp [hl]) ⟨κ, E2.perm List.perm_middle⟩
    · exact hb F σ H1 ρ1 h1 _ _ _ E1 e2 (ExR.up p)
  · exact ha F σ H ρ h st _ _ E e1 p
theorem sim_cb {r : List V → Hp → VK → Prop} {g : List D → Option W} (o : OpN f r g) (ha : SimA f WW tr mr) : SimE f WW (tCB r tr) (mCB g mr) := fun F σ H ρ h st x Q E e p => by
  rcases bindR_some e with ⟨ws, ρ1, h1, e1, e⟩ | ⟨C, fs, ρ1, h1, e1, rfl⟩
  · refine ha F σ H ρ h st _ _ E e1 fun vs H1 hl ⟨κ, E1⟩ => ?_
    cases g1 : derefs h1 ws with
    | none => rw [g1] at e; cases e
    | some ds =>
      rw [g1] at e
      dsimp only [Option.bind_some] at e
      cases g3 : g ds with
      | none => rw [g3] at e; cases e
      | some w =>
        rw [g3] at e
        cases e
        exact o κ _ H1 vs ds w Q (fun q hq => av_new E1 hq) (E1.nears hl (fun x hx => List.mem_append.mpr (.inl hx)) g1) g3 fun v H' ex nw => p v H' ⟨κ, EnvK.land (l := vs.zip ws) E1 ex nw⟩
  · exact ha F σ H ρ h st _ _ E e1 p
theorem sim_lst (ha : SimA f WW tr mr) : SimE f WW (tLst tr) (mLst mr) := fun F σ H ρ h st x Q E e p => by
  rcases bindR_some e with ⟨ws, ρ1, h1, e1, e⟩ | ⟨C, fs, ρ1, h1, e1, rfl⟩
  · refine ha F σ H ρ h st _ _ E e1 fun vs H1 hl ⟨κ, E1⟩ => ?_
    split at e
    · rename_i g3
      cases e
      have E2 := E1.fzs hl
      refine ⟨sz_le (by omega), fun q hq => p _ _ ⟨κ, ?_⟩⟩
      have ra := E2.repA (by simpa using hl) fun x hx => List.mem_append.mpr (.inl hx)
      exact EnvK.land (l := vs.zip ((ws.map fzW).map W.cl)) E2 (Ex.new hq) (Nw.new hq ra)
    · cases e
  · exact ha F σ H ρ h st _ _ E e1 p
theorem sim_tup (ha : SimA f WW tr mr) : SimE f WW (tTup tr) (mTup mr) := fun F σ H ρ h st x Q E e p => by
  rcases bindR_some e with ⟨ws, ρ1, h1, e1, e⟩ | ⟨C, fs, ρ1, h1, e1, rfl⟩
  · refine ha F σ H ρ h st _ _ E e1 fun vs H1 hl ⟨κ, E1⟩ => ?_
    split at e
    · rename_i g3
      cases e
      have E2 := E1.fzs hl
      refine ⟨sz_le (by omega), fun q hq => p _ _ ⟨κ, ?_⟩⟩
      have ra := E2.repA (by simpa using hl) fun x hx => List.mem_append.mpr (.inl hx)
      exact EnvK.land (l := vs.zip ((ws.map fzW).map W.cl)) E2 (Ex.new hq) (Nw.tup hq (av_new E2 hq) ra)
    · cases e
  · exact ha F σ H ρ h st _ _ E e1 p
theorem sim_ce (ha : SimE f WW te me) : SimE f WW te (mCe me) := fun F σ H ρ h st x Q E e p => by
  rcases bindR_some e with ⟨w, ρ1, h1, e1, e⟩ | ⟨C, fs, ρ1, h1, e1, rfl⟩
  · refine ha F σ H ρ h st _ _ E e1 fun v H1 ⟨κ, E1⟩ => ?_
    cases w with
    | nw c =>
      cases e
      obtain ⟨q, _, E2⟩ := E1.cell
      exact p v H1 ⟨_, E2⟩
    | cl d => cases e; exact p v H1 ⟨κ, E1⟩
  · exact ha F σ H ρ h st _ _ E e1 p
theorem sim_fr (ha : SimE f WW te me) : SimE f WW te (mFr me) := fun F σ H ρ h st x Q E e p => by
  rcases bindR_some e with ⟨w, ρ1, h1, e1, e⟩ | ⟨C, fs, ρ1, h1, e1, rfl⟩
  · refine ha F σ H ρ h st _ _ E e1 fun v H1 ⟨κ, E1⟩ => ?_
    cases e
    exact p v H1 ⟨κ, E1.fz⟩
  · exact ha F σ H ρ h st _ _ E e1 p
theorem rep_bl {M : List Addr} {K : Kx} {H : Hp} {v : V} {b : Bool} (h : Rep M K H v (.bl b)) : v = .bl b := by cases h; rfl
theorem rep_int {M : List Addr} {K : Kx} {H : Hp} {v : V} {b : Int} (h : Rep M K H v (.int b)) : v = .int b := by cases h; rfl
theorem rep_str {M : List Addr} {K : Kx} {H : Hp} {v : V} {b : Str} (h : Rep M K H v (.str b)) : v = .str b := by cases h; rfl
theorem rep_non {M : List Addr} {K : Kx} {H : Hp} {v : V} (h : Rep M K H v .non) : v = .non := by cases h; rfl
theorem sim_bB (ha : SimE f WW ta ma) : ∀ (F : Fm) (σ : L2.St) (H : Hp) (ρ : List Sl) (h : Tb) (st : List (V × W)) (r : R Bool) (Q : VK), EnvR f F σ H ρ h st → mTest ma ρ h = some r → PostT f F WW σ st (fun b H => Q (.bl b) H) r → ta σ H Q := fun F σ H ρ h st x Q E e p => by
  rcases bindR_some e with ⟨w1, ρ1, h1, e1, e⟩ | ⟨C, fs, ρ1, h1, e1, rfl⟩
  · refine ha F σ H ρ h st _ _ E e1 fun v1 H1 ⟨κ, E1⟩ => ?_
    cases g1 : deref h1 w1 with
    | none => rw [g1] at e; cases e
    | some d1 =>
      rw [g1] at e
      dsimp only [Option.map_some] at e
      have nr := (E1.near (List.mem_cons_self ..) g1).u.rep0
      split at e
      · rename_i b hb
        rw [Option.some.inj hb] at nr
        cases rep_bl nr
        cases e
        exact p H1 ⟨κ, E1.pop⟩
      · cases e
  · exact ha F σ H ρ h st _ _ E e1 p
theorem sim_test (ha : SimE f WW ta ma) : SimT f WW (tTest ta) (mTest ma) := fun F σ H ρ h st x Q E e p =>
  sim_bB ha F σ H ρ h st x (fun v H' => ∃ k, v = .bl k ∧ Q k H') E e (by
    cases x with
    | ok b ρ' h' => exact fun H E => ⟨b, rfl, p H E⟩
    | ex C fs ρ' h' => exact p)
theorem EnvR.pushC0 {F : Fm} {σ : L2.St} {H : Hp} {ρ : List Sl} {h : Tb} {st : List (V × W)} {v : V} {d : D} (E : EnvR f F σ H ρ h st) (r : ∀ M κ, Rep M ⟨f, κ⟩ H v d) : EnvR f F σ H ρ h ((v, .cl d) :: st) := E.elim fun κ E => ⟨κ, E.pushC (r _ _)⟩
theorem EnvR.pop {F : Fm} {σ : L2.St} {H : Hp} {ρ : List Sl} {h : Tb} {st : List (V × W)} {x : V × W} (E : EnvR f F σ H ρ h (x :: st)) : EnvR f F σ H ρ h st := E.elim fun κ E => ⟨κ, E.pop⟩
theorem sim_andV (ha : SimE f WW ta ma) (hb : SimE f WW tb mb) : SimE f WW (tAndV ta tb) (mAndV ma mb) := fun F σ H ρ h st x Q E e p => by
  rcases bindR_some e with ⟨b, ρ1, h1, e1, e⟩ | ⟨C, fs, ρ1, h1, e1, rfl⟩
  · refine sim_bB ha F σ H ρ h st _ (fun v H' => ∃ k, v = .bl k ∧ if k = true then tb σ H' Q else Q (.bl false) H') E e1 fun H1 E1 => ⟨b, rfl, ?_⟩
    by_cases hk : b = true
    · rw [if_pos hk] at e ⊢
      exact hb F σ H1 ρ1 h1 st x Q E1 e p
    · rw [if_neg hk] at e ⊢
      cases e
      exact p _ _ (E1.pushC0 fun _ _ => .bl _)
  · exact sim_bB ha F σ H ρ h st _ _ E e1 p
theorem sim_if (hc : SimT f WW tt mt) (ha : SimE f WW ta ma) (hb : SimE f WW tb mb) : SimE f WW (tIf tt ta tb) (mIf mt ma mb) := fun F σ H ρ h st x Q E e p => by
  rcases bindR_some e with ⟨b, ρ1, h1, e1, e⟩ | ⟨C, fs, ρ1, h1, e1, rfl⟩
  · refine hc F σ H ρ h st _ _ E e1 fun H1 E1 => ?_
    by_cases hk : b = true
    · rw [if_pos hk] at e ⊢
      exact ha F σ H1 ρ1 h1 st x Q E1 e p
    · rw [if_neg hk] at e ⊢
      exact hb F σ H1 ρ1 h1 st x Q E1 e p
  · exact hc F σ H ρ h st _ _ E e1 p
theorem sim_and (hc : SimT f WW tt mt) (hd : SimT f WW tu mu) : SimT f WW (tAnd tt tu) (mAnd mt mu) := fun F σ H ρ h st x Q E e p => by
  rcases bindR_some e with ⟨b, ρ1, h1, e1, e⟩ | ⟨C, fs, ρ1, h1, e1, rfl⟩
  · refine hc F σ H ρ h st _ _ E e1 fun H1 E1 => ?_
    by_cases hk : b = true
    · rw [if_pos hk] at e ⊢
      exact hd F σ H1 ρ1 h1 st x Q E1 e p
    · rw [if_neg hk] at e ⊢
      cases e
      exact p H1 E1
  · exact hc F σ H ρ h st _ _ E e1 p
theorem sim_or (hc : SimT f WW tt mt) (hd : SimT f WW tu mu) : SimT f WW (tOr tt tu) (mOr mt mu) := fun F σ H ρ h st x Q E e p => by
  rcases bindR_some e with ⟨b, ρ1, h1, e1, e⟩ | ⟨C, fs, ρ1, h1, e1, rfl⟩
  · refine hc F σ H ρ h st _ _ E e1 fun H1 E1 => ?_
    by_cases hk : b = true
    · rw [if_pos hk] at e ⊢
      cases e
      exact p H1 E1
    · rw [if_neg hk] at e ⊢
      exact hd F σ H1 ρ1 h1 st x Q E1 e p
  · exact hc F σ H ρ h st _ _ E e1 p
theorem sim_not (hc : SimT f WW tt mt) : SimT f WW (tNot tt) (mNot mt) := fun F σ H ρ h st x Q E e p => by
  rcases bindR_some e with ⟨b, ρ1, h1, e1, e⟩ | ⟨C, fs, ρ1, h1, e1, rfl⟩
  · refine hc F σ H ρ h st _ _ E e1 fun H1 E1 => ?_
    cases e
    exact p H1 E1
  · exact hc F σ H ρ h st _ _ E e1 p
theorem sim_yes : SimT f WW tYes mYes := fun F σ H ρ h st x Q E e p => by
  cases e
  exact p H E
theorem tru_of {M : List Addr} {K : Kx} {H : Hp} {v : V} {d : D} {b : Bool} (r : Rep M K H v d) (e : dTru d = some b) : TruV K v H b := by
  cases r with
  | non => cases e; rfl
  | bl c => cases e; rfl
  | int i => cases e; rfl
  | str z =>
    have e : (if z.length ≤ 100000 then some ((z.length : Int) != 0) else none) = some b := e
    by_cases hz : z.length ≤ 100000
    · rw [if_pos hz] at e
      cases e
      exact ⟨sz_le hz, rfl⟩
    · rw [if_neg hz] at e
      cases e
  | lst h a =>
    cases e
    refine .inl ⟨_, .inl (.inl h.at_), ?_⟩
    cases a <;> rfl
  | scr h => cases e
  | tup h a =>
    cases e
    refine .inr (.inl ⟨_, h.sq, ?_⟩)
    cases a <;> rfl
  | @dK a kvs ds h n _ =>
    cases e
    refine .inr (.inr ⟨_, h.at_, ?_⟩)
    cases kvs with
    | nil => cases ds with
      | nil => rfl
      | cons _ _ => cases n
    | cons _ _ => cases ds with
      | nil => cases n
      | cons _ _ => rfl
  | ty n => cases e
  | glo x => cases e
  | rng h => cases e
  | ins h n a => cases e
  | exc h h2 n a => cases e
  | ce h => cases e
  | tg h => cases e
  | bo h h2 => cases e
theorem sim_tru (ha : SimE f WW ta ma) : SimT f WW (tTruK f ta) (mTru ma) := fun F σ H ρ h st x Q E e p => by
  rcases bindR_some e with ⟨w1, ρ1, h1, e1, e⟩ | ⟨C, fs, ρ1, h1, e1, rfl⟩
  · refine ha F σ H ρ h st _ _ E e1 fun v1 H1 ⟨κ, E1⟩ => ?_
    cases g1 : deref h1 w1 with
    | none => rw [g1] at e; cases e
    | some d1 =>
      rw [g1] at e
      dsimp only [Option.bind_some] at e
      cases g2 : dTru d1.u with
      | none => rw [g2] at e; cases e
      | some b =>
        rw [g2] at e
        cases e
        exact ⟨b, tru_of (K := ⟨f, κ⟩) (E1.near (List.mem_cons_self ..) g1).u.rep0 g2, p H1 ⟨κ, E1.pop⟩⟩
  · exact ha F σ H ρ h st _ _ E e1 p
end
mutual
def snapW (g : Nat → Option D) : D → Option D
  | .lst xs => (snapWs g xs).map .lst
  | .tup xs => (snapWs g xs).map .tup
  | .dK kvs => (snapWK g kvs).map .dK
  | .ins C fs => (snapWF g fs).map (.ins C)
  | .exc C fs => (snapWF g fs).map (.exc C)
  | .ce n => g n
  | .tg v d => (snapW g d).map (.tg v)
  | .bo _ _ _ => none
  | d => some d
def snapWs (g : Nat → Option D) : List D → Option (List D)
  | [] => some []
  | d :: ds => (snapW g d).bind fun x => (snapWs g ds).map (x :: ·)
def snapWF (g : Nat → Option D) : List (Str × D) → Option (List (Str × D))
  | [] => some []
  | (a, d) :: ds => (snapW g d).bind fun x => (snapWF g ds).map ((a, x) :: ·)
def snapWK (g : Nat → Option D) : List (L2.Key × D) → Option (List (L2.Key × D))
  | [] => some []
  | (a, d) :: ds => (snapW g d).bind fun x => (snapWK g ds).map ((a, x) :: ·)
end
/-- a value, what its cells hold put in their places (not deeper than n cells) -/
def snapN (h : Tb) : Nat → D → Option D
  | 0 => snapW fun _ => none
  | n + 1 => snapW fun k => (h[k]?).bind (snapN h n)
def snap (h : Tb) (d : D) : Option D := snapN h 6 d
def snapV (h : Tb) (w : W) : Option D := snap h (fzW w)
end CM
namespace CM
open PySem PySem.Spec PyProof.Rows L2 SL
inductive Out where
  | nx (ρ : List Sl) (h : Tb) | rt (w : W) (ρ : List Sl) (h : Tb) | bk (ρ : List Sl) (h : Tb) | ct (ρ : List Sl) (h : Tb) | ex (C : Str) (fs : List (Str × D)) (ρ : List Sl) (h : Tb)
abbrev MS := List Sl → Tb → Option Out
def PostS (f : PySem.W.Frag) (F : Fm) (WW : WX) (st : List (V × W)) (D : Ends) : Out → Prop
  | .nx ρ h => ∀ σ H, EnvR f F σ H ρ h st → D.nx σ H
  | .rt w ρ h => ∀ σ v H, EnvR f F σ H ρ h ((v, w) :: st) → D.rt v H
  | .bk ρ h => ∀ σ H, EnvR f F σ H ρ h st → D.bk σ H
  | .ct ρ h => ∀ σ H, EnvR f F σ H ρ h st → D.ct σ H
  | .ex C fs ρ h => ExR f F WW st C fs ρ h
def SimS (f : PySem.W.Frag) (WW : WX) (t : TS) (m : MS) : Prop := ∀ (F : Fm) (σ : L2.St) (H : Hp) (ρ : List Sl) (h : Tb) (st : List (V × W)) (o : Out) (D : Ends), EnvR f F σ H ρ h st → m ρ h = some o → PostS f F WW st D o → t D σ H
/-- an expression's run, then what follows; what it raises goes on -/
def bindS {α : Type} (x : Option (R α)) (f : α → List Sl → Tb → Option Out) : Option Out := match x with
  | some (.ok a ρ h) => f a ρ h
  | some (.ex C fs ρ h) => some (.ex C fs ρ h)
  | none => none
theorem bindS_some {α : Type} {x : Option (R α)} {f : α → List Sl → Tb → Option Out} {r : Out} (q : bindS x f = some r) : (∃ a ρ h, x = some (.ok a ρ h) ∧ f a ρ h = some r) ∨ ∃ C fs ρ h, x = some (.ex C fs ρ h) ∧ r = .ex C fs ρ h := by
  match x, q with
  | some (.ok a ρ h), q => exact .inl ⟨a, ρ, h, rfl, q⟩
  | some (.ex C fs ρ h), q => exact .inr ⟨C, fs, ρ, h, rfl, (Option.some.inj q).symm⟩
/-- a target -/
abbrev Fr2 := List Sl × Tb
abbrev Tg := W → List Sl → Tb → Option Fr2
def SimG (f : PySem.W.Frag) (g : TG) (m : Tg) : Prop := ∀ (F : Fm) (σ : L2.St) (H : Hp) (ρ : List Sl) (h : Tb) (x : Fr2) (st : List (V × W)) (v : V) (w : W) (Q : L2.St → Hp → Prop), EnvR f F σ H ρ h ((v, w) :: st) → m w ρ h = some x →
  (∀ σ' H', EnvR f F σ' H' x.1 x.2 st → Q σ' H') → g v σ H Q
/-- x = e; a new thing becomes a cell -/
def gSet (i : Nat) : Tg := fun w ρ h => match w with
  | .nw c => some (ρ.set i (.cl (.ce h.length)), h ++ [c])
  | .cl d => some (ρ.set i (.cl d), h)
/-- x = e; a new thing is a tree that stays -/
def gSetC (i : Nat) : Tg := fun w ρ h => some (ρ.set i (.cl (fzW w)), h)
section
variable {f : PySem.W.Frag} {i : Nat}
theorem sim_gname : SimG f (gName i) (gSet i) := fun F σ H ρ h x st v w Q ⟨κ, E⟩ e q => by
  cases w with
  | nw c =>
    cases e
    obtain ⟨p, rfl, E2⟩ := E.cell
    exact q _ _ ⟨_, E2.setC⟩
  | cl d => cases e; exact q _ _ ⟨_, E.setC⟩
theorem sim_gnameC : SimG f (gName i) (gSetC i) := fun F σ H ρ h x st v w Q ⟨κ, E⟩ e q => by
  cases e
  exact q _ _ ⟨_, E.fz.setC⟩
end
abbrev Tgs := List D → List Sl → Tb → Option Fr2
def gsNil : Tgs
  | [], ρ, h => some (ρ, h)
  | _, _, _ => none
def gsCons (g : Tg) (gs : Tgs) : Tgs
  | d :: ds, ρ, h => (g (.cl d) ρ h).bind fun x => gs ds x.1 x.2
  | [], _, _ => none
def gTupM (n : Nat) (gs : Tgs) : Tg := fun w ρ h => match w with
  | .cl d => match d.u with
    | .tup ds => if ds.length = n then gs ds ρ h else none
    | _ => none
  | _ => none
def SimGs (f : PySem.W.Frag) (g : TGs) (m : Tgs) : Prop := ∀ (F : Fm) (σ : L2.St) (H : Hp) (ρ : List Sl) (h : Tb) (x : Fr2) (st : List (V × W)) (vs : List V) (ds : List D) (Q : L2.St → Hp → Prop), vs.length = ds.length → EnvR f F σ H ρ h (vs.zip (ds.map W.cl) ++ st) → m ds ρ h = some x →
  (∀ σ' H', EnvR f F σ' H' x.1 x.2 st → Q σ' H') → g vs σ H Q
section
variable {f : PySem.W.Frag} {κ : List Addr} {F : Fm} {g : TG} {gs : TGs} {m : Tg} {ms : Tgs} {n : Nat} {H : Hp} {σ : L2.St} {ρ : List Sl} {h : Tb} {st : List (V × W)}
theorem sim_gnil : SimGs f gNil gsNil := fun F σ H ρ h x st vs ds Q hl E e q => by
  cases ds with
  | nil =>
    cases vs with
    | nil => cases e; exact ⟨rfl, q _ _ E⟩
    | cons _ _ => cases hl
  | cons _ _ => cases e
theorem sim_gcons (hg : SimG f g m) (hs : SimGs f gs ms) : SimGs f (gCons g gs) (gsCons m ms) := fun F σ H ρ h x st vs ds Q hl E e q => by
  cases ds with
  | nil => cases e
  | cons d ds =>
    cases vs with
    | nil => cases hl
    | cons v vs =>
      have e : ((m (.cl d) ρ h).bind fun x => ms ds x.1 x.2) = some x := e
      cases h1 : m (.cl d) ρ h with
      | none => rw [h1] at e; cases e
      | some y =>
        rw [h1] at e
        exact ⟨v, vs, rfl, hg F σ H ρ h y _ v (.cl d) _ E h1 fun σ1 H1 E1 => hs F σ1 H1 y.1 y.2 x st vs ds Q (by simpa using hl) E1 e q⟩
/-- the items of a tuple that stays are held -/
theorem EnvK.pushAll : ∀ {vs : List V} {ds : List D}, EnvK f κ F σ H ρ h st → RepA (av F κ st) ⟨f, κ⟩ H vs ds → EnvK f κ F σ H ρ h (vs.zip (ds.map W.cl) ++ st)
  | _, _, E, .nil => E
  | _, _, E, .cons (v := v) (vs := vs) (d := d) (ds := ds) r a => by
    have E1 := EnvK.pushAll E a
    have er : av F κ (vs.zip (ds.map W.cl) ++ st) = av F κ st := by
      show F.A ++ (κ ++ rootsW _) = _
      unfold rootsW
      rw [List.filterMap_append]
      have e0 : (vs.zip (ds.map W.cl)).filterMap rootW = [] := by
        rw [List.filterMap_eq_nil_iff]
        rintro ⟨v, w⟩ h
        obtain ⟨d, _, e⟩ := List.mem_map.mp (List.of_mem_zip h).2
        subst e
        exact rootW_cl
      rw [e0]
      rfl
    exact E1.pushC (by rw [er]; exact r)
theorem sim_gtup (hs : SimGs f gs ms) : SimG f (gTup f n gs) (gTupM n ms) := fun F σ H ρ h x st v w Q ⟨κ, E⟩ e q => by
  cases w with
  | cl d =>
    have e : (match d.u with
      | .tup ds => if ds.length = n then ms ds ρ h else none
      | _ => none) = some x := e
    have r := (E.rep (List.mem_cons_self ..)).u
    split at e
    · rename_i ds hd
      rw [hd] at r
      split at e
      · rename_i hn
        generalize hM : av F κ ((v, W.cl d) :: st) = M at r
        cases r with
        | tup a b =>
          subst hM
          refine ⟨_, _, rfl, a.sq, b.len.trans hn, hs F σ H ρ h x st _ ds Q b.len ⟨κ, ?_⟩ e q⟩
          exact (E.pop).pushAll (b.mono (av_sub fun x hx => List.mem_cons_of_mem _ hx))
      · cases e
    · cases e
  | nw c => cases e
end
def sSeq (a b : MS) : MS := fun ρ h => match a ρ h with
  | some (.nx ρ' h') => b ρ' h'
  | x => x
def sNext : MS := fun ρ h => some (.nx ρ h)
def sNever : MS := fun _ _ => none
def sAsg (e : Mo W) (g : Tg) : MS := fun ρ h => bindS (e ρ h) fun w ρ h => (g w ρ h).map fun x => .nx x.1 x.2
def sRet (e : Mo W) : MS := fun ρ h => bindS (e ρ h) fun w ρ h => some (.rt w ρ h)
def sRetN : MS := fun ρ h => some (.rt (.cl .non) ρ h)
def sIf (c : Mo Bool) (a b : MS) : MS := fun ρ h => bindS (c ρ h) fun k ρ h => if k = true then a ρ h else b ρ h
def sDrop (e : Mo W) : MS := fun ρ h => bindS (e ρ h) fun _ ρ h => some (.nx ρ h)
def sCnt : MS := fun ρ h => some (.ct ρ h)
def sAug (g : D → D → Option W) (i : Nat) (e : Mo W) : MS := fun ρ h => bindS (mVar i ρ h) fun x ρ h => bindS (e ρ h) fun y ρ h => (deref h x).bind fun dx => (deref h y).bind fun dy => (g dx dy).bind fun w => some (.nx (ρ.set i (.cl (fzW w))) h)
/-- slots that are forgotten ahead of a statement -/
def wipeS (vs : List Nat) (ρ : List Sl) : List Sl := vs.foldr (fun i ρ => ρ.set i .un) ρ
def sFg (is : List Nat) (m : MS) : MS := fun ρ h => m (wipeS is ρ) h
section
variable {f : PySem.W.Frag} {WW : WX} {te : TE} {me : Mo W} {t u : TS} {m m' : MS} {g : TG} {mg : Tg} {tt : TT} {mt : Mo Bool} {tr : TA} {mr : Mo (List W)} {i j : Nat}
theorem sim_seq (ha : SimS f WW t m) (hb : SimS f WW u m') : SimS f WW (tSeq t u) (sSeq m m') := fun F σ H ρ h st o D E e p => by
  unfold sSeq at e
  split at e
  · rename_i ρ1 h1 q1
    exact ha F σ H ρ h st _ _ E q1 fun σ1 H1 E1 => hb F σ1 H1 ρ1 h1 st o D E1 e p
  · rename_i x hx
    refine ha F σ H ρ h st o _ E e ?_
    cases o with
    | nx ρ1 h1 => exact absurd e (fun z => hx ρ1 h1 z)
    | rt w ρ1 h1 => exact p
    | bk ρ1 h1 => exact p
    | ct ρ1 h1 => exact p
    | ex C fs ρ1 h1 => exact p
theorem sim_next : SimS f WW tNext sNext := fun F σ H ρ h st o D E e p => by
  cases e
  exact p _ _ E
theorem sim_asg (he : SimE f WW te me) (hg : SimG f g mg) : SimS f WW (tAsg te g) (sAsg me mg) := fun F σ H ρ h st o D E e p => by
  rcases bindS_some e with ⟨w1, ρ1, h1, e1, e⟩ | ⟨C, fs, ρ1, h1, e1, rfl⟩
  · refine he F σ H ρ h st _ _ E e1 fun v1 H1 E1 => ?_
    cases q : mg w1 ρ1 h1 with
    | none => rw [q] at e; cases e
    | some x =>
      rw [q] at e
      cases e
      exact hg F σ H1 ρ1 h1 x st v1 w1 _ E1 q p
  · exact he F σ H ρ h st _ _ E e1 p
theorem sim_ret (he : SimE f WW te me) : SimS f WW (tRet te) (sRet me) := fun F σ H ρ h st o D E e p => by
  rcases bindS_some e with ⟨w1, ρ1, h1, e1, e⟩ | ⟨C, fs, ρ1, h1, e1, rfl⟩
  · refine he F σ H ρ h st _ _ E e1 fun v1 H1 E1 => ?_
    cases e
    exact p _ _ _ E1
  · exact he F σ H ρ h st _ _ E e1 p
theorem sim_ifs (hc : SimT f WW tt mt) (ha : SimS f WW t m) (hb : SimS f WW u m') : SimS f WW (tIfS tt t u) (sIf mt m m') := fun F σ H ρ h st o D E e p => by
  rcases bindS_some e with ⟨b, ρ1, h1, e1, e⟩ | ⟨C, fs, ρ1, h1, e1, rfl⟩
  · refine hc F σ H ρ h st _ _ E e1 fun H1 E1 => ?_
    by_cases hk : b = true
    · rw [if_pos hk] at e ⊢
      exact ha F σ H1 ρ1 h1 st o D E1 e p
    · rw [if_neg hk] at e ⊢
      exact hb F σ H1 ρ1 h1 st o D E1 e p
  · exact hc F σ H ρ h st _ _ E e1 p
theorem sim_drop (he : SimE f WW te me) : SimS f WW (tDrop te) (sDrop me) := fun F σ H ρ h st o D E e p => by
  rcases bindS_some e with ⟨w1, ρ1, h1, e1, e⟩ | ⟨C, fs, ρ1, h1, e1, rfl⟩
  · refine he F σ H ρ h st _ _ E e1 fun v1 H1 E1 => ?_
    cases e
    exact p _ _ E1.pop
  · exact he F σ H ρ h st _ _ E e1 p
theorem EnvK.fg {κ : List Addr} {F : Fm} {H : Hp} {σ : L2.St} {ρ : List Sl} {h : Tb} {st : List (V × W)} (E : EnvK f κ F σ H ρ h st) : ∀ {is : List Nat}, EnvK f κ F σ H (wipeS is ρ) h st
  | [] => E
  | i :: is => by
    have E1 := EnvK.fg E (is := is)
    show EnvK f κ F σ H ((wipeS is ρ).set i .un) h st
    by_cases hi : i < σ.length
    · have E2 := E1.forget (i := i) σ[i]
      rwa [set_self (List.getElem?_eq_getElem hi)] at E2
    · have hl := E1.len
      rw [List.set_eq_of_length_le (by omega)]
      exact E1
theorem sim_fg {is : List Nat} (hs : SimS f WW t m) : SimS f WW t (sFg is m) := fun F σ H ρ h st o D ⟨κ, E⟩ e p => hs F σ H (wipeS is ρ) h st o D ⟨κ, E.fg⟩ e p
def gPut (own : Bool) (i : Nat) (w : W) (ρ : List Sl) (h : Tb) : Fr2 := match own, w with
  | true, .nw c => (ρ.set i (.cl (.ce h.length)), h ++ [c])
  | _, w => (ρ.set i (.cl (fzW w)), h)
def sPar (o1 o2 : Bool) (i j : Nat) (a : Mo (List W)) : MS := fun ρ h => bindS (a ρ h) fun ws ρ h => match ws with
  | [v, w] => let x := gPut o1 i v ρ h; let y := gPut o2 j w x.1 x.2; some (.nx y.1 y.2)
  | _ => none
theorem EnvR.gput {F : Fm} {H : Hp} {σ : L2.St} {ρ : List Sl} {h : Tb} {st : List (V × W)} {v : V} {w : W} {own : Bool} (E : EnvR f F σ H ρ h ((v, w) :: st)) : EnvR f F (σ.set i (some v)) H (gPut own i w ρ h).1 (gPut own i w ρ h).2 st := by
  obtain ⟨κ, E⟩ := E
  cases own with
  | false => exact ⟨κ, E.fz.setC⟩
  | true =>
    cases w with
    | cl d => exact ⟨κ, E.setC⟩
    | nw c =>
      obtain ⟨p, rfl, E2⟩ := E.cell
      exact ⟨_, E2.setC⟩
theorem EnvR.perm {F : Fm} {H : Hp} {σ : L2.St} {ρ : List Sl} {h : Tb} {st st' : List (V × W)} (E : EnvR f F σ H ρ h st) (q : st.Perm st') : EnvR f F σ H ρ h st' := E.elim fun κ E => ⟨κ, E.perm q⟩
theorem sim_par {o1 o2 : Bool} (ha : SimA f WW tr mr) : SimS f WW (tPar i j tr) (sPar o1 o2 i j mr) := fun F σ H ρ h st x D E e p => by
  rcases bindS_some e with ⟨ws, ρ1, h1, e1, e⟩ | ⟨C, fs, ρ1, h1, e1, rfl⟩
  · refine ha F σ H ρ h st _ _ E e1 fun vs H1 hl E1 => ?_
    split at e
    · rename_i w1 w2
      match vs, hl, E1 with
      | [v1, v2], hl, E1 =>
        refine ⟨v1, v2, rfl, ?_⟩
        cases e
        have E1 : EnvR f F σ H1 ρ1 h1 ((v1, w1) :: (v2, w2) :: st) := E1
        exact p _ _ (E1.gput.gput)
    · cases e
  · exact ha F σ H ρ h st _ _ E e1 p
end
end CM
namespace CM
open PySem PySem.Spec PyProof.Rows L2 SL
/-- the items; the cells that must hold what they held -/
structure ItM where
  ds : List D
  ck : List (Nat × D)
def ckOk (ck : List (Nat × D)) (h : Tb) : Prop := ∀ x ∈ ck, h[x.1]? = some x.2
def IterOk (f : PySem.W.Frag) (F : Fm) (J : It) (ds : List D) (ck : List (Nat × D)) (v : V) (w : W) : Prop := ∀ (κ : List Addr) (σ : L2.St) (H : Hp) (ρ : List Sl) (h : Tb) (st : List (V × W)), EnvK f κ F σ H ρ h ((v, w) :: st) → ckOk ck h →
  (∀ i, i < ds.length → J.go i H) ∧ J.stop ds.length H ∧ ∀ i x H', i < ds.length → J.yld i H x H' → ∃ d, ds[i]? = some d ∧ EnvK f κ F σ H' ρ h ((x, .cl d) :: (v, w) :: st)
def PostI (f : PySem.W.Frag) (F : Fm) (WW : WX) (σ : L2.St) (st : List (V × W)) (R' : It → Hp → Prop) : R ItM → Prop
  | .ok it ρ h => it.ds.length ≤ 90000 → ∀ v w H J, EnvR f F σ H ρ h ((v, w) :: st) → IterOk f F J it.ds it.ck v w → ckOk it.ck h → R' J H
  | .ex C fs ρ h => ExR f F WW st C fs ρ h
def SimI (f : PySem.W.Frag) (WW : WX) (t : TI) (m : Mo ItM) : Prop := ∀ (F : Fm) (σ : L2.St) (H : Hp) (ρ : List Sl) (h : Tb) (st : List (V × W)) (r : R ItM) (Q : It → Hp → Prop), EnvR f F σ H ρ h st → m ρ h = some r → PostI f F WW σ st Q r → t σ H Q
def itemsD : D → Option (List D)
  | .lst ds => some ds
  | .tup ds => some ds
  | .str z => some (z.cps.toList.map fun c => .str ⟨#[c]⟩)
  | _ => none
def ckOf (h : Tb) : W → List (Nat × D)
  | .cl (.ce n) => match h[n]? with
    | some c => [(n, c)]
    | none => []
  | _ => []
def mIU (e : Mo W) : Mo ItM := fun ρ h => bindR (e ρ h) fun w ρ h => (deref h w).bind fun d => (itemsD d.u).bind fun ds => if ds.length ≤ 90000 then some (.ok ⟨ds, ckOf h w⟩ ρ h) else none
section
variable {f : PySem.W.Frag} {κ : List Addr} {K : Kx} {F : Fm} {M : List Addr} {H H' : Hp} {p : Addr} {σ : L2.St} {ρ ρ' : List Sl} {h h' : Tb} {st l : List (V × W)} {v : V} {w w' : W} {d : D} {ds es : List D} {vs : List V} {ws : List W} {i j : Nat}
theorem nr_lst (h : Nr M K H v d) (e : d.u = .lst ds) : ∃ a xs, v = .ref a ∧ H a = some (.lst xs) ∧ RepA M K H xs ds := by
  have h := h.u
  rw [e] at h
  cases h with
  | cl r => cases r with | lst a b => exact ⟨_, _, rfl, a.at_, b⟩
  | own r => cases r with | lst a b => exact ⟨_, _, rfl, a, b⟩
theorem nr_tup (h : Nr M K H v d) (e : d.u = .tup ds) : ∃ a xs, v = .ref a ∧ SqT K H a xs ∧ RepA M K H xs ds := by
  have h := h.u
  rw [e] at h
  cases h with
  | cl r => cases r with | tup a b => exact ⟨_, _, rfl, a.sq, b⟩
  | own r => cases r
theorem nr_str {z : Str} (h : Nr M K H v d) (e : d.u = .str z) : v = .str z := by
  have h := h.u
  rw [e] at h
  exact rep_str h.rep0
theorem nr_int {z : Int} (h : Nr M K H v d) (e : d.u = .int z) : v = .int z := by
  have h := h.u
  rw [e] at h
  exact rep_int h.rep0
theorem nr_non (h : Nr M K H v d) (e : d.u = .non) : v = .non := by
  have h := h.u
  rw [e] at h
  exact rep_non h.rep0
theorem ck_of : ckOk (ckOf h w) h := fun x hx => by
  unfold ckOf at hx
  split at hx
  · split at hx
    · rw [List.mem_singleton.mp hx]
      assumption
    · cases hx
  · cases hx
/-- what was read stands, where the cells hold what they held -/
theorem deref_ck {h0 : Tb} (e : deref h0 w = some d) (ck : ckOk (ckOf h0 w) h) : deref h w = some d := by
  match w with
  | .nw c => exact e
  | .cl (.ce n) =>
    have e : h0[n]? = some d := e
    refine ck (n, d) ?_
    show (n, d) ∈ (match h0[n]? with
      | some c => [(n, c)]
      | none => [])
    rw [e]
    exact List.mem_singleton.mpr rfl
  | .cl .non => exact e
  | .cl (.bl _) => exact e
  | .cl (.int _) => exact e
  | .cl (.str _) => exact e
  | .cl (.ty _) => exact e
  | .cl (.glo _) => exact e
  | .cl (.lst _) => exact e
  | .cl (.scr _) => exact e
  | .cl (.tup _) => exact e
  | .cl (.dK _) => exact e
  | .cl (.rng _ _) => exact e
  | .cl (.ins _ _) => exact e
  | .cl (.exc _ _) => exact e
  | .cl (.tg _ _) => exact e
  | .cl (.bo _ _ _) => exact e
theorem iter_list {a : Addr} {h0 : Tb} (hw : deref h0 w = some d) (e : d.u = .lst ds) : IterOk f F (Itl f a) ds (ckOf h0 w) (.ref a) w := fun κ σ H ρ h st E ck => by
  obtain ⟨a', xs, ha, hsq, r⟩ := nr_lst (E.near (List.mem_cons_self ..) (deref_ck hw ck)) e
  cases ha
  have sq : SqL f H a xs := .inl (.inl hsq)
  refine ⟨fun i hi => ?_, ⟨xs, sq, by rw [r.len]; exact Nat.le_refl _⟩, fun i x H' hi y => ?_⟩
  · have hx : i < xs.length := by rw [r.len]; exact hi
    exact ⟨xs, xs[i], sq, List.getElem?_eq_getElem hx⟩
  · obtain ⟨rfl, y⟩ := y
    obtain ⟨d, h1, h2⟩ := r.getV (y xs sq)
    exact ⟨d, h1, E.pushC h2⟩
theorem iter_tup {a : Addr} {h0 : Tb} (hw : deref h0 w = some d) (e : d.u = .tup ds) : IterOk f F (Itt f a) ds (ckOf h0 w) (.ref a) w := fun κ σ H ρ h st E ck => by
  obtain ⟨a', xs, ha, sq, r⟩ := nr_tup (E.near (List.mem_cons_self ..) (deref_ck hw ck)) e
  cases ha
  refine ⟨fun i hi => ?_, ⟨xs, sq, by rw [r.len]; exact Nat.le_refl _⟩, fun i x H' hi y => ?_⟩
  · have hx : i < xs.length := by rw [r.len]; exact hi
    exact ⟨xs, xs[i], sq, List.getElem?_eq_getElem hx⟩
  · obtain ⟨rfl, y⟩ := y
    obtain ⟨d, h1, h2⟩ := r.getV (y xs sq)
    exact ⟨d, h1, E.pushC h2⟩
theorem iter_str {z : Str} {ck : List (Nat × D)} {v : V} : IterOk f F (Its z) (z.cps.toList.map fun c => D.str ⟨#[c]⟩) ck v w := fun κ σ H ρ h st E _ => by
  have hl : (z.cps.toList.map fun c => D.str ⟨#[c]⟩).length = z.cps.size := by simp
  rw [hl]
  refine ⟨fun i hi => hi, Nat.le_refl _, fun i x H' hi y => ?_⟩
  obtain ⟨rfl, c, hc, rfl⟩ := y
  refine ⟨.str ⟨#[c]⟩, ?_, E.pushC (.str _)⟩
  rw [List.getElem?_map, Array.getElem?_toList, hc]
  rfl
theorem sim_iU {WW : WX} {te : TE} {me : Mo W} (he : SimE f WW te me) : SimI f WW (iU f te) (mIU me) := fun F σ H ρ h st x Q E e p => by
  rcases bindR_some e with ⟨w1, ρ1, h1, e1, e⟩ | ⟨C, fs, ρ1, h1, e1, rfl⟩
  · cases q1 : deref h1 w1 with
    | none => rw [q1] at e; cases e
    | some d =>
      rw [q1] at e
      dsimp only [Option.bind_some] at e
      cases q3 : itemsD d.u with
      | none => rw [q3] at e; cases e
      | some ds =>
        rw [q3] at e
        dsimp only [Option.bind_some] at e
        split at e
        · rename_i hl
          cases e
          cases hd : d.u with
          | lst es =>
            rw [hd] at q3
            cases q3
            refine .inl (he F σ H ρ h st _ _ E e1 fun v1 H1 ⟨κ, E1⟩ => ?_)
            obtain ⟨a, xs, rfl, sq, r⟩ := nr_lst (E1.near (List.mem_cons_self ..) q1) hd
            exact ⟨a, rfl, ⟨xs, .inl (.inl sq)⟩, p hl _ _ _ _ ⟨κ, E1⟩ (iter_list q1 hd) ck_of⟩
          | tup es =>
            rw [hd] at q3
            cases q3
            refine .inr (.inl (he F σ H ρ h st _ _ E e1 fun v1 H1 ⟨κ, E1⟩ => ?_))
            obtain ⟨a, xs, rfl, sq, r⟩ := nr_tup (E1.near (List.mem_cons_self ..) q1) hd
            exact ⟨a, rfl, ⟨xs, sq⟩, p hl _ _ _ _ ⟨κ, E1⟩ (iter_tup q1 hd) ck_of⟩
          | str z =>
            rw [hd] at q3
            cases q3
            refine .inr (.inr (he F σ H ρ h st _ _ E e1 fun v1 H1 ⟨κ, E1⟩ => ?_))
            exact ⟨z, nr_str (E1.near (List.mem_cons_self ..) q1) hd, p hl _ _ _ _ ⟨κ, E1⟩ iter_str ck_of⟩
          | _ => rw [hd] at q3; cases q3
        · cases e
  · exact .inl (he F σ H ρ h st _ _ E e1 p)
def mRng1 (a : Mo (List W)) : Mo ItM := fun ρ h => bindR (a ρ h) fun ws ρ h => (derefs h ws).bind fun ds => match ds.map D.u with
  | [.int n] => if n ≤ 90000 ∧ -1000000 ≤ n then some (.ok ⟨(List.range n.toNat).map fun i => .int (i : Nat), []⟩ ρ h) else none
  | _ => none
theorem iter_rng {lo : Int} {n : Nat} {g : Nat → D} (hf : ∀ i, g i = .int (lo + (i : Nat))) : IterOk f F (Itr lo n) ((List.range n).map g) [] .non (.cl .non) := fun κ σ H ρ h st E _ => by
  have hl : ((List.range n).map g).length = n := by simp
  rw [hl]
  refine ⟨fun i hi => hi, Nat.le_refl _, fun i x H' hi y => ?_⟩
  obtain ⟨rfl, rfl⟩ := y
  exact ⟨.int (lo + (i : Nat)), by rw [List.getElem?_map, List.getElem?_range hi]; exact congrArg some (hf i), E.pushC (.int _)⟩
theorem ck_nil : ckOk [] h := fun _ z => by cases z
theorem nra_u : ∀ {vs : List V} {ds : List D}, NrA M K H vs ds → NrA M K H vs (ds.map D.u)
  | _, _, .nil => .nil
  | _, _, .cons h a => .cons h.u (nra_u a)
theorem nra1 {vs : List V} {d : D} (h : NrA M K H vs [d]) : ∃ v, vs = [v] ∧ Nr M K H v d := by
  cases h with | cons h a => cases a; exact ⟨_, rfl, h⟩
theorem nra2 {vs : List V} {d e : D} (h : NrA M K H vs [d, e]) : ∃ v w, vs = [v, w] ∧ Nr M K H v d ∧ Nr M K H w e := by
  cases h with
  | cons h a =>
    obtain ⟨w, rfl, b⟩ := nra1 a
    exact ⟨_, _, rfl, h, b⟩
theorem sim_rng1 {WW : WX} {ta : TA} {ma : Mo (List W)} (ha : SimA f WW ta ma) : SimI f WW (iRng1 ta) (mRng1 ma) := fun F σ H ρ h st x Q E e p => by
  rcases bindR_some e with ⟨ws, ρ1, h1, e1, e⟩ | ⟨C, fs, ρ1, h1, e1, rfl⟩
  · refine ha F σ H ρ h st _ _ E e1 fun vs H1 hl ⟨κ, E1⟩ => ?_
    cases q1 : derefs h1 ws with
    | none => rw [q1] at e; cases e
    | some ds =>
      rw [q1] at e
      dsimp only [Option.bind_some] at e
      have nr := nra_u (E1.nears hl (fun x hx => List.mem_append.mpr (.inl hx)) q1)
      split at e
      · rename_i n hn
        rw [hn] at nr
        obtain ⟨v, rfl, r⟩ := nra1 nr
        cases nr_int r rfl
        split at e
        · rename_i hb
          cases e
          refine ⟨n, rfl, by omega, by omega, p ?_ .non (.cl .non) H1 _ ⟨κ, E1.popL.pushC .non⟩ (iter_rng fun i => by simp) ck_nil⟩
          show ((List.range n.toNat).map _).length ≤ 90000
          simp
          omega
        · cases e
      · cases e
  · exact ha F σ H ρ h st _ _ E e1 p
def seqD : D → Option (List D)
  | .lst ds => some ds
  | .tup ds => some ds
  | _ => none
def mEnum (a : Mo (List W)) : Mo ItM := fun ρ h => bindR (a ρ h) fun ws ρ h => match ws with
  | [w] => (deref h w).bind fun d => (seqD d.u).bind fun ds => if ds.length ≤ 90000 then some (.ok ⟨(List.range ds.length).zipWith (fun i d => .tup [.int (i : Nat), d]) ds, ckOf h w⟩ ρ h) else none
  | _ => none
theorem tup_land {T : Addr} {xs : List V} {ds : List D} (E : EnvK f κ F σ H ρ h st) (hT : H T = none) (r : RepA (av F κ st) ⟨f, κ⟩ H xs ds) : EnvK f κ F σ (upd H T (.tup xs)) ρ h ((.ref T, .cl (.tup ds)) :: st) :=
  EnvK.land (l := []) E (Ex.new hT) (Nw.tup hT (av_new E hT) r)
theorem sim_enum {WW : WX} {tr : TA} {mr : Mo (List W)} (ha : SimA f WW tr mr) : SimI f WW (iEnumB f tr) (mEnum mr) := fun F σ H ρ h st x Q E e p => by
  rcases bindR_some e with ⟨ws, ρ1, h1, e1, e⟩ | ⟨C, fs, ρ1, h1, e1, rfl⟩
  · refine ha F σ H ρ h st _ _ E e1 fun vs H1 hl E1 => ?_
    split at e
    · rename_i w
      match vs, hl, E1 with
      | [v], hl, ⟨κ, E1⟩ =>
        have E1 : EnvK f κ F σ H1 ρ1 h1 ((v, w) :: st) := E1
        cases q2 : deref h1 w with
        | none => rw [q2] at e; cases e
        | some d =>
          rw [q2] at e
          dsimp only [Option.bind_some] at e
          cases q3 : seqD d.u with
          | none => rw [q3] at e; cases e
          | some ds =>
            rw [q3] at e
            dsimp only [Option.bind_some] at e
            split at e
            · rename_i hlen
              cases e
              have hz : ((List.range ds.length).zipWith (fun i d => D.tup [.int (i : Nat), d]) ds).length = ds.length := by simp
              have hz2 : ((List.range ds.length).zipWith (fun i d => D.tup [.int (i : Nat), d]) ds).length ≤ 90000 := by rw [hz]; exact hlen
              have hd : d.u = .lst ds ∨ d.u = .tup ds := by
                unfold seqD at q3
                split at q3
                · cases q3; exact .inl (by assumption)
                · cases q3; exact .inr (by assumption)
                · cases q3
              rcases hd with hd | hd
              · obtain ⟨a, xs, rfl, sq, r⟩ := nr_lst (E1.near (List.mem_cons_self ..) q2) hd
                refine ⟨a, xs, rfl, .inl ⟨.inl (.inl sq), p hz2 _ _ _ _ ⟨κ, E1⟩ ?_ ck_of⟩⟩
                intro κ σ H ρ h st E ck
                obtain ⟨a', xs, ha, sq, r⟩ := nr_lst (E.near (List.mem_cons_self ..) (deref_ck q2 ck)) hd
                cases ha
                show (∀ i, i < ((List.range ds.length).zipWith (fun i d => D.tup [.int (i : Nat), d]) ds).length → _) ∧ _
                rw [hz]
                refine ⟨fun i hi => ?_, ⟨xs, .inl (.inl sq), by rw [r.len]; exact Nat.le_refl _⟩, fun i x H' hi y => ?_⟩
                · have hx : i < xs.length := by rw [r.len]; exact hi
                  exact ⟨xs, xs[i], .inl (.inl sq), List.getElem?_eq_getElem hx⟩
                · obtain ⟨T, x', rfl, hT, rfl, hx⟩ := y
                  obtain ⟨d', g1, g2⟩ := r.getV (hx xs (.inl (.inl sq)))
                  refine ⟨.tup [.int (i : Nat), d'], ?_, tup_land E hT (.cons (.int _) (.cons g2 .nil))⟩
                  rw [List.getElem?_zipWith, List.getElem?_range hi, g1]
              · obtain ⟨a, xs, rfl, sq, r⟩ := nr_tup (E1.near (List.mem_cons_self ..) q2) hd
                refine ⟨a, xs, rfl, .inr ⟨sq, p hz2 _ _ _ _ ⟨κ, E1⟩ ?_ ck_of⟩⟩
                intro κ σ H ρ h st E ck
                obtain ⟨a', xs, ha, sq, r⟩ := nr_tup (E.near (List.mem_cons_self ..) (deref_ck q2 ck)) hd
                cases ha
                show (∀ i, i < ((List.range ds.length).zipWith (fun i d => D.tup [.int (i : Nat), d]) ds).length → _) ∧ _
                rw [hz]
                refine ⟨fun i hi => ?_, ⟨xs, sq, by rw [r.len]; exact Nat.le_refl _⟩, fun i x H' hi y => ?_⟩
                · have hx : i < xs.length := by rw [r.len]; exact hi
                  exact ⟨xs, xs[i], sq, List.getElem?_eq_getElem hx⟩
                · obtain ⟨T, x', rfl, hT, rfl, hx⟩ := y
                  obtain ⟨d', g1, g2⟩ := r.getV (hx xs sq)
                  refine ⟨.tup [.int (i : Nat), d'], ?_, tup_land E hT (.cons (.int _) (.cons g2 .nil))⟩
                  rw [List.getElem?_zipWith, List.getElem?_range hi, g1]
            · cases e
    · cases e
  · exact ha F σ H ρ h st _ _ E e1 p
open Classical in
noncomputable def loopS (g : Tg) (b : MS) (ck : List (Nat × D)) : List D → List Sl → Tb → Option Out
  | [], ρ, h => some (.nx ρ h)
  | d :: ds, ρ, h => (g (.cl d) ρ h).bind fun x => match b x.1 x.2 with
    | some (.nx ρ2 h2) => if ckOk ck h2 then loopS g b ck ds ρ2 h2 else none
    | some (.ct ρ2 h2) => if ckOk ck h2 then loopS g b ck ds ρ2 h2 else none
    | some (.bk ρ2 h2) => some (.nx ρ2 h2)
    | x => x
noncomputable def sFor (it : Mo ItM) (g : Tg) (b : MS) : MS := fun ρ h => bindS (it ρ h) fun i ρ h => loopS g b i.ck i.ds ρ h
theorem sim_for {WW : WX} {wi : TI} {mi : Mo ItM} {g : TG} {mg : Tg} {tb : TS} {mb : MS} (hi : SimI f WW wi mi) (hg : SimG f g mg) (hb : SimS f WW tb mb) : SimS f WW (tFor wi g tb) (sFor mi mg mb) := fun F σ H ρ h st o D E e p => by
  rcases bindS_some e with ⟨it, ρ1, h1, e1, e⟩ | ⟨C, fs, ρ1, h1, e1, rfl⟩
  · refine hi F σ H ρ h st _ _ E e1 fun _ v iw H1 J E1 ok ck1 => ?_
    have hpost : PostS f F WW ((v, iw) :: st) D o := by
      cases o with
      | nx ρ2 h2 => exact fun σ H E => p σ H E.pop
      | rt w ρ2 h2 => exact fun σ v' H ⟨κ, E⟩ => p σ v' H ⟨κ, E.sub (List.Sublist.cons_cons _ (List.sublist_cons_self _ _))⟩
      | bk ρ2 h2 => exact fun σ H E => p σ H E.pop
      | ct ρ2 h2 => exact fun σ H E => p σ H E.pop
      | ex C fs ρ2 h2 => exact ExR.up p
    refine ⟨fun i m σ H => m = it.ds.length - i ∧ i ≤ it.ds.length ∧ ∃ ρ h, EnvR f F σ H ρ h ((v, iw) :: st) ∧ ckOk it.ck h ∧ loopS mg mb it.ck (it.ds.drop i) ρ h = some o, ⟨_, rfl, Nat.zero_le _, ρ1, h1, E1, ck1, by rw [List.drop_zero]; exact e⟩, ?_⟩
    rintro i m σ H ⟨rfl, hi, ρ, h, ⟨κ, E⟩, ck, e⟩
    obtain ⟨k1, k2, k3⟩ := ok κ σ H ρ h st E ck
    by_cases hlt : i < it.ds.length
    · refine .inr ⟨k1 i hlt, fun σ H => ∃ ρ h, EnvR f F σ H ρ h ((v, iw) :: st) ∧ ckOk it.ck h ∧ loopS mg mb it.ck (it.ds.drop (i + 1)) ρ h = some o, fun σ' H' q => ⟨it.ds.length - (i + 1), by omega, rfl, hlt, q⟩, fun x H' y => ?_⟩
      obtain ⟨d, hd, E2⟩ := k3 i x H' hlt y
      have ed : it.ds.drop i = d :: it.ds.drop (i + 1) := by
        rw [List.drop_eq_getElem_cons hlt]
        rw [List.getElem?_eq_getElem hlt] at hd
        rw [Option.some.inj hd]
      rw [ed] at e
      unfold loopS at e
      cases q1 : mg (.cl d) ρ h with
      | none => rw [q1] at e; cases e
      | some y =>
        rw [q1] at e
        dsimp only [Option.bind_some] at e
        refine hg F σ H' ρ h y _ x (.cl d) _ ⟨κ, E2⟩ q1 fun σ2 H2 E3 => ?_
        split at e
        · rename_i ρ3 h3 q3
          split at e
          · rename_i hck
            exact hb F σ2 H2 y.1 y.2 _ _ _ E3 q3 fun σ' H' E' => ⟨ρ3, h3, E', hck, e⟩
          · cases e
        · rename_i ρ3 h3 q3
          split at e
          · rename_i hck
            exact hb F σ2 H2 y.1 y.2 _ _ _ E3 q3 fun σ' H' E' => ⟨ρ3, h3, E', hck, e⟩
          · cases e
        · rename_i ρ3 h3 q3
          cases e
          exact hb F σ2 H2 y.1 y.2 _ _ _ E3 q3 hpost
        · rename_i x y1 y2 y3
          refine hb F σ2 H2 y.1 y.2 _ o _ E3 e ?_
          cases o with
          | nx ρ4 h4 => exact absurd e (y1 ρ4 h4)
          | bk ρ4 h4 => exact absurd e (y3 ρ4 h4)
          | ct ρ4 h4 => exact absurd e (y2 ρ4 h4)
          | rt w ρ4 h4 => exact hpost
          | ex C fs ρ4 h4 => exact hpost
    · have e0 : i = it.ds.length := by omega
      subst e0
      rw [List.drop_length] at e
      cases e
      exact .inl ⟨k2, hpost σ H ⟨κ, E⟩⟩
  · exact hi F σ H ρ h st _ _ E e1 p
/-- the own slots are not in use -/
def idle (vs : List Nat) (ρ : List Sl) : Bool := vs.all fun i => match ρ[i]? with
  | some .un => true
  | _ => false
open Classical in
noncomputable def loopC (g : Tg) (t : Mo Bool) (e : Mo W) (vs : List Nat) (ck : List (Nat × D)) : List D → List Sl → Tb → List D → Option (R (List D))
  | [], ρ, h, acc => some (.ok acc ρ h)
  | d :: ds, ρ, h, acc => (g (.cl d) ρ h).bind fun x => bindR (t x.1 x.2) fun b ρ2 h2 => if b = true then bindR (e ρ2 h2) fun w ρ3 h3 => if ckOk ck h3 then loopC g t e vs ck ds (wipeS vs ρ3) h3 (acc ++ [fzW w]) else none
      else if ckOk ck h2 then loopC g t e vs ck ds (wipeS vs ρ2) h2 acc else none
noncomputable def mLc (it : Mo ItM) (g : Tg) (t : Mo Bool) (e : Mo W) (vs : List Nat) : Mo W := fun ρ h => bindR (it ρ h) fun i ρ h => if idle vs ρ = true then bindR (loopC g t e vs i.ck i.ds ρ h []) fun acc ρ2 h2 => some (.ok (.fr acc) ρ2 h2) else none
theorem EnvK.wiped (E : EnvK f κ F σ H ρ h st) : ∀ {vs : List Nat}, EnvK f κ F (wipe σ vs) H (wipeS vs ρ) h st
  | [] => E
  | i :: vs => (EnvK.wiped E (vs := vs)).forget none
theorem idle_at {vs : List Nat} (h : idle vs ρ = true) (hi : i ∈ vs) : ρ[i]? = some .un := by
  have q := List.all_eq_true.mp h i hi
  split at q
  · assumption
  · cases q
theorem idle_of {vs : List Nat} (h : ∀ i ∈ vs, ρ[i]? = some .un) : idle vs ρ = true := List.all_eq_true.mpr fun i hi => by
  rw [h i hi]
theorem wipeS_len {ρ : List Sl} : ∀ vs : List Nat, (wipeS vs ρ).length = ρ.length
  | [] => rfl
  | i :: vs => by
    show ((wipeS vs ρ).set i .un).length = _
    rw [List.length_set, wipeS_len vs]
theorem wipeS_at : ∀ {vs : List Nat} {i : Nat}, (i ∈ vs ∧ i < ρ.length) ∨ ρ[i]? = some .un → (wipeS vs ρ)[i]? = some .un
  | [], i, h => by
    rcases h with h | h
    · exact absurd h.1 List.not_mem_nil
    · exact h
  | j :: vs, i, h => by
    show ((wipeS vs ρ).set j .un)[i]? = some .un
    have hl : i < ρ.length := by
      rcases h with h | h
      · exact h.2
      · exact (List.getElem?_eq_some_iff.mp h).1
    by_cases q : j = i
    · subst q
      exact List.getElem?_set_self (by rw [wipeS_len]; exact hl)
    · rw [List.getElem?_set_ne q]
      refine wipeS_at ?_
      rcases h with h | h
      · rcases List.mem_cons.mp h.1 with z | z
        · exact absurd z.symm q
        · exact .inl ⟨z, h.2⟩
      · exact .inr h
theorem wipeS_idle {vs : List Nat} (hl : ∀ i ∈ vs, i < ρ.length) : idle vs (wipeS vs ρ) = true := idle_of fun i hi => wipeS_at (.inl ⟨hi, hl i hi⟩)
theorem EnvK.idleWipe : ∀ {vs : List Nat} {σ : L2.St}, idle vs ρ = true → EnvK f κ F σ H ρ h st → EnvK f κ F (wipe σ vs) H ρ h st
  | [], _, _, E => E
  | i :: vs, σ, hd, E => by
    have E1 := EnvK.idleWipe (vs := vs) (idle_of fun j hj => idle_at hd (List.mem_cons_of_mem _ hj)) E
    have hi := idle_at hd (List.mem_cons_self ..)
    have E2 := E1.forget (i := i) none
    rw [set_self hi] at E2
    exact E2
theorem EnvK.unwipe : ∀ {vs : List Nat} {σ : L2.St}, idle vs ρ = true → EnvK f κ F (wipe σ vs) H ρ h st → EnvK f κ F σ H ρ h st
  | [], _, _, E => E
  | i :: vs, σ, hd, E => by
    have E : EnvK f κ F ((wipe σ vs).set i none) H ρ h st := E
    have hi := idle_at hd (List.mem_cons_self ..)
    obtain ⟨o, ho, _⟩ := slot_at E hi
    have hlt : i < (wipe σ vs).length := by
      have := (List.getElem?_eq_some_iff.mp ho).1
      rwa [List.length_set] at this
    have E2 := E.forget (i := i) (wipe σ vs)[i]
    rw [set_self hi, List.set_set, set_self (List.getElem?_eq_getElem hlt)] at E2
    exact EnvK.unwipe (vs := vs) (idle_of fun j hj => idle_at hd (List.mem_cons_of_mem _ hj)) E2
/-- a target stores own slots alone -/
def GOwn (g : TG) (vs : List Nat) : Prop := ∀ v σ H (Q : L2.St → Hp → Prop), g v σ H Q → g v σ H fun σ' H' => wipe σ' vs = wipe σ vs ∧ Q σ' H'
theorem wipe_setP {o : Option V} : ∀ {vs : List Nat} {σ : L2.St}, (i ∈ vs → wipe (σ.set i o) vs = wipe σ vs) ∧ (i ∉ vs → wipe (σ.set i o) vs = (wipe σ vs).set i o)
  | [], σ => ⟨fun z => absurd z List.not_mem_nil, fun _ => rfl⟩
  | v :: vs, σ => by
    obtain ⟨a, b⟩ := wipe_setP (o := o) (vs := vs) (σ := σ)
    constructor
    · intro h
      show (wipe (σ.set i o) vs).set v none = (wipe σ vs).set v none
      by_cases q : i ∈ vs
      · rw [a q]
      · rw [b q]
        rcases List.mem_cons.mp h with rfl | h
        · rw [List.set_set]
        · exact absurd h q
    · intro h
      show (wipe (σ.set i o) vs).set v none = ((wipe σ vs).set v none).set i o
      rw [b (fun q => h (List.mem_cons_of_mem _ q))]
      exact List.set_comm _ _ (fun z => h (by rw [z]; exact List.mem_cons_self ..))
theorem g_name {vs : List Nat} (h : i ∈ vs) : GOwn (gName i) vs := fun v σ H Q q => ⟨wipe_setP.1 h, q⟩
def GMono (g : TG) : Prop := ∀ v σ H (Q Q' : L2.St → Hp → Prop), (∀ σ H, Q σ H → Q' σ H) → g v σ H Q → g v σ H Q'
theorem gm_name : GMono (gName i) := fun _ _ _ _ _ h q => h _ _ q
/-- both facts of a target -/
structure GOk (g : TG) (vs : List Nat) : Prop where
  own : GOwn g vs
  mono : GMono g
theorem ok_name {vs : List Nat} (h : i ∈ vs) : GOk (gName i) vs := ⟨g_name h, gm_name⟩
theorem wipe_idem {vs : List Nat} : wipe (wipe σ vs) vs = wipe σ vs := by
  have gen : ∀ (us : List Nat) (σ : L2.St), (∀ i ∈ us, i ∈ vs) → wipe (wipe σ us) vs = wipe σ vs := by
    intro us
    induction us with
    | nil => intro σ _; rfl
    | cons i us ih =>
      intro σ h
      show wipe ((wipe σ us).set i none) vs = wipe σ vs
      rw [wipe_setP.1 (h i (List.mem_cons_self ..))]
      exact ih σ fun j hj => h j (List.mem_cons_of_mem _ hj)
  exact gen vs σ fun _ h => h
theorem wipe_len {σ : L2.St} : ∀ vs : List Nat, (wipe σ vs).length = σ.length
  | [] => rfl
  | i :: vs => by
    show ((wipe σ vs).set i none).length = _
    rw [List.length_set, wipe_len vs]
theorem sim_lc {WW : WX} {wi : TI} {mi : Mo ItM} {g : TG} {mg : Tg} {tt : TT} {mt : Mo Bool} {te : TE} {me : Mo W} {us : List Nat} (hi : SimI f WW wi mi) (hg : SimG f g mg) (go : GOk g us) (ht : SimT f WW tt mt) (he : SimE f WW te me) :
    SimE f WW (tLc wi g tt te us) (mLc mi mg mt me us) := fun F σ H ρ h st r Q E e p => by
  rcases bindR_some e with ⟨it, ρ1, h1, e1, e⟩ | ⟨C, fs, ρ1, h1, e1, rfl⟩
  · refine hi F σ H ρ h st _ _ E e1 fun hlen v iw H1 J E1 ok ck1 => fun Da hD => ?_
    split at e
    · rename_i hid
      obtain ⟨κ1, E1⟩ := E1
      obtain ⟨r', hr', hpost⟩ : ∃ r', loopC mg mt me us it.ck it.ds ρ1 h1 [] = some r' ∧ (match r' with
          | .ok acc ρ2 h2 => ∀ H, EnvR f F σ H ρ2 h2 ((v, iw) :: (.ref Da, .fr acc) :: st) → Q (.ref Da) H
          | .ex C fs ρ2 h2 => ExR f F WW st C fs ρ2 h2) := by
        rcases bindR_some e with ⟨acc, ρ2, h2, e2, e⟩ | ⟨C, fs, ρ2, h2, e2, rfl⟩
        · cases e
          exact ⟨_, e2, fun H E => p _ _ E.pop⟩
        · exact ⟨_, e2, p⟩
      have E2 : EnvK f κ1 F (wipe σ us) (upd H1 Da (.lst [])) ρ1 h1 ((v, iw) :: (.ref Da, .fr []) :: st) := EnvK.idleWipe hid ((E1.pushN (c := .lst []) hD (Ex.new hD) (.lst upd_same .nil)).perm (List.Perm.swap _ _ _))
      have hus : ∀ i ∈ us, i < σ.length := fun i hi => by
        rw [E1.len]
        exact (List.getElem?_eq_some_iff.mp (idle_at hid hi)).1
      refine ⟨fun i m H => m = it.ds.length - i ∧ i ≤ it.ds.length ∧ ∃ ρ h acc, EnvR f F (wipe σ us) H ρ h ((v, iw) :: (.ref Da, .fr acc) :: st) ∧ ckOk it.ck h ∧ loopC mg mt me us it.ck (it.ds.drop i) ρ h acc = some r' ∧ idle us ρ = true ∧ acc.length ≤ i, ⟨_, rfl, Nat.zero_le _, ρ1, h1, [], ⟨κ1, E2⟩, ck1, by rw [List.drop_zero]; exact hr', hid, Nat.zero_le _⟩, ?_⟩
      rintro i m H ⟨rfl, hi, ρ, h, acc, ⟨κ, E⟩, ck, e, hid2, hacc⟩
      obtain ⟨k1, k2, k3⟩ := ok κ _ H ρ h _ E ck
      by_cases hlt : i < it.ds.length
      · refine .inr ⟨k1 i hlt, fun H => ∃ ρ h acc, EnvR f F (wipe σ us) H ρ h ((v, iw) :: (.ref Da, .fr acc) :: st) ∧ ckOk it.ck h ∧ loopC mg mt me us it.ck (it.ds.drop (i + 1)) ρ h acc = some r' ∧ idle us ρ = true ∧ acc.length ≤ i + 1, fun H' q => ⟨it.ds.length - (i + 1), by omega, rfl, hlt, q⟩, fun x H' y => ?_⟩
        obtain ⟨d, hd, E3⟩ := k3 i x H' hlt y
        have ed : it.ds.drop i = d :: it.ds.drop (i + 1) := by
          rw [List.drop_eq_getElem_cons hlt]
          rw [List.getElem?_eq_getElem hlt] at hd
          rw [Option.some.inj hd]
        rw [ed] at e
        unfold loopC at e
        cases q1 : mg (.cl d) ρ h with
        | none => rw [q1] at e; cases e
        | some y2 =>
          rw [q1] at e
          dsimp only [Option.bind_some] at e
          refine go.mono _ _ _ (fun σ2 H2 => wipe σ2 us = wipe (wipe σ us) us ∧ EnvR f F σ2 H2 y2.1 y2.2 ((v, iw) :: (.ref Da, .fr acc) :: st)) _ ?_ (go.own _ _ _ _ (hg F _ H' ρ h y2 _ x (.cl d) _ ⟨κ, E3⟩ q1 fun σ2 H2 E4 => E4))
          rintro σ2 H2 ⟨ew, E4⟩
          rw [wipe_idem] at ew
          refine ⟨ew, ?_⟩
          have hl2 : σ2.length = σ.length := by
            have := congrArg List.length ew
            rwa [wipe_len, wipe_len] at this
          rcases bindR_some e with ⟨b, ρ3, h3, e3, e⟩ | ⟨C, fs, ρ3, h3, e3, rfl⟩
          · refine ht F σ2 H2 y2.1 y2.2 _ _ _ E4 e3 fun H3 E5 => ?_
            by_cases hb : b = true
            · rw [if_pos hb] at e ⊢
              rcases bindR_some e with ⟨w, ρ4, h4, e4, e⟩ | ⟨C, fs, ρ4, h4, e4, rfl⟩
              · refine he F σ2 H3 ρ3 h3 _ _ _ E5 e4 fun y4 H4 ⟨κ4, E6⟩ => ?_
                split at e
                · rename_i hck
                  have E7 := E6.fz
                  have hrep := E7.rep (List.mem_cons_self ..)
                  have E8 : EnvK f κ4 F σ2 H4 ρ4 h4 ((.ref Da, .fr acc) :: (v, iw) :: st) := E7.pop.perm (List.Perm.swap _ _ _)
                  obtain ⟨p', ep, _, own, _⟩ := E8.held
                  cases ep
                  have hM : ∀ x ∈ av F κ4 ((V.ref Da, W.fr acc) :: (v, iw) :: st), x ∈ av F κ4 ((y4, W.cl (fzW w)) :: (v, iw) :: (V.ref Da, W.fr acc) :: st) := av_sub fun x hx => by
                    simp only [List.mem_cons] at hx ⊢
                    rcases hx with h | h | h
                    · exact .inr (.inr (.inl h))
                    · exact .inr (.inl h)
                    · exact .inr (.inr (.inr h))
                  cases own with
                  | @lst xs _ n2 n3 =>
                    have hlx : xs.length = acc.length := n3.len
                    have E9 := E8.app (u := .lst (xs ++ [y4])) (c' := .lst (acc ++ [fzW w])) (.lst upd_same ((n3.append (.cons (hrep.mono hM) .nil)).ex (Ex.mut (av_st (by rw [roots_nw]; exact List.mem_cons_self ..)))))
                    have E10 := E9.perm (List.Perm.swap _ _ _)
                    have E11 := E10.wiped (vs := us)
                    rw [ew] at E11
                    have hl4 : ∀ i ∈ us, i < ρ4.length := fun i hi => by
                      rw [← E6.len, hl2]
                      exact hus i hi
                    exact ⟨xs, n2, sz_lt (by omega), wipeS us ρ4, h4, acc ++ [fzW w], ⟨κ4, E11⟩, hck, e, wipeS_idle hl4, by simp; omega⟩
                · cases e
              · exact he F σ2 H3 ρ3 h3 _ _ _ E5 e4 (ExR.up (ExR.up hpost))
            · rw [if_neg hb] at e ⊢
              split at e
              · rename_i hck
                obtain ⟨κ5, E5⟩ := E5
                have E11 := E5.wiped (vs := us)
                rw [ew] at E11
                have hl4 : ∀ i ∈ us, i < ρ3.length := fun i hi => by
                  rw [← E5.len, hl2]
                  exact hus i hi
                exact ⟨wipeS us ρ3, h3, acc, ⟨κ5, E11⟩, hck, e, wipeS_idle hl4, by omega⟩
              · cases e
          · exact ht F σ2 H2 y2.1 y2.2 _ _ _ E4 e3 (ExR.up (ExR.up hpost))
      · have e0 : i = it.ds.length := by omega
        subst e0
        rw [List.drop_length] at e
        cases e
        exact .inl ⟨k2, hpost H ⟨κ, EnvK.unwipe hid2 E⟩⟩
    · cases e
  · exact hi F σ H ρ h st _ _ E e1 p
/-- g: the list, the arguments; what is handed back, the new list -/
def MutR (f : PySem.W.Frag) (rm : V → List V → Hp → VK → Prop) (g : List D → List D → Option (D × List D)) : Prop := ∀ (κ : List Addr) (M : List Addr) (H : Hp) (p : Addr) (xs as : List V) (cs ds cs' : List D) (r : D) (Q : VK),
  H p = some (.lst xs) → RepA M ⟨f, κ⟩ H xs cs → RepA M ⟨f, κ⟩ H as ds → g cs ds = some (r, cs') → (∀ v ys, RepA M ⟨f, κ⟩ H ys cs' → Rep M ⟨f, κ⟩ H v r → Q v (upd H p (.lst ys))) → rm (.ref p) as H Q
def lstAt (h : Tb) : W → Option (Nat × List D)
  | .cl (.ce n) => match h[n]? with
    | some (.lst cs) => some (n, cs)
    | _ => none
  | _ => none
def mMut (g : List D → List D → Option (D × List D)) (o : Mo W) (a : Mo (List W)) : Mo W := fun ρ h => bindR (o ρ h) fun w ρ h => (lstAt h w).bind fun _ => bindR (a ρ h) fun ws ρ h => (lstAt h w).bind fun x => (g x.2 (ws.map fzW)).map fun y => .ok (.cl y.1) ρ (h.set x.1 (.lst y.2))
theorem EnvK.lstAt (E : EnvK f κ F σ H ρ h st) (hx : (v, w) ∈ st) {n : Nat} {cs : List D} (e : CM.lstAt h w = some (n, cs)) : ∃ q xs, v = .ref q ∧ κ[n]? = some q ∧ H q = some (.lst xs) ∧ RepA (av F κ st) ⟨f, κ⟩ H xs cs := by
  unfold CM.lstAt at e
  split at e
  · rename_i m
    split at e
    · rename_i cs' hc
      cases e
      have r := E.rep hx
      generalize hM : av F κ st = MM at r
      cases r with
      | @ce a _ hk =>
        subst hM
        have own := E.ce _ _ _ hk hc
        generalize hM : av F κ st = MM at own
        cases own with
        | lst a b => exact ⟨_, _, rfl, hk, a, b⟩
    · cases e
  · cases e
theorem EnvK.mutL {rm : V → List V → Hp → VK → Prop} {g : List D → List D → Option (D × List D)} (mr : MutR f rm g) {Q : VK} {n : Nat} {cs cs' : List D} {r : D} {q : Addr} {xs : List V} (E : EnvK f κ F σ H ρ h (vs.zip (ds.map W.cl) ++ st)) (hl : vs.length = ds.length)
    (hk : κ[n]? = some q) (hq : H q = some (.lst xs)) (ra : RepA (av F κ (vs.zip (ds.map W.cl) ++ st)) ⟨f, κ⟩ H xs cs) (e : g cs ds = some (r, cs')) (post : ∀ v H', EnvR f F σ H' ρ (h.set n (.lst cs')) ((v, .cl r) :: st) → Q v H') : rm (.ref q) vs H Q := by
  refine mr κ _ H q xs vs cs ds cs' r Q hq ra (E.repA hl fun x hx => List.mem_append.mpr (.inl hx)) e fun v ys ry rv => ?_
  refine post v _ ⟨κ, ?_⟩
  have E1 := E.pushC rv
  have er : av F κ ((v, W.cl r) :: (vs.zip (ds.map W.cl) ++ st)) = av F κ (vs.zip (ds.map W.cl) ++ st) := by
    show F.A ++ (κ ++ rootsW _) = _
    rw [roots_cl]
  have E2 := E1.mut (u := .lst ys) (c' := .lst cs') hk (.lst upd_same (by
    rw [er]
    exact ry.ex (Ex.mut (av_ka (List.mem_of_getElem? hk)))))
  exact E2.sub (List.Sublist.cons_cons _ (List.sublist_append_right _ _))
theorem sim_mut {WW : WX} {T : String} {rm : V → List V → Hp → VK → Prop} {g : List D → List D → Option (D × List D)} {to : TE} {mo : Mo W} {tr : TA} {mr : Mo (List W)} (hT : T = "list") (o : MutR f rm g) (ho : SimE f WW to mo) (ha : SimA f WW tr mr) : SimE f WW (tBM f T rm to tr) (mMut g mo mr) := fun F σ H ρ h st x Q E e p => by
  subst hT
  rcases bindR_some e with ⟨w, ρ1, h1, e1, e⟩ | ⟨C, fs, ρ1, h1, e1, rfl⟩
  · refine ho F σ H ρ h st _ _ E e1 fun v1 H1 ⟨κ1, E1⟩ => ?_
    cases q1 : lstAt h1 w with
    | none => rw [q1] at e; cases e
    | some y =>
      rw [q1] at e
      dsimp only [Option.bind_some] at e
      obtain ⟨q, xs, rfl, hk, hq, _⟩ := E1.lstAt (List.mem_cons_self ..) q1
      refine ⟨.inl ⟨rfl, _, .inl (.inl hq)⟩, ?_⟩
      rcases bindR_some e with ⟨ws, ρ2, h2, e2, e⟩ | ⟨C, fs, ρ2, h2, e2, rfl⟩
      · refine ha F σ H1 ρ1 h1 _ _ _ ⟨κ1, E1⟩ e2 fun vs H2 hl ⟨κ2, E2⟩ => ?_
        cases q2 : lstAt h2 w with
        | none => rw [q2] at e; cases e
        | some z =>
          obtain ⟨n, cs⟩ := z
          rw [q2] at e
          dsimp only [Option.bind_some] at e
          cases q3 : g cs (ws.map fzW) with
          | none => rw [q3] at e; cases e
          | some y =>
            obtain ⟨r, cs'⟩ := y
            rw [q3] at e
            cases e
            have E3 := E2.fzs hl
            obtain ⟨q', ys, eq, hk2, hq2, ra⟩ := E3.lstAt (List.mem_append.mpr (.inr (List.mem_cons_self ..))) q2
            cases eq
            exact EnvK.mutL o E3 (by simpa using hl) hk2 hq2 ra q3 fun v H' ⟨κ, E'⟩ => p v H' ⟨κ, E'.sub (List.Sublist.cons_cons _ (List.sublist_cons_self _ _))⟩
      · exact ha F σ H1 ρ1 h1 _ _ _ ⟨κ1, E1⟩ e2 (ExR.up p)
  · exact ho F σ H ρ h st _ _ E e1 p
def fAppend : List D → List D → Option (D × List D)
  | cs, [d] => if cs.length < 100000 then some (.non, cs ++ [d]) else none
  | _, _ => none
def fPopAt : List D → List D → Option (D × List D)
  | cs, [d] => match d.u with
    | .int i => if cs.length ≤ 100000 then (ixN cs.length i).bind fun k => (cs[k]?).map fun d => (d, cs.eraseIdx k) else none
    | _ => none
  | _, _ => none
theorem repA1 {d : D} (h : RepA M K H vs [d]) : ∃ v, vs = [v] ∧ Rep M K H v d := by
  cases h with | cons h a => cases a; exact ⟨_, rfl, h⟩
theorem mu_append : MutR f rAppend fAppend := fun κ M H p xs as cs ds cs' r Q h a b e q => by
  match ds, b, e with
  | [d], b, e =>
    obtain ⟨v, rfl, rv⟩ := repA1 b
    have e : (if cs.length < 100000 then some (D.non, cs ++ [d]) else none) = some (r, cs') := e
    split at e
    · cases e
      exact ⟨p, xs, v, rfl, rfl, h, sz_lt (by rw [a.len]; assumption), q _ _ (a.append (.cons rv .nil)) .non⟩
    · cases e
theorem RepA.dropLast : ∀ {vs : List V} {ds : List D}, RepA M K H vs ds → RepA M K H vs.dropLast ds.dropLast := fun {vs ds} h => by
  rw [List.dropLast_eq_take, List.dropLast_eq_take, h.len]
  exact h.take _
theorem RepA.erase : ∀ {vs : List V} {ds : List D} (n : Nat), RepA M K H vs ds → RepA M K H (vs.eraseIdx n) (ds.eraseIdx n)
  | _, _, _, .nil => .nil
  | _, _, 0, .cons _ a => a
  | _, _, n + 1, .cons h a => .cons h (RepA.erase n a)
theorem mu_popAt : MutR f rPopAt fPopAt := fun κ M H p xs as cs ds cs' r Q h a b e q => by
  match ds, b, e with
  | [d], b, e =>
    obtain ⟨v, rfl, rv⟩ := repA1 b
    have e : (match d.u with
      | .int i => if cs.length ≤ 100000 then (ixN cs.length i).bind fun k => (cs[k]?).map fun d => (d, cs.eraseIdx k) else none
      | _ => none) = some (r, cs') := e
    split at e
    · rename_i i hi
      have rv := rv.u
      rw [hi] at rv
      cases rep_int rv
      split at e
      · rename_i hlen
        cases h1 : ixN cs.length i with
        | none => rw [h1] at e; cases e
        | some k =>
          rw [h1] at e
          dsimp only [Option.bind_some] at e
          cases h2 : cs[k]? with
          | none => rw [h2] at e; cases e
          | some d2 =>
            rw [h2] at e
            cases e
            obtain ⟨v, h3, h4⟩ := a.get h2
            obtain ⟨g1, g2, g3, g4⟩ := ixN_seq h1
            exact ⟨p, xs, i, k, v, rfl, rfl, h, by omega, by omega, by rw [a.len]; exact g1, h3, q _ _ (a.erase k) h4⟩
      · cases e
    · cases e
end
end CM
namespace CM
open PySem PySem.Spec PyProof.Rows L2 SL
/-- how a def ends: what it hands back, the cells; or an exception -/
inductive FR where
  | rt (w : W) (h : Tb)
  | ex (C : Str) (fs : List (Str × D)) (h : Tb)
abbrev Fnm := List D → Tb → Option FR
def PostF (f : PySem.W.Frag) (κ A : List Addr) (H : Hp) (Q : VK) (E : XK) : FR → Prop
  | .rt w h => ∀ v H', EnvR f ⟨A, κ, H⟩ [] H' [] h [(v, w)] → Q v H'
  | .ex C fs h => ∀ κ' dx H', EnvK f κ' ⟨A, κ, H⟩ [] H' [] h [] → XdR (av ⟨A, κ, H⟩ κ' []) ⟨f, κ'⟩ H' dx fs → E (.ref (He.ga f C)) (some dx) H'
/-- a def keeps the plain run m -/
def spM (f : PySem.W.Frag) (m : Fnm) : Sp := fun vs H Q E => ∃ (κ A : List Addr) (ds : List D) (h : Tb) (r : FR), EnvK f κ ⟨A, κ, H⟩ (vs.map some) H (ds.map .cl) h [] ∧ m ds h = some r ∧ PostF f κ A H Q E r
/-- the first cells are as they were, or tell of none of the later ones -/
def okCut (h0 h : Tb) : Prop := ∀ (i : Nat) (c : D), i < h0.length → h[i]? = some c → h0[i]? = some c ∨ below h0.length c = true
open Classical in
/-- the cells of a def's own end with it, where nothing tells of them -/
noncomputable def cutF (keep : Bool) (h0 : Tb) (w : W) (h : Tb) : Option (W × Tb) :=
  if keep = true ∨ h.length = h0.length then some (w, h) else if okCut h0 h then (match w with
    | .cl (.ce n) => if n < h0.length then some (.cl (.ce n), h.take h0.length) else match h[n]? with
      | some c => if below h0.length c = true then some (.nw c, h.take h0.length) else none
      | none => none
    | w => if below h0.length (fzW w) = true then some (w, h.take h0.length) else none) else none
open Classical in
noncomputable def cutX (keep : Bool) (h0 : Tb) (fs : List (Str × D)) (h : Tb) : Option Tb :=
  if keep = true ∨ h.length = h0.length then some h else if okCut h0 h ∧ belowF h0.length fs = true then some (h.take h0.length) else none
noncomputable def endF (keep : Bool) (h0 : Tb) : Option Out → Option FR
  | some (.rt w ρ h) => (cutF keep h0 w h).map fun x => .rt x.1 x.2
  | some (.nx ρ h) => (cutF keep h0 (.cl .non) h).map fun x => .rt x.1 x.2
  | some (.ex C fs ρ h) => (cutX keep h0 fs h).map fun x => .ex C fs x
  | _ => none
/-- a def of n parameters and k further names -/
noncomputable def fnM (keep : Bool) (n k : Nat) (body : MS) : Fnm := fun as h => if as.length = n then endF keep h (body (as.map Sl.cl ++ List.replicate k .un) h) else none
section
variable {f : PySem.W.Frag} {κ κ' : List Addr} {F : Fm} {M A Io : List Addr} {H H' H1 : Hp} {p q : Addr} {σ : L2.St} {ρ ρ' : List Sl} {h h' h0 : Tb} {st l : List (V × W)} {v : V} {w w' : W} {d c : D} {ds es : List D} {vs : List V} {ws : List W} {i j n k : Nat} {o o' : Option V} {keep : Bool}
theorem len_fnM {body : MS} {r : FR} (e : fnM keep n k body ds h = some r) : ds.length = n := by
  unfold fnM at e
  split at e
  · assumption
  · cases e
theorem len_spM {m : Fnm} {ps : List Str} (hm : ∀ ds h r, m ds h = some r → ds.length = ps.length) {Q : VK} {E : XK} (q : spM f m vs H Q E) : vs.length = ps.length := by
  obtain ⟨κ, A, ds, h, r, e, hr, _⟩ := q
  have := e.len
  rw [List.length_map, List.length_map] at this
  rw [this]
  exact hm ds h r hr
theorem EnvK.noframe (E : EnvK f κ F σ H ρ h st) : EnvK f κ F [] H [] h st := ⟨E.ok, rfl, E.kl, E.io, E.ex, E.tr, E.nd, fun i o s h1 _ => by simp at h1, E.ce, E.wv⟩
theorem EnvK.body (E : EnvK f κ F (vs.map some) H (ds.map .cl) h []) (k : Nat) : EnvK f κ F (vs.map some ++ List.replicate k none) H (ds.map .cl ++ List.replicate k .un) h [] := by
  have hl := E.len
  refine ⟨E.ok, by simp; simpa using hl, E.kl, E.io, E.ex, E.tr, E.nd, fun i o s h1 h2 => ?_, E.ce, E.wv⟩
  by_cases hi : i < (ds.map Sl.cl).length
  · rw [List.getElem?_append_left hi] at h2
    rw [List.getElem?_append_left (by rw [hl]; exact hi)] at h1
    exact E.sl i o s h1 h2
  · rw [List.getElem?_append_right (by omega)] at h2
    have := List.mem_of_getElem? h2
    rw [List.eq_of_mem_replicate this]
    exact .un
theorem Own.wf {d : D} (r : Own M ⟨f, κ⟩ H p d) : below κ.length d = true := by
  cases r with
  | lst a b => simp only [below]; exact b.wf
  | dK a n b => simp only [below]; rw [belowK_eq]; exact b.wf
  | ins a n b => simp only [below]; rw [belowF_eq]; exact b.wf
theorem Own.dn {l : List Addr} {d : D} (r : Own M ⟨f, κ ++ l⟩ H p d) (e : below κ.length d = true) : Own M ⟨f, κ⟩ H p d := by
  cases r with
  | lst a b => exact .lst a (b.dn (by simpa only [below] using e))
  | dK a n b => exact .dK a n (b.dn (by
      simp only [below] at e
      rw [belowK_eq] at e
      exact e))
  | ins a n b => exact .ins a n (b.dn (by
      simp only [below] at e
      rw [belowF_eq] at e
      exact e))
/-- the first cells alone -/
theorem EnvK.cut0 {l : List Addr} {h0 : Tb} (hk : κ.length = h0.length) (hw : ∀ (i : Nat) (c : D), h0[i]? = some c → below h0.length c = true) (E : EnvK f (κ ++ l) ⟨A, κ, H⟩ [] H' [] h []) (ok : okCut h0 h) : EnvK f κ ⟨A, κ, H⟩ [] H' [] (h.take h0.length) [] := by
  have hl := E.kl
  rw [List.length_append] at hl
  refine ⟨E.ok, rfl, by rw [List.length_take]; omega, ⟨[], by simp, fun _ z => by cases z⟩, E.ex, E.tr, ?_, fun i o s h1 _ => by simp at h1, fun n p c h1 h2 => ?_, fun _ z => by cases z⟩
  · have := E.nd
    rw [List.append_assoc] at this
    show (κ ++ []).Nodup
    rw [List.append_nil]
    exact (List.nodup_append.mp this).1
  · have hn : n < κ.length := (List.getElem?_eq_some_iff.mp h1).1
    rw [List.getElem?_take_of_lt (by omega)] at h2
    have own := E.ce n p c (by rw [List.getElem?_append_left hn]; exact h1) h2
    have hb : below κ.length c = true := by
      rw [hk]
      rcases ok n c (by omega) h2 with z | z
      · exact hw n c z
      · exact z
    refine (own.dn hb).mono fun x hx => ?_
    simp only [List.mem_append] at hx ⊢
    rcases hx with z | z | z
    · exact .inl z
    · exact .inr (.inl (.inl z))
    · exact .inr (.inr z)
theorem av_cut {l : List Addr} {st' : List (V × W)} (hr : ∀ x ∈ rootsW st', x ∈ l ∨ x ∈ rootsW st) : ∀ x ∈ av F κ st', x ∈ av F (κ ++ l) st := fun x hx => by
  simp only [List.mem_append] at hx ⊢
  rcases hx with z | z | z
  · exact .inl z
  · exact .inr (.inl (.inl z))
  · rcases hr x z with y | y
    · exact .inr (.inl (.inr y))
    · exact .inr (.inr y)
theorem EnvK.cutF {h0 : Tb} (hk : κ.length = h0.length) (hw : ∀ (i : Nat) (c : D), h0[i]? = some c → below h0.length c = true) {x : W × Tb} (E : EnvK f κ' ⟨A, κ, H⟩ [] H' [] h [(v, w)]) (e : CM.cutF keep h0 w h = some x) : EnvR f ⟨A, κ, H⟩ [] H' [] x.2 [(v, x.1)] := by
  unfold CM.cutF at e
  split at e
  · cases e
    exact ⟨κ', E⟩
  · rename_i hne
    split at e
    · rename_i ok
      obtain ⟨l, rfl, hf⟩ := E.io
      have E0 := E.pop.cut0 hk hw ok
      have val : ∀ d, w = .cl d → below h0.length d = true → EnvR f ⟨A, κ, H⟩ [] H' [] (h.take h0.length) [(v, .cl d)] := fun d e hb => by
        subst e
        have r := E.rep (List.mem_cons_self ..)
        rw [← hk] at hb
        refine ⟨κ, E0.pushC ((r.dn hb).mono (av_cut fun x hx => by cases hx))⟩
      split at e
      · rename_i n
        split at e
        · rename_i hn
          cases e
          exact val _ rfl (by simp only [below, decide_eq_true_eq]; exact hn)
        · rename_i hn
          split at e
          · rename_i c hc
            split at e
            · rename_i hb
              cases e
              have r := E.rep (List.mem_cons_self ..)
              generalize hM : av ⟨A, κ, H⟩ (κ ++ l) [(v, W.cl (.ce n))] = M at r
              cases r with
              | @ce q _ hq =>
                subst hM
                have own := E.ce n q c hq hc
                have hql : q ∈ l := by
                  have hq : (κ ++ l)[n]? = some q := hq
                  rw [List.getElem?_append_right (by omega)] at hq
                  exact List.mem_of_getElem? hq
                have hne2 : q ∉ κ := fun z => by
                  have nd := E.nd
                  rw [List.append_assoc] at nd
                  exact (List.nodup_append.mp nd).2.2 q z q (List.mem_append.mpr (.inl hql)) rfl
                have hm : ∀ x ∈ av (⟨A, κ, H⟩ : Fm) κ [(V.ref q, W.nw c)], x ∈ av ⟨A, κ, H⟩ (κ ++ l) [(V.ref q, W.cl (.ce n))] := av_cut fun x hx => by
                  rw [roots_nw] at hx
                  rcases List.mem_cons.mp hx with z | z
                  · rw [z]; exact .inl hql
                  · cases z
                rw [← hk] at hb
                have own2 : Own (av ⟨A, κ, H⟩ κ [(V.ref q, W.nw c)]) ⟨f, κ⟩ H' q c := (own.mono hm).dn hb
                refine ⟨κ, E0.ok, rfl, E0.kl, E0.io, E0.ex, E0.tr, ?_, fun i o s h1 _ => by simp at h1, fun m p c' h1 h2 => ?_, fun y hy => ?_⟩
                · show (κ ++ [q]).Nodup
                  rw [List.nodup_append]
                  refine ⟨?_, by simp, fun a ha b hb z => ?_⟩
                  · have nd := E0.nd
                    rwa [show rootsW ([] : List (V × W)) = [] from rfl, List.append_nil] at nd
                  · rw [List.mem_singleton.mp hb] at z
                    rw [z] at ha
                    exact hne2 ha
                · have hn : m < κ.length := (List.getElem?_eq_some_iff.mp h1).1
                  have h2' : h[m]? = some c' := by
                    rw [List.getElem?_take_of_lt (by omega)] at h2
                    exact h2
                  have own := E.ce m p c' (by rw [List.getElem?_append_left hn]; exact h1) h2'
                  have hb : below κ.length c' = true := by
                    rw [hk]
                    rcases ok m c' (by omega) h2' with z | z
                    · exact hw m c' z
                    · exact z
                  exact (own.mono hm).dn hb
                · rw [List.mem_singleton.mp hy]
                  exact .nw (hf q hql) own2
            · cases e
          · cases e
      · rename_i w0 hw0
        split at e
        · rename_i hb
          cases e
          match w, E, hb, val with
          | .cl d, E, hb, val => exact val d rfl hb
          | .nw c, E, hb, val =>
            obtain ⟨q, rfl, h0', own, hq⟩ := E.held
            have hm : ∀ x ∈ av (⟨A, κ, H⟩ : Fm) κ [(V.ref q, W.nw c)], x ∈ av ⟨A, κ, H⟩ (κ ++ l) [(V.ref q, W.nw c)] := av_cut fun x hx => .inr hx
            have hb : below κ.length c = true := by rw [hk]; exact hb
            refine ⟨κ, E0.ok, rfl, E0.kl, E0.io, E0.ex, E0.tr, ?_, fun i o s h1 _ => by simp at h1, fun m p c' h1 h2 => ?_, fun y hy => ?_⟩
            · have nd := E.nd
              refine nd.sublist ?_
              rw [List.append_assoc]
              exact List.Sublist.append_left (List.sublist_append_right _ _) _
            · have hn : m < κ.length := (List.getElem?_eq_some_iff.mp h1).1
              have h2' : h[m]? = some c' := by
                rw [List.getElem?_take_of_lt (by omega)] at h2
                exact h2
              have own := E.ce m p c' (by rw [List.getElem?_append_left hn]; exact h1) h2'
              have hb : below κ.length c' = true := by
                rw [hk]
                rcases ok m c' (by omega) h2' with z | z
                · exact hw m c' z
                · exact z
              exact (own.mono hm).dn hb
            · rw [List.mem_singleton.mp hy]
              exact .nw h0' ((own.mono hm).dn hb)
        · cases e
    · cases e
theorem EnvK.cutX {h0 : Tb} (hk : κ.length = h0.length) (hw : ∀ (i : Nat) (c : D), h0[i]? = some c → below h0.length c = true) {x : Tb} {dx : Addr} {fs : List (Str × D)} (E : EnvK f κ' ⟨A, κ, H⟩ [] H' [] h []) (xd : XdR (av ⟨A, κ, H⟩ κ' []) ⟨f, κ'⟩ H' dx fs) (e : CM.cutX keep h0 fs h = some x) :
    ∃ κ', EnvK f κ' ⟨A, κ, H⟩ [] H' [] x [] ∧ XdR (av ⟨A, κ, H⟩ κ' []) ⟨f, κ'⟩ H' dx fs := by
  unfold CM.cutX at e
  split at e
  · cases e
    exact ⟨κ', E, xd⟩
  · split at e
    · rename_i hok
      cases e
      obtain ⟨l, rfl, hf⟩ := E.io
      refine ⟨κ, E.cut0 hk hw hok.1, ?_⟩
      obtain ⟨a, b, c⟩ := xd
      have hb := hok.2
      rw [← hk, belowF_eq] at hb
      exact .mk a b ((c.dn hb).mono (av_cut fun x hx => by cases hx))
    · cases e
theorem EnvK.wfs (E : EnvK f κ F σ H ρ h st) : ∀ (i : Nat) (c : D), h[i]? = some c → below h.length c = true := fun i c hc => by
  have hi : i < κ.length := by
    rw [E.kl]
    exact (List.getElem?_eq_some_iff.mp hc).1
  rw [← E.kl]
  exact (E.ce i _ c (List.getElem?_eq_getElem hi) hc).wf
/-- a def's body keeps the def's promise -/
theorem pure_fnM {t : TS} {body : MS} {N : List Str} {Q : VK} {E : XK} (hN : N.length = n + k) (hb : SimS f (fun cls d _ H => E cls d H) t body) (s : spM f (fnM keep n k body) vs H Q E) : t { nx := fun _ H' => Q .non H', rt := Q } (L2.start N vs) H := by
  obtain ⟨κ, A, ds, h, r, e, hr, p⟩ := s
  have hlen := len_fnM hr
  have hl : vs.length = n := by
    have := e.len
    rw [List.length_map, List.length_map] at this
    omega
  have es : L2.start N vs = vs.map some ++ List.replicate k none := by
    unfold L2.start
    rw [hN, hl, Nat.add_sub_cancel_left]
  have hw := e.wfs
  have hk := e.kl
  unfold fnM at hr
  rw [if_pos hlen] at hr
  cases h1 : body (ds.map Sl.cl ++ List.replicate k .un) h with
  | none => rw [h1] at hr; cases hr
  | some o =>
    rw [h1] at hr
    rw [es]
    refine hb ⟨A, κ, H⟩ _ H _ h [] o _ ⟨κ, e.body k⟩ h1 ?_
    cases o with
    | nx ρ h' =>
      have hr : (cutF keep h (.cl .non) h').map (fun x => FR.rt x.1 x.2) = some r := hr
      cases h2 : cutF keep h (.cl .non) h' with
      | none => rw [h2] at hr; cases hr
      | some x =>
        rw [h2] at hr
        cases hr
        intro σ H' ⟨κ', E'⟩
        exact p .non H' ((E'.noframe.pushC (d := .non) .non).cutF hk hw h2)
    | rt w ρ h' =>
      have hr : (cutF keep h w h').map (fun x => FR.rt x.1 x.2) = some r := hr
      cases h2 : cutF keep h w h' with
      | none => rw [h2] at hr; cases hr
      | some x =>
        rw [h2] at hr
        cases hr
        intro σ v H' ⟨κ', E'⟩
        exact p v H' (E'.noframe.cutF hk hw h2)
    | bk ρ h' => cases hr
    | ct ρ h' => cases hr
    | ex C fs ρ h' =>
      have hr : (cutX keep h fs h').map (fun x => FR.ex C fs x) = some r := hr
      cases h2 : cutX keep h fs h' with
      | none => rw [h2] at hr; cases hr
      | some x =>
        rw [h2] at hr
        cases hr
        intro κ' σ H' dx E' xd
        obtain ⟨κ2, E2, xd2⟩ := E'.noframe.cutX hk hw xd h2
        exact p κ2 dx H' E2 xd2
theorem EnvK.call_start (E : EnvK f κ F σ H ρ h (vs.zip (ds.map W.cl) ++ st)) (hl : vs.length = ds.length) : EnvK f κ ⟨av F κ (vs.zip (ds.map W.cl) ++ st), κ, H⟩ (vs.map some) H (ds.map .cl) h [] := by
  have hm : ∀ x ∈ av (⟨av F κ (vs.zip (ds.map W.cl) ++ st), κ, H⟩ : Fm) κ [], x ∈ av F κ (vs.zip (ds.map W.cl) ++ st) := fun x hx => by
    rcases List.mem_append.mp hx with z | z
    · exact z
    · rcases List.mem_append.mp z with z | z
      · exact av_ka z
      · cases z
  refine ⟨⟨fun a ha => E.av_some ha, fun a ha => av_ka ha⟩, by simp [hl], E.kl, ⟨[], by simp, fun _ z => by cases z⟩, Ex.refl, fun _ z => z, ?_, fun i o s h1 h2 => ?_, fun n p c h1 h2 => (E.ce n p c h1 h2).mono hm, fun _ z => by cases z⟩
  · show (κ ++ []).Nodup
    rw [List.append_nil]
    exact (List.nodup_append.mp E.nd).1
  · have ra := E.repA hl fun x hx => List.mem_append.mpr (.inl hx)
    rw [List.getElem?_map] at h1 h2
    cases hd : ds[i]? with
    | none => rw [hd] at h2; cases h2
    | some d =>
      rw [hd] at h2
      cases h2
      obtain ⟨v, g1, g2⟩ := ra.get hd
      rw [g1] at h1
      cases h1
      exact .cl (g2.mono hm)
/-- the caller's frame behind a call -/
theorem EnvK.call_end {st2 : List (V × W)} {h2 : Tb} (E : EnvK f κ F σ H ρ h (l ++ st)) (hA : A = av F κ (l ++ st)) (E' : EnvK f κ' ⟨A, κ, H⟩ [] H' [] h2 st2) : EnvK f κ' F σ H' ρ h2 (st2 ++ st) := by
  subst hA
  obtain ⟨l1, e1, f1⟩ := E.io
  obtain ⟨l2, e2, f2⟩ := E'.io
  have e2 : κ' = κ ++ l2 := e2
  have f2 : ∀ p ∈ l2, H p = none := f2
  have ex : Ex κ H H' := E'.ex
  have tr : ∀ a, H a ≠ none → H' a ≠ none := E'.tr
  have rs : rootsW (st2 ++ st) = rootsW st2 ++ rootsW st := List.filterMap_append
  have h0 : ∀ p, H p = none → F.H0 p = none := fun p hp => by
    cases q : F.H0 p with
    | none => rfl
    | some u => exact absurd hp (E.tr p (by rw [q]; exact fun z => by cases z))
  have old : ∀ x ∈ av F κ' (st2 ++ st), x ∈ av F κ (l ++ st) ∨ H x = none := fun x hx => by
    rw [show av F κ' (st2 ++ st) = F.A ++ (κ' ++ rootsW (st2 ++ st)) from rfl, rs, e2] at hx
    rcases List.mem_append.mp hx with z | z
    · exact .inl (List.mem_append.mpr (.inl z))
    · rcases List.mem_append.mp z with z | z
      · rcases List.mem_append.mp z with z | z
        · exact .inl (av_ka z)
        · exact .inr (f2 x z)
      · rcases List.mem_append.mp z with z | z
        · exact .inr (E'.root_some z).2
        · exact .inl (av_st (by
            unfold rootsW
            rw [List.filterMap_append]
            exact List.mem_append.mpr (.inr z)))
  have new : ∀ x ∈ av F κ' (st2 ++ st), x ∈ av (⟨av F κ (l ++ st), κ, H⟩ : Fm) κ' st2 := fun x hx => by
    rw [show av F κ' (st2 ++ st) = F.A ++ (κ' ++ rootsW (st2 ++ st)) from rfl, rs] at hx
    rcases List.mem_append.mp hx with z | z
    · exact List.mem_append.mpr (.inl (List.mem_append.mpr (.inl z)))
    · rcases List.mem_append.mp z with z | z
      · exact av_ka z
      · rcases List.mem_append.mp z with z | z
        · exact av_st z
        · exact List.mem_append.mpr (.inl (av_st (by
            unfold rootsW
            rw [List.filterMap_append]
            exact List.mem_append.mpr (.inr z))))
  have exM : Ex (av F κ (l ++ st)) H H' := ex.mono fun x hx => av_ka hx
  have upR : ∀ {v : V} {d : D}, Rep (av F κ (l ++ st)) ⟨f, κ⟩ H v d → Rep (av F κ' (st2 ++ st)) ⟨f, κ'⟩ H' v d := fun {v d} r => by
    -- first what is kept off, then the change, then the cells
    have r1 : Rep (av F κ' (st2 ++ st)) ⟨f, κ⟩ H v d := r.frs old
    have exN : Ex (av F κ' (st2 ++ st)) H H' := ex.mono fun x hx => av_ka (by rw [e2]; exact List.mem_append.mpr (.inl hx))
    have r2 := (r1.ex exN).up (l := l2)
    rw [e2] at r2 ⊢
    exact r2
  refine ⟨E.ok, E.len, E'.kl, ⟨l1 ++ l2, by rw [e2, e1, List.append_assoc], fun p hp => ?_⟩, fun a o hn z => ?_, fun a z => tr a (E.tr a z), ?_, fun i o s g1 g2 => ?_, fun n p c g1 g2 => (E'.ce n p c g1 g2).mono new, fun x hx => ?_⟩
  · rcases List.mem_append.mp hp with z | z
    · exact f1 p z
    · exact h0 p (f2 p z)
  · refine ex a o (fun hk => ?_) (E.ex a o hn z)
    rw [e1] at hk
    rcases List.mem_append.mp hk with y | y
    · exact hn y
    · rw [f1 a y] at z
      cases z
  · rw [rs, ← List.append_assoc]
    rw [List.nodup_append]
    refine ⟨E'.nd, ?_, fun a ha b hb z => ?_⟩
    · have nd := (List.nodup_append.mp E.nd).2.1
      unfold rootsW at nd
      rw [List.filterMap_append] at nd
      exact (List.nodup_append.mp nd).2.1
    · subst z
      have hb2 : a ∈ rootsW (l ++ st) := by
        unfold rootsW
        rw [List.filterMap_append]
        exact List.mem_append.mpr (.inr hb)
      have hs := (E.root_some hb2).1
      rcases List.mem_append.mp ha with z | z
      · rw [e2] at z
        rcases List.mem_append.mp z with z | z
        · exact (List.nodup_append.mp E.nd).2.2 a z a hb2 rfl
        · exact hs (f2 a z)
      · exact hs (E'.root_some z).2
  · have q := E.sl i o s g1 g2
    cases s with
    | un => exact .un
    | cl d =>
      generalize hM : av F κ (l ++ st) = M at q
      cases q with
      | cl r => subst hM; exact .cl (upR r)
  · rcases List.mem_append.mp hx with hx | hx
    · have q := E'.wv x hx
      obtain ⟨v, w⟩ := x
      dsimp only at q ⊢
      generalize hM : av (⟨av F κ (l ++ st), κ, H⟩ : Fm) κ' st2 = M at q
      cases q with
      | cl r => subst hM; exact .cl (r.mono new)
      | nw n r => subst hM; exact .nw (h0 _ n) (r.mono new)
    · have q := E.wv x (List.mem_append.mpr (.inr hx))
      obtain ⟨v, w⟩ := x
      dsimp only at q ⊢
      generalize hM : av F κ (l ++ st) = M at q
      cases q with
      | cl r => subst hM; exact .cl (upR r)
      | @nw p c n r =>
        subst hM
        have hp : p ∈ rootsW (l ++ st) := mem_rootsW.mpr ⟨_, List.mem_append.mpr (.inr hx), rfl⟩
        have hpk : p ∉ κ := fun z => (List.nodup_append.mp E.nd).2.2 p z p hp rfl
        have e0 : H' p = H p := by
          cases q : H p with
          | none => exact absurd q r.some
          | some u => exact ex p u hpk q
        have own : Own (av F κ' (st2 ++ st)) ⟨f, κ'⟩ H' p c := by
          have upA : ∀ {vs : List V} {ds : List D}, RepA (av F κ (l ++ st)) ⟨f, κ⟩ H vs ds → RepA (av F κ' (st2 ++ st)) ⟨f, κ'⟩ H' vs ds := fun {vs ds} r => by
            induction r using RepA.rec (motive_1 := fun _ _ _ => True) with
            | nil => exact .nil
            | cons a b _ ih => exact .cons (upR a) ih
            | _ => trivial
          cases r with
          | lst a b => exact .lst (e0.trans a) (upA b)
          | dK a n b => exact .dK (e0.trans a) n (upA b)
          | ins a n b => exact .ins (e0.trans a) n (upA b)
        exact .nw n own
end
end CM
namespace CM
open PySem PySem.Spec PyProof.Rows L2 SL
/-- a call that raises nothing -/
def callT (m : Fnm) (ds : List D) (ρ : List Sl) (h : Tb) : Option (R W) := match m ds h with
  | some (.rt w h') => some (.ok w ρ h')
  | _ => none
/-- a call that may raise -/
def callX (m : Fnm) (ds : List D) (ρ : List Sl) (h : Tb) : Option (R W) := match m ds h with
  | some (.rt w h') => some (.ok w ρ h')
  | some (.ex C fs h') => some (.ex C fs ρ h')
  | none => none
def callN (m : Fnm) (a : Mo (List W)) : Mo W := fun ρ h => bindR (a ρ h) fun ws ρ h => callT m (ws.map fzW) ρ h
def callM (m : Fnm) (a : Mo (List W)) : Mo W := fun ρ h => bindR (a ρ h) fun ws ρ h => callX m (ws.map fzW) ρ h
section
variable {f : PySem.W.Frag} {κ κ' : List Addr} {WW : WX} {F : Fm} {M A : List Addr} {H H' : Hp} {σ : L2.St} {ρ ρ' : List Sl} {h h' : Tb} {st : List (V × W)} {v : V} {w w' : W} {i j : Nat} {tr : TA} {mr : Mo (List W)} {te ta : TE} {me ma : Mo W} {C n : Str} {d : D} {fs : List (Str × D)} {p : Addr} {m : Fnm} {vs : List V} {ws : List W} {ds : List D} {keep : Bool}
theorem EnvK.callT {r : R W} {Q : VK} (E : EnvK f κ F σ H ρ h (vs.zip (ds.map W.cl) ++ st)) (hl : vs.length = ds.length) (e : CM.callT m ds ρ h = some r) (post : ∀ w ρ' h', r = .ok w ρ' h' → ∀ v H, EnvR f F σ H ρ' h' ((v, w) :: st) → Q v H) : spM f m vs H Q E0 := by
  unfold CM.callT at e
  split at e
  · rename_i w h' q
    cases e
    exact ⟨κ, _, ds, h, _, E.call_start hl, q, fun v H' ⟨κ', E'⟩ => post _ _ _ rfl v H' ⟨κ', EnvK.call_end (l := vs.zip (ds.map W.cl)) E rfl E'⟩⟩
  · cases e
theorem EnvK.callX {r : R W} {Q : VK} (E : EnvK f κ F σ H ρ h (vs.zip (ds.map W.cl) ++ st)) (hl : vs.length = ds.length) (e : CM.callX m ds ρ h = some r) (post : PostE f F WW σ st Q r) : spM f m vs H Q (fun cls d H => WW cls d σ H) := by
  unfold CM.callX at e
  split at e
  · rename_i w h' q
    cases e
    exact ⟨κ, _, ds, h, _, E.call_start hl, q, fun v H' ⟨κ', E'⟩ => post v H' ⟨κ', EnvK.call_end (l := vs.zip (ds.map W.cl)) E rfl E'⟩⟩
  · rename_i C fs h' q
    cases e
    refine ⟨κ, _, ds, h, _, E.call_start hl, q, fun κ' dx H' E' xd => ?_⟩
    have E2 : EnvK f κ' F σ H' ρ h' ([] ++ st) := EnvK.call_end (l := vs.zip (ds.map W.cl)) E rfl E'
    refine post κ' σ H' dx E2 ?_
    obtain ⟨a, b, c⟩ := xd
    refine .mk a b (c.mono fun x hx => ?_)
    simp only [List.mem_append] at hx ⊢
    rcases hx with z | z | z
    · exact .inl (.inl z)
    · exact .inr (.inl z)
    · refine .inl (.inr (.inr ?_))
      unfold rootsW
      rw [List.filterMap_append]
      exact List.mem_append.mpr (.inr z)
  · cases e
theorem sim_call (ha : SimA f WW tr mr) : SimE f WW (tCall (spM f m) [] E0 tr) (callN m mr) := fun F σ H ρ h st x Q E e p => by
  rcases bindR_some e with ⟨ws, ρ1, h1, e1, e⟩ | ⟨C, fs, ρ1, h1, e1, rfl⟩
  · refine ha F σ H ρ h st _ _ E e1 fun vs H1 hl ⟨κ, E1⟩ => ?_
    rw [List.append_nil]
    refine EnvK.callT (E1.fzs hl) (by simpa using hl) e fun w ρ' h' hr v H' E' => ?_
    subst hr
    exact p v H' E'
  · exact ha F σ H ρ h st _ _ E e1 p
theorem sim_callS (ha : SimA f WW tr mr) : SimE f WW (tCallS (spM f m) (WE WW) tr) (callM m mr) := fun F σ H ρ h st x Q E e p => by
  rcases bindR_some e with ⟨ws, ρ1, h1, e1, e⟩ | ⟨C, fs, ρ1, h1, e1, rfl⟩
  · refine ha F σ H ρ h st _ _ E e1 fun vs H1 hl ⟨κ, E1⟩ => ?_
    exact EnvK.callX (WW := WW) (E1.fzs hl) (by simpa using hl) e p
  · exact ha F σ H ρ h st _ _ E e1 p
def insOf (C : Str) : D → Option (List (Str × D))
  | .ins C' fs => if C' = C then some fs else none
  | _ => none
def mFld (C n : Str) (a : Mo W) : Mo W := fun ρ h => bindR (a ρ h) fun w ρ h => (deref h w).bind fun d => (insOf C d.u).bind fun fs => (fs.lookup n).map fun d => .ok (.cl d) ρ h
def putD (n : Str) (v : D) : List (Str × D) → List (Str × D)
  | [] => [(n, v)]
  | (g, x) :: r => if g = n then (g, v) :: r else (g, x) :: putD n v r
def insAt (C : Str) (h : Tb) : W → Option (Nat × List (Str × D))
  | .cl (.ce n) => match h[n]? with
    | some (.ins C' fs) => if C' = C then some (n, fs) else none
    | _ => none
  | _ => none
/-- o.n = e; own: a new thing becomes a cell -/
def sFldM (C n : Str) (o : Mo W) (e : Mo W) : MS := fun ρ h => bindS (e ρ h) fun w ρ h => bindS (o ρ h) fun u ρ h => (insAt C h u).bind fun x => if x.2.length < 1000 then some (.nx ρ (h.set x.1 (.ins C (putD n (fzW w) x.2)))) else none
/-- C(..): dvs are the values of what lacks -/
noncomputable def mMake (keep : Bool) (C : Str) (m : Fnm) (dvs : List D) (b : Mo (List W)) : Mo W := fun ρ h => bindR (b ρ h) fun ws ρ h => match m (.ce h.length :: (ws.map fzW ++ dvs)) (h ++ [.ins C []]) with
  | some (.rt (.cl .non) h') => (cutF keep h (.cl (.ce h.length)) h').map fun x => .ok x.1 ρ x.2
  | _ => none
theorem nr_ins {K : Kx} (q : Nr M K H v d) (e : insOf C d.u = some fs) : ∃ a dx vs, v = .ref a ∧ H a = some (.ins (He.ga K C) dx vs) ∧ vs.map (·.1) = fs.map (·.1) ∧ RepA M K H (vs.map (·.2)) (fs.map (·.2)) := by
  have q := q.u
  unfold insOf at e
  split at e
  · rename_i C' fs' hd
    split at e
    · rename_i hC
      subst hC
      cases e
      rw [hd] at q
      cases q with
      | cl r => cases r with | ins a n b => exact ⟨_, _, _, rfl, a.at_, n, b⟩
      | own r => cases r with | ins a n b => exact ⟨_, _, _, rfl, a, n, b⟩
    · cases e
  · cases e
theorem lookup_rep {K : Kx} {f : Str} : ∀ {vs : List (Str × V)} {fs : List (Str × D)}, vs.map (·.1) = fs.map (·.1) → RepA M K H (vs.map (·.2)) (fs.map (·.2)) → (∀ d, fs.lookup f = some d → ∃ v, vs.lookup f = some v ∧ Rep M K H v d) ∧ (fs.lookup f = none → vs.lookup f = none)
  | [], [], _, _ => ⟨(fun d h => by cases h), fun _ => rfl⟩
  | [], _ :: _, h, _ => by cases h
  | _ :: _, [], h, _ => by cases h
  | (a, x) :: vs, (b, y) :: fs, h, r => by
    have hab : a = b := by simpa using (List.cons.inj h).1
    subst hab
    have r : RepA M K H (x :: vs.map (·.2)) (y :: fs.map (·.2)) := r
    cases r with
    | cons r1 r2 =>
      obtain ⟨ih1, ih2⟩ := lookup_rep (List.cons.inj h).2 r2
      by_cases hf : (f == a) = true
      · refine ⟨fun d e => ?_, fun e => ?_⟩
        · have e : (match f == a with | true => some y | false => fs.lookup f) = some d := e
          rw [hf] at e
          cases e
          exact ⟨x, by show (match f == a with | true => some x | false => vs.lookup f) = _; rw [hf], r1⟩
        · have e : (match f == a with | true => some y | false => fs.lookup f) = none := e
          rw [hf] at e
          cases e
      · have hf : (f == a) = false := by simpa using hf
        refine ⟨fun d e => ?_, fun e => ?_⟩
        · have e : (match f == a with | true => some y | false => fs.lookup f) = some d := e
          rw [hf] at e
          obtain ⟨v, h1, h2⟩ := ih1 d e
          exact ⟨v, by show (match f == a with | true => some x | false => vs.lookup f) = _; rw [hf]; exact h1, h2⟩
        · have e : (match f == a with | true => some y | false => fs.lookup f) = none := e
          rw [hf] at e
          show (match f == a with | true => some x | false => vs.lookup f) = _
          rw [hf]
          exact ih2 e
theorem sim_fld (c : Cls f (He.ga f C)) (hn : NoAttr f (He.ga f C) n) (ha : SimE f WW ta ma) : SimE f WW (tFld f ta n) (mFld C n ma) := fun F σ H ρ h st x Q E e p => by
  rcases bindR_some e with ⟨w1, ρ1, h1, e1, e⟩ | ⟨C', fs, ρ1, h1, e1, rfl⟩
  · refine ha F σ H ρ h st _ _ E e1 fun v1 H1 ⟨κ, E1⟩ => ?_
    cases q1 : deref h1 w1 with
    | none => rw [q1] at e; cases e
    | some d1 =>
      rw [q1] at e
      dsimp only [Option.bind_some] at e
      cases q2 : insOf C d1.u with
      | none => rw [q2] at e; cases e
      | some fs =>
        rw [q2] at e
        dsimp only [Option.bind_some] at e
        cases q3 : fs.lookup n with
        | none => rw [q3] at e; cases e
        | some d =>
          rw [q3] at e
          cases e
          obtain ⟨a, dx, vs, rfl, ea, nm, r⟩ := nr_ins (E1.near (List.mem_cons_self ..) q1) q2
          obtain ⟨v, g1, g2⟩ := (lookup_rep nm r).1 d q3
          exact ⟨a, _, dx, vs, v, rfl, ea, c, hn, g1, p v H1 ⟨κ, E1.pop.pushC (g2.mono (av_sub fun x hx => List.mem_cons_of_mem _ hx))⟩⟩
  · exact ha F σ H ρ h st _ _ E e1 p
theorem put_rep {f : Str} {K : Kx} {x : V} {y : D} (rx : Rep M K H x y) : ∀ {vs : List (Str × V)} {fs : List (Str × D)}, vs.map (·.1) = fs.map (·.1) → RepA M K H (vs.map (·.2)) (fs.map (·.2)) →
    (putF f x vs).map (·.1) = (putD f y fs).map (·.1) ∧ RepA M K H ((putF f x vs).map (·.2)) ((putD f y fs).map (·.2))
  | [], [], _, _ => ⟨rfl, .cons rx .nil⟩
  | [], _ :: _, h, _ => by cases h
  | _ :: _, [], h, _ => by cases h
  | (a, x') :: vs, (b, y') :: fs, h, r => by
    have hab : a = b := by simpa using (List.cons.inj h).1
    subst hab
    have r : RepA M K H (x' :: vs.map (·.2)) (y' :: fs.map (·.2)) := r
    cases r with
    | cons r1 r2 =>
      have ht : vs.map (·.1) = fs.map (·.1) := (List.cons.inj h).2
      by_cases hf : a = f
      · have e1 : putF f x ((a, x') :: vs) = (a, x) :: vs := if_pos hf
        have e2 : putD f y ((a, y') :: fs) = (a, y) :: fs := if_pos hf
        rw [e1, e2]
        exact ⟨by simp [ht], .cons rx r2⟩
      · have e1 : putF f x ((a, x') :: vs) = (a, x') :: putF f x vs := if_neg hf
        have e2 : putD f y ((a, y') :: fs) = (a, y') :: putD f y fs := if_neg hf
        obtain ⟨i1, i2⟩ := put_rep rx ht r2
        rw [e1, e2]
        exact ⟨by simp [i1], .cons r1 i2⟩
theorem EnvK.insAt (E : EnvK f κ F σ H ρ h st) (hx : (v, w) ∈ st) {k : Nat} (e : CM.insAt C h w = some (k, fs)) : ∃ q dx vs, v = .ref q ∧ κ[k]? = some q ∧ H q = some (.ins (He.ga f C) dx vs) ∧ vs.map (·.1) = fs.map (·.1) ∧ RepA (av F κ st) ⟨f, κ⟩ H (vs.map (·.2)) (fs.map (·.2)) := by
  unfold CM.insAt at e
  split at e
  · rename_i m
    split at e
    · rename_i C' fs' hc
      split at e
      · rename_i hC
        subst hC
        cases e
        have r := E.rep hx
        generalize hM : av F κ st = MM at r
        cases r with
        | @ce a _ hk =>
          subst hM
          have own := E.ce _ _ _ hk hc
          generalize hM : av F κ st = MM at own
          cases own with
          | ins a b c => exact ⟨_, _, _, rfl, hk, a, b, c⟩
      · cases e
    · cases e
  · cases e
theorem sim_sfld {to : TE} {mo : Mo W} (c : Cls f (He.ga f C)) (hn : NoAttr f (He.ga f C) n) (ho : SimE f WW to mo) (he : SimE f WW te me) : SimS f WW (sFld f to te n) (sFldM C n mo me) := fun F σ H ρ h st o D E e p => by
  rcases bindS_some e with ⟨w1, ρ1, h1, e1, e⟩ | ⟨C', fs, ρ1, h1, e1, rfl⟩
  · refine he F σ H ρ h st _ _ E e1 fun v1 H1 E1 => ?_
    rcases bindS_some e with ⟨w2, ρ2, h2, e2, e⟩ | ⟨C', fs, ρ2, h2, e2, rfl⟩
    · refine ho F σ H1 ρ1 h1 _ _ _ E1 e2 fun v2 H2 ⟨κ, E2⟩ => ?_
      cases q1 : insAt C h2 w2 with
      | none => rw [q1] at e; cases e
      | some x =>
        obtain ⟨k, fs⟩ := x
        rw [q1] at e
        dsimp only [Option.bind_some] at e
        split at e
        · rename_i hlen
          cases e
          have E3 : EnvK f κ F σ H2 ρ2 h2 ((v1, .cl (fzW w1)) :: (v2, w2) :: st) := (E2.perm (List.Perm.swap _ _ _)).fz
          obtain ⟨q, dx, vs, rfl, hk, hq, nm, r⟩ := E3.insAt (List.mem_cons_of_mem _ (List.mem_cons_self ..)) q1
          have rv := E3.rep (List.mem_cons_self ..)
          refine ⟨q, _, dx, vs, rfl, hq, c, hn, ?_, ?_⟩
          · have := congrArg List.length nm
            rw [List.length_map, List.length_map] at this
            omega
          · obtain ⟨i1, i2⟩ := put_rep (f := n) rv nm r
            have E4 := E3.mut (u := .ins (He.ga f C) dx (putF n v1 vs)) (c' := .ins C (putD n (fzW w1) fs)) hk (.ins upd_same i1 (i2.ex (Ex.mut (av_ka (List.mem_of_getElem? hk)))))
            exact p _ _ ⟨κ, E4.pop.pop⟩
        · cases e
    · exact ho F σ H1 ρ1 h1 _ _ _ E1 e2 (ExR.up p)
  · exact he F σ H ρ h st _ _ E e1 p
theorem keep_new {x dx : Addr} {o u : HO} (hx : H x = none) (hdx : H dx = none) (hne : dx ≠ x) : Ex [] H (upd (upd H dx o) x u) := (Ex.new hdx).trans (fun a o _ z => by
    have hax : a ≠ x := by
      rintro rfl
      by_cases q : a = dx
      · exact hne q.symm
      · rw [upd_ne q, hx] at z
        cases z
    rw [upd_ne hax]
    exact z)
/-- a new instance is one more cell -/
theorem EnvK.self {x dx : Addr} {us : List V} {es : List D} (E : EnvK f κ F σ H ρ h (vs.zip (ds.map W.cl) ++ st)) (hl : vs.length = ds.length) (hx : H x = none) (hdx : H dx = none) (hne : dx ≠ x) (hr : ∀ M, RepA M ⟨f, κ ++ [x]⟩ (upd (upd H dx (.own x)) x (.ins (He.ga f C) dx [])) us es) :
    EnvK f (κ ++ [x]) ⟨x :: av F κ (vs.zip (ds.map W.cl) ++ st), κ ++ [x], upd (upd H dx (.own x)) x (.ins (He.ga f C) dx [])⟩ ((V.ref x :: (vs ++ us)).map some) (upd (upd H dx (.own x)) x (.ins (He.ga f C) dx [])) ((D.ce h.length :: (ds ++ es)).map .cl) (h ++ [.ins C []]) [] := by
  have keep := keep_new (o := .own x) (u := .ins (He.ga f C) dx []) hx hdx hne
  have hm : ∀ y ∈ av (⟨x :: av F κ (vs.zip (ds.map W.cl) ++ st), κ ++ [x], upd (upd H dx (.own x)) x (.ins (He.ga f C) dx [])⟩ : Fm) (κ ++ [x]) [], y ∈ av F κ (vs.zip (ds.map W.cl) ++ st) ∨ H y = none := fun y hy => by
    rcases List.mem_append.mp hy with z | z
    · rcases List.mem_cons.mp z with z | z
      · rw [z]; exact .inr hx
      · exact .inl z
    · rcases List.mem_append.mp z with z | z
      · rcases List.mem_append.mp z with z | z
        · exact .inl (av_ka z)
        · rw [List.mem_singleton.mp z]; exact .inr hx
      · cases z
  have alive : ∀ a, H a ≠ none → upd (upd H dx (.own x)) x (.ins (He.ga f C) dx []) a ≠ none := fun a ha => by
    rw [ex_same keep ha]
    exact ha
  have xk : x ∉ κ := fun z => E.ka_some z hx
  refine ⟨⟨fun a ha => ?_, fun a ha => ?_⟩, by simp [hl, (hr []).len], by simp [E.kl], ⟨[], by simp, fun _ z => by cases z⟩, Ex.refl, fun _ z => z, ?_, fun i o s g1 g2 => ?_, fun n p c g1 g2 => ?_, fun _ z => by cases z⟩
  · rcases List.mem_cons.mp ha with z | z
    · rw [z]
      show upd _ x _ x ≠ none
      rw [upd_same]
      exact fun z => by cases z
    · exact alive a (E.av_some z)
  · rcases List.mem_append.mp ha with z | z
    · exact List.mem_cons_of_mem _ (av_ka z)
    · rw [List.mem_singleton.mp z]
      exact List.mem_cons_self ..
  · show (κ ++ [x] ++ []).Nodup
    rw [List.append_nil, List.nodup_append]
    refine ⟨(List.nodup_append.mp E.nd).1, by simp, fun a ha b hb z => ?_⟩
    rw [List.mem_singleton.mp hb] at z
    rw [z] at ha
    exact xk ha
  · cases i with
    | zero =>
      simp at g1 g2
      subst g1 g2
      refine .cl (.ce ?_)
      show (κ ++ [x])[h.length]? = some x
      rw [← E.kl]
      simp
    | succ i =>
      have g1 : ((vs ++ us).map some)[i]? = some o := by simpa using g1
      have g2 : ((ds ++ es).map Sl.cl)[i]? = some s := by simpa using g2
      rw [List.getElem?_map] at g1 g2
      cases hd : (ds ++ es)[i]? with
      | none => rw [hd] at g2; cases g2
      | some d =>
        rw [hd] at g2
        cases g2
        have ra := E.repA hl fun x hx => List.mem_append.mpr (.inl hx)
        by_cases hi : i < ds.length
        · rw [List.getElem?_append_left hi] at hd
          obtain ⟨v, k1, k2⟩ := ra.get hd
          rw [List.getElem?_append_left (by omega), k1] at g1
          cases g1
          exact .cl (((k2.frs hm).ex keep.nil).up (l := [x]))
        · rw [List.getElem?_append_right (by omega)] at hd
          obtain ⟨v, k1, k2⟩ := (hr _).get hd
          rw [List.getElem?_append_right (by omega), hl, k1] at g1
          cases g1
          exact .cl k2
  · by_cases hk : n < κ.length
    · rw [List.getElem?_append_left hk] at g1
      rw [List.getElem?_append_left (by rw [← E.kl]; exact hk)] at g2
      have own := E.ce n p c g1 g2
      have own2 : Own (av (⟨x :: av F κ (vs.zip (ds.map W.cl) ++ st), κ ++ [x], upd (upd H dx (.own x)) x (.ins (He.ga f C) dx [])⟩ : Fm) (κ ++ [x]) []) ⟨f, κ⟩ H p c := by
        cases own with
        | lst a b => exact .lst a (b.frs hm)
        | dK a n b => exact .dK a n (b.frs hm)
        | ins a n b => exact .ins a n (b.frs hm)
      exact (own2.ex keep.nil (ex_same keep own.some)).up (l := [x])
    · rw [List.getElem?_append_right (by omega)] at g1
      rw [List.getElem?_append_right (by rw [← E.kl]; omega)] at g2
      have hz : n - κ.length = 0 := by
        have := (List.getElem?_eq_some_iff.mp g1).1
        simp at this
        omega
      have hz2 : n - h.length = 0 := by rw [← E.kl]; exact hz
      rw [hz] at g1
      rw [hz2] at g2
      simp at g1 g2
      subst g1 g2
      exact .ins (vs := []) (ds := []) upd_same rfl .nil
theorem sim_make {dvs : List D} {dvv : List V} (hd : ∀ M κ H, RepA M ⟨f, κ⟩ H dvv dvs) (hb : SimA f WW tr mr) : SimE f WW (tMake (He.ga f C) (spM f m) dvv E0 tr) (mMake keep C m dvs mr) := fun F σ H ρ h st r Q E e p => by
  rcases bindR_some e with ⟨ws, ρ1, h1, e1, e⟩ | ⟨C', fs, ρ1, h1, e1, rfl⟩
  · refine hb F σ H ρ h st _ _ E e1 fun vs H1 hl ⟨κ, E1⟩ => fun x dx hx hdx hne => ?_
    split at e
    · rename_i h' q
      cases q2 : CM.cutF keep h1 (.cl (.ce h1.length)) h' with
      | none => rw [q2] at e; cases e
      | some y =>
        rw [q2] at e
        cases e
        have E2 := E1.fzs hl
        have hl2 : vs.length = (ws.map fzW).length := by simpa using hl
        have S := E2.self (C := C) (us := dvv) (es := dvs) hl2 hx hdx hne fun M => hd M _ _
        refine ⟨_, _, _, _, _, S, q, fun v H3 ⟨κ', E3⟩ => ?_⟩
        have rv := E3.rep (List.mem_cons_self ..)
        refine ⟨rep_non rv, ?_⟩
        have keep0 := keep_new (o := .own x) (u := .ins (He.ga f C) dx []) hx hdx hne
        obtain ⟨l, e4, f4⟩ := E3.io
        have e4 : κ' = κ ++ [x] ++ l := e4
        have f4 : ∀ p ∈ l, upd (upd H1 dx (.own x)) x (.ins (He.ga f C) dx []) p = none := f4
        have h0 : ∀ p, upd (upd H1 dx (.own x)) x (.ins (He.ga f C) dx []) p = none → H1 p = none := fun p hp => by
          cases q : H1 p with
          | none => rfl
          | some u =>
            rw [ex_same keep0 (by rw [q]; exact fun z => by cases z), q] at hp
            cases hp
        -- the same, seen from ahead of the new instance
        have E4 : EnvK f κ' ⟨av F κ (vs.zip ((ws.map fzW).map W.cl) ++ st), κ, H1⟩ [] H3 [] h' [(.ref x, .cl (.ce h1.length))] := by
          have hm : ∀ y ∈ av (⟨av F κ (vs.zip ((ws.map fzW).map W.cl) ++ st), κ, H1⟩ : Fm) κ' [(V.ref x, W.cl (.ce h1.length))], y ∈ av (⟨x :: av F κ (vs.zip ((ws.map fzW).map W.cl) ++ st), κ ++ [x], upd (upd H1 dx (.own x)) x (.ins (He.ga f C) dx [])⟩ : Fm) κ' [(v, W.cl .non)] := fun y hy => by
            rcases List.mem_append.mp hy with z | z
            · exact List.mem_append.mpr (.inl (List.mem_cons_of_mem _ z))
            · rcases List.mem_append.mp z with z | z
              · exact av_ka z
              · rw [roots_cl] at z
                cases z
          refine ⟨⟨fun a ha => E2.av_some ha, fun a ha => av_ka ha⟩, rfl, E3.kl, ⟨[x] ++ l, by rw [e4, List.append_assoc], fun q hq => ?_⟩, fun a o hn z => ?_, fun a z => ?_, ?_, fun i o s g1 _ => by simp at g1, fun n p c g1 g2 => (E3.ce n p c g1 g2).mono hm, fun y hy => ?_⟩
          · rcases List.mem_append.mp hq with z | z
            · rw [List.mem_singleton.mp z]; exact hx
            · exact h0 q (f4 q z)
          · have z : H1 a = some o := z
            have hax : a ≠ x := by
              rintro rfl
              rw [hx] at z
              cases z
            exact E3.ex a o (fun z => (List.mem_append.mp z).elim hn fun z => hax (List.mem_singleton.mp z)) (keep0 a o List.not_mem_nil z)
          · exact E3.tr a (by
              show upd _ x _ a ≠ none
              rw [ex_same keep0 z]
              exact z)
          · have nd := E3.nd
            rw [roots_cl] at nd ⊢
            exact nd
          · rw [List.mem_singleton.mp hy]
            refine .cl (.ce ?_)
            show κ'[h1.length]? = some x
            rw [e4, ← E2.kl, List.append_assoc, List.getElem?_append_right (Nat.le_refl _), Nat.sub_self]
            rfl
        obtain ⟨κ5, E5⟩ := E4.cutF E2.kl E2.wfs q2
        exact p _ _ ⟨κ5, EnvK.call_end (l := vs.zip ((ws.map fzW).map W.cl)) E2 rfl E5⟩
    · cases e
  · exact hb F σ H ρ h st _ _ E e1 p
end
end CM
namespace CM
open PySem PySem.Spec PyProof.Rows L2 SL
mutual
def pd : D → Option PyData
  | .non => some .none
  | .bl b => some (.bool b)
  | .int i => some (.int i)
  | .str z => some (.str z)
  | .lst xs => (pds xs).map .list
  | .tup xs => (pds xs).map .tuple
  | .tg _ d => pd d
  | _ => none
def pds : List D → Option (List PyData)
  | [] => some []
  | d :: ds => (pd d).bind fun x => (pds ds).map (x :: ·)
end
section
variable {f : PySem.W.Frag} {K : Kx} {M : List Addr} {H H' : Hp} {p : Addr}
theorem pd_lst {xs : List D} : pd (.lst xs) = (pds xs).map .list := by simp only [pd]
theorem pd_tup {xs : List D} : pd (.tup xs) = (pds xs).map .tuple := by simp only [pd]
mutual
theorem pd_dp : ∀ {v : V} {d : D} {x : PyData}, Rep M K H v d → pd d = some x → Dp K H v x
  | _, _, _, .non, e => by simp only [pd] at e; cases e; exact .non
  | _, _, _, .bl b, e => by simp only [pd] at e; cases e; exact .bl b
  | _, _, _, .int i, e => by simp only [pd] at e; cases e; exact .int i
  | _, _, _, .str z, e => by simp only [pd] at e; cases e; exact .str z
  | _, _, _, .ty n, e => by simp only [pd] at e; cases e
  | _, _, _, .glo n, e => by simp only [pd] at e; cases e
  | _, _, _, .scr n, e => by simp only [pd] at e; cases e
  | _, _, _, .dK h n a, e => by simp only [pd] at e; cases e
  | _, _, _, .rng h, e => by simp only [pd] at e; cases e
  | _, _, _, .bo h h2, e => by simp only [pd] at e; cases e
  | _, _, _, .ce h, e => by simp only [pd] at e; cases e
  | _, _, _, .ins h n a, e => by simp only [pd] at e; cases e
  | _, _, _, .exc h h2 n a, e => by simp only [pd] at e; cases e
  | _, _, _, .lst (ds := ds) h a, e => by
    rw [pd_lst] at e
    cases h1 : pds ds with
    | none => rw [h1] at e; cases e
    | some ys =>
      rw [h1] at e
      cases e
      exact .lst (.inl (.inl h.at_)) (pds_dp a h1)
  | _, _, _, .tup (ds := ds) h a, e => by
    rw [pd_tup] at e
    cases h1 : pds ds with
    | none => rw [h1] at e; cases e
    | some ys =>
      rw [h1] at e
      cases e
      exact .tup h.sq (pds_dp a h1)
  | _, _, _, .tg h, e => by simp only [pd] at e; exact pd_dp h e
theorem pds_dp : ∀ {vs : List V} {ds : List D} {xs : List PyData}, RepA M K H vs ds → pds ds = some xs → DpAll K H vs xs
  | _, _, _, .nil, e => by simp only [pds] at e; cases e; exact .nil
  | _, _, _, .cons (d := d) (ds := ds) h a, e => by
    simp only [pds] at e
    cases h1 : pd d with
    | none => rw [h1] at e; cases e
    | some x =>
      rw [h1] at e
      dsimp only [Option.bind_some] at e
      cases h2 : pds ds with
      | none => rw [h2] at e; cases e
      | some ys =>
        rw [h2] at e
        cases e
        exact .cons (pd_dp h h1) (pds_dp a h2)
end
theorem nr_dp {v : V} {d : D} {x : PyData} (h : Nr M K H v d) (e : pd d = some x) : Dp K H v x := pd_dp h.rep0 e
end
def big : Int := 10000000000000000000000000000000000000000
def dAdd (a b : D) : Option W := match a.u, b.u with
  | .int i, .int j => some (.cl (.int (i + j)))
  | .str x, .str y => if x.length + y.length ≤ 100000 then some (.cl (.str (x ++ y))) else none
  | .lst xs, .lst ys => if xs.length + ys.length ≤ 100000 then some (.fr (xs ++ ys)) else none
  | .tup xs, .tup ys => if xs.length + ys.length ≤ 100000 then some (.cl (.tup (xs ++ ys))) else none
  | _, _ => none
def dSub (a b : D) : Option W := match a.u, b.u with
  | .int i, .int j => some (.cl (.int (i - j)))
  | _, _ => none
def dMul (a b : D) : Option W := match a.u, b.u with
  | .int i, .int j => if -big < i ∧ i < big ∧ -big < j ∧ j < big then some (.cl (.int (i * j))) else none
  | .lst xs, .int n => if 0 ≤ n ∧ n ≤ 100000 ∧ xs.length * n.toNat ≤ 100000 then some (.fr (List.replicate n.toNat xs).flatten) else none
  | .tup xs, .int n => if 2 ≤ n ∧ n ≤ 1000 ∧ xs.length ≤ 1000 ∧ xs.isEmpty = false then some (.cl (.tup (List.replicate n.toNat xs).flatten)) else none
  | _, _ => none
def dMod (a b : D) : Option W := match a.u, b.u with
  | .int i, .int j => if 0 < j then some (.cl (.int (i % j))) else none
  | _, _ => none
def dDiv (a b : D) : Option W := match a.u, b.u with
  | .int i, .int j => if 0 < j ∧ j < big then some (.cl (.int (i / j))) else none
  | _, _ => none
def dPow (a b : D) : Option W := match a.u, b.u with
  | .int i, .int j => if 0 ≤ j ∧ j ≤ 1000000 ∧ -18446744073709551616 < i ∧ i < 18446744073709551616 then some (.cl (.int (i ^ j.toNat))) else none
  | _, _ => none
def dEqB0 (a b : D) : Option Bool := (pd a).bind fun x => (pd b).bind fun y => if SeqAt.shaped x = true ∧ SeqAt.shaped y = true then some (PyData.eqv x y) else none
def dEqB (a b : D) : Option Bool := match a.u, b.u with
  | .str x, .str y => some (decide (x = y))
  | _, _ => dEqB0 a b
def dEq (a b : D) : Option W := (dEqB a b).map fun b => .cl (.bl b)
def dNe (a b : D) : Option W := (dEqB a b).map fun b => .cl (.bl (!b))
def intsOf : List D → Option (List Int)
  | [] => some []
  | d :: ds => match d.u with
    | .int i => (intsOf ds).map (i :: ·)
    | _ => none
def strsOf : List D → Option (List Str)
  | [] => some []
  | d :: ds => match d.u with
    | .str i => (strsOf ds).map (i :: ·)
    | _ => none
def blsOf : List D → Option (List Bool)
  | [] => some []
  | d :: ds => match d.u with
    | .bl i => (blsOf ds).map (i :: ·)
    | _ => none
def dLt (a b : D) : Option W := match a.u, b.u with
  | .int i, .int j => some (.cl (.bl (decide (i < j))))
  | .str x, .str y => some (.cl (.bl (decide (x.cps.toList < y.cps.toList))))
  | .tup xs, .tup ys => (intsOf xs).bind fun ns => (intsOf ys).map fun ms => .cl (.bl (HT.lexLt ns ms))
  | _, _ => none
def dLe (a b : D) : Option W := match a.u, b.u with
  | .int i, .int j => some (.cl (.bl (decide (i ≤ j))))
  | _, _ => none
def dGt (a b : D) : Option W := match a.u, b.u with
  | .int i, .int j => some (.cl (.bl (decide (j < i))))
  | _, _ => none
def dGe (a b : D) : Option W := match a.u, b.u with
  | .int i, .int j => some (.cl (.bl (decide (j ≤ i))))
  | _, _ => none
def dIs (a b : D) : Option W := match a.u, b.u with
  | .non, .non => some (.cl (.bl true))
  | _, .non => some (.cl (.bl false))
  | _, _ => none
def dIsnt (a b : D) : Option W := match a.u, b.u with
  | .non, .non => some (.cl (.bl false))
  | _, .non => some (.cl (.bl true))
  | _, _ => none
/-- a flat value -/
def flat : D → Option V
  | .non => some .non
  | .bl b => some (.bl b)
  | .int i => some (.int i)
  | .str z => some (.str z)
  | .tg _ d => flat d
  | _ => none
def flats : List D → Option (List V)
  | [] => some []
  | d :: ds => (flat d).bind fun v => (flats ds).map (v :: ·)
def dInB (a b : D) : Option Bool := match b.u with
  | .str z => match a.u with
    | .str x => match x.cps.toList with
      | [c] => some (decide (c ∈ z.cps.toList))
      | _ => none
    | _ => none
  | .lst ds => (flat a).bind fun v => (flats ds).map fun vs => inV v vs
  | .tup ds => (flat a).bind fun v => (flats ds).map fun vs => inV v vs
  | .rng lo hi => match a.u with
    | .int i => some (decide (lo ≤ i ∧ i < hi))
    | _ => none
  | _ => none
def dIn (a b : D) : Option W := (dInB a b).map fun b => .cl (.bl b)
def dNi (a b : D) : Option W := match b.u with
  | .rng _ _ => none
  | _ => (dInB a b).map fun b => .cl (.bl (!b))
def dIx (a b : D) : Option W := match a.u, b.u with
  | .lst ds, .int i => (atI ds i).map .cl
  | .tup ds, .int i => (atI ds i).map .cl
  | .scr ns, .int i => (atI ns i).map fun n => .cl (.int n)
  | .str z, .int i => if z.length ≤ 100000 then (atI z.cps.toList i).map fun c => .cl (.str ⟨#[c]⟩) else none
  | _, _ => none
def cutL {α : Type} (xs : List α) (lo hi : Option Int) : List α := (xs.drop (HT.sIx xs.length 0 lo)).take (HT.sIx xs.length xs.length hi - HT.sIx xs.length 0 lo)
def dSl (a : D) (lo hi : Option Int) : Option W := match a.u with
  | .str z => if z.length ≤ 100000 then some (.cl (.str (cutS z lo hi))) else none
  | .lst ds => some (.fr (cutL ds lo hi))
  | .tup ds => some (.cl (.tup (cutL ds lo hi)))
  | _ => none
def dLen : List D → Option W
  | [a] => match a.u with
    | .str z => if z.length ≤ 100000 then some (.cl (.int z.length)) else none
    | .lst ds => some (.cl (.int ds.length))
    | .tup ds => some (.cl (.int ds.length))
    | .scr ds => some (.cl (.int ds.length))
    | _ => none
  | _ => none
def dMax2 : List D → Option W
  | [a, b] => match a.u, b.u with
    | .int i, .int j => some (.cl (.int (if j > i then j else i)))
    | _, _ => none
  | _ => none
def dMin2 : List D → Option W
  | [a, b] => match a.u, b.u with
    | .int i, .int j => some (.cl (.int (if j < i then j else i)))
    | _, _ => none
  | _ => none
def dAll : List D → Option W
  | [a] => match a.u with
    | .lst ds => (blsOf ds).map fun bs => .cl (.bl (bs.all id))
    | _ => none
  | _ => none
def dAny : List D → Option W
  | [a] => match a.u with
    | .lst ds => (blsOf ds).map fun bs => .cl (.bl (bs.any id))
    | _ => none
  | _ => none
def dList : List D → Option W
  | [a] => match a.u with
    | .lst ds => some (.fr ds)
    | .tup ds => some (.fr ds)
    | _ => none
  | _ => none
def dTuple : List D → Option W
  | [a] => match a.u with
    | .lst ds => some (.cl (.tup ds))
    | .tup ds => some (.cl (.tup ds))
    | _ => none
  | _ => none
/-- data whose repr is told -/
def showsB (x : PyData) : Bool := x.showable && (x.leavesShort 60 && (decide (x.bulk ≤ 200000) && decide (x.depth ≤ 60)))
def dRepr : List D → Option W
  | [a] => (pd a).bind fun x => if showsB x = true then some (.cl (.str x.shown)) else none
  | _ => none
def insS (z : Str) : List Str → List Str
  | [] => [z]
  | y :: ys => if z.cps.toList < y.cps.toList then z :: y :: ys else y :: insS z ys
def sortS : List Str → List Str
  | [] => []
  | z :: zs => insS z (sortS zs)
section
variable {f : PySem.W.Frag} {K : Kx} {M : List Addr} {H H' : Hp} {p : Addr} {v : V} {d : D} {vs : List V} {ds : List D}
theorem ints_of : ∀ {vs : List V} {ds : List D} {ns : List Int}, RepA M K H vs ds → intsOf ds = some ns → vs = ns.map V.int
  | _, _, _, .nil, e => by cases e; rfl
  | _, _, ns, .cons (v := v) (vs := vs) (d := d) (ds := ds) h a, e => by
    have e : (match d.u with
      | .int i => (intsOf ds).map (i :: ·)
      | _ => none) = some ns := e
    have h := h.u
    split at e
    · rename_i i hi
      rw [hi] at h
      cases h1 : intsOf ds with
      | none => rw [h1] at e; cases e
      | some ms =>
        rw [h1] at e
        cases e
        rw [rep_int h, ints_of a h1]
        rfl
    · cases e
theorem strs_of : ∀ {vs : List V} {ds : List D} {ns : List Str}, RepA M K H vs ds → strsOf ds = some ns → vs = ns.map V.str
  | _, _, _, .nil, e => by cases e; rfl
  | _, _, ns, .cons (v := v) (vs := vs) (d := d) (ds := ds) h a, e => by
    have e : (match d.u with
      | .str i => (strsOf ds).map (i :: ·)
      | _ => none) = some ns := e
    have h := h.u
    split at e
    · rename_i i hi
      rw [hi] at h
      cases h1 : strsOf ds with
      | none => rw [h1] at e; cases e
      | some ms =>
        rw [h1] at e
        cases e
        rw [rep_str h, strs_of a h1]
        rfl
    · cases e
theorem bls_of : ∀ {vs : List V} {ds : List D} {ns : List Bool}, RepA M K H vs ds → blsOf ds = some ns → vs = ns.map V.bl
  | _, _, _, .nil, e => by cases e; rfl
  | _, _, ns, .cons (v := v) (vs := vs) (d := d) (ds := ds) h a, e => by
    have e : (match d.u with
      | .bl i => (blsOf ds).map (i :: ·)
      | _ => none) = some ns := e
    have h := h.u
    split at e
    · rename_i i hi
      rw [hi] at h
      cases h1 : blsOf ds with
      | none => rw [h1] at e; cases e
      | some ms =>
        rw [h1] at e
        cases e
        rw [rep_bl h, bls_of a h1]
        rfl
    · cases e
theorem flat_of : ∀ {v : V} {d : D} {x : V}, Rep M K H v d → flat d = some x → v = x ∧ flatV x = true
  | _, _, _, .non, e => by simp only [flat] at e; cases e; exact ⟨rfl, rfl⟩
  | _, _, _, .bl b, e => by simp only [flat] at e; cases e; exact ⟨rfl, rfl⟩
  | _, _, _, .int i, e => by simp only [flat] at e; cases e; exact ⟨rfl, rfl⟩
  | _, _, _, .str z, e => by simp only [flat] at e; cases e; exact ⟨rfl, rfl⟩
  | _, _, _, .tg h, e => by simp only [flat] at e; exact flat_of h e
  | _, _, _, .ty n, e => by simp only [flat] at e; cases e
  | _, _, _, .glo n, e => by simp only [flat] at e; cases e
  | _, _, _, .scr n, e => by simp only [flat] at e; cases e
  | _, _, _, .lst n a, e => by simp only [flat] at e; cases e
  | _, _, _, .tup n a, e => by simp only [flat] at e; cases e
  | _, _, _, .dK h n a, e => by simp only [flat] at e; cases e
  | _, _, _, .rng h, e => by simp only [flat] at e; cases e
  | _, _, _, .bo h h2, e => by simp only [flat] at e; cases e
  | _, _, _, .ce h, e => by simp only [flat] at e; cases e
  | _, _, _, .ins h n a, e => by simp only [flat] at e; cases e
  | _, _, _, .exc h h2 n a, e => by simp only [flat] at e; cases e
theorem flats_of : ∀ {vs : List V} {ds : List D} {xs : List V}, RepA M K H vs ds → flats ds = some xs → vs = xs ∧ xs.all flatV = true
  | _, _, _, .nil, e => by cases e; exact ⟨rfl, rfl⟩
  | _, _, xs, .cons (v := v) (vs := vs) (d := d) (ds := ds) h a, e => by
    have e : ((flat d).bind fun v => (flats ds).map (v :: ·)) = some xs := e
    cases h1 : flat d with
    | none => rw [h1] at e; cases e
    | some x =>
      rw [h1] at e
      dsimp only [Option.bind_some] at e
      cases h2 : flats ds with
      | none => rw [h2] at e; cases e
      | some ys =>
        rw [h2] at e
        cases e
        obtain ⟨a1, a2⟩ := flat_of h h1
        obtain ⟨b1, b2⟩ := flats_of a h2
        rw [a1, b1]
        exact ⟨rfl, by rw [List.all_cons, a2, b2]; rfl⟩
theorem RepA.cut {lo hi : Option Int} (h : RepA M K H vs ds) : RepA M K H (cutV vs lo hi) (cutL ds lo hi) := by
  unfold cutV cutL
  rw [h.len]
  exact (h.drop _).take _
theorem RepA.rep : ∀ (n : Nat), RepA M K H vs ds → RepA M K H (List.replicate n vs).flatten (List.replicate n ds).flatten
  | 0, _ => .nil
  | n + 1, h => by
    rw [List.replicate_succ, List.replicate_succ, List.flatten_cons, List.flatten_cons]
    exact h.append (RepA.rep n h)
theorem RepA.atI {i : Int} (h : RepA M K H vs ds) (e : atI ds i = some d) : ∃ v, L2.atI vs i = some v ∧ Rep M K H v d := by
  unfold L2.atI at e ⊢
  rw [h.len]
  cases h1 : ixN ds.length i with
  | none => rw [h1] at e; cases e
  | some k =>
    rw [h1] at e
    exact h.get e
theorem wmul {i j : Int} (h : -big < i ∧ i < big ∧ -big < j ∧ j < big) : CMulW i j := by
  unfold big at h
  refine wide_mul (a := 140) (b := 140) ?_ ?_ (by decide) (by decide) (by decide)
  · have : (2 : Nat) ^ 140 = 1393796574908163946345982392040522594123776 := by decide
    omega
  · have : (2 : Nat) ^ 140 = 1393796574908163946345982392040522594123776 := by decide
    omega
theorem wdiv {i j : Int} (h : 0 < j ∧ j < big) : CDivW i j := by
  unfold big at h
  refine wide_div (b := 140) h.1 ?_ (by decide) (by decide)
  have : (2 : Nat) ^ 140 = 1393796574908163946345982392040522594123776 := by decide
  omega
theorem o_add : Op2 f (uAdd f) dAdd := fun κ M H x y dx dy w Q hM nx ny e q => by
  unfold dAdd at e
  split at e
  · rename_i i j h1 h2
    cases e
    rw [nr_int nx h1, nr_int ny h2]
    exact u_add_i (q _ _ Ex.refl (.cl (.int _)))
  · rename_i i j h1 h2
    split at e
    · cases e
      rw [nr_str nx h1, nr_str ny h2]
      exact u_add_s (sz_le ‹_›) (q _ _ Ex.refl (.cl (.str _)))
    · cases e
  · rename_i i j h1 h2
    obtain ⟨a, xs, rfl, s1, r1⟩ := nr_lst nx h1
    obtain ⟨b, ys, rfl, s2, r2⟩ := nr_lst ny h2
    split at e
    · cases e
      exact u_add_l s1 s2 (sz_le (by rw [r1.len, r2.len]; assumption)) fun p hp => q _ _ (Ex.new hp) (Nw.new hp (r1.append r2))
    · cases e
  · rename_i i j h1 h2
    have ux := nx.u
    have uy := ny.u
    rw [h1] at ux
    rw [h2] at uy
    cases ux with
    | own r => cases r
    | cl rx =>
      cases uy with
      | own r => cases r
      | cl ry =>
        cases rx with
        | @tup a xs _ s1 r1 =>
          cases ry with
          | @tup b ys _ s2 r2 =>
            split at e
            · cases e
              refine u_add_t s1.sq s2.sq (sz_le (by rw [r1.len, r2.len]; assumption)) (fun h => ?_) (fun _ h => ?_) fun _ _ p hp => q _ _ (Ex.new hp) (Nw.tup hp (hM p hp) (r1.append r2))
              · subst h
                cases r1
                exact q _ _ Ex.refl (.cl (.tup s2 r2))
              · subst h
                cases r2
                rw [List.append_nil] at q
                exact q _ _ Ex.refl (.cl (.tup s1 r1))
            · cases e
  · cases e
theorem o_sub : Op2 f SL.rSub dSub := fun κ M H x y dx dy w Q hM nx ny e q => by
  unfold dSub at e
  split at e
  · rename_i i j h1 h2
    cases e
    rw [nr_int nx h1, nr_int ny h2]
    exact u_sub (q _ _ Ex.refl (.cl (.int _)))
  · cases e
theorem o_mul : Op2 f (uMul f) dMul := fun κ M H x y dx dy w Q hM nx ny e q => by
  unfold dMul at e
  split at e
  · rename_i i j h1 h2
    split at e
    · cases e
      rw [nr_int nx h1, nr_int ny h2]
      exact u_mul (wmul ‹_›) (q _ _ Ex.refl (.cl (.int _)))
    · cases e
  · rename_i xs n h1 h2
    obtain ⟨a, xs, rfl, s1, r1⟩ := nr_lst nx h1
    rw [nr_int ny h2]
    split at e
    · rename_i hb
      cases e
      exact u_mul_l s1 hb.1 (by omega) (sz_le (by rw [r1.len]; exact hb.2.2)) fun p hp => q _ _ (Ex.new hp) (Nw.new hp (r1.rep _))
    · cases e
  · rename_i xs n h1 h2
    obtain ⟨a, xs, rfl, s1, r1⟩ := nr_tup nx h1
    rw [nr_int ny h2]
    split at e
    · rename_i hb
      cases e
      refine .inr (.inr ⟨a, n, xs, rfl, rfl, s1, ?_, hb.1, hb.2.1, by rw [r1.len]; exact hb.2.2.1, fun p hp => q _ _ (Ex.new hp) (Nw.tup hp (hM p hp) (r1.rep _))⟩)
      intro z
      subst z
      cases r1
      exact absurd hb.2.2.2 (by simp)
    · cases e
  · cases e
theorem o_mod : Op2 f SL.rMod dMod := fun κ M H x y dx dy w Q hM nx ny e q => by
  unfold dMod at e
  split at e
  · rename_i i j h1 h2
    split at e
    · cases e
      rw [nr_int nx h1, nr_int ny h2]
      exact u_modp ‹_› (q _ _ Ex.refl (.cl (.int _)))
    · cases e
  · cases e
theorem o_div : Op2 f SL.rDiv dDiv := fun κ M H x y dx dy w Q hM nx ny e q => by
  unfold dDiv at e
  split at e
  · rename_i i j h1 h2
    split at e
    · cases e
      rw [nr_int nx h1, nr_int ny h2]
      exact u_div (wdiv ‹_›) (q _ _ Ex.refl (.cl (.int _)))
    · cases e
  · cases e
theorem o_pow : Op2 f SL.rPow dPow := fun κ M H x y dx dy w Q hM nx ny e q => by
  unfold dPow at e
  split at e
  · rename_i i j h1 h2
    split at e
    · rename_i hb
      cases e
      rw [nr_int nx h1, nr_int ny h2]
      exact u_pow ⟨hb.1, hb.2.1, by
        have : (2 : Nat) ^ 64 = 18446744073709551616 := by decide
        omega⟩ (q _ _ Ex.refl (.cl (.int _)))
    · cases e
  · cases e
theorem eqB {M : List Addr} {H : Hp} {x y : V} {dx dy : D} {b : Bool} (nx : Nr M K H x dx) (ny : Nr M K H y dy) (e : dEqB0 dx dy = some b) : ∃ d e, Dp K H x d ∧ Dp K H y e ∧ SeqAt.shaped d = true ∧ SeqAt.shaped e = true ∧ PyData.eqv d e = b := by
  unfold dEqB0 at e
  cases h1 : pd dx with
  | none => rw [h1] at e; cases e
  | some d1 =>
    rw [h1] at e
    dsimp only [Option.bind_some] at e
    cases h2 : pd dy with
    | none => rw [h2] at e; cases e
    | some d2 =>
      rw [h2] at e
      dsimp only [Option.bind_some] at e
      split at e
      · rename_i hs
        cases e
        exact ⟨d1, d2, nr_dp nx h1, nr_dp ny h2, hs.1, hs.2, rfl⟩
      · cases e
theorem eqC {dx dy : D} {b : Bool} (e : dEqB dx dy = some b) : (∃ x y, dx.u = .str x ∧ dy.u = .str y ∧ b = decide (x = y)) ∨ dEqB0 dx dy = some b := by
  unfold dEqB at e
  split at e
  · rename_i x y h1 h2
    cases e
    exact .inl ⟨x, y, h1, h2, rfl⟩
  · exact .inr e
theorem o_eq : Op2 f (uEq f) dEq := fun κ M H x y dx dy w Q hM nx ny e q => by
  unfold dEq at e
  cases h : dEqB dx dy with
  | none => rw [h] at e; cases e
  | some b =>
    rw [h] at e
    cases e
    rcases eqC h with ⟨s, t, h1, h2, rfl⟩ | h
    · rw [nr_str nx h1, nr_str ny h2]
      exact u_eq_s (q _ _ Ex.refl (.cl (.bl _)))
    · obtain ⟨d1, d2, a1, a2, a3, a4, rfl⟩ := eqB nx ny h
      exact u_eq_d a1 a2 a3 a4 (q _ _ Ex.refl (.cl (.bl _)))
theorem o_ne : Op2 f (uNe f) dNe := fun κ M H x y dx dy w Q hM nx ny e q => by
  unfold dNe at e
  cases h : dEqB dx dy with
  | none => rw [h] at e; cases e
  | some b =>
    rw [h] at e
    cases e
    rcases eqC h with ⟨s, t, h1, h2, rfl⟩ | h
    · rw [nr_str nx h1, nr_str ny h2]
      exact u_ne_s (q _ _ Ex.refl (.cl (.bl _)))
    · obtain ⟨d1, d2, a1, a2, a3, a4, rfl⟩ := eqB nx ny h
      exact u_ne_d a1 a2 a3 a4 (q _ _ Ex.refl (.cl (.bl _)))
theorem o_lt : Op2 f (uLt f) dLt := fun κ M H x y dx dy w Q hM nx ny e q => by
  unfold dLt at e
  split at e
  · rename_i i j h1 h2
    cases e
    rw [nr_int nx h1, nr_int ny h2]
    exact u_lt_i (q _ _ Ex.refl (.cl (.bl _)))
  · rename_i i j h1 h2
    cases e
    rw [nr_str nx h1, nr_str ny h2]
    exact u_lt_s (q _ _ Ex.refl (.cl (.bl _)))
  · rename_i i j h1 h2
    obtain ⟨a, xs, rfl, s1, r1⟩ := nr_tup nx h1
    obtain ⟨b, ys, rfl, s2, r2⟩ := nr_tup ny h2
    cases h3 : intsOf i with
    | none => rw [h3] at e; cases e
    | some ns =>
      rw [h3] at e
      dsimp only [Option.bind_some] at e
      cases h4 : intsOf j with
      | none => rw [h4] at e; cases e
      | some ms =>
        rw [h4] at e
        cases e
        rw [ints_of r1 h3] at s1
        rw [ints_of r2 h4] at s2
        exact .inr (.inr ⟨a, b, ns, ms, rfl, rfl, s1, s2, q _ _ Ex.refl (.cl (.bl _))⟩)
  · cases e
theorem o_le : Op2 f uLe dLe := fun κ M H x y dx dy w Q hM nx ny e q => by
  unfold dLe at e
  split at e
  · rename_i i j h1 h2
    cases e
    rw [nr_int nx h1, nr_int ny h2]
    exact u_le_i (q _ _ Ex.refl (.cl (.bl _)))
  · cases e
theorem o_gt : Op2 f SL.rGt dGt := fun κ M H x y dx dy w Q hM nx ny e q => by
  unfold dGt at e
  split at e
  · rename_i i j h1 h2
    cases e
    rw [nr_int nx h1, nr_int ny h2]
    exact u_gt_i (q _ _ Ex.refl (.cl (.bl _)))
  · cases e
theorem rep_vnon : ∀ (d : D), Rep M K H .non d → d.u = .non
  | .tg v d, h => by
    cases h with
    | tg h => exact rep_vnon d h
  | .non, _ => rfl
  | .bl _, h => by cases h
  | .int _, h => by cases h
  | .str _, h => by cases h
  | .ty _, h => by cases h
  | .glo _, h => by cases h
  | .lst _, h => by cases h
  | .scr _, h => by cases h
  | .tup _, h => by cases h
  | .dK _, h => by cases h
  | .rng _ _, h => by cases h
  | .bo w d e, h => by cases h
  | .ce n, h => by cases h
  | .ins _ _, h => by cases h
  | .exc _ _, h => by cases h
theorem rep_ne_non {x : V} (h : Rep M K H x d) (hd : d.u = .non → False) : x ≠ .non := fun z => hd (rep_vnon d (by rw [← z]; exact h))
theorem o_is : Op2 f uIs dIs := fun κ M H x y dx dy w Q hM nx ny e q => by
  unfold dIs at e
  split at e
  · rename_i h1 h2
    cases e
    rw [nr_non nx h1, nr_non ny h2]
    exact ⟨rfl, q _ _ Ex.refl (.cl (.bl _))⟩
  · rename_i h2 h0
    cases e
    rw [nr_non ny h2]
    refine ⟨rfl, ?_⟩
    rw [decide_eq_false (rep_ne_non nx.rep0 h0)]
    exact q _ _ Ex.refl (.cl (.bl _))
  · cases e
theorem o_isnt : Op2 f uIsnt dIsnt := fun κ M H x y dx dy w Q hM nx ny e q => by
  unfold dIsnt at e
  split at e
  · rename_i h1 h2
    cases e
    rw [nr_non nx h1, nr_non ny h2]
    exact ⟨rfl, q _ _ Ex.refl (.cl (.bl _))⟩
  · rename_i h2 h0
    cases e
    rw [nr_non ny h2]
    refine ⟨rfl, ?_⟩
    rw [decide_eq_false (rep_ne_non nx.rep0 h0)]
    exact q _ _ Ex.refl (.cl (.bl _))
  · cases e
theorem nr_rng {M : List Addr} {v : V} {d : D} {lo hi : Int} (h : Nr M K H v d) (e : d.u = .rng lo hi) : ∃ a, v = .ref a ∧ H a = some (.rng lo hi) := by
  have h := h.u
  rw [e] at h
  cases h with
  | cl r => cases r with | rng a => exact ⟨_, rfl, a.at_⟩
  | own r => cases r
theorem nr_scr {M : List Addr} {v : V} {d : D} {ns : List Int} (h : Nr M K H v d) (e : d.u = .scr ns) : ∃ a, v = .ref a ∧ SqL K H a (ns.map V.int) := by
  have h := h.u
  rw [e] at h
  cases h with
  | cl r => cases r with | scr a => exact ⟨_, rfl, a.sq⟩
  | own r => cases r
theorem nr_flat {M : List Addr} {v x : V} {d : D} (h : Nr M K H v d) (e : flat d = some x) : v = x ∧ flatV x = true := flat_of h.rep0 e
theorem str1 {x : Str} {c : Nat} (h : x.cps.toList = [c]) : x = ⟨#[c]⟩ := str_ext h
theorem inB {neg : Bool} {M : List Addr} {x y : V} {dx dy : D} {b : Bool} (nx : Nr M K H x dx) (ny : Nr M K H y dy) (e : dInB dx dy = some b) :
    (∃ (c : Nat) (z : Str), x = .str ⟨#[c]⟩ ∧ y = .str z ∧ b = decide (c ∈ z.cps.toList)) ∨ (∃ p xs, y = .ref p ∧ (SqL K H p xs ∨ SqT K H p xs) ∧ flatV x = true ∧ xs.all flatV = true ∧ b = inV x xs) ∨ (∃ i a lo hi, x = V.int i ∧ y = V.ref a ∧ H a = some (.rng lo hi) ∧ b = decide (lo ≤ i ∧ i < hi) ∧ dy.u = .rng lo hi) := by
  unfold dInB at e
  split at e
  · rename_i z h2
    split at e
    · rename_i x' h1
      split at e
      · rename_i c hc
        cases e
        exact .inl ⟨c, z, by rw [nr_str nx h1, str1 hc], nr_str ny h2, rfl⟩
      · cases e
    · cases e
  · rename_i ds h2
    obtain ⟨a, xs, rfl, s1, r1⟩ := nr_lst ny h2
    cases h3 : flat dx with
    | none => rw [h3] at e; cases e
    | some v =>
      rw [h3] at e
      dsimp only [Option.bind_some] at e
      cases h4 : flats ds with
      | none => rw [h4] at e; cases e
      | some vs =>
        rw [h4] at e
        cases e
        obtain ⟨a1, a2⟩ := nr_flat nx h3
        obtain ⟨b1, b2⟩ := flats_of r1 h4
        subst a1 b1
        exact .inr (.inl ⟨a, xs, rfl, .inl (.inl (.inl s1)), a2, b2, rfl⟩)
  · rename_i ds h2
    obtain ⟨a, xs, rfl, s1, r1⟩ := nr_tup ny h2
    cases h3 : flat dx with
    | none => rw [h3] at e; cases e
    | some v =>
      rw [h3] at e
      dsimp only [Option.bind_some] at e
      cases h4 : flats ds with
      | none => rw [h4] at e; cases e
      | some vs =>
        rw [h4] at e
        cases e
        obtain ⟨a1, a2⟩ := nr_flat nx h3
        obtain ⟨b1, b2⟩ := flats_of r1 h4
        subst a1 b1
        exact .inr (.inl ⟨a, xs, rfl, .inr s1, a2, b2, rfl⟩)
  · rename_i lo hi h2
    obtain ⟨a, rfl, s1⟩ := nr_rng ny h2
    split at e
    · rename_i i h1
      cases e
      exact .inr (.inr ⟨i, a, lo, hi, nr_int nx h1, rfl, s1, rfl, h2⟩)
    · cases e
  · cases e
theorem o_in : Op2 f (uIn f) dIn := fun κ M H x y dx dy w Q hM nx ny e q => by
  unfold dIn at e
  cases h : dInB dx dy with
  | none => rw [h] at e; cases e
  | some b =>
    rw [h] at e
    cases e
    rcases inB (neg := false) nx ny h with ⟨c, z, rfl, rfl, rfl⟩ | ⟨p, xs, rfl, s, f1, f2, rfl⟩ | ⟨i, a, lo, hi, rfl, rfl, s, rfl, _⟩
    · exact u_in_s (q _ _ Ex.refl (.cl (.bl _)))
    · exact u_in_l s f1 f2 (q _ _ Ex.refl (.cl (.bl _)))
    · exact u_in_r s (q _ _ Ex.refl (.cl (.bl _)))
theorem o_ni : Op2 f (uNi f) dNi := fun κ M H x y dx dy w Q hM nx ny e q => by
  unfold dNi at e
  split at e
  · cases e
  · rename_i hr
    cases h : dInB dx dy with
    | none => rw [h] at e; cases e
    | some b =>
      rw [h] at e
      cases e
      rcases inB (neg := true) nx ny h with ⟨c, z, rfl, rfl, rfl⟩ | ⟨p, xs, rfl, s, f1, f2, rfl⟩ | ⟨i, a, lo, hi, rfl, rfl, s, rfl, h2⟩
      · exact u_ni_s (q _ _ Ex.refl (.cl (.bl _)))
      · exact u_ni_l s f1 f2 (q _ _ Ex.refl (.cl (.bl _)))
      · exact absurd h2 (fun z => hr _ _ z)
theorem o_ix : Op2 f (uIx f) dIx := fun κ M H x y dx dy w Q hM nx ny e q => by
  unfold dIx at e
  split at e
  · rename_i ds i h1 h2
    obtain ⟨a, xs, rfl, s1, r1⟩ := nr_lst nx h1
    rw [nr_int ny h2]
    cases h3 : L2.atI ds i with
    | none => rw [h3] at e; cases e
    | some d =>
      rw [h3] at e
      cases e
      obtain ⟨v, h4, h5⟩ := r1.atI h3
      exact u_ix_l (.inl (.inl s1)) h4 (q _ _ Ex.refl (.cl h5))
  · rename_i ds i h1 h2
    obtain ⟨a, xs, rfl, s1, r1⟩ := nr_tup nx h1
    rw [nr_int ny h2]
    cases h3 : L2.atI ds i with
    | none => rw [h3] at e; cases e
    | some d =>
      rw [h3] at e
      cases e
      obtain ⟨v, h4, h5⟩ := r1.atI h3
      exact u_ix_t s1 h4 (q _ _ Ex.refl (.cl h5))
  · rename_i ns i h1 h2
    obtain ⟨a, rfl, s1⟩ := nr_scr nx h1
    rw [nr_int ny h2]
    cases h3 : L2.atI ns i with
    | none => rw [h3] at e; cases e
    | some n =>
      rw [h3] at e
      cases e
      refine u_ix_l s1 (v := .int n) ?_ (q _ _ Ex.refl (.cl (.int _)))
      unfold L2.atI at h3 ⊢
      rw [List.length_map]
      cases h4 : ixN ns.length i with
      | none => rw [h4] at h3; cases h3
      | some k =>
        rw [h4] at h3
        have h3 : ns[k]? = some n := h3
        show (ns.map V.int)[k]? = some (V.int n)
        rw [List.getElem?_map, h3]
        rfl
  · rename_i z i h1 h2
    rw [nr_str nx h1, nr_int ny h2]
    split at e
    · rename_i hl
      cases h3 : L2.atI z.cps.toList i with
      | none => rw [h3] at e; cases e
      | some c =>
        rw [h3] at e
        cases e
        exact u_ix_s (sz_le hl) h3 (q _ _ Ex.refl (.cl (.str _)))
    · cases e
  · cases e
theorem o_len : OpN f (uLen f) dLen := fun κ M H xs ds w Q hM nr e q => by
  unfold dLen at e
  split at e
  · rename_i a
    obtain ⟨v, rfl, n⟩ := nra1 nr
    split at e
    · rename_i z h
      rw [nr_str n h]
      split at e
      · cases e
        exact u_len_s (sz_le ‹_›) (q _ _ Ex.refl (.cl (.int _)))
      · cases e
    · rename_i ds h
      obtain ⟨a, xs, rfl, s1, r1⟩ := nr_lst n h
      cases e
      refine u_len_q (.inl (.inl (.inl s1))) ?_
      rw [r1.len]
      exact q _ _ Ex.refl (.cl (.int _))
    · rename_i ds h
      obtain ⟨a, xs, rfl, s1, r1⟩ := nr_tup n h
      cases e
      refine u_len_q (.inr s1) ?_
      rw [r1.len]
      exact q _ _ Ex.refl (.cl (.int _))
    · rename_i ds h
      obtain ⟨a, rfl, s1⟩ := nr_scr n h
      cases e
      refine u_len_q (.inl s1) ?_
      rw [List.length_map]
      exact q _ _ Ex.refl (.cl (.int _))
    · cases e
  · cases e
theorem o_max2 : OpN f SL.rMax2 dMax2 := fun κ M H xs ds w Q hM nr e q => by
  unfold dMax2 at e
  split at e
  · obtain ⟨v, u, rfl, n, m⟩ := nra2 nr
    split at e
    · rename_i i j h1 h2
      cases e
      rw [nr_int n h1, nr_int m h2]
      exact u_max2 (q _ _ Ex.refl (.cl (.int _)))
    · cases e
  · cases e
theorem o_min2 : OpN f SL.rMin2 dMin2 := fun κ M H xs ds w Q hM nr e q => by
  unfold dMin2 at e
  split at e
  · obtain ⟨v, u, rfl, n, m⟩ := nra2 nr
    split at e
    · rename_i i j h1 h2
      cases e
      rw [nr_int n h1, nr_int m h2]
      exact u_min2 (q _ _ Ex.refl (.cl (.int _)))
    · cases e
  · cases e
theorem o_all : OpN f (SL.rAllL f) dAll := fun κ M H xs ds w Q hM nr e q => by
  unfold dAll at e
  split at e
  · obtain ⟨v, rfl, n⟩ := nra1 nr
    split at e
    · rename_i ds h1
      obtain ⟨a, xs, rfl, s1, r1⟩ := nr_lst n h1
      cases h2 : blsOf ds with
      | none => rw [h2] at e; cases e
      | some bs =>
        rw [h2] at e
        cases e
        rw [bls_of r1 h2] at s1
        exact u_all (.inl (.inl s1)) (q _ _ Ex.refl (.cl (.bl _)))
    · cases e
  · cases e
theorem o_any : OpN f (SL.rAnyL f) dAny := fun κ M H xs ds w Q hM nr e q => by
  unfold dAny at e
  split at e
  · obtain ⟨v, rfl, n⟩ := nra1 nr
    split at e
    · rename_i ds h1
      obtain ⟨a, xs, rfl, s1, r1⟩ := nr_lst n h1
      cases h2 : blsOf ds with
      | none => rw [h2] at e; cases e
      | some bs =>
        rw [h2] at e
        cases e
        rw [bls_of r1 h2] at s1
        exact u_any (.inl (.inl s1)) (q _ _ Ex.refl (.cl (.bl _)))
    · cases e
  · cases e
theorem o_list : OpN f (SL.uList f) dList := fun κ M H xs ds w Q hM nr e q => by
  unfold dList at e
  split at e
  · obtain ⟨v, rfl, n⟩ := nra1 nr
    split at e
    · rename_i ds h1
      obtain ⟨a, xs, rfl, s1, r1⟩ := nr_lst n h1
      cases e
      exact u_list (.inl (.inl (.inl s1))) fun p hp => q _ _ (Ex.new hp) (Nw.new hp r1)
    · rename_i ds h1
      obtain ⟨a, xs, rfl, s1, r1⟩ := nr_tup n h1
      cases e
      exact u_list (.inr s1) fun p hp => q _ _ (Ex.new hp) (Nw.new hp r1)
    · cases e
  · cases e
theorem o_tuple : OpN f (SL.uTuple f) dTuple := fun κ M H xs ds w Q hM nr e q => by
  unfold dTuple at e
  split at e
  · obtain ⟨v, rfl, n⟩ := nra1 nr
    split at e
    · rename_i ds h1
      obtain ⟨a, xs, rfl, s1, r1⟩ := nr_lst n h1
      cases e
      exact ⟨a, xs, rfl, .inl ⟨.inl (.inl s1), fun p hp => q _ _ (Ex.new hp) (Nw.tup hp (hM p hp) r1)⟩⟩
    · rename_i ds h1
      cases e
      have n := n.u
      rw [h1] at n
      cases n with
      | own r => cases r
      | cl r =>
        cases r with
        | @tup a xs _ s1 r1 => exact ⟨a, xs, rfl, .inr ⟨s1.sq, q _ _ Ex.refl (.cl (.tup s1 r1))⟩⟩
    · cases e
  · cases e
theorem o_repr : OpN f (SL.uRepr f) dRepr := fun κ M H xs ds w Q hM nr e q => by
  unfold dRepr at e
  split at e
  · obtain ⟨v, rfl, n⟩ := nra1 nr
    rename_i a
    cases h1 : pd a with
    | none => rw [h1] at e; cases e
    | some x =>
      rw [h1] at e
      dsimp only [Option.bind_some] at e
      split at e
      · rename_i hs
        cases e
        unfold showsB at hs
        simp only [Bool.and_eq_true, decide_eq_true_eq] at hs
        obtain ⟨s1, s2, s3, s4⟩ := hs
        exact u_repr (nr_dp n h1) ⟨s1, ⟨60, by decide, s2, by omega⟩, s4⟩ (q _ _ Ex.refl (.cl (.str _)))
      · cases e
  · cases e
end
abbrev MO := Mo (Option Int)
def mNoPart : MO := fun ρ h => some (.ok none ρ h)
def mPart (a : Mo W) : MO := fun ρ h => bindR (a ρ h) fun w ρ h => match (deref h w).map D.u with
  | some (.int i) => some (.ok (some i) ρ h)
  | _ => none
def mSl (a : Mo W) (lo hi : MO) : Mo W := fun ρ h => bindR (a ρ h) fun w ρ h => bindR (lo ρ h) fun l ρ h => bindR (hi ρ h) fun u ρ h => (deref h w).bind fun d => (dSl d l u).map fun w => .ok w ρ h
def SimO (f : PySem.W.Frag) (WW : WX) (t : TO) (m : MO) : Prop := ∀ (F : Fm) (σ : L2.St) (H : Hp) (ρ : List Sl) (h : Tb) (st : List (V × W)) (r : R (Option Int)) (Q : Option Int → Hp → Prop), EnvR f F σ H ρ h st → m ρ h = some r → (match r with
  | .ok b ρ h => ∀ H, EnvR f F σ H ρ h st → Q b H
  | .ex C fs ρ h => ExR f F WW st C fs ρ h) → t σ H Q
section
variable {f : PySem.W.Frag} {WW : WX} {te ta tb tc : TE} {me ma mb mc : Mo W} {tl th : TO} {ml mh : MO} {tr : TA} {mr : Mo (List W)}
theorem sim_nopart : SimO f WW tNoPart mNoPart := fun F σ H ρ h st x Q E e p => by
  cases e
  exact p H E
theorem sim_part (he : SimE f WW te me) : SimO f WW (tPart te) (mPart me) := fun F σ H ρ h st x Q E e p => by
  rcases bindR_some e with ⟨w1, ρ1, h1, e1, e⟩ | ⟨C, fs, ρ1, h1, e1, rfl⟩
  · refine he F σ H ρ h st _ _ E e1 fun v1 H1 ⟨κ, E1⟩ => ?_
    cases q1 : deref h1 w1 with
    | none => rw [q1] at e; cases e
    | some d1 =>
      rw [q1] at e
      dsimp only [Option.map_some] at e
      have nr := E1.near (List.mem_cons_self ..) q1
      split at e
      · rename_i b hb
        cases e
        exact ⟨b, nr_int nr (Option.some.inj hb), p H1 ⟨κ, E1.pop⟩⟩
      · cases e
  · exact he F σ H ρ h st _ _ E e1 p
theorem sim_sl (he : SimE f WW te me) (hl : SimO f WW tl ml) (hh : SimO f WW th mh) : SimE f WW (tSl (uSl f) te tl th) (mSl me ml mh) := fun F σ H ρ h st x Q E e p => by
  rcases bindR_some e with ⟨w1, ρ1, h1, e1, e⟩ | ⟨C, fs, ρ1, h1, e1, rfl⟩
  · refine he F σ H ρ h st _ _ E e1 fun v1 H1 E1 => ?_
    rcases bindR_some e with ⟨l, ρ2, h2, e2, e⟩ | ⟨C, fs, ρ2, h2, e2, rfl⟩
    · refine hl F σ H1 ρ1 h1 _ _ _ E1 e2 fun H2 E2 => ?_
      rcases bindR_some e with ⟨u, ρ3, h3, e3, e⟩ | ⟨C, fs, ρ3, h3, e3, rfl⟩
      · refine hh F σ H2 ρ2 h2 _ _ _ E2 e3 fun H3 ⟨κ, E3⟩ => ?_
        cases q1 : deref h3 w1 with
        | none => rw [q1] at e; cases e
        | some d1 =>
          rw [q1] at e
          dsimp only [Option.bind_some] at e
          cases q2 : dSl d1 l u with
          | none => rw [q2] at e; cases e
          | some w =>
            rw [q2] at e
            cases e
            have nr := E3.near (List.mem_cons_self ..) q1
            have hM := fun q hq => av_new E3 (p := q) hq
            have land : ∀ v H', Ex [] H3 H' → Nw (av F κ ((v1, w1) :: st)) ⟨f, κ⟩ H3 H' v w → Q v H' := fun v H' ex nw => p v H' ⟨κ, EnvK.land (l := [(v1, w1)]) E3 ex nw⟩
            unfold dSl at q2
            split at q2
            · rename_i z hz
              rw [nr_str nr hz]
              split at q2
              · cases q2
                exact u_sl_s (sz_le ‹_›) (land _ _ Ex.refl (.cl (.str _)))
              · cases q2
            · rename_i ds hz
              obtain ⟨a, xs, rfl, s1, r1⟩ := nr_lst nr hz
              cases q2
              exact u_sl_l (.inl (.inl s1)) fun q hq => land _ _ (Ex.new hq) (Nw.new hq r1.cut)
            · rename_i ds hz
              cases q2
              have nr := nr.u
              rw [hz] at nr
              cases nr with
              | own r => cases r
              | cl r =>
                cases r with
                | @tup a xs _ s1 r1 =>
                  refine .inr (.inr ⟨a, xs, rfl, s1.sq, fun hw => ?_, fun _ q hq => land _ _ (Ex.new hq) (Nw.tup hq (hM q hq) r1.cut)⟩)
                  have ec : cutL ds l u = ds := by
                    unfold cutL
                    rw [← r1.len, hw.1, hw.2, List.drop_zero, Nat.sub_zero, r1.len]
                    exact List.take_length
                  rw [ec] at land
                  exact land _ _ Ex.refl (.cl (.tup s1 r1))
            · cases q2
      · exact hh F σ H2 ρ2 h2 _ _ _ E2 e3 (ExR.up p)
    · exact hl F σ H1 ρ1 h1 _ _ _ E1 e2 (ExR.up p)
  · exact he F σ H ρ h st _ _ E e1 p
def mChain (f g : D → D → Option W) (a b c : Mo W) : Mo W := fun ρ h => bindR (a ρ h) fun x ρ h => bindR (b ρ h) fun y ρ h => (deref h x).bind fun dx => (deref h y).bind fun dy => match f dx dy with
  | some (.cl (.bl true)) => bindR (c ρ h) fun z ρ h => (deref h y).bind fun dy => (deref h z).bind fun dz => (g dy dz).map fun w => .ok w ρ h
  | some (.cl (.bl false)) => some (.ok (.cl (.bl false)) ρ h)
  | _ => none
theorem sim_chain {r r' : R2} {g1 g2 : D → D → Option W} (o : Op2 f r g1) (o' : Op2 f r' g2) (ha : SimE f WW ta ma) (hb : SimE f WW tb mb) (hc : SimE f WW tc mc) : SimE f WW (tChain r r' ta tb tc) (mChain g1 g2 ma mb mc) := fun F σ H ρ h st x Q E e p => by
  rcases bindR_some e with ⟨w1, ρ1, h1, e1, e⟩ | ⟨C, fs, ρ1, h1, e1, rfl⟩
  · refine ha F σ H ρ h st _ _ E e1 fun v1 H1 E1 => ?_
    rcases bindR_some e with ⟨w2, ρ2, h2, e2, e⟩ | ⟨C, fs, ρ2, h2, e2, rfl⟩
    · refine hb F σ H1 ρ1 h1 _ _ _ E1 e2 fun v2 H2 ⟨κ, E2⟩ => ?_
      cases q1 : deref h2 w1 with
      | none => rw [q1] at e; cases e
      | some d1 =>
        rw [q1] at e
        dsimp only [Option.bind_some] at e
        cases q2 : deref h2 w2 with
        | none => rw [q2] at e; cases e
        | some d2 =>
          rw [q2] at e
          dsimp only [Option.bind_some] at e
          have n1 := E2.near (List.mem_cons_of_mem _ (List.mem_cons_self ..)) q1
          have n2 := E2.near (List.mem_cons_self ..) q2
          have hM := fun q hq => av_new E2 (p := q) hq
          split at e
          · rename_i h3
            refine o κ _ H2 v1 v2 d1 d2 _ _ hM n1 n2 h3 fun v H' ex nw => ?_
            cases nw with
            | cl r =>
              cases rep_bl r
              refine ⟨true, rfl, ?_⟩
              rw [if_pos rfl]
              have E3 := E2.grow ex
              rcases bindR_some e with ⟨w3, ρ3, h3, e3, e⟩ | ⟨C, fs, ρ3, h3, e3, rfl⟩
              · refine hc F σ H' ρ2 h2 _ _ _ ⟨κ, E3⟩ e3 fun v3 H3 ⟨κ4, E4⟩ => ?_
                cases q4 : deref h3 w2 with
                | none => rw [q4] at e; cases e
                | some d4 =>
                  rw [q4] at e
                  dsimp only [Option.bind_some] at e
                  cases q5 : deref h3 w3 with
                  | none => rw [q5] at e; cases e
                  | some d5 =>
                    rw [q5] at e
                    dsimp only [Option.bind_some] at e
                    cases q6 : g2 d4 d5 with
                    | none => rw [q6] at e; cases e
                    | some w =>
                      rw [q6] at e
                      cases e
                      exact o' κ4 _ H3 v2 v3 d4 d5 w Q (fun q hq => av_new E4 hq) (E4.near (List.mem_cons_of_mem _ (List.mem_cons_self ..)) q4) (E4.near (List.mem_cons_self ..) q5) q6
                        fun v H' ex nw => p v H' ⟨κ4, EnvK.land (l := [(v3, w3), (v2, w2), (v1, w1)]) E4 ex nw⟩
              · exact hc F σ H' ρ2 h2 _ _ _ ⟨κ, E3⟩ e3 (ExR.up (ExR.up p))
          · rename_i h3
            refine o κ _ H2 v1 v2 d1 d2 _ _ hM n1 n2 h3 fun v H' ex nw => ?_
            cases nw with
            | cl r =>
              cases rep_bl r
              refine ⟨false, rfl, ?_⟩
              rw [if_neg Bool.false_ne_true]
              cases e
              exact p _ _ ⟨κ, (E2.grow ex).pop.pop.pushC (.bl _)⟩
          · cases e
    · exact hb F σ H1 ρ1 h1 _ _ _ E1 e2 (ExR.up p)
  · exact ha F σ H ρ h st _ _ E e1 p
/-- xs[i] = e -/
def gSubL (o : Mo W) (e : Mo W) : Tg := fun w ρ h => match o ρ h with
  | some (.ok u ρ h) => match e ρ h with
    | some (.ok k ρ h) => match (deref h k).map D.u with
      | some (.int n) => (lstAt h u).bind fun x => (ixN x.2.length n).map fun j => (ρ, h.set x.1 (.lst (x.2.set j (fzW w))))
      | _ => none
    | _ => none
  | _ => none
theorem sim_gsub (ho : SimE f (fun _ _ _ _ => False) ta ma) (he : SimE f (fun _ _ _ _ => False) te me) : SimG f (gSub ta te rSetL) (gSubL ma me) := fun F σ H ρ h x st v w Q ⟨κ, E⟩ e q => by
  unfold gSubL at e
  have E1 := E.fz
  split at e
  · rename_i u ρ1 h1 e1
    split at e
    · rename_i k ρ2 h2 e2
      split at e
      · rename_i n hn
        cases g4 : lstAt h2 u with
        | none => rw [g4] at e; cases e
        | some y =>
          obtain ⟨c, cs⟩ := y
          rw [g4] at e
          dsimp only [Option.bind_some] at e
          cases g5 : ixN cs.length n with
          | none => rw [g5] at e; cases e
          | some j =>
            rw [g5] at e
            cases e
            refine ho F σ H ρ h _ _ _ ⟨κ, E1⟩ e1 fun vo Ho Eo => ?_
            refine he F σ Ho ρ1 h1 _ _ _ Eo e2 fun vk Hk ⟨κk, Ek⟩ => ?_
            obtain ⟨p, xs, rfl, hk, hp, r⟩ := Ek.lstAt (List.mem_cons_of_mem _ (List.mem_cons_self ..)) g4
            cases hd : deref h2 k with
            | none => rw [hd] at hn; cases hn
            | some dk =>
              rw [hd] at hn
              have nr := Ek.near (List.mem_cons_self ..) hd
              cases nr_int nr (Option.some.inj hn)
              refine ⟨p, xs, n, j, rfl, rfl, hp, by rw [r.len]; exact g5, ?_⟩
              have rv := Ek.rep (List.mem_cons_of_mem _ (List.mem_cons_of_mem _ (List.mem_cons_self ..)))
              have E3 := Ek.mut (u := .lst (xs.set j v)) (c' := .lst (cs.set j (fzW w))) hk (.lst upd_same ((r.set j rv).ex (Ex.mut (av_ka (List.mem_of_getElem? hk)))))
              exact q _ _ ⟨κk, E3.pop.pop.pop⟩
      · cases e
    · cases e
  · cases e
/-- a method of a text -/
def mBS (g : Str → List D → Option W) (a : Mo W) (b : Mo (List W)) : Mo W := fun ρ h => bindR (a ρ h) fun x ρ h => match (deref h x).map D.u with
  | some (.str z) => bindR (b ρ h) fun ws ρ h => (derefs h ws).bind fun ds => (g z ds).map fun w => .ok w ρ h
  | _ => none
def OpS (f : PySem.W.Frag) (rm : V → List V → Hp → VK → Prop) (g : Str → List D → Option W) : Prop := ∀ (κ : List Addr) (M : List Addr) (H : Hp) (z : Str) (xs : List V) (ds : List D) (w : W) (Q : VK), (∀ p, H p = none → p ∉ M) → NrA M ⟨f, κ⟩ H xs ds → g z ds = some w →
  (∀ v H', Ex [] H H' → Nw M ⟨f, κ⟩ H H' v w → Q v H') → rm (.str z) xs H Q
theorem sim_bs {T : String} {rm : V → List V → Hp → VK → Prop} {g : Str → List D → Option W} (hT : T = "str") (o : OpS f rm g) (ha : SimE f WW te me) (hb : SimA f WW tr mr) : SimE f WW (tBM f T rm te tr) (mBS g me mr) := fun F σ H ρ h st x Q E e p => by
  subst hT
  rcases bindR_some e with ⟨w1, ρ1, h1, e1, e⟩ | ⟨C, fs, ρ1, h1, e1, rfl⟩
  · refine ha F σ H ρ h st _ _ E e1 fun v1 H1 ⟨κ, E1⟩ => ?_
    cases q1 : deref h1 w1 with
    | none => rw [q1] at e; cases e
    | some d1 =>
      rw [q1] at e
      dsimp only [Option.map_some] at e
      have nr := E1.near (List.mem_cons_self ..) q1
      split at e
      · rename_i z hz
        cases nr_str nr (Option.some.inj hz)
        refine ⟨rfl, ?_⟩
        rcases bindR_some e with ⟨ws, ρ2, h2, e2, e⟩ | ⟨C, fs, ρ2, h2, e2, rfl⟩
        · refine hb F σ H1 ρ1 h1 _ _ _ ⟨κ, E1⟩ e2 fun vs H2 hl ⟨κ2, E2⟩ => ?_
          cases q2 : derefs h2 ws with
          | none => rw [q2] at e; cases e
          | some ds =>
            rw [q2] at e
            dsimp only [Option.bind_some] at e
            cases q3 : g z ds with
            | none => rw [q3] at e; cases e
            | some w =>
              rw [q3] at e
              cases e
              exact o κ2 _ H2 z vs ds w Q (fun q hq => av_new E2 hq) (E2.nears hl (fun x hx => List.mem_append.mpr (.inl hx)) q2) q3 fun v H' ex nw => p v H' ⟨κ2, by
                have E3 : EnvK f κ2 F σ H2 ρ2 h2 ((vs.zip ws ++ [(V.str z, w1)]) ++ st) := by
                  rw [List.append_assoc]
                  exact E2
                refine EnvK.land (l := vs.zip ws ++ [(V.str z, w1)]) E3 ex ?_
                rw [List.append_assoc]
                exact nw⟩
        · exact hb F σ H1 ρ1 h1 _ _ _ ⟨κ, E1⟩ e2 (ExR.up p)
      · cases e
  · exact ha F σ H ρ h st _ _ E e1 p
def fJoin (s : Str) : List D → Option W
  | [b] => match b.u with
    | .lst ds => (strsOf ds).bind fun zs => if (zs.map (·.length)).sum + zs.length * s.length ≤ 16777216 then some (.cl (.str (Txt.join s zs))) else none
    | .tup ds => (strsOf ds).bind fun zs => if (zs.map (·.length)).sum + zs.length * s.length ≤ 16777216 then some (.cl (.str (Txt.join s zs))) else none
    | _ => none
  | _ => none
theorem o_join : OpS f (SL.rJoin f) fJoin := fun κ M H z xs ds w Q hM nr e q => by
  unfold fJoin at e
  split at e
  · obtain ⟨v, rfl, n⟩ := nra1 nr
    split at e
    · rename_i ds h1
      obtain ⟨a, xs, rfl, s1, r1⟩ := nr_lst n h1
      cases h2 : strsOf ds with
      | none => rw [h2] at e; cases e
      | some zs =>
        rw [h2] at e
        dsimp only [Option.bind_some] at e
        split at e
        · cases e
          rw [strs_of r1 h2] at s1
          exact ⟨z, a, zs, rfl, rfl, .inl (.inl (.inl s1)), by assumption, q _ _ Ex.refl (.cl (.str _))⟩
        · cases e
    · rename_i ds h1
      obtain ⟨a, xs, rfl, s1, r1⟩ := nr_tup n h1
      cases h2 : strsOf ds with
      | none => rw [h2] at e; cases e
      | some zs =>
        rw [h2] at e
        dsimp only [Option.bind_some] at e
        split at e
        · cases e
          rw [strs_of r1 h2] at s1
          exact ⟨z, a, zs, rfl, rfl, .inr s1, by assumption, q _ _ Ex.refl (.cl (.str _))⟩
        · cases e
    · cases e
  · cases e
end
end CM
namespace CM
open PySem PySem.Spec PyProof.Rows L2 SL
inductive Kd where
  | b (T : String) | own (C : Str) | exc (C : Str) | fn
  deriving DecidableEq
def kd : D → Option Kd
  | .non => some (.b "NoneType")
  | .bl _ => some (.b "bool")
  | .int _ => some (.b "int")
  | .str _ => some (.b "str")
  | .lst _ => some (.b "list")
  | .scr _ => some (.b "list")
  | .tup _ => some (.b "tuple")
  | .dK _ => some (.b "dict")
  | .ins C _ => some (.own C)
  | .exc C _ => some (.exc C)
  | .glo _ => some .fn
  | _ => none
def kdV (K : PySem.W.Frag) : Kd → Value
  | .b T => .type T
  | .own C => .ref (He.ga K C)
  | .exc C => .ref (He.ga K C)
  | .fn => .type "function"
/-- what is asked of the written part for a kind -/
structure OwnK (K : PySem.W.Frag) (C : Str) : Prop where
  cls : Cls K (He.ga K C)
  ha : PySem.W.findIn K (.ref (He.ga K C)) "__class__" = some (some (.builtin "object.__class__"))
  hn : PySem.W.specialIn K (.builtin "object.__class__") "__get__" = some (some (.builtin "getset_descriptor.__get__"))
  htk : PySem.W.takesIn K (.builtin "object.__class__") = some true
  hm : PySem.W.mroIn K (He.ga K C) (.type "object") = some true
def ownB (K : PySem.W.Frag) (C : Str) : Bool := (He.Fa.cls C).ok K && (decide (PySem.W.findIn K (.ref (He.ga K C)) "__class__" = some (some (.builtin "object.__class__"))) && (decide (PySem.W.specialIn K (.builtin "object.__class__") "__get__" = some (some (.builtin "getset_descriptor.__get__"))) &&
  (decide (PySem.W.takesIn K (.builtin "object.__class__") = some true) && decide (PySem.W.mroIn K (He.ga K C) (.type "object") = some true))))
theorem ownB_ok {K : PySem.W.Frag} {C : Str} (h : ownB K C = true) : OwnK K C := by
  simp only [ownB, Bool.and_eq_true, decide_eq_true_eq] at h
  exact ⟨He.cls_ok h.1, h.2.1, h.2.2.1, h.2.2.2.1, h.2.2.2.2⟩
def KdOk (K : PySem.W.Frag) : Kd → Prop
  | .b _ => True
  | .own C => OwnK K C
  | .exc C => isiB K (He.ga K C) = true
  | .fn => False
inductive Cd where
  | ty (T : String) | own (C : Str)
def cdV (K : PySem.W.Frag) : Cd → Value
  | .ty T => .type T
  | .own C => .ref (He.ga K C)
def cdIs : Cd → D → Bool
  | .ty T, .ty T' => decide (T' = T)
  | .own C, .glo C' => decide (C' = C)
  | _, _ => false
def cdsAre : List Cd → List D → Bool
  | [], [] => true
  | c :: cs, d :: ds => cdIs c d.u && cdsAre cs ds
  | _, _ => false
def lookK (k : Kd) : List (Kd × Bool) → Option Bool
  | [] => none
  | (k', b) :: r => if k' = k then some b else lookK k r
def dIsi (c : Cd) (tab : List (Kd × Bool)) : List D → Option W
  | [a, x] => if cdIs c x.u = true then (kd a.u).bind fun k => (lookK k tab).map fun b => .cl (.bl b) else none
  | _ => none
def dIsiT (cs : List Cd) (tab : List (Kd × Bool)) : List D → Option W
  | [a, x] => match x.u with
    | .tup ds => if cdsAre cs ds = true then (kd a.u).bind fun k => (lookK k tab).map fun b => .cl (.bl b) else none
    | _ => none
  | _ => none
inductive Tab (K : PySem.W.Frag) (ev : Value → Option Bool) : List (Kd × Bool) → Prop
  | nil : Tab K ev []
  | cons {k : Kd} {b : Bool} {r : List (Kd × Bool)} : KdOk K k → ev (kdV K k) = some b → Tab K ev r → Tab K ev ((k, b) :: r)
section
variable {K : Kx} {M : List Addr} {H H' : Hp} {p : Addr} {v : V} {d : D} {vs : List V} {ds : List D} {k : Kd} {b : Bool} {ev : Value → Option Bool}
theorem tab_at {K : PySem.W.Frag} : ∀ {tab : List (Kd × Bool)}, Tab K ev tab → lookK k tab = some b → KdOk K k ∧ ev (kdV K k) = some b
  | [], _, h => by cases h
  | (k', b') :: r, .cons a e t, h => by
    unfold lookK at h
    split at h
    · rename_i hk
      subst hk
      cases h
      exact ⟨a, e⟩
    · exact tab_at t h
theorem ty_of (h : Nr M K H v d) (e : kd d.u = some k) (ok : KdOk K k) : TyY K H v (kdV K k) := by
  have h := h.u.rep0
  generalize d.u = x at h e
  cases h with
  | non => cases e; exact .base (.base .non)
  | bl b => cases e; exact .base (.base (.bl b))
  | int b => cases e; exact .base (.base (.int b))
  | str b => cases e; exact .base (.base (.str b))
  | ty n => cases e
  | glo x => cases e; exact ok.elim
  | lst a _ => cases e; exact .base (.base (.lst a.at_))
  | scr a =>
    cases e
    rcases a with ⟨a, _⟩ | ⟨o, its, n, h1, h2, _⟩
    · rcases a with a | ⟨o, a⟩
      · exact .base (.base (.lst a))
      · exact .base (.base (.frz a))
    · exact .base (.kList h1 h2)
  | tup a _ =>
    cases e
    exact .base (.base (.tup a.1))
  | dK a _ _ => cases e; exact .base (.base (.dK a.at_))
  | rng a => cases e
  | ins a _ _ =>
    cases e
    have ok : OwnK K _ := ok
    exact .base (.base (.ins a.at_ ok.cls ok.ha ok.hn ok.htk ok.hm))
  | exc a a2 _ _ =>
    cases e
    exact .exc a.at_ _ a2.at_ ok
  | ce _ => cases e
  | tg _ => cases e
  | bo _ _ => cases e
theorem cd_of {c : Cd} {x : V} (h : Nr M K H x d) (e : cdIs c d.u = true) : ClsV x (cdV K c) := by
  have h := h.u.rep0
  generalize d.u = y at h e
  cases c with
  | ty T =>
    cases h <;> try cases e
    rename_i n
    have : n = T := of_decide_eq_true e
    subst this
    exact .ty _
  | own C =>
    cases h <;> try cases e
    rename_i n
    have : n = C := of_decide_eq_true e
    subst this
    exact .own _
theorem cds_of : ∀ {cs : List Cd} {vs : List V} {ds : List D}, RepA M K H vs ds → cdsAre cs ds = true → Paired ClsV vs (cs.map (cdV K))
  | [], _, _, .nil, _ => .nil
  | c :: cs, _, _, .cons h a, e => by
    have e : (cdIs c _ && cdsAre cs _) = true := e
    rw [Bool.and_eq_true] at e
    exact .cons (cd_of (.cl h) e.1) (cds_of a e.2)
  | [], _, _, .cons _ _, e => by cases e
  | _ :: _, _, _, .nil, e => by cases e
theorem o_isi {K : PySem.W.Frag} {c : Cd} {tab : List (Kd × Bool)} (t : Tab K (fun t => PySem.W.kitOne K t (cdV K c)) tab) : OpN K (vIsi K) (dIsi c tab) := fun κ M H xs ds w Q hM nr e q => by
  unfold dIsi at e
  split at e
  · obtain ⟨x, y, rfl, n1, n2⟩ := nra2 nr
    split at e
    · rename_i a x' hc
      cases h1 : kd a.u with
      | none => rw [h1] at e; cases e
      | some k =>
        rw [h1] at e
        dsimp only [Option.bind_some] at e
        cases h2 : lookK k tab with
        | none => rw [h2] at e; cases e
        | some b =>
          rw [h2] at e
          cases e
          obtain ⟨o1, o2⟩ := tab_at t h2
          exact v_isi (cd_of n2 hc) (ty_of n1 h1 o1) o2 (q _ _ Ex.refl (.cl (.bl _)))
    · cases e
  · cases e
theorem o_isiT {K : PySem.W.Frag} {cs : List Cd} {tab : List (Kd × Bool)} (t : Tab K (fun t => PySem.W.kitAny K t (cs.map (cdV K))) tab) : OpN K (vIsi K) (dIsiT cs tab) := fun κ M H xs ds w Q hM nr e q => by
  unfold dIsiT at e
  split at e
  · rename_i a a2
    obtain ⟨x, y, rfl, n1, n2⟩ := nra2 nr
    split at e
    · rename_i ds hx
      split at e
      · rename_i hc
        cases h1 : kd a.u with
        | none => rw [h1] at e; cases e
        | some k =>
          rw [h1] at e
          dsimp only [Option.bind_some] at e
          cases h2 : lookK k tab with
          | none => rw [h2] at e; cases e
          | some b =>
            rw [h2] at e
            cases e
            obtain ⟨o1, o2⟩ := tab_at t h2
            have n2 := n2.u
            rw [hx] at n2
            cases n2 with
            | own r => cases r
            | cl r =>
              cases r with
              | @tup tp cv _ s1 r1 =>
                exact v_isiT s1.1 (cds_of r1 hc) (ty_of n1 h1 o1) o2 (q _ _ Ex.refl (.cl (.bl _)))
      · cases e
    · cases e
  · cases e
end
def sortI (ns : List Int) : List Int := ns.mergeSort (fun a b => decide (a ≤ b))
def rSrt (K : PySem.W.Frag) : List V → Hp → VK → Prop := fun xs H Q => (rSorted K xs H Q ∨ rSortedS K xs H Q) ∨ (rSortedIT K xs H Q ∨ rSortedST K xs H Q)
theorem call_srt {X : Cx} : CallR X (.builtin "sorted") (rSrt X.K) := (cr_sorted.or cr_sortedS).or (cr_sortedIT.or cr_sortedST)
def dSrt : List D → Option W
  | [a] => (seqD a.u).bind fun ds => match strsOf ds with
      | some zs => if zs.length < 64 then some (.fr ((sortS zs).map .str)) else none
      | none => (intsOf ds).bind fun ns => if ns.length < 64 then some (.fr ((sortI ns).map .int)) else none
  | _ => none
theorem str_lt_asymm {a b : List Nat} (h : a < b) : ¬ b < a := fun h2 => List.lt_asymm h h2
theorem insS_perm (z : Str) : ∀ ys : List Str, (insS z ys).Perm (z :: ys)
  | [] => List.Perm.refl _
  | y :: ys => by
    unfold insS
    split
    · exact List.Perm.refl _
    · exact ((insS_perm z ys).cons y).trans (List.Perm.swap _ _ _)
theorem sortS_perm : ∀ zs : List Str, (sortS zs).Perm zs
  | [] => List.Perm.refl _
  | z :: zs => (insS_perm z _).trans ((sortS_perm zs).cons z)
abbrev leS (a b : Str) : Prop := ¬ b.cps.toList < a.cps.toList
theorem insS_sorted {z : Str} : ∀ {ys : List Str}, ys.Pairwise leS → (insS z ys).Pairwise leS
  | [], _ => by unfold insS; exact List.pairwise_singleton _ _
  | y :: ys, h => by
    unfold insS
    obtain ⟨h1, h2⟩ := List.pairwise_cons.mp h
    split
    · rename_i hlt
      refine List.pairwise_cons.mpr ⟨fun x hx => ?_, h⟩
      rcases List.mem_cons.mp hx with rfl | hx
      · exact str_lt_asymm hlt
      · exact fun q => h1 x hx (List.lt_trans q hlt)
    · rename_i hge
      refine List.pairwise_cons.mpr ⟨fun x hx => ?_, insS_sorted h2⟩
      rcases List.mem_cons.mp ((insS_perm z ys).mem_iff.mp hx) with rfl | hx
      · exact hge
      · exact h1 x hx
theorem sortS_sorted : ∀ zs : List Str, (sortS zs).Pairwise leS
  | [] => .nil
  | z :: zs => insS_sorted (sortS_sorted zs)
theorem leS_antisymm {a b : Str} (h1 : leS a b) (h2 : leS b a) : a = b := str_ext (List.le_antisymm (show a.cps.toList ≤ b.cps.toList from h1) (show b.cps.toList ≤ a.cps.toList from h2))
theorem leS_trans {a b c : Str} (h1 : leS a b) (h2 : leS b c) : leS a c := List.le_trans (show a.cps.toList ≤ b.cps.toList from h1) (show b.cps.toList ≤ c.cps.toList from h2)
theorem perm_eq {α : Type} {R : α → α → Prop} (anti : ∀ a b, R a b → R b a → a = b) : ∀ {l1 l2 : List α}, l1.Perm l2 → l1.Pairwise R → l2.Pairwise R → l1 = l2
  | [], l2, h, _, _ => (List.Perm.nil_eq h)
  | a :: l1, [], h, _, _ => by
    have := h.length_eq
    simp at this
  | a :: l1, b :: l2, h, p1, p2 => by
    obtain ⟨q1, q2⟩ := List.pairwise_cons.mp p1
    obtain ⟨r1, r2⟩ := List.pairwise_cons.mp p2
    have e : a = b := by
      have ha : a ∈ b :: l2 := h.mem_iff.mp (List.mem_cons_self ..)
      have hb : b ∈ a :: l1 := h.mem_iff.mpr (List.mem_cons_self ..)
      rcases List.mem_cons.mp ha with e | ha
      · exact e
      · rcases List.mem_cons.mp hb with e | hb
        · exact e.symm
        · exact anti _ _ (q1 b hb) (r1 a ha)
    subst e
    rw [perm_eq anti (List.Perm.cons_inv h) q2 r2]
theorem rising_le : ∀ {p : Str} {r : List Str}, risingS p r = true → (∀ x ∈ r, leS p x) ∧ r.Pairwise leS
  | p, [], _ => ⟨fun x h => absurd h List.not_mem_nil, .nil⟩
  | p, x :: r, h => by
    have h : (!ltCps x.cps.toList p.cps.toList && risingS x r) = true := h
    rw [Bool.and_eq_true] at h
    have hx : leS p x := by
      intro z
      have h1 := h.1
      rw [PyProof.Rows.ltCps_eq, decide_eq_true z] at h1
      cases h1
    obtain ⟨i1, i2⟩ := rising_le h.2
    refine ⟨fun y hy => ?_, List.pairwise_cons.mpr ⟨i1, i2⟩⟩
    rcases List.mem_cons.mp hy with rfl | hy
    · exact hx
    · exact leS_trans hx (i1 y hy)
theorem sortedS_pw : ∀ {ys : List Str}, sortedS ys = true → ys.Pairwise leS
  | [], _ => .nil
  | x :: r, h => List.pairwise_cons.mpr (rising_le h)
theorem o_srt {K : PySem.W.Frag} : OpN K (rSrt K) dSrt := fun κ M H xs ds w Q hM nr e q => by
  unfold dSrt at e
  split at e
  · obtain ⟨v, rfl, n⟩ := nra1 nr
    rename_i a0
    cases q3 : seqD a0.u with
    | none => rw [q3] at e; cases e
    | some ds =>
      rw [q3] at e
      dsimp only [Option.bind_some] at e
      have hd : a0.u = .lst ds ∨ a0.u = .tup ds := by
        unfold seqD at q3
        split at q3
        · cases q3; exact .inl (by assumption)
        · cases q3; exact .inr (by assumption)
        · cases q3
      have get : ∃ a xs, v = .ref a ∧ (SqL K H a xs ∨ SqT K H a xs) ∧ RepA M ⟨K, κ⟩ H xs ds := by
        rcases hd with hd | hd
        · obtain ⟨a, xs, rfl, s1, r1⟩ := nr_lst n hd
          exact ⟨a, xs, rfl, .inl (.inl (.inl s1)), r1⟩
        · obtain ⟨a, xs, rfl, s1, r1⟩ := nr_tup n hd
          exact ⟨a, xs, rfl, .inr s1, r1⟩
      obtain ⟨a, xs, rfl, s1, r1⟩ := get
      split at e
      · rename_i zs hz
        split at e
        · rename_i hl
          cases e
          rw [strs_of r1 hz] at s1
          have fin : ∀ (ys : List Str) (p : Addr), ys.Perm zs → sortedS ys = true → H p = none → Q (.ref p) (upd H p (.lst (ys.map V.str))) := fun ys p hp hs hn => by
            have ey : ys = sortS zs := perm_eq (fun _ _ => leS_antisymm) (hp.trans (sortS_perm zs).symm) (sortedS_pw hs) (sortS_sorted zs)
            rw [ey]
            exact q _ _ (Ex.new hn) (Nw.new hn (RepA.strs _))
          rcases s1 with s1 | s1
          · exact .inl (.inr ⟨a, zs, rfl, s1, hl, fin⟩)
          · exact .inr (.inr ⟨a, zs, rfl, s1, hl, fin⟩)
        · cases e
      · rename_i hz
        cases h2 : intsOf ds with
        | none => rw [h2] at e; cases e
        | some ns =>
          rw [h2] at e
          dsimp only [Option.bind_some] at e
          split at e
          · rename_i hl
            cases e
            rw [ints_of r1 h2] at s1
            have fin : ∀ (ns' : List Int) (p : Addr), ns'.Perm ns → ns'.Pairwise (· ≤ ·) → H p = none → Q (.ref p) (upd H p (.lst (ns'.map V.int))) := fun ns' p hp hs hn => by
              have ey : ns' = sortI ns := perm_eq (fun _ _ h1 h2 => Int.le_antisymm h1 h2) (hp.trans (List.mergeSort_perm ns _).symm) hs (by
                have := List.pairwise_mergeSort (le := fun a b : Int => decide (a ≤ b)) (fun a b c h1 h2 => by
                  simp only [decide_eq_true_eq] at *
                  omega) (fun a b => by
                  simp only [Bool.or_eq_true, decide_eq_true_eq]
                  omega) ns
                exact this.imp (fun h => of_decide_eq_true h))
              rw [ey]
              exact q _ _ (Ex.new hn) (Nw.new hn (RepA.ints _))
            rcases s1 with s1 | s1
            · exact .inl (.inl ⟨a, ns, rfl, s1, hl, fin⟩)
            · exact .inr (.inl ⟨a, ns, rfl, s1, hl, fin⟩)
          · cases e
  · cases e
def mFmt (a : Mo W) : Mo W := fun ρ h => bindR (a ρ h) fun w ρ h => match (deref h w).map D.u with
  | some (.str z) => if z.length ≤ 100000 then some (.ok (.cl (.str z)) ρ h) else none
  | _ => none
def mJs : List (Mo W) → Str → Mo W
  | [], acc => fun ρ h => some (.ok (.cl (.str acc)) ρ h)
  | m :: ms, acc => fun ρ h => bindR (m ρ h) fun w ρ h => match (deref h w).map D.u with
    | some (.str y) => if (acc ++ y).length ≤ 100000 then mJs ms (acc ++ y) ρ h else none
    | _ => none
inductive SimEs (f : PySem.W.Frag) (WW : WX) : List TE → List (Mo W) → Prop
  | nil : SimEs f WW [] []
  | cons {t : TE} {ts : List TE} {m : Mo W} {ms : List (Mo W)} : SimE f WW t m → SimEs f WW ts ms → SimEs f WW (t :: ts) (m :: ms)
section
variable {f : PySem.W.Frag} {WW : WX} {F : Fm} {κ M : List Addr} {H H' : Hp} {σ : L2.St} {ρ ρ' : List Sl} {h : Tb} {st : List (V × W)} {tr : TA} {mr : Mo (List W)} {te ta tb : TE} {me ma mb : Mo W} {C : Str} {m : Fnm}
theorem sim_fmt (ha : SimE f WW ta ma) : SimE f WW (tFmt ta) (mFmt ma) := fun F σ H ρ h st x Q E e p => by
  rcases bindR_some e with ⟨w1, ρ1, h1, e1, e⟩ | ⟨C', fs, ρ1, h1, e1, rfl⟩
  · refine ha F σ H ρ h st _ _ E e1 fun v1 H1 ⟨κ, E1⟩ => ?_
    cases q1 : deref h1 w1 with
    | none => rw [q1] at e; cases e
    | some d1 =>
      rw [q1] at e
      dsimp only [Option.map_some] at e
      split at e
      · rename_i z hz
        split at e
        · cases e
          cases nr_str (E1.near (List.mem_cons_self ..) q1) (Option.some.inj hz)
          exact .inl ⟨z, rfl, sz_le ‹_›, p _ _ ⟨κ, E1.pop.pushC (.str _)⟩⟩
        · cases e
      · cases e
  · exact ha F σ H ρ h st _ _ E e1 p
theorem sim_js : ∀ {ts : List TE} {ms : List (Mo W)}, SimEs f WW ts ms → ∀ (acc : Str), SimE f WW (fun σ H Q => tJs ts acc σ H fun out H1 => Q (.str out) H1) (mJs ms acc)
  | _, _, .nil, acc => fun F σ H ρ h st x Q E e p => by
    cases e
    exact p _ _ (E.pushC0 fun _ _ => .str _)
  | _, _, .cons (t := t) (ts := ts) (m := m) (ms := ms) hm r, acc => fun F σ H ρ h st x Q E e p => by
    have e : (bindR (m ρ h) fun w ρ h => match (deref h w).map D.u with
      | some (.str y) => if (acc ++ y).length ≤ 100000 then mJs ms (acc ++ y) ρ h else none
      | _ => none) = some x := e
    show t σ H _
    rcases bindR_some e with ⟨w1, ρ1, h1, e1, e⟩ | ⟨C', fs, ρ1, h1, e1, rfl⟩
    · refine hm F σ H ρ h st _ _ E e1 fun v1 H1 ⟨κ, E1⟩ => ?_
      cases q1 : deref h1 w1 with
      | none => rw [q1] at e; cases e
      | some d1 =>
        rw [q1] at e
        dsimp only [Option.map_some] at e
        split at e
        · rename_i z hz
          split at e
          · rename_i hl
            refine ⟨z, nr_str (E1.near (List.mem_cons_self ..) q1) (Option.some.inj hz), sz_le hl, ?_⟩
            exact sim_js r (acc ++ z) F σ H1 ρ1 h1 st x Q ⟨κ, E1.pop⟩ e p
          · cases e
        · cases e
    · exact hm F σ H ρ h st _ _ E e1 p
def chkS : R W → Bool
  | .ok (.cl (.str _)) _ _ => true
  | _ => false
def callC (chk : R W → Bool) (C : Str) (m : Fnm) (ws : List W) (ρ : List Sl) (h : Tb) : Option (R W) := match ws with
  | w :: _ => (deref h w).bind fun d => (insOf C d.u).bind fun _ => (callT m (ws.map fzW) ρ h).bind fun r => if chk r = true then some r else none
  | [] => none
def mStrO (C : Str) (m : Fnm) (a : Mo (List W)) : Mo W := fun ρ h => bindR (a ρ h) fun ws ρ h => match ws with
  | [w] => callC chkS C m [w] ρ h
  | _ => none
theorem callC_ok {chk : R W → Bool} {ws : List W} {vs : List V} {r : R W} (E : EnvK f κ F σ H ρ h (vs.zip ws ++ st)) (hl : vs.length = ws.length) (e : callC chk C m ws ρ h = some r) :
    (∃ a dx fs, vs.head? = some (V.ref a) ∧ H a = some (.ins (He.ga f C) dx fs)) ∧ chk r = true ∧ callT m (ws.map fzW) ρ h = some r := by
  unfold callC at e
  split at e
  · rename_i w ws'
    match vs, hl, E with
    | v :: vs', hl, E =>
      cases h1 : deref h w with
      | none => rw [h1] at e; cases e
      | some d =>
        rw [h1] at e
        dsimp only [Option.bind_some] at e
        cases h2 : insOf C d.u with
        | none => rw [h2] at e; cases e
        | some fs =>
          rw [h2] at e
          dsimp only [Option.bind_some] at e
          obtain ⟨a, dx, gs, rfl, ea, _⟩ := nr_ins (E.near (v := v) (w := w) (List.mem_cons_self ..) h1) h2
          cases h3 : callT m (List.map fzW (w :: ws')) ρ h with
          | none => rw [h3] at e; cases e
          | some r' =>
            rw [h3] at e
            dsimp only [Option.bind_some] at e
            split at e
            · rename_i hc
              cases e
              exact ⟨⟨a, dx, gs, rfl, ea⟩, hc, rfl⟩
            · cases e
  · cases e
theorem EnvR.reps {v : V} {d : D} (E : EnvR f F σ H ρ h ((v, W.cl d) :: st)) : ∃ κ, Rep (av F κ ((v, W.cl d) :: st)) ⟨f, κ⟩ H v d := E.elim fun κ E => ⟨κ, E.rep (List.mem_cons_self ..)⟩
theorem sim_strO (ha : SimA f WW tr mr) : SimE f WW (tCB (rStrO (He.ga f C) (spM f m) E0) tr) (mStrO C m mr) := fun F σ H ρ h st x Q E e p => by
  rcases bindR_some e with ⟨ws, ρ1, h1, e1, e⟩ | ⟨C', fs, ρ1, h1, e1, rfl⟩
  · refine ha F σ H ρ h st _ _ E e1 fun vs H1 hl E1 => ?_
    split at e
    · rename_i w
      match vs, hl, E1 with
      | [v], hl, ⟨κ, E1⟩ =>
        obtain ⟨⟨a, dx, fs, hv, ea⟩, hc, hcall⟩ := callC_ok E1 hl e
        cases hv
        refine ⟨a, dx, fs, rfl, ea, EnvK.callT (vs := [V.ref a]) (ds := [w].map fzW) (E1.fzs rfl) rfl hcall fun w ρ' h' hr v H' E' => ?_⟩
        subst hr
        have hcl : ∃ y, w = .cl (.str y) := by
          cases w with
          | cl d => cases d <;> first | exact ⟨_, rfl⟩ | cases hc
          | _ => cases hc
        obtain ⟨y, rfl⟩ := hcl
        obtain ⟨_, r⟩ := E'.reps
        exact ⟨y, rep_str r, p v H' E'⟩
    · cases e
  · exact ha F σ H ρ h st _ _ E e1 p
end
def dAddI (a b : D) : Option W := match a.u, b.u with
  | .int i, .int j => some (.cl (.int (i + j)))
  | _, _ => none
/-- the plain == says True of the two -/
def saysEq (f : PySem.W.Frag) (m : Fnm) (a b : Addr) (H : Hp) : Prop := ∃ (d e : D), Rep [] ⟨f, []⟩ H (.ref a) d ∧ Rep [] ⟨f, []⟩ H (.ref b) e ∧ m [d, e] [] = some (.rt (.cl (.bl true)) [])
theorem ext_ex {H H' : Hp} (e : Ext H H') : Ex [] H H' := fun a o _ h => e a o h
theorem saysEq_mon {f : PySem.W.Frag} {m : Fnm} : ∀ a b H H', Ext H H' → saysEq f m a b H → saysEq f m a b H' := fun a b H H' e ⟨d, d2, r1, r2, h⟩ => ⟨d, d2, r1.ex (ext_ex e), r2.ex (ext_ex e), h⟩
theorem spEq_of {f : PySem.W.Frag} {m : Fnm} {vs : List V} {H : Hp} {Q : VK} {E : XK} (h : spEq (saysEq f m) vs H Q E) : spM f m vs H Q E := by
  obtain ⟨a, b, rfl, ⟨d, e, r1, r2, hm⟩, q⟩ := h
  refine ⟨[], [], [d, e], [], _, ⟨⟨fun a h => absurd h List.not_mem_nil, fun a h => absurd h List.not_mem_nil⟩, rfl, rfl, ⟨[], rfl, fun _ z => absurd z List.not_mem_nil⟩, Ex.refl, fun _ z => z, .nil, fun i o s h1 h2 => ?_, fun n p c h1 _ => by simp at h1, fun x hx => by cases hx⟩, hm, ?_⟩
  · match i, h1, h2 with
    | 0, h1, h2 =>
      simp at h1 h2
      subst h1 h2
      exact .cl r1
    | 1, h1, h2 =>
      simp at h1 h2
      subst h1 h2
      exact .cl r2
    | i + 2, h1, h2 => simp at h1
  · intro v H' ⟨κ', E'⟩
    have r := E'.rep (List.mem_cons_self ..)
    cases rep_bl r
    exact q H' fun a o h => E'.ex a o List.not_mem_nil h
theorem FnOk_imp {P : Program} {w : World} {K : PySem.W.Frag} {mg : Str → Option Value} {base : Heap} {CX : CXT} {k : Nat} {f : Addr} {fd : FuncData} {ps : List Str} {sp sp' : Sp} (F : FnOk P w K mg base CX k f fd ps sp) (h : ∀ vs H Q E, sp' vs H Q E → sp vs H Q E) : FnOk P w K mg base CX k f fd ps sp' := by
  constructor
  · exact fun vs H Q E q => F.len vs H Q E (h vs H Q E q)
  · exact fun A outer s H args us vs Q E hr e b r q => F.run A outer s H args us vs Q E hr e b r (h vs H Q E q)
/-- lists of instances that are equal: != says False -/
abbrev DOwn (K : PySem.W.Frag) (C : Str) (m : Fnm) : Eqv := DIns (He.ga K C) (saysEq K m)
structure DA where
  ad : PySem.W.Frag → Addr
  d : He.DefD
def fnA (K : PySem.W.Frag) (a : Addr) : He.FnW := match K.lookup a with
  | some ⟨_, _, .func fd, _⟩ => some (fd.name, fd.qualname, fd.params, fd.body, fd.scope, fd.globals, fd.closure, fd.builtins)
  | _ => none
def okA (K : PySem.W.Frag) (a : Addr) (d : He.DefD) : Bool := PySem.W.keepIn K (.ref a) && (match K.lookup a with
  | some ⟨_, _, .func fd, _⟩ => PySem.W.codeIn K fd.code d.qual && (He.dflB K fd.defaults (d.dvs K) && He.kwdB K fd.kwdefaults (d.kws K))
  | _ => false)
theorem funA {K : PySem.W.Frag} {d : He.DefD} {a : Addr} (e : fnA K a = d.val) (c : okA K a d = true) : ∃ fd, FunD K d.name d.qual d.params d.body d.scope (d.dvs K) (d.kws K) a fd := by
  obtain ⟨kp, c⟩ := He.ba c
  unfold fnA at e
  rcases q : K.lookup a with _ | ⟨oc, od, dt, osl⟩ <;> rw [q] at c e
  · cases c
  · cases dt
    case func fd =>
      rcases fd with ⟨a1, a2, a3, a4, a5, a6, a7, a8, a9, a10, a11, a12, a13, a14, a15⟩
      cases (show (some (a1, a2, a3, a4, a5, a6, a7, a15) : He.FnW) = some (d.name, d.qual, d.params, .stmts d.body, d.scope, mainGlobals, [], builtinsNs) from e)
      obtain ⟨code, c⟩ := He.ba c
      obtain ⟨dfl, kwd⟩ := He.ba c
      exact ⟨_, ⟨oc, od, a8, a9, a10, a11, a12, a13, a14, osl, rfl, q, code, He.dflB_ok dfl, He.kwdB_ok kwd⟩, kp⟩
    all_goals cases c
abbrev AlA : Type := Bool × List He.FnW
def obsA (ok : Looks) (fn : List DA) (K : PySem.W.Frag) : AlA := ((ok.all fun f => f K) && fn.all fun d => okA K (d.ad K) d.d, fn.map fun d => fnA K (d.ad K))
def valA (fn : List DA) : AlA := (true, fn.map fun d => d.d.val)
def SaysA (ok : Looks) (fn : List DA) (K : PySem.W.Frag) : Prop := obsA ok fn K = valA fn
def obsAG (n : Nat) (ok : Looks) (fn : List DA) (g : Addr → Option Obj) : AlA := obsA ok fn (He.frG g (cStatics :: He.asD g n))
def hookA (n : Nat) (ok : Looks) (fn : List DA) : PySem.W.Hook where
  α := AlA
  obs s := obsAG n ok fn s.heap.get?
  val _ := valA fn
  says _ h := ∃ K : PySem.W.Frag, K.In h ∧ SaysA ok fn K
  of _ _ e := ⟨_, He.frG_in, e⟩
  keeps _ _ _ := fun ⟨K, hK, c⟩ k => ⟨K, PySem.W.Frag.In.keeps hK k, c⟩
theorem obsAG_eq {n : Nat} {ok : Looks} {fn : List DA} {g : Addr → Option Obj} {s : Shared} (h : ∀ a, g a = s.heap.get? a) : obsAG n ok fn g = (hookA n ok fn).obs s := by
  rw [show g = s.heap.get? from funext h]
  rfl
section
variable {ok : Looks} {fn : List DA} {K : PySem.W.Frag}
theorem SaysA.look (c : SaysA ok fn K) (i : Nat) {f : PySem.W.Frag → Bool} (h : ok[i]? = some f := by rfl) : f K = true := by
  have c1 : ((ok.all fun f => f K) && fn.all fun d => okA K (d.ad K) d.d) = true := congrArg Prod.fst c
  exact List.all_eq_true.mp (Bool.and_eq_true_iff.mp c1).1 f (List.mem_of_getElem? h)
theorem SaysA.defn (c : SaysA ok fn K) (i : Nat) {d : DA} (h : fn[i]? = some d := by rfl) : ∃ fd, FunD K d.d.name d.d.qual d.d.params d.d.body d.d.scope (d.d.dvs K) (d.d.kws K) (d.ad K) fd := by
  have c1 : ((ok.all fun f => f K) && fn.all fun d => okA K (d.ad K) d.d) = true := congrArg Prod.fst c
  have c2 : (fn.map fun d => fnA K (d.ad K)) = fn.map fun d => d.d.val := congrArg Prod.snd c
  have c3 : (fn.map fun d => fnA K (d.ad K))[i]? = (fn.map fun d => d.d.val)[i]? := congrArg (fun l => l[i]?) c2
  rw [List.getElem?_map, List.getElem?_map, h] at c3
  exact funA (Option.some.inj c3) (List.all_eq_true.mp (Bool.and_eq_true_iff.mp c1).2 d (List.mem_of_getElem? h))
end
/-- a special method of an own class -/
def specB (K : PySem.W.Frag) (C m : Str) : Bool := decide (PySem.W.findIn K (.ref (He.ga K C)) m = some (some (.ref (He.ma K (He.ga K C) m)))) && PySem.W.isFn K (.ref (He.ma K (He.ga K C) m))
theorem specB_ok {K : PySem.W.Frag} {C m : Str} (h : specB K C m = true) : PySem.W.findIn K (.ref (He.ga K C)) m = some (some (.ref (He.ma K (He.ga K C) m))) ∧ PySem.W.isFn K (.ref (He.ma K (He.ga K C) m)) = true := by
  simpa only [specB, Bool.and_eq_true, decide_eq_true_eq] using h
def kdOkB (K : PySem.W.Frag) : Kd → Bool
  | .b _ => true
  | .own C => ownB K C
  | .exc C => isiB K (He.ga K C)
  | .fn => false
theorem kdOkB_ok {K : PySem.W.Frag} : ∀ {k : Kd}, kdOkB K k = true → KdOk K k
  | .b _, _ => trivial
  | .own _, h => ownB_ok h
  | .exc _, h => h
/-- isinstance by a table of kinds -/
def tabB (K : PySem.W.Frag) (c : Cd) (tab : List (Kd × Bool)) : Bool := tab.all fun p => kdOkB K p.1 && decide (PySem.W.kitOne K (kdV K p.1) (cdV K c) = some p.2)
theorem tabB_ok {K : PySem.W.Frag} {c : Cd} : ∀ {tab : List (Kd × Bool)}, tabB K c tab = true → Tab K (fun t => PySem.W.kitOne K t (cdV K c)) tab
  | [], _ => .nil
  | (k, b) :: r, h => by
    unfold tabB at h
    rw [List.all_cons, Bool.and_eq_true, Bool.and_eq_true] at h
    exact .cons (kdOkB_ok h.1.1) (of_decide_eq_true h.1.2) (tabB_ok h.2)
def tabBT (K : PySem.W.Frag) (cs : List Cd) (tab : List (Kd × Bool)) : Bool := tab.all fun p => kdOkB K p.1 && decide (PySem.W.kitAny K (kdV K p.1) (cs.map (cdV K)) = some p.2)
theorem tabBT_ok {K : PySem.W.Frag} {cs : List Cd} : ∀ {tab : List (Kd × Bool)}, tabBT K cs tab = true → Tab K (fun t => PySem.W.kitAny K t (cs.map (cdV K))) tab
  | [], _ => .nil
  | (k, b) :: r, h => by
    unfold tabBT at h
    rw [List.all_cons, Bool.and_eq_true, Bool.and_eq_true] at h
    exact .cons (kdOkB_ok h.1.1) (of_decide_eq_true h.1.2) (tabBT_ok h.2)
theorem raw0 {P : Program} {w : World} {K : PySem.W.Frag} {mg : Str → Option Value} {base : Heap} {CX : CXT} {k : Nat} {f : Addr} {fd : FuncData} {ps : List Str} {sp : Sp} (F : FnOk P w K mg base CX k f fd ps sp) (hb : Binds K fd ps []) : FnR P w K mg base CX k f sp := by
  have h := F.raw hb .nil
  have e : (fun (vs : List V) (H : Hp) (Q : VK) (E : XK) => sp (vs ++ []) H Q E) = sp := by
    funext vs H Q E
    rw [List.append_nil]
  rw [e] at h
  exact h
open PySem.Calls PyProof in
theorem law_sp {f : PySem.W.Frag} {m : Fnm} {ns : List Int} {o : Tb} (hm : m [.scr ns] [] = some (.rt (.cl (.bl true)) o)) {H : Hp} {a : Addr} (hS : SqL f H a (ns.map V.int)) :
    spM f m [.ref a] H (fun v _ => v = .bl true) fun _ _ _ => False := by
  refine ⟨[], [], [.scr ns], [], _, ⟨⟨fun a h => absurd h List.not_mem_nil, fun a h => absurd h List.not_mem_nil⟩, rfl, rfl, ⟨[], rfl, fun _ z => absurd z List.not_mem_nil⟩, Ex.refl, fun _ z => z, .nil, fun i x s h1 h2 => ?_, fun n p c h1 _ => by simp at h1, fun x hx => by cases hx⟩, hm, ?_⟩
  · match i with
    | 0 =>
      cases h1
      cases h2
      refine .cl (.scr ?_)
      exact hS.imp (fun z => ⟨z, fun q => nomatch q⟩) id
    | i + 1 => simp at h1
  · intro v H' ⟨κ', E'⟩
    exact rep_bl (E'.rep (List.mem_cons_self ..))
open PySem.Calls PyProof
section
variable {K : PySem.W.Frag} {x qual : Str} {params : Arguments} {body : List Stmt} {scope : Scope} {dvs : List V} {kws : List (Str × V)} {f : Addr} {fd : FuncData} {ps : List Str}
/-- all is written, though defaults stand -/
theorem binds_all (F : FunD K x qual params body scope dvs kws f fd) (hd : dvs ≠ [])
    (h : ∀ (T : Addr) (kV doc pm : Value) (an : Option Addr) (cdv ct : Value) (us its : List Value), us.length = ps.length → its.length = dvs.length →
      ∃ k, bindArgs (PySem.W.fnOf x qual params body scope (.ref T) kV doc pm an cdv ct) ⟨us, []⟩ = seqItems? (.ref T) >>= k ∧ k (some its.toArray) = pure (ps.zip us)) : Binds K fd ps [] := by
  obtain ⟨ds, hv, hb⟩ := FunD.binds1 (ps := ps) F ps.length dvs.length hd (by rw [Nat.sub_self]; rfl) (fun T kV doc pm an cdv ct us its h1 h2 => by
    obtain ⟨k, e1, e2⟩ := h T kV doc pm an cdv ct us its h1 h2
    refine ⟨k, e1, ?_⟩
    rw [e2, ← h2, List.drop_length, List.append_nil])
  rw [List.drop_length] at hv
  cases hv
  exact hb
/-- what lacks is filled up -/
theorem binds_fill (F : FunD K x qual params body scope dvs kws f fd) (n j : Nat) (hd : dvs ≠ []) (hn : n + (dvs.length - j) = ps.length) {dd : List V} (hq : dvs.drop j = dd)
    (h : ∀ (T : Addr) (kV doc pm : Value) (an : Option Addr) (cdv ct : Value) (us its : List Value), us.length = n → its.length = dvs.length →
      ∃ k, bindArgs (PySem.W.fnOf x qual params body scope (.ref T) kV doc pm an cdv ct) ⟨us, []⟩ = seqItems? (.ref T) >>= k ∧ k (some its.toArray) = pure (ps.zip (us ++ its.drop j))) : ∃ ds, Vals dd ds ∧ Binds K fd ps ds := by
  obtain ⟨ds, hv, hb⟩ := FunD.binds1 (ps := ps) F n j hd hn h
  exact ⟨ds, hq ▸ hv, hb⟩
end
end CM
namespace CM
open PySem PySem.Spec PyProof.Rows L2 SL
/-- the bases of the package's exceptions -/
def missing : List Str := ["UnknownColumn", "UnknownShape", "UnknownRow", "UnknownOrder", "UnknownMoment", "UnknownName"]
def state : List Str := ["ShapeWanted", "RowPresent", "NotServed", "NotPossible", "NameTaken", "NothingToUndo", "NothingToRedo", "NotLast", "NotFewest"]
def basesX (C : Str) : List Str := if C ∈ missing ∨ C = "MissingError" then ["MissingError"] else if C ∈ state ∨ C = "StateError" then ["StateError"] else ["SearchError"]
def basesT (C : Str) : List String := if C ∈ missing ∨ C = "MissingError" then ["KeyError", "LookupError"] else if C ∈ state ∨ C = "StateError" then ["LookupError"] else ["ValueError"]
def insK : Kd → Cd → Bool
  | .b T, .ty T' => decide (T = T') || (decide (T = "bool") && decide (T' = "int"))
  | .b _, .own _ => false
  | .own C, .own C' => decide (C = C')
  | .own _, .ty _ => false
  | .exc C, .own C' => decide (C = C') || decide (C' ∈ basesX C)
  | .exc C, .ty T => decide (T ∈ basesT C)
  | .fn, _ => false
def tabK (ks : List Kd) (c : Cd) : List (Kd × Bool) := ks.map fun k => (k, insK k c)
def tabKT (ks : List Kd) (cs : List Cd) : List (Kd × Bool) := ks.map fun k => (k, cs.any (insK k))
theorem look_map {g : Kd → Bool} {k : Kd} : ∀ {ks : List Kd}, k ∈ ks → lookK k (ks.map fun k => (k, g k)) = some (g k)
  | [], h => by cases h
  | k' :: ks, h => by
    show (if k' = k then some (g k') else lookK k (ks.map fun k => (k, g k))) = _
    by_cases e : k' = k
    · rw [if_pos e, e]
    · rw [if_neg e]
      rcases List.mem_cons.mp h with z | z
      · exact absurd z.symm e
      · exact look_map z
/-- a raise: never reached, or so -/
def sRaise (C : Str) (fs : List Str) (a : Mo (List W)) : MS := fun ρ h => bindS (a ρ h) fun ws ρ h => if ws.length = fs.length then some (.ex C (fs.zip (ws.map fzW)) ρ h) else none
def sRz (rz : Bool) (m : MS) : MS := if rz = true then m else sNever
theorem sim_rz0 {f : PySem.W.Frag} {WW : WX} {t : TS} {m : MS} : SimS f WW t (sRz false m) := fun F σ H ρ h st x D E e p => by cases e
section
variable {X : Cx}
/-- {x!r}: any data -/
theorem pe_fmtRU {e : Expr} {te : TE} {pos : Pos} (hg : X.A.guards = some []) (hu : X.A.units + 130 < cLine) (he : PE X e te) : PE X (.FormattedValue e 114 none pos) (tCB (SL.uRepr X.K) (tCons te tNil)) := by
  refine ⟨fun pins s σ H Q I h => ?_⟩
  refine wpAny_FormattedValue_repr (thn (he.run pins s σ H _ I h) fun v s1 hv => ?_)
  obtain ⟨x, H1, I1, r1, q⟩ := hv
  obtain ⟨v', d, e, hd, sh, q⟩ := q
  cases e
  obtain ⟨as, rd⟩ := Dp.reads I1 d x v hd r1
  have nd := dp_noDict hd
  cases hd with
  | non =>
    cases (show v = Value.none from r1)
    rw [PyData.shown_none] at q
    exact pyReprObj_none (wpAny_formatField_str ⟨.str _, H1, I1.tok _, ⟨_, rfl⟩, q⟩ ⟨.str _, H1, I1.tok _, ⟨_, rfl⟩, q⟩ (by decide +kernel))
  | bl b =>
    cases (show v = Value.bool b from r1)
    rw [PyData.shown_bool] at q
    refine pyReprObj_bool ?_
    cases b
    · exact wpAny_formatField_str ⟨.str _, H1, I1.tok _, ⟨_, rfl⟩, q⟩ ⟨.str _, H1, I1.tok _, ⟨_, rfl⟩, q⟩ (by decide +kernel)
    · exact wpAny_formatField_str ⟨.str _, H1, I1.tok _, ⟨_, rfl⟩, q⟩ ⟨.str _, H1, I1.tok _, ⟨_, rfl⟩, q⟩ (by decide +kernel)
  | int i =>
    obtain ⟨t, rfl⟩ := r1
    rw [PyData.shown_int] at q
    have z := sh.sh
    simp only [PyData.showable, decide_eq_true_eq] at z
    exact pyReprObj_int z (wpAny_formatField_str ⟨.str _, H1, I1.tok _, ⟨_, rfl⟩, q⟩ ⟨.str _, H1, I1.tok _, ⟨_, rfl⟩, q⟩ (int_text_fits z))
  | str y =>
    obtain ⟨t, rfl⟩ := r1
    have z := sh.fits
    rw [PyData.shown_str] at q z
    exact pyReprObj_str (wpAny_formatField_str ⟨.str _, H1, I1.tok _, ⟨_, rfl⟩, q⟩ ⟨.str _, H1, I1.tok _, ⟨_, rfl⟩, q⟩ z) z
  | lst _ _ =>
    cases (show v = Value.ref _ from r1)
    exact pyReprObj_of_reads rd sh.sh (PyData.noDict_hsm nd) hg (by have := sh.dp; omega) (fun _ _ e => e) (fun h' t tk k => wpAny_formatField_str ⟨.str _, H1, I1.kept k, ⟨_, rfl⟩, q⟩ ⟨.str _, H1, (I1.kept k).tok _, ⟨_, rfl⟩, q⟩ sh.fits) sh.fits
  | tup _ _ =>
    cases (show v = Value.ref _ from r1)
    exact pyReprObj_of_reads rd sh.sh (PyData.noDict_hsm nd) hg (by have := sh.dp; omega) (fun _ _ e => e) (fun h' t tk k => wpAny_formatField_str ⟨.str _, H1, I1.kept k, ⟨_, rfl⟩, q⟩ ⟨.str _, H1, (I1.kept k).tok _, ⟨_, rfl⟩, q⟩ sh.fits) sh.fits
end
/-- repr of an own instance, where no guard stands around -/
def FnRg (P : Program) (w : World) (K : PySem.W.Frag) (mg : Str → Option Value) (base : Heap) (CX : CXT) (k : Nat) (f : Addr) (sp : Sp) : Prop := ∀ (A : Around), A.guards = some [] → ∀ (outer : List Env) (s : Shared) (H : Hp) (us : List Value) (vs : List V) (Q : VK) (E : XK), Room k A → Env0 P w K mg base A outer s H → Vals vs us → sp vs H Q E → codeAny (model P w) A (.call (.ref f) ⟨us, []⟩) (CR CX outer P w H s Q E) s
theorem raw0G {P : Program} {w : World} {K : PySem.W.Frag} {mg : Str → Option Value} {base : Heap} {CX : CXT} {k : Nat} {f : Addr} {fd : FuncData} {ps : List Str} {sp : Sp} (F : SL.FnG P w K mg base CX k f fd ps sp) (hb : Binds K fd ps []) : FnRg P w K mg base CX k f sp := by
  intro A hg outer s H us vs Q E hr e0 r hs
  have hl : (us ++ []).length = ps.length := by
    rw [List.append_nil, ← r.length]
    exact F.len _ _ _ _ hs
  have h := hb s us (e0.mod.kin.keeps fun b o e => (e0.bs b o e).1) hl
  rw [List.append_nil] at h
  exact F.go A hg outer s H ⟨us, []⟩ us vs Q E hr e0 h r hs
section
variable {X : Cx} {CX : CXT} {C g : Addr} {n : Nat} {sp : Sp} {E : XK}
/-- the own def, run under no guard, answers as it promises -/
theorem own_saysG {pins : List (Addr × Obj)} {s : Shared} {σ : L2.St} {H : Hp} {A : Around} {us : List Value} {xs : List V} {P : VK} {Q : Value → Shared → Prop} (F : FnRg X.prog X.w X.K X.mg X.base CX n g sp) (none_ : A.guards = some []) (room : Room n A) (e0 : Env0 X.prog X.w X.K X.mg X.base A X.stack s H) (hx : Passes CX X E) (I : Inv X pins σ H s) (rs : Vals xs us) (q : sp xs H P E)
    (to : ∀ z H' u s', Inv X pins σ H' s' → RelV z u → P z H' → Q u s') : wpAny (model X.prog X.w) A (call (.ref g) us) Q X.xe s := by
  refine wpAny_call (codeAny_mono (F A none_ X.stack s H us xs P E room e0 rs q) ?_)
  rintro (e | _ | _ | _ | u) s' told
  case error => exact hx pins σ H s e s' I told
  case ok.ret =>
    obtain ⟨z, H', J, rz, p⟩ := I.after told
    exact to z H' u s' J rz p
  all_goals exact told.elim
theorem call_reprOG (hg : X.A.guards = some []) (hs : PySem.W.findIn X.K (.ref C) "__repr__" = some (some (.ref g))) (hf : PySem.W.isFn X.K (.ref g) = true) (F : FnRg X.prog X.w X.K X.mg X.base CX n g sp) (hr : Room (n + 1) X.A) (hx : Passes CX X E) : CallR X (.builtin "repr") (rReprO C sp E) := by
  rintro pins s σ H _ us Q I r ⟨a, dx, fs, rfl, hi, q⟩
  obtain rfl := only_ref r
  obtain ⟨ox, od, J⟩ := hi.at_ I
  refine PySem.W.repr_K (Room.in1 hr).units0 I.fr.choose_spec I.ok.mod.kin J hs hf (own_saysG (xs := [.ref a]) F hg (Room.in1 hr) I.env0.in1 hx I (.cons rfl .nil) q ?_)
  rintro _ H' u s' J' rz ⟨y, rfl, q'⟩
  obtain ⟨t, rfl⟩ := rz
  exact ⟨.str y, H', J', ⟨_, rfl⟩, q'⟩
end
section
variable {f : PySem.W.Frag} {WW : WX} {F : Fm} {κ M : List Addr} {H H' : Hp} {σ : L2.St} {ρ ρ' : List Sl} {h : Tb} {st : List (V × W)} {tr : TA} {mr : Mo (List W)} {te ta tb : TE} {me ma mb : Mo W} {C : Str} {m : Fnm}
def dInDB (a b : D) : Option Bool := (pd a).bind fun x => (pd b).bind fun y => match y with
  | .list ys => if SeqAt.shaped x = true ∧ SeqAt.shaped (.list ys) = true then some (ys.any fun z => PyData.eqv z x) else none
  | _ => none
def dNiD (a b : D) : Option W := (dInDB a b).map fun b => .cl (.bl (!b))
theorem inDB {K : Kx} {x y : V} {dx dy : D} {b : Bool} (nx : Nr M K H x dx) (ny : Nr M K H y dy) (e : dInDB dx dy = some b) : ∃ d ds, Dp K H x d ∧ Dp K H y (.list ds) ∧ SeqAt.shaped d = true ∧ SeqAt.shaped (.list ds) = true ∧ b = ds.any fun z => PyData.eqv z d := by
  unfold dInDB at e
  cases h1 : pd dx with
  | none => rw [h1] at e; cases e
  | some d1 =>
    rw [h1] at e
    dsimp only [Option.bind_some] at e
    cases h2 : pd dy with
    | none => rw [h2] at e; cases e
    | some d2 =>
      rw [h2] at e
      dsimp only [Option.bind_some] at e
      split at e
      · rename_i ys
        split at e
        · rename_i hs
          cases e
          exact ⟨d1, ys, nr_dp nx h1, nr_dp ny h2, hs.1, hs.2, rfl⟩
        · cases e
      · cases e
theorem o_niD : Op2 f (rNotInD f) dNiD := fun κ M H x y dx dy w Q hM nx ny e q => by
  unfold dNiD at e
  cases h1 : dInDB dx dy with
  | none => rw [h1] at e; cases e
  | some b =>
    rw [h1] at e
    cases e
    obtain ⟨d, ds, a1, a2, a3, a4, rfl⟩ := inDB nx ny h1
    exact ⟨d, ds, a1, a2, a3, a4, q _ _ Ex.refl (.cl (.bl _))⟩
def mDNew : Mo W := fun ρ h => some (.ok (.nw (.dK [])) ρ h)
theorem sim_dnew : SimE f WW tDNewK mDNew := fun F σ H ρ h st x Q ⟨κ, E⟩ e p => by
  cases e
  exact fun q hq => p _ _ ⟨κ, E.pushN hq (Ex.new hq) (.dK (kvs := []) upd_same rfl .nil)⟩
def mLstRg (a : Mo W) : Mo W := fun ρ h => bindR (a ρ h) fun w ρ h => match (deref h w).map D.u with
  | some (.int n) => if -1000000 ≤ n ∧ n ≤ 90000 then some (.ok (.fr ((List.range n.toNat).map fun i => .int (i : Nat))) ρ h) else none
  | _ => none
theorem rgV_ints {M : List Addr} {K : Kx} {H : Hp} (n : Int) : RepA M K H (rgV 0 n) ((List.range n.toNat).map fun i => .int (i : Nat)) := by
  have e : rgV 0 n = ((List.range n.toNat).map fun i : Nat => (i : Int)).map V.int := by
    unfold rgV
    rw [Int.sub_zero, List.map_map]
    exact List.map_congr_left fun i _ => by simp
  have e2 : ((List.range n.toNat).map fun i => D.int (i : Nat)) = ((List.range n.toNat).map fun i : Nat => (i : Int)).map D.int := by
    rw [List.map_map]
    rfl
  rw [e, e2]
  exact RepA.ints _
theorem sim_lstRg (ha : SimE f WW ta ma) : SimE f WW (tLstRg (tRg1 ta)) (mLstRg ma) := fun F σ H ρ h st x Q E e p => by
  rcases bindR_some e with ⟨w1, ρ1, h1, e1, e⟩ | ⟨C', fs, ρ1, h1, e1, rfl⟩
  · refine ha F σ H ρ h st _ _ E e1 fun v1 H1 ⟨κ, E1⟩ => ?_
    cases q1 : deref h1 w1 with
    | none => rw [q1] at e; cases e
    | some d1 =>
      rw [q1] at e
      dsimp only [Option.map_some] at e
      split at e
      · rename_i n hn
        split at e
        · rename_i hb
          cases e
          refine ⟨n, nr_int (E1.near (List.mem_cons_self ..) q1) (Option.some.inj hn), ⟨by decide, by decide, by omega, by omega, by omega⟩, fun q hq => p _ _ ⟨κ, ?_⟩⟩
          exact EnvK.land (l := [(v1, w1)]) E1 (Ex.new hq) (Nw.new hq (rgV_ints n))
        · cases e
      · cases e
  · exact ha F σ H ρ h st _ _ E e1 p
def sPar3 (o1 o2 o3 : Bool) (i j k : Nat) (a : Mo (List W)) : MS := fun ρ h => bindS (a ρ h) fun ws ρ h => match ws with
  | [u, v, w] => let x := gPut o1 i u ρ h; let y := gPut o2 j v x.1 x.2; let z := gPut o3 k w y.1 y.2; some (.nx z.1 z.2)
  | _ => none
theorem sim_par3 {o1 o2 o3 : Bool} {i j k : Nat} (ha : SimA f WW tr mr) : SimS f WW (tPar3 i j k tr) (sPar3 o1 o2 o3 i j k mr) := fun F σ H ρ h st x D E e p => by
  rcases bindS_some e with ⟨ws, ρ1, h1, e1, e⟩ | ⟨C, fs, ρ1, h1, e1, rfl⟩
  · refine ha F σ H ρ h st _ _ E e1 fun vs H1 hl E1 => ?_
    split at e
    · rename_i w1 w2 w3
      match vs, hl, E1 with
      | [v1, v2, v3], hl, E1 =>
        refine ⟨v1, v2, v3, rfl, ?_⟩
        cases e
        have E1 : EnvR f F σ H1 ρ1 h1 ((v1, w1) :: (v2, w2) :: (v3, w3) :: st) := E1
        exact p _ _ (E1.gput.gput.gput)
    · cases e
  · exact ha F σ H ρ h st _ _ E e1 p
end
end CM
namespace SL
open PySem PySem.Spec PyProof.Rows L2
/-- err.f in an except suite, the error's dict told in either way -/
def tXfE (a : Addr) (cls : Value) (d : Option Addr) (C : Addr) (f : Str) (te : TE) : TE := fun σ H Q => te σ H fun x H1 => x = .ref a ∧ cls = .ref C ∧ ∃ (dd : Addr) (fs : List (Str × V)) (v : V), d = some dd ∧ (H1 dd = some (.xd fs) ∨ H1 dd = some (exd dd fs)) ∧ fs.lookup f = some v ∧ Q v H1
theorem pe_xfE {X : Cx} {a C : Addr} {oe : Obj} {cls : Value} {d : Option Addr} {pn : List (Addr × Obj)} {e : Expr} {te : TE} {pos : Pos} {n : Str} (T : XfC X.K C) (hno : PySem.W.findIn X.K (.ref C) n = some none)
    (hz : Zc cls d oe) (hf : ∃ vs, oe.data = .fields vs) (he : PE (X.suite a ((a, oe) :: pn)) e te) (hb : attributeBase e n X.env (eval e X.env) = eval e X.env := by rfl) :
    PE (X.suite a ((a, oe) :: pn)) (.Attribute e n pos) (tXfE a cls d C n te) := by
  obtain ⟨vs, flds⟩ := hf
  have flat : PySem.W.notCls oe = true := by unfold PySem.W.notCls; rw [flds]
  refine ⟨fun pins s σ H Q I h => attr_of hb (thn (he.run pins s σ H _ I h) ?_)⟩
  rintro u s1 ⟨_, H1, I1, rx, rfl, rfl, dd, fs, v, rfl, told, l, q⟩
  obtain rfl : u = .ref a := rx
  obtain ⟨m, ns, rel⟩ : ∃ m, s1.heap.Ns1 dd m ∧ ∀ f, RelO (fs.lookup f) (m f) := told.elim (fun z => (I1.hok dd _ z : ObjOk X.prog X.w H1 s1.heap dd (.xd fs))) (exd_at I1.hok)
  obtain ⟨od, at_, look⟩ := lookIn_ns ns
  obtain ⟨u, mu, ru⟩ := RelO.some_of (v := v) (o := m n) (l ▸ rel n)
  have inst : PySem.W.InstAt s1.heap a oe C (some od) := ⟨(I1.pin (a, oe) (List.mem_append_left _ (List.mem_cons_self ..))).1, hz.1, flat, hz.2 ▸ at_⟩
  exact HandSPX.exc_get I1.kIn inst T.ga T.gg T.exC (PySem.W.findObj_own T.hdC hno rfl (by rw [look, mu])) (handed_of ru) ⟨v, H1, I1.tok _, ru, q⟩
end SL
namespace CM
open PySem PySem.Spec PyProof.Rows L2 SL
def tRaise1 (f : PySem.W.Frag) (W : WX) (C : Addr) (n : Str) (ta : TA) : TS := fun _ σ H => tMkO C (spX f C n) [] ta σ H fun cls d H' => W cls d σ H'
section
variable {f : PySem.W.Frag} {κ : List Addr} {F : Fm} {WW : WX} {M : List Addr} {K : Kx} {H H' : Hp} {σ : L2.St} {ρ ρ' : List Sl} {h h' : Tb} {st l : List (V × W)} {v : V} {w : W} {d : D} {tr : TA} {mr : Mo (List W)} {C n : Str} {i : Nat}
theorem sim_raise1 (ha : SimA f WW tr mr) : SimS f WW (tRaise1 f WW (He.ga f C) n tr) (sRaise C [n] mr) := fun F σ H ρ h st o D E e p => by
  unfold sRaise at e
  rcases bindS_some e with ⟨ws, ρ1, h1, e1, e⟩ | ⟨C', fs, ρ1, h1, e1, rfl⟩
  · split at e
    · rename_i hl
      cases e
      match ws, hl with
      | [w], _ =>
        refine ha F σ H ρ h st _ _ E e1 fun vs H1 hvl E1 => ?_
        match vs, hvl, E1 with
        | [v], _, ⟨κ, E1⟩ =>
          have E1 : EnvK f κ F σ H1 ρ1 h1 ((v, w) :: st) := E1
          refine ⟨(by show 1 ≤ 1000; decide), fun a hna => ⟨a, v, rfl, upd_same, fun dx hdx hne => ?_⟩⟩
          have hd1 : H1 dx = none := by
            rw [upd_ne hne] at hdx
            exact hdx
          refine ⟨rfl, dx, [(n, v)], upd_same, by rw [upd_ne hne]; exact upd_same, hd1, ?_⟩
          have eH : upd (del (upd (upd (upd H1 a (exo a (He.ga f C) none)) dx (exd dx [(n, v)])) a (exo a (He.ga f C) (some dx))) a) dx (.xd [(n, v)]) = upd H1 dx (.xd [(n, v)]) := by
            funext b
            by_cases hb : b = dx
            · subst hb
              rw [upd_same, upd_same]
            · rw [upd_ne hb, upd_ne hb]
              by_cases hba : b = a
              · subst hba
                rw [del_same, hna]
              · rw [del_ne hba, upd_ne hba, upd_ne hb, upd_ne hba]
          rw [eH]
          have E2 := E1.fz
          have E3 : EnvK f κ F σ (upd H1 dx (.xd [(n, v)])) ρ1 h1 ((v, .cl (fzW w)) :: st) := E2.grow (Ex.new hd1)
          have r : Rep (av F κ ((v, .cl (fzW w)) :: st)) ⟨f, κ⟩ (upd H1 dx (.xd [(n, v)])) v (fzW w) := E3.rep (List.mem_cons_self ..)
          have eav : av F κ ((v, W.cl (fzW w)) :: st) = av F κ st := by
            show F.A ++ (κ ++ rootsW _) = _
            rw [roots_cl]
          rw [eav] at r
          exact p κ σ _ dx E3.pop (.mk (.inl upd_same) rfl (.cons r .nil))
    · cases e
  · exact ha F σ H ρ h st _ _ E e1 p
/-- an error's fields, held -/
abbrev held (vs : List (Str × V)) (fs : List (Str × D)) : List (V × W) := (vs.map (·.2)).zip ((fs.map (·.2)).map W.cl)
structure XEnv (f : PySem.W.Frag) (κ : List Addr) (F : Fm) (σ : L2.St) (H : Hp) (ρ : List Sl) (h : Tb) (st : List (V × W)) (i : Nat) (a dx : Addr) (vs : List (Str × V)) (fs : List (Str × D)) : Prop where
  env : EnvK f κ F σ H ρ h st
  at_ : σ[i]? = some (some (.ref a))
  dict : H dx = some (.xd vs) ∨ H dx = some (exd dx vs)
  nms : vs.map (·.1) = fs.map (·.1)
  mem : ∀ x ∈ held vs fs, x ∈ st
/-- values that the table stays with -/
abbrev Mx (α : Type) := List (Str × D) → Option α
def SimX (f : PySem.W.Frag) (i : Nat) (C : Addr) (te : Addr → Value → Option Addr → TE) (me : Mx W) : Prop := ∀ (κ : List Addr) (F : Fm) (σ : L2.St) (H : Hp) (ρ : List Sl) (h : Tb) (st : List (V × W)) (w : W) (Q : VK) (a dx : Addr) (vs : List (Str × V)) (fs : List (Str × D)),
  XEnv f κ F σ H ρ h st i a dx vs fs → me fs = some w → (∀ v H', XEnv f κ F σ H' ρ h ((v, w) :: st) i a dx vs fs → Q v H') → te a (.ref C) (some dx) σ H Q
def SimXA (f : PySem.W.Frag) (i : Nat) (C : Addr) (te : Addr → Value → Option Addr → TA) (me : Mx (List W)) : Prop := ∀ (κ : List Addr) (F : Fm) (σ : L2.St) (H : Hp) (ρ : List Sl) (h : Tb) (st : List (V × W)) (ws : List W) (Q : List V → Hp → Prop) (a dx : Addr) (vs : List (Str × V)) (fs : List (Str × D)),
  XEnv f κ F σ H ρ h st i a dx vs fs → me fs = some ws → (∀ us H', us.length = ws.length → XEnv f κ F σ H' ρ h (us.zip ws ++ st) i a dx vs fs → Q us H') → te a (.ref C) (some dx) σ H Q
theorem XEnv.pushC {a dx : Addr} {vs : List (Str × V)} {fs : List (Str × D)} (X : XEnv f κ F σ H ρ h st i a dx vs fs) (r : Rep (av F κ st) ⟨f, κ⟩ H v d) : XEnv f κ F σ H ρ h ((v, .cl d) :: st) i a dx vs fs :=
  ⟨X.env.pushC r, X.at_, X.dict, X.nms, fun x hx => List.mem_cons_of_mem _ (X.mem x hx)⟩
theorem simX_c {a0 : V} {C : Addr} {d : D} (r : ∀ M K H, Rep M K H a0 d) : SimX f i C (fun _ _ _ => tC a0) (fun _ => some (.cl d)) := fun κ F σ H ρ h st w Q a dx vs fs X e p => by
  cases e
  exact p _ _ (X.pushC (r _ _ _))
def xFld (n : Str) : Mx W := fun fs => (fs.lookup n).map W.cl
theorem look_held {n : Str} : ∀ {vs : List (Str × V)} {fs : List (Str × D)} {d : D}, vs.map (·.1) = fs.map (·.1) → fs.lookup n = some d → ∃ v, vs.lookup n = some v ∧ (v, W.cl d) ∈ held vs fs
  | [], [], d, _, e => by cases e
  | [], _ :: _, d, e, _ => by cases e
  | _ :: _, [], d, e, _ => by cases e
  | (n1, v) :: vs, (n2, c) :: fs, d, e, l => by
    have e1 : n1 = n2 := (List.cons.inj e).1
    have e2 := (List.cons.inj e).2
    subst e1
    rw [List.lookup_cons] at l ⊢
    by_cases hn : (n == n1) = true
    · rw [hn] at l ⊢
      cases l
      exact ⟨v, rfl, List.mem_cons_self ..⟩
    · rw [Bool.not_eq_true] at hn
      rw [hn] at l ⊢
      obtain ⟨u, h1, h2⟩ := look_held e2 l
      exact ⟨u, h1, List.mem_cons_of_mem _ h2⟩
theorem simX_f {C : Addr} {n : Str} : SimX f i C (fun a cls d => tXfE a cls d C n (tVar i)) (xFld n) := fun κ F σ H ρ h st w Q a dx vs fs X e p => by
  unfold xFld at e
  cases hl : fs.lookup n with
  | none => rw [hl] at e; cases e
  | some d =>
    rw [hl] at e
    cases e
    obtain ⟨v, l, m⟩ := look_held X.nms hl
    exact ⟨_, X.at_, rfl, rfl, dx, vs, v, rfl, X.dict, l, p _ _ (X.pushC (X.env.rep (X.mem _ m)))⟩
theorem simX_nil {C : Addr} : SimXA f i C (fun _ _ _ => tNil) (fun _ => some []) := fun κ F σ H ρ h st ws Q a dx vs fs X e p => by
  cases e
  exact p [] H rfl X
def xCons (me : Mx W) (mr : Mx (List W)) : Mx (List W) := fun fs => (me fs).bind fun w => (mr fs).map (w :: ·)
theorem simX_cons {C : Addr} {te : Addr → Value → Option Addr → TE} {ta : Addr → Value → Option Addr → TA} {me : Mx W} {mr : Mx (List W)} (he : SimX f i C te me) (hr : SimXA f i C ta mr) : SimXA f i C (fun a cls d => tCons (te a cls d) (ta a cls d)) (xCons me mr) := fun κ F σ H ρ h st ws Q a dx vs fs X e p => by
  unfold xCons at e
  cases h1 : me fs with
  | none => rw [h1] at e; cases e
  | some w =>
    rw [h1] at e
    cases h2 : mr fs with
    | none => rw [h2] at e; cases e
    | some ws' =>
      rw [h2] at e
      cases e
      refine he κ F σ H ρ h st w _ a dx vs fs X h1 fun v H1 X1 => ?_
      refine hr κ F σ H1 ρ h _ ws' _ a dx vs fs X1 h2 fun us H2 hl X2 => ?_
      refine p (v :: us) H2 (by rw [List.length_cons, List.length_cons, hl]) ⟨?_, X2.at_, X2.dict, X2.nms, fun x hx => List.mem_append.mpr (.inr (X.mem x hx))⟩
      refine X2.env.perm ?_
      show (us.zip ws' ++ (v, w) :: st).Perm ((v, w) :: (us.zip ws' ++ st))
      exact List.perm_middle
def xLst (mr : Mx (List W)) : Mx W := fun fs => (mr fs).bind fun ws => if ws.length ≤ 100000 then some (.fr (ws.map fzW)) else none
theorem simX_lst {C : Addr} {ta : Addr → Value → Option Addr → TA} {mr : Mx (List W)} (hr : SimXA f i C ta mr) : SimX f i C (fun a cls d => tLst (ta a cls d)) (xLst mr) := fun κ F σ H ρ h st w Q a dx vs fs X e p => by
  unfold xLst at e
  cases h1 : mr fs with
  | none => rw [h1] at e; cases e
  | some ws =>
    rw [h1] at e
    dsimp only [Option.bind_some] at e
    split at e
    · rename_i g3
      cases e
      refine hr κ F σ H ρ h st ws _ a dx vs fs X h1 fun us H1 hl X1 => ?_
      have E2 := X1.env.fzs hl
      refine ⟨sz_le (by omega), fun q hq => p _ _ ⟨?_, X1.at_, ?_, X1.nms, fun x hx => List.mem_cons_of_mem _ (X.mem x hx)⟩⟩
      · have ra := E2.repA (by simpa using hl) fun x hx => List.mem_append.mpr (.inl hx)
        exact EnvK.land (l := us.zip ((ws.map fzW).map W.cl)) E2 (Ex.new hq) (Nw.new hq ra)
      · have hne : dx ≠ q := fun z => by
          have y := X1.dict
          rw [z, hq] at y
          rcases y with y | y <;> cases y
        rw [upd_ne hne]
        exact X1.dict
    · cases e
/-- what the clauses hand back -/
def hands (C : Str) (fs : List (Str × D)) (ρ : List Sl) (h : Tb) : List (Str × Mx W) → Option Out
  | [] => none
  | (C', me) :: r => if C = C' then (me fs).map fun w => .rt w ρ h else hands C fs ρ h r
def sTry (i : Nat) (xs : List Str) (body : MS) (cs : List (Str × Mx W)) : MS := fun ρ h => match body ρ h with
  | some (.ex C fs ρ h) => if idle [i] ρ = true ∧ C ∈ xs then hands C fs ρ h cs else none
  | o => o
/-- the clauses' readings, and which errors may come -/
inductive SimC (f : PySem.W.Frag) (i : Nat) (xs : List Str) : List Cl → List (Str × Mx W) → Prop
  | nil : SimC f i xs [] []
  | cons {C : Str} {te : Addr → Value → Option Addr → TE} {me : Mx W} {l : List Cl} {r : List (Str × Mx W)} (hs : SimX f i (He.ga f C) te me) (hm : ∀ x ∈ xs, PySem.W.exmOne f (.ref (He.ga f x)) (.ref (He.ga f C)) = some (decide (x = C))) (hr : SimC f i xs l r) :
      SimC f i xs ((.ref (He.ga f C), i, fun a cls d => tRet (te a cls d)) :: l) ((C, me) :: r)
theorem sim_try {tb : WX → TS} {body : MS} {cs : List (Str × Mx W)} {ls : List Cl} {xs : List Str} (hb : ∀ WW' : WX, SimS f WW' (tb WW') body) (hc : SimC f i xs ls cs) : SimS f WW (fun D σ H => tb (wAses f D ls) D σ H) (sTry i xs body cs) := fun F σ H ρ h st o D E e p => by
  unfold sTry at e
  cases hb1 : body ρ h with
  | none => rw [hb1] at e; cases e
  | some o1 =>
    rw [hb1] at e
    cases o1 with
    | ex C fs ρ1 h1 =>
      dsimp only at e
      split at e
      · rename_i hi
        obtain ⟨hi, hx⟩ := hi
        have hun := idle_at hi (List.mem_cons_self ..)
        refine hb _ F σ H ρ h st _ D E hb1 ?_
        intro κ σ1 H1 dx E1 X1
        obtain ⟨hd, hn, hr⟩ := X1
        rename_i vs
        have hil : i < σ1.length := by
          rw [E1.len]
          exact (List.getElem?_eq_some_iff.mp hun).1
        have go : ∀ {ls : List Cl} {cs : List (Str × Mx W)}, SimC f i xs ls cs → hands C fs ρ1 h1 cs = some o → wAses f D ls (.ref (He.ga f C)) (some dx) σ1 H1 := by
          intro ls cs hk
          induction hk with
          | nil => intro e; cases e
          | @cons C' te me l r hs hm hr2 ih =>
            intro e
            unfold hands at e
            by_cases hC : C = C'
            · rw [if_pos hC] at e
              subst hC
              cases hme : me fs with
              | none => rw [hme] at e; cases e
              | some w =>
                rw [hme] at e
                cases e
                refine ⟨true, by rw [hm C hx, decide_eq_true rfl], fun _ a ha => ?_, fun z => nomatch z⟩
                have E2 := EnvK.pushAll E1 hr
                have E3 := E2.forget (i := i) (some (.ref a))
                rw [set_self hun] at E3
                refine hs κ F _ H1 ρ1 h1 _ w _ a dx vs fs ⟨E3, List.getElem?_set_self hil, hd, hn, fun x hx => List.mem_append_left _ hx⟩ hme fun v H2 X2 => ?_
                exact p _ v H2 ⟨κ, X2.env.sub (List.Sublist.cons₂ _ (List.sublist_append_right _ _))⟩
            · rw [if_neg hC] at e
              exact ⟨false, by rw [hm C hx, decide_eq_false hC], (fun z => nomatch z), fun _ => ih e⟩
        exact go hc e
      · cases e
    | nx ρ1 h1 =>
      cases e
      exact hb _ F σ H ρ h st _ D E hb1 p
    | rt w ρ1 h1 =>
      cases e
      exact hb _ F σ H ρ h st _ D E hb1 p
    | bk ρ1 h1 =>
      cases e
      exact hb _ F σ H ρ h st _ D E hb1 p
    | ct ρ1 h1 =>
      cases e
      exact hb _ F σ H ρ h st _ D E hb1 p
end
end CM
namespace CM
open PySem PySem.Spec PyProof.Rows L2 SL
def scKvs : List (L2.Key × D) → Option (List (PyData × PyData))
  | [] => some []
  | (k, d) :: r => match d with
    | .non => (scKvs r).map ((pdKey k, .none) :: ·)
    | .bl b => (scKvs r).map ((pdKey k, .bool b) :: ·)
    | .int i => (scKvs r).map ((pdKey k, .int i) :: ·)
    | .str x => (scKvs r).map ((pdKey k, .str x) :: ·)
    | _ => none
def dReprX : List D → Option W
  | [a] => match a.u with
    | .dK kvs => (scKvs kvs).bind fun x => if showsB (.dict x) = true then some (.cl (.str (PyData.dict x).shown)) else none
    | _ => dRepr [a]
  | _ => none
def putKD (cs : List (L2.Key × D)) (k : L2.Key) (d : D) : List (L2.Key × D) := if (cs.any fun kv => decide (kv.1 = k)) = true then cs.map (fun kv => if kv.1 = k then (kv.1, d) else kv) else cs ++ [(k, d)]
section
variable {f : PySem.W.Frag} {κ : List Addr} {F : Fm} {WW : WX} {M : List Addr} {K : Kx} {H H' : Hp} {σ : L2.St} {ρ ρ' : List Sl} {h h' : Tb} {st l : List (V × W)} {v : V} {w : W} {d : D} {ta te : TE} {ma me : Mo W}
theorem initB_i {C : Addr} (h : SL.initB f C = true) : PySem.W.findIn f (.ref C) "__init__" = some (some (.ref (He.ma f C "__init__"))) := by
  simp only [SL.initB, Bool.and_eq_true, decide_eq_true_eq] at h
  exact h.1
theorem initB_t {C : Addr} (h : SL.initB f C = true) : PySem.W.typeIn f (.ref (He.ma f C "__init__")) = some (.type "function") := by
  simp only [SL.initB, Bool.and_eq_true, decide_eq_true_eq] at h
  exact h.2
def exmB (f : PySem.W.Frag) (xs : List Str) (C : Str) : Bool := xs.all fun x => decide (PySem.W.exmOne f (.ref (He.ga f x)) (.ref (He.ga f C)) = some (decide (x = C)))
theorem exmB_ok {xs : List Str} {C : Str} (h : exmB f xs C = true) : ∀ x ∈ xs, PySem.W.exmOne f (.ref (He.ga f x)) (.ref (He.ga f C)) = some (decide (x = C)) := fun x hx => of_decide_eq_true (List.all_eq_true.mp h x hx)
theorem nr_dK {ds : List (L2.Key × D)} (h : Nr M K H v d) (e : d.u = .dK ds) : ∃ a kvs, v = .ref a ∧ H a = some (.dK kvs) ∧ kvs.map (·.1) = ds.map (·.1) ∧ RepA M K H (kvs.map (·.2)) (ds.map (·.2)) := by
  have h := h.u
  rw [e] at h
  cases h with
  | cl r => cases r with | dK a n b => exact ⟨_, _, rfl, a.at_, n, b⟩
  | own r => cases r with | dK a n b => exact ⟨_, _, rfl, a, n, b⟩
theorem sc_of : ∀ {kvs : List (L2.Key × V)} {ds : List (L2.Key × D)} {x : List (PyData × PyData)}, kvs.map (·.1) = ds.map (·.1) → RepA M K H (kvs.map (·.2)) (ds.map (·.2)) → scKvs ds = some x → ScA kvs x
  | [], [], _, _, _, e => by cases e; exact .nil
  | [], _ :: _, _, n, _, _ => by cases n
  | _ :: _, [], _, n, _, _ => by cases n
  | (k, v) :: kvs, (k2, d) :: ds, x, n, r, e => by
    have n1 : k = k2 := (List.cons.inj n).1
    subst n1
    have r : RepA M K H (v :: kvs.map (·.2)) (d :: ds.map (·.2)) := r
    cases r with
    | cons r1 r2 =>
      unfold scKvs at e
      have ih : ∀ y, scKvs ds = some y → ScA kvs y := fun y z => sc_of (List.cons.inj n).2 r2 z
      cases hs : scKvs ds with
      | none =>
        rw [hs] at e
        split at e <;> cases e
      | some y =>
        rw [hs] at e
        split at e
        · cases e
          cases r1
          exact .non (ih y hs)
        · cases e
          cases r1
          exact .bl _ (ih y hs)
        · cases e
          cases r1
          exact .int _ (ih y hs)
        · cases e
          cases r1
          exact .str _ (ih y hs)
        · cases e
theorem o_reprX : OpN f (SL.uReprX f) dReprX := fun κ M H xs ds w Q hM nr e q => by
  unfold dReprX at e
  split at e
  · split at e
    · rename_i kvs hd
      obtain ⟨v, rfl, n⟩ := nra1 nr
      obtain ⟨a, vs, rfl, ha, nm, r⟩ := nr_dK n hd
      cases hx : scKvs kvs with
      | none => rw [hx] at e; cases e
      | some x =>
        rw [hx] at e
        dsimp only [Option.bind_some] at e
        split at e
        · rename_i hs
          cases e
          unfold showsB at hs
          simp only [Bool.and_eq_true, decide_eq_true_eq] at hs
          obtain ⟨s1, s2, s3, s4⟩ := hs
          exact .inr ⟨a, vs, x, rfl, ha, sc_of nm r hx, ⟨s1, ⟨60, by decide, s2, by omega⟩, s4⟩, q _ _ Ex.refl (.cl (.str _))⟩
        · cases e
    · exact .inl (o_repr κ M H xs _ w Q hM nr e q)
  · cases e
end
end CM
namespace XB
open PySem PySem.Spec PySem.W PySem.Calls PyProof.Rows
abbrev keTl : List Value := ["KeyError", "LookupError", "Exception", "BaseException", "object"].map .type
abbrev leTl : List Value := ["LookupError", "Exception", "BaseException", "object"].map .type
end XB
namespace SL
open PySem PySem.Spec PyProof.Rows L2
inductive Bs where
  | ke | le
def Bs.t : Bs → String
  | .ke => "KeyError"
  | .le => "LookupError"
def Bs.tl : Bs → List Value
  | .ke => XB.keTl
  | .le => XB.leTl
end SL
namespace K09
open PySem PySem.Spec PySem.Calls PyProof PyProof.Rows L2 SL CM
abbrev KS : List Kd := [.b "NoneType", .b "bool", .b "int", .b "str", .b "list", .b "tuple", .b "dict", .own "Shape", .exc "InvalidText"]
def top0 (i : Nat) : Stmt := PySem.Challenge.pw_searchorders_k09_texts_of_shapes.main.body.getD i (.Pass ⟨0, 0, 0, 0⟩)
abbrev s_is_name : Stmt := (top0 13)
def d_is_name : He.DefD := ⟨("is_name", none), "is_name", "is_name", defArgs s_is_name, defBody s_is_name, defScope s_is_name, [], []⟩
abbrev s_is_list : Stmt := (top0 14)
def d_is_list : He.DefD := ⟨("is_list", none), "is_list", "is_list", defArgs s_is_list, defBody s_is_list, defScope s_is_list, [], []⟩
abbrev s_InvalidText_D_init_D : Stmt := (inClass (top0 6) 0)
def d_InvalidText_D_init_D : He.DefD := ⟨("InvalidText", some "__init__"), "__init__", "InvalidText.__init__", defArgs s_InvalidText_D_init_D, defBody s_InvalidText_D_init_D, defScope s_InvalidText_D_init_D, [], []⟩
abbrev s_Shape_D_init_D : Stmt := (inClass (top0 18) 0)
def d_Shape_D_init_D : He.DefD := ⟨("Shape", some "__init__"), "__init__", "Shape.__init__", defArgs s_Shape_D_init_D, defBody s_Shape_D_init_D, defScope s_Shape_D_init_D, [.non], []⟩
abbrev s_Shape_D_eq_D : Stmt := (inClass (top0 18) 7)
def d_Shape_D_eq_D : He.DefD := ⟨("Shape", some "__eq__"), "__eq__", "Shape.__eq__", defArgs s_Shape_D_eq_D, defBody s_Shape_D_eq_D, defScope s_Shape_D_eq_D, [], []⟩
abbrev s_Shape_D_str_D : Stmt := (inClass (top0 18) 8)
def d_Shape_D_str_D : He.DefD := ⟨("Shape", some "__str__"), "__str__", "Shape.__str__", defArgs s_Shape_D_str_D, defBody s_Shape_D_str_D, defScope s_Shape_D_str_D, [], []⟩
abbrev s_Shape_D_repr_D : Stmt := (inClass (top0 18) 9)
def d_Shape_D_repr_D : He.DefD := ⟨("Shape", some "__repr__"), "__repr__", "Shape.__repr__", defArgs s_Shape_D_repr_D, defBody s_Shape_D_repr_D, defScope s_Shape_D_repr_D, [], []⟩
abbrev s_parse_shape : Stmt := (top0 19)
def d_parse_shape : He.DefD := ⟨("parse_shape", none), "parse_shape", "parse_shape", defArgs s_parse_shape, defBody s_parse_shape, defScope s_parse_shape, [], []⟩
abbrev s_l_law_cell : Stmt := (top0 21)
def d_l_law_cell : He.DefD := ⟨("_law_cell", none), "_law_cell", "_law_cell", defArgs s_l_law_cell, defBody s_l_law_cell, defScope s_l_law_cell, [], []⟩
abbrev s_l_law_bag : Stmt := (top0 22)
def d_l_law_bag : He.DefD := ⟨("_law_bag", none), "_law_bag", "_law_bag", defArgs s_l_law_bag, defBody s_l_law_bag, defScope s_l_law_bag, [], []⟩
abbrev s_l_law_take : Stmt := (top0 23)
def d_l_law_take : He.DefD := ⟨("_law_take", none), "_law_take", "_law_take", defArgs s_l_law_take, defBody s_l_law_take, defScope s_l_law_take, [], []⟩
abbrev s_l_law_names : Stmt := (top0 24)
def d_l_law_names : He.DefD := ⟨("_law_names", none), "_law_names", "_law_names", defArgs s_l_law_names, defBody s_l_law_names, defScope s_l_law_names, [], []⟩
abbrev s_l_law_pick : Stmt := (top0 25)
def d_l_law_pick : He.DefD := ⟨("_law_pick", none), "_law_pick", "_law_pick", defArgs s_l_law_pick, defBody s_l_law_pick, defScope s_l_law_pick, [], []⟩
abbrev s_l_law_near : Stmt := (top0 27)
def d_l_law_near : He.DefD := ⟨("_law_near", none), "_law_near", "_law_near", defArgs s_l_law_near, defBody s_l_law_near, defScope s_l_law_near, [], []⟩
abbrev s_l_law_parts : Stmt := (top0 26)
def d_l_law_parts : He.DefD := ⟨("_law_parts", none), "_law_parts", "_law_parts", defArgs s_l_law_parts, defBody s_l_law_parts, defScope s_l_law_parts, [], []⟩
abbrev s_l_law_shape : Stmt := (top0 30)
def d_l_law_shape : He.DefD := ⟨("_law_shape", none), "_law_shape", "_law_shape", defArgs s_l_law_shape, defBody s_l_law_shape, defScope s_l_law_shape, [], []⟩
abbrev s_l_law_is_name : Stmt := (top0 31)
def d_l_law_is_name : He.DefD := ⟨("_law_is_name", none), "_law_is_name", "_law_is_name", defArgs s_l_law_is_name, defBody s_l_law_is_name, defScope s_l_law_is_name, [], []⟩
abbrev s_l_law_read : Stmt := (top0 32)
def d_l_law_read : He.DefD := ⟨("_law_read", none), "_law_read", "_law_read", defArgs s_l_law_read, defBody s_l_law_read, defScope s_l_law_read, [], []⟩
abbrev s_l_law_caught : Stmt := (top0 33)
def d_l_law_caught : He.DefD := ⟨("_law_caught", none), "_law_caught", "_law_caught", defArgs s_l_law_caught, defBody s_l_law_caught, defScope s_l_law_caught, [], []⟩
abbrev s_l_law_right : Stmt := (top0 34)
def d_l_law_right : He.DefD := ⟨("_law_right", none), "_law_right", "_law_right", defArgs s_l_law_right, defBody s_l_law_right, defScope s_l_law_right, [], []⟩
abbrev s_l_law_spoilt : Stmt := (top0 35)
def d_l_law_spoilt : He.DefD := ⟨("_law_spoilt", none), "_law_spoilt", "_law_spoilt", defArgs s_l_law_spoilt, defBody s_l_law_spoilt, defScope s_l_law_spoilt, [], []⟩
abbrev s_law : Stmt := (top0 36)
def d_law : He.DefD := ⟨("law", none), "law", "law", defArgs s_law, defBody s_law, defScope s_law, [], []⟩
abbrev Fun_is_name (K : PySem.W.Frag) (fd : FuncData) : Prop := FunD K d_is_name.name d_is_name.qual d_is_name.params d_is_name.body d_is_name.scope (d_is_name.dvs K) (d_is_name.kws K) (He.fAd K d_is_name.at_) fd
theorem bind_is_name {K : PySem.W.Frag} {fd : FuncData} (F : Fun_is_name K fd) : Binds K fd ["value"] [] := FunD.bindsN F fun _ _ _ _ _ _ us hl => match us, hl with | [_], _ => rfl
abbrev Fun_is_list (K : PySem.W.Frag) (fd : FuncData) : Prop := FunD K d_is_list.name d_is_list.qual d_is_list.params d_is_list.body d_is_list.scope (d_is_list.dvs K) (d_is_list.kws K) (He.fAd K d_is_list.at_) fd
theorem bind_is_list {K : PySem.W.Frag} {fd : FuncData} (F : Fun_is_list K fd) : Binds K fd ["value"] [] := FunD.bindsN F fun _ _ _ _ _ _ us hl => match us, hl with | [_], _ => rfl
abbrev Fun_InvalidText_D_init_D (K : PySem.W.Frag) (fd : FuncData) : Prop := FunD K d_InvalidText_D_init_D.name d_InvalidText_D_init_D.qual d_InvalidText_D_init_D.params d_InvalidText_D_init_D.body d_InvalidText_D_init_D.scope (d_InvalidText_D_init_D.dvs K) (d_InvalidText_D_init_D.kws K) (He.fAd K d_InvalidText_D_init_D.at_) fd
theorem bind_InvalidText_D_init_D {K : PySem.W.Frag} {fd : FuncData} (F : Fun_InvalidText_D_init_D K fd) : Binds K fd ["self", "value"] [] := FunD.bindsN F fun _ _ _ _ _ _ us hl => match us, hl with | [_, _], _ => rfl
abbrev Fun_Shape_D_init_D (K : PySem.W.Frag) (fd : FuncData) : Prop := FunD K d_Shape_D_init_D.name d_Shape_D_init_D.qual d_Shape_D_init_D.params d_Shape_D_init_D.body d_Shape_D_init_D.scope (d_Shape_D_init_D.dvs K) (d_Shape_D_init_D.kws K) (He.fAd K d_Shape_D_init_D.at_) fd
theorem bind_Shape_D_init_D {K : PySem.W.Frag} {fd : FuncData} (F : Fun_Shape_D_init_D K fd) : Binds K fd ["self", "fixed", "span"] [] := binds_all F (fun z => nomatch z) fun _ _ _ _ _ _ _ us its h1 h2 => match us, its, h1, h2 with | [x0, x1, x2], [y0], _, _ => ⟨_, rfl, rfl⟩
theorem bindD1_Shape_D_init_D {K : PySem.W.Frag} {fd : FuncData} (F : Fun_Shape_D_init_D K fd) : ∃ us, Vals [V.non] us ∧ Binds K fd ["self", "fixed", "span"] us := binds_fill F 2 0 (fun z => nomatch z) rfl rfl fun _ _ _ _ _ _ _ us its h1 h2 => match us, its, h1, h2 with | [x0, x1], [y0], _, _ => ⟨_, rfl, rfl⟩
abbrev Fun_Shape_D_eq_D (K : PySem.W.Frag) (fd : FuncData) : Prop := FunD K d_Shape_D_eq_D.name d_Shape_D_eq_D.qual d_Shape_D_eq_D.params d_Shape_D_eq_D.body d_Shape_D_eq_D.scope (d_Shape_D_eq_D.dvs K) (d_Shape_D_eq_D.kws K) (He.fAd K d_Shape_D_eq_D.at_) fd
theorem bind_Shape_D_eq_D {K : PySem.W.Frag} {fd : FuncData} (F : Fun_Shape_D_eq_D K fd) : Binds K fd ["self", "other"] [] := FunD.bindsN F fun _ _ _ _ _ _ us hl => match us, hl with | [_, _], _ => rfl
abbrev Fun_Shape_D_str_D (K : PySem.W.Frag) (fd : FuncData) : Prop := FunD K d_Shape_D_str_D.name d_Shape_D_str_D.qual d_Shape_D_str_D.params d_Shape_D_str_D.body d_Shape_D_str_D.scope (d_Shape_D_str_D.dvs K) (d_Shape_D_str_D.kws K) (He.fAd K d_Shape_D_str_D.at_) fd
theorem bind_Shape_D_str_D {K : PySem.W.Frag} {fd : FuncData} (F : Fun_Shape_D_str_D K fd) : Binds K fd ["self"] [] := FunD.bindsN F fun _ _ _ _ _ _ us hl => match us, hl with | [_], _ => rfl
abbrev Fun_Shape_D_repr_D (K : PySem.W.Frag) (fd : FuncData) : Prop := FunD K d_Shape_D_repr_D.name d_Shape_D_repr_D.qual d_Shape_D_repr_D.params d_Shape_D_repr_D.body d_Shape_D_repr_D.scope (d_Shape_D_repr_D.dvs K) (d_Shape_D_repr_D.kws K) (He.fAd K d_Shape_D_repr_D.at_) fd
theorem bind_Shape_D_repr_D {K : PySem.W.Frag} {fd : FuncData} (F : Fun_Shape_D_repr_D K fd) : Binds K fd ["self"] [] := FunD.bindsN F fun _ _ _ _ _ _ us hl => match us, hl with | [_], _ => rfl
abbrev Fun_parse_shape (K : PySem.W.Frag) (fd : FuncData) : Prop := FunD K d_parse_shape.name d_parse_shape.qual d_parse_shape.params d_parse_shape.body d_parse_shape.scope (d_parse_shape.dvs K) (d_parse_shape.kws K) (He.fAd K d_parse_shape.at_) fd
theorem bind_parse_shape {K : PySem.W.Frag} {fd : FuncData} (F : Fun_parse_shape K fd) : Binds K fd ["text"] [] := FunD.bindsN F fun _ _ _ _ _ _ us hl => match us, hl with | [_], _ => rfl
abbrev Fun_l_law_cell (K : PySem.W.Frag) (fd : FuncData) : Prop := FunD K d_l_law_cell.name d_l_law_cell.qual d_l_law_cell.params d_l_law_cell.body d_l_law_cell.scope (d_l_law_cell.dvs K) (d_l_law_cell.kws K) (He.fAd K d_l_law_cell.at_) fd
theorem bind_l_law_cell {K : PySem.W.Frag} {fd : FuncData} (F : Fun_l_law_cell K fd) : Binds K fd ["_law_script", "_law_index"] [] := FunD.bindsN F fun _ _ _ _ _ _ us hl => match us, hl with | [_, _], _ => rfl
abbrev Fun_l_law_bag (K : PySem.W.Frag) (fd : FuncData) : Prop := FunD K d_l_law_bag.name d_l_law_bag.qual d_l_law_bag.params d_l_law_bag.body d_l_law_bag.scope (d_l_law_bag.dvs K) (d_l_law_bag.kws K) (He.fAd K d_l_law_bag.at_) fd
theorem bind_l_law_bag {K : PySem.W.Frag} {fd : FuncData} (F : Fun_l_law_bag K fd) : Binds K fd ["_law_cell_here"] [] := FunD.bindsN F fun _ _ _ _ _ _ us hl => match us, hl with | [_], _ => rfl
abbrev Fun_l_law_take (K : PySem.W.Frag) (fd : FuncData) : Prop := FunD K d_l_law_take.name d_l_law_take.qual d_l_law_take.params d_l_law_take.body d_l_law_take.scope (d_l_law_take.dvs K) (d_l_law_take.kws K) (He.fAd K d_l_law_take.at_) fd
theorem bind_l_law_take {K : PySem.W.Frag} {fd : FuncData} (F : Fun_l_law_take K fd) : Binds K fd ["_law_bag_here", "_law_many"] [] := FunD.bindsN F fun _ _ _ _ _ _ us hl => match us, hl with | [_, _], _ => rfl
abbrev Fun_l_law_names (K : PySem.W.Frag) (fd : FuncData) : Prop := FunD K d_l_law_names.name d_l_law_names.qual d_l_law_names.params d_l_law_names.body d_l_law_names.scope (d_l_law_names.dvs K) (d_l_law_names.kws K) (He.fAd K d_l_law_names.at_) fd
theorem bind_l_law_names {K : PySem.W.Frag} {fd : FuncData} (F : Fun_l_law_names K fd) : Binds K fd ["_law_bag_here", "_law_many"] [] := FunD.bindsN F fun _ _ _ _ _ _ us hl => match us, hl with | [_, _], _ => rfl
abbrev Fun_l_law_pick (K : PySem.W.Frag) (fd : FuncData) : Prop := FunD K d_l_law_pick.name d_l_law_pick.qual d_l_law_pick.params d_l_law_pick.body d_l_law_pick.scope (d_l_law_pick.dvs K) (d_l_law_pick.kws K) (He.fAd K d_l_law_pick.at_) fd
theorem bind_l_law_pick {K : PySem.W.Frag} {fd : FuncData} (F : Fun_l_law_pick K fd) : Binds K fd ["_law_bag_here", "_law_many", "_law_most"] [] := FunD.bindsN F fun _ _ _ _ _ _ us hl => match us, hl with | [_, _, _], _ => rfl
abbrev Fun_l_law_near (K : PySem.W.Frag) (fd : FuncData) : Prop := FunD K d_l_law_near.name d_l_law_near.qual d_l_law_near.params d_l_law_near.body d_l_law_near.scope (d_l_law_near.dvs K) (d_l_law_near.kws K) (He.fAd K d_l_law_near.at_) fd
theorem bind_l_law_near {K : PySem.W.Frag} {fd : FuncData} (F : Fun_l_law_near K fd) : Binds K fd ["_law_bag_here", "_law_many", "_law_part"] [] := FunD.bindsN F fun _ _ _ _ _ _ us hl => match us, hl with | [_, _, _], _ => rfl
abbrev Fun_l_law_parts (K : PySem.W.Frag) (fd : FuncData) : Prop := FunD K d_l_law_parts.name d_l_law_parts.qual d_l_law_parts.params d_l_law_parts.body d_l_law_parts.scope (d_l_law_parts.dvs K) (d_l_law_parts.kws K) (He.fAd K d_l_law_parts.at_) fd
theorem bind_l_law_parts {K : PySem.W.Frag} {fd : FuncData} (F : Fun_l_law_parts K fd) : Binds K fd ["_law_bag_here", "_law_many", "_law_most"] [] := FunD.bindsN F fun _ _ _ _ _ _ us hl => match us, hl with | [_, _, _], _ => rfl
abbrev Fun_l_law_shape (K : PySem.W.Frag) (fd : FuncData) : Prop := FunD K d_l_law_shape.name d_l_law_shape.qual d_l_law_shape.params d_l_law_shape.body d_l_law_shape.scope (d_l_law_shape.dvs K) (d_l_law_shape.kws K) (He.fAd K d_l_law_shape.at_) fd
theorem bind_l_law_shape {K : PySem.W.Frag} {fd : FuncData} (F : Fun_l_law_shape K fd) : Binds K fd ["_law_bag_here", "_law_names_here", "_law_part"] [] := FunD.bindsN F fun _ _ _ _ _ _ us hl => match us, hl with | [_, _, _], _ => rfl
abbrev Fun_l_law_is_name (K : PySem.W.Frag) (fd : FuncData) : Prop := FunD K d_l_law_is_name.name d_l_law_is_name.qual d_l_law_is_name.params d_l_law_is_name.body d_l_law_is_name.scope (d_l_law_is_name.dvs K) (d_l_law_is_name.kws K) (He.fAd K d_l_law_is_name.at_) fd
theorem bind_l_law_is_name {K : PySem.W.Frag} {fd : FuncData} (F : Fun_l_law_is_name K fd) : Binds K fd ["_law_value"] [] := FunD.bindsN F fun _ _ _ _ _ _ us hl => match us, hl with | [_], _ => rfl
abbrev Fun_l_law_read (K : PySem.W.Frag) (fd : FuncData) : Prop := FunD K d_l_law_read.name d_l_law_read.qual d_l_law_read.params d_l_law_read.body d_l_law_read.scope (d_l_law_read.dvs K) (d_l_law_read.kws K) (He.fAd K d_l_law_read.at_) fd
theorem bind_l_law_read {K : PySem.W.Frag} {fd : FuncData} (F : Fun_l_law_read K fd) : Binds K fd ["_law_text"] [] := FunD.bindsN F fun _ _ _ _ _ _ us hl => match us, hl with | [_], _ => rfl
abbrev Fun_l_law_caught (K : PySem.W.Frag) (fd : FuncData) : Prop := FunD K d_l_law_caught.name d_l_law_caught.qual d_l_law_caught.params d_l_law_caught.body d_l_law_caught.scope (d_l_law_caught.dvs K) (d_l_law_caught.kws K) (He.fAd K d_l_law_caught.at_) fd
theorem bind_l_law_caught {K : PySem.W.Frag} {fd : FuncData} (F : Fun_l_law_caught K fd) : Binds K fd ["_law_text"] [] := FunD.bindsN F fun _ _ _ _ _ _ us hl => match us, hl with | [_], _ => rfl
abbrev Fun_l_law_right (K : PySem.W.Frag) (fd : FuncData) : Prop := FunD K d_l_law_right.name d_l_law_right.qual d_l_law_right.params d_l_law_right.body d_l_law_right.scope (d_l_law_right.dvs K) (d_l_law_right.kws K) (He.fAd K d_l_law_right.at_) fd
theorem bind_l_law_right {K : PySem.W.Frag} {fd : FuncData} (F : Fun_l_law_right K fd) : Binds K fd ["_law_text"] [] := FunD.bindsN F fun _ _ _ _ _ _ us hl => match us, hl with | [_], _ => rfl
abbrev Fun_l_law_spoilt (K : PySem.W.Frag) (fd : FuncData) : Prop := FunD K d_l_law_spoilt.name d_l_law_spoilt.qual d_l_law_spoilt.params d_l_law_spoilt.body d_l_law_spoilt.scope (d_l_law_spoilt.dvs K) (d_l_law_spoilt.kws K) (He.fAd K d_l_law_spoilt.at_) fd
theorem bind_l_law_spoilt {K : PySem.W.Frag} {fd : FuncData} (F : Fun_l_law_spoilt K fd) : Binds K fd ["_law_bag_here", "_law_names_here", "_law_text"] [] := FunD.bindsN F fun _ _ _ _ _ _ us hl => match us, hl with | [_, _, _], _ => rfl
abbrev Fun_law (K : PySem.W.Frag) (fd : FuncData) : Prop := FunD K d_law.name d_law.qual d_law.params d_law.body d_law.scope (d_law.dvs K) (d_law.kws K) (He.fAd K d_law.at_) fd
def defs0 : List DA := [⟨fun K => (He.fAd K d_is_name.at_), d_is_name⟩, ⟨fun K => (He.fAd K d_is_list.at_), d_is_list⟩, ⟨fun K => (He.fAd K d_InvalidText_D_init_D.at_), d_InvalidText_D_init_D⟩, ⟨fun K => (He.fAd K d_Shape_D_init_D.at_), d_Shape_D_init_D⟩, ⟨fun K => (He.fAd K d_Shape_D_eq_D.at_), d_Shape_D_eq_D⟩, ⟨fun K => (He.fAd K d_Shape_D_str_D.at_), d_Shape_D_str_D⟩, ⟨fun K => (He.fAd K d_Shape_D_repr_D.at_), d_Shape_D_repr_D⟩, ⟨fun K => (He.fAd K d_parse_shape.at_), d_parse_shape⟩, ⟨fun K => (He.fAd K d_l_law_cell.at_), d_l_law_cell⟩, ⟨fun K => (He.fAd K d_l_law_bag.at_), d_l_law_bag⟩, ⟨fun K => (He.fAd K d_l_law_take.at_), d_l_law_take⟩, ⟨fun K => (He.fAd K d_l_law_names.at_), d_l_law_names⟩, ⟨fun K => (He.fAd K d_l_law_pick.at_), d_l_law_pick⟩, ⟨fun K => (He.fAd K d_l_law_near.at_), d_l_law_near⟩, ⟨fun K => (He.fAd K d_l_law_parts.at_), d_l_law_parts⟩, ⟨fun K => (He.fAd K d_l_law_shape.at_), d_l_law_shape⟩, ⟨fun K => (He.fAd K d_l_law_is_name.at_), d_l_law_is_name⟩, ⟨fun K => (He.fAd K d_l_law_read.at_), d_l_law_read⟩, ⟨fun K => (He.fAd K d_l_law_caught.at_), d_l_law_caught⟩, ⟨fun K => (He.fAd K d_l_law_right.at_), d_l_law_right⟩, ⟨fun K => (He.fAd K d_l_law_spoilt.at_), d_l_law_spoilt⟩, ⟨fun K => (He.fAd K d_law.at_), d_law⟩]
def looks0 : SL.Looks := [fun K => (He.Fa.mkr "Shape").ok K,
  fun K => (He.Fa.glo "Shape").ok K,
  fun K => (He.Fa.free "any").ok K,
  fun K => (He.Fa.free "sorted").ok K,
  fun K => SL.initB K (He.ga K "InvalidText"),
  fun K => SL.oexB K (He.ga K "InvalidText"),
  fun K => (He.Fa.glo "InvalidText").ok K,
  fun K => (He.Fa.free "len").ok K,
  fun K => (He.Fa.int "MAX_COLUMNS" (5)).ok K,
  fun K => (He.Fa.free "all").ok K,
  fun K => (He.Fa.glo "is_name").ok K,
  fun K => SL.baseB K (He.ga K "SearchError"),
  fun K => (He.Fa.glo "SearchError").ok K,
  fun K => (He.Fa.str "LETTERS" "abcdefghijklmnopqrstuvwxyz").ok K,
  fun K => (He.Fa.int "LONGEST_NAME" (8)).ok K,
  fun K => (He.Fa.free "isinstance").ok K,
  fun K => (He.Fa.free "str").ok K,
  fun K => tabB K (.ty "str") (tabK KS (.ty "str")),
  fun K => (He.Fa.free "tuple").ok K,
  fun K => (He.Fa.free "list").ok K,
  fun K => tabBT K [.ty "list", .ty "tuple"] (tabKT KS [.ty "list", .ty "tuple"]),
  fun K => ownB K "Shape",
  fun K => (He.Fa.noat "Shape" "span_column").ok K,
  fun K => (He.Fa.noat "Shape" "fixed_columns").ok K,
  fun K => (He.Fa.free "enumerate").ok K,
  fun K => (He.Fa.glo "is_list").ok K,
  fun K => tabB K (.own "Shape") (tabK KS (.own "Shape")),
  fun K => (He.Fa.str "NOTHING" "-").ok K,
  fun K => (He.Fa.free "max").ok K,
  fun K => (He.Fa.glo "_law_take").ok K,
  fun K => (He.Fa.free "range").ok K,
  fun K => (He.Fa.free "min").ok K,
  fun K => (He.Fa.glo "_law_near").ok K,
  fun K => (He.Fa.glo "_law_pick").ok K,
  fun K => (He.Fa.free "set").ok K,
  fun K => (He.Fa.glo "_law_is_name").ok K,
  fun K => (He.Fa.glo "parse_shape").ok K,
  fun K => xfB K (He.ga K "InvalidText"),
  fun K => decide (PySem.W.findIn K (.ref (He.ga K "InvalidText")) "value" = some none),
  fun K => exmB K ["InvalidText"] "InvalidText",
  fun K => specB K "Shape" "__str__",
  fun K => specB K "Shape" "__eq__",
  fun K => (He.Fa.glo "_law_caught").ok K,
  fun K => (He.Fa.glo "_law_read").ok K,
  fun K => (He.Fa.glo "_law_right").ok K,
  fun K => (He.Fa.free "repr").ok K,
  fun K => specB K "Shape" "__repr__",
  fun K => tabB K (.ty "list") (tabK KS (.ty "list")),
  fun K => (He.Fa.glo "_law_parts").ok K,
  fun K => (He.Fa.glo "_law_spoilt").ok K,
  fun K => (He.Fa.glo "_law_shape").ok K,
  fun K => (He.Fa.glo "_law_names").ok K,
  fun K => (He.Fa.glo "_law_bag").ok K,
  fun K => (He.Fa.glo "_law_cell").ok K,
  fun K => (He.Fa.glo "law").ok K]
abbrev loose0 : List Str := "_wall" :: "__name__" :: "SearchError" :: "MissingError" :: "StateError" :: "InvalidName" :: "InvalidText" :: "InvalidColumns" :: "DuplicateName" :: "TooMany" :: "LETTERS" :: "LONGEST_NAME" :: "is_name" :: "is_list" :: "MAX_COLUMNS" :: "NOTHING" :: "Shape" :: "parse_shape" :: "_law_cell" :: "_law_bag" :: "_law_take" :: "_law_names" :: "_law_pick" :: "_law_parts" :: "_law_near" :: "_law_whole" :: "_law_below" :: "_law_shape" :: "_law_is_name" :: "_law_read" :: "_law_caught" :: "_law_right" :: "_law_spoilt" :: []
abbrev R0 : PySem.W.OpenRow := PySem.W.OpenLaw.row PySem.Challenge.rw_searchorders_k09_texts_of_shapes
abbrev hk0 : PySem.W.Hook := CM.hookA 6 looks0 defs0
def ob0 (s : PySem.W.SharedT) : CM.AlA := CM.obsAG 6 looks0 defs0 (HandSHeadRun.getT s)
theorem ob_eq0 (s : PySem.W.SharedT) : ob0 s = hk0.obs s.abs := CM.obsAG_eq (HandSHeadRun.getT_eq s)
theorem run0 (w : World) : HandSHeadRun.RunEq R0 (PySem.W.view R0.prog [36]) hk0 ob0 12000 loose0 w := by
  intro os
  kernel_rfl
end K09
namespace CP
open PySem PySem.Spec PyProof.Rows L2 SL CM
noncomputable def b_is_name (ks : List Kd) (rz : Bool) : MS := (sSeq (sIf (mOr (mNot (mTru (mCB (dIsi (.ty "str") (tabK ks (.ty "str"))) (mCons (mVar 0) (mCons (mC (.ty "str")) mNil))))) (mNot (mTest (mChain dLt dLe (mC (.int 0)) (mCB dLen (mCons (mVar 0) mNil)) (mC (.int (8))))))) (sRet (mC (.bl false))) sNext)
    (sRet (mCB dAll (mCons (mLc (mIU (mVar 0)) (gSetC 1) mYes (mOp dIn (mVar 1) (mC (.str "abcdefghijklmnopqrstuvwxyz"))) [1]) mNil))))
noncomputable def m_is_name (ks : List Kd) (rz : Bool) : Fnm := fnM false 1 1 (b_is_name ks rz)
noncomputable def b_is_list (ks : List Kd) (rz : Bool) : MS := (sRet (mCB (dIsiT [.ty "list", .ty "tuple"] (tabKT ks [.ty "list", .ty "tuple"])) (mCons (mVar 0) (mCons (mTup (mCons (mC (.ty "list")) (mCons (mC (.ty "tuple")) mNil))) mNil))))
noncomputable def m_is_list (ks : List Kd) (rz : Bool) : Fnm := fnM false 1 0 (b_is_list ks rz)
noncomputable def b_Shape_D_init_D (ks : List Kd) (rz : Bool) : MS := (sSeq (sIf (mOr (mNot (mTru (callN (m_is_list ks rz) (mCons (mFr (mVar 1)) mNil)))) (mTest (mOp dGt (mCB dLen (mCons (mVar 1) mNil)) (mC (.int (5)))))) (sRz rz (sRaise "InvalidColumns" ["value"] (mCons (mFr (mVar 1)) mNil))) sNext)
    (sSeq (sFor (mEnum (mCons (mVar 1) mNil)) (gTupM 2 (gsCons (gSetC 3) (gsCons (gSetC 4) gsNil))) (sSeq (sIf (mNot (mTru (callN (m_is_name ks rz) (mCons (mFr (mVar 4)) mNil)))) (sRz rz (sRaise "InvalidName" ["value"] (mCons (mFr (mVar 4)) mNil))) sNext)
    (sIf (mTest (mOp dIn (mVar 4) (mSl (mVar 1) mNoPart (mPart (mVar 3))))) (sRz rz (sRaise "DuplicateName" ["name"] (mCons (mFr (mVar 4)) mNil))) sNext)))
    (sSeq (sIf (mAnd (mTest (mOp dIsnt (mVar 2) (mC .non))) (mNot (mTru (callN (m_is_name ks rz) (mCons (mFr (mVar 2)) mNil))))) (sRz rz (sRaise "InvalidName" ["value"] (mCons (mFr (mVar 2)) mNil))) sNext)
    (sSeq (sIf (mTest (mOp dIn (mVar 2) (mVar 1))) (sRz rz (sRaise "DuplicateName" ["name"] (mCons (mFr (mVar 2)) mNil))) sNext)
    (sSeq (sIf (mAnd (mTest (mOp dIsnt (mVar 2) (mC .non))) (mTest (mOp dEq (mCB dLen (mCons (mVar 1) mNil)) (mC (.int (5)))))) (sRz rz (sRaise "TooMany" ["count"] (mCons (mFr (mOp dAdd (mC (.int (5))) (mC (.int 1)))) mNil))) sNext)
    (sSeq (sFldM "Shape" "fixed_columns" (mVar 0) (mCB dSrt (mCons (mVar 1) mNil)))
    (sFldM "Shape" "span_column" (mVar 0) (mVar 2))))))))
noncomputable def m_Shape_D_init_D (ks : List Kd) (rz : Bool) : Fnm := fnM false 3 2 (b_Shape_D_init_D ks rz)
noncomputable def b_Shape_D_eq_D (ks : List Kd) (rz : Bool) : MS := (sSeq (sIf (mNot (mTru (mCB (dIsi (.own "Shape") (tabK ks (.own "Shape"))) (mCons (mVar 1) (mCons (mC (.glo "Shape")) mNil))))) (sRet (mC (.bl false))) sNext)
    (sRet (mAndV (mOp dEq (mFld "Shape" "fixed_columns" (mVar 0)) (mFld "Shape" "fixed_columns" (mVar 1))) (mOp dEq (mFld "Shape" "span_column" (mVar 0)) (mFld "Shape" "span_column" (mVar 1))))))
noncomputable def m_Shape_D_eq_D (ks : List Kd) (rz : Bool) : Fnm := fnM false 2 0 (b_Shape_D_eq_D ks rz)
noncomputable def b_Shape_D_str_D (ks : List Kd) (rz : Bool) : MS := (sSeq (sAsg (mIf (mTest (mOp dNe (mFld "Shape" "fixed_columns" (mVar 0)) (mLst mNil))) (mBS fJoin (mC (.str "+")) (mCons (mFld "Shape" "fixed_columns" (mVar 0)) mNil)) (mC (.str "-"))) (gSetC 1))
    (sSeq (sAsg (mIf (mTest (mOp dIs (mFld "Shape" "span_column" (mVar 0)) (mC .non))) (mC (.str "")) (mJs [(mC (.str ":")), (mFmt (mFld "Shape" "span_column" (mVar 0)))] Str.empty)) (gSetC 2))
    (sRet (mJs [(mFmt (mVar 1)), (mFmt (mVar 2))] Str.empty))))
noncomputable def m_Shape_D_str_D (ks : List Kd) (rz : Bool) : Fnm := fnM false 1 2 (b_Shape_D_str_D ks rz)
noncomputable def b_Shape_D_repr_D (ks : List Kd) (rz : Bool) : MS := (sRet (mJs [(mC (.str "Shape(")), (mCB dRepr (mCons (mFld "Shape" "fixed_columns" (mVar 0)) mNil)), (mC (.str ", ")), (mCB dRepr (mCons (mFld "Shape" "span_column" (mVar 0)) mNil)), (mC (.str ")"))] Str.empty))
noncomputable def m_Shape_D_repr_D (ks : List Kd) (rz : Bool) : Fnm := fnM false 1 0 (b_Shape_D_repr_D ks rz)
end CP
namespace CM
open PySem PySem.Spec PyProof.Rows L2 SL
abbrev Ps (α : Type) := α → List Sl → Tb → Prop
abbrev Px := Str → List (Str × D) → List Sl → Tb → Prop
def okR {α : Type} (P : Ps α) (X : Px) : R α → Prop
  | .ok w ρ h => P w ρ h
  | .ex C fs ρ h => X C fs ρ h
def okE {α : Type} (x : Option (R α)) (P : Ps α) (X : Px) : Prop := ∃ r, x = some r ∧ okR P X r
def okG (x : Option Fr2) (N : List Sl → Tb → Prop) : Prop := ∃ y, x = some y ∧ N y.1 y.2
def okW {α : Type} (x : Option α) (P : α → Prop) : Prop := ∃ w, x = some w ∧ P w
def okO (N : List Sl → Tb → Prop) (T : Ps W) (L : Bool → List Sl → Tb → Prop) (X : Px) : Out → Prop
  | .nx ρ h => N ρ h
  | .rt w ρ h => T w ρ h
  | .ct ρ h => L false ρ h
  | .bk ρ h => L true ρ h
  | .ex C fs ρ h => X C fs ρ h
def okS (x : Option Out) (N : List Sl → Tb → Prop) (T : Ps W) (L : Bool → List Sl → Tb → Prop) (X : Px) : Prop := ∃ o, x = some o ∧ okO N T L X o
def okFR (P : W → Tb → Prop) (X : Str → List (Str × D) → Tb → Prop) : FR → Prop
  | .rt w h => P w h
  | .ex C fs h => X C fs h
def okF (x : Option FR) (P : W → Tb → Prop) (X : Str → List (Str × D) → Tb → Prop) : Prop := ∃ r, x = some r ∧ okFR P X r
def noX : Str → List (Str × D) → Tb → Prop := fun _ _ _ => False
def nox : Px := fun _ _ _ _ => False
section
variable {α β : Type} {ρ ρ' : List Sl} {h h' : Tb} {P P' : Ps W} {N N' : List Sl → Tb → Prop} {T T' : Ps W} {L L' : Bool → List Sl → Tb → Prop} {X X' : Px} {a b e : Mo W} {es : Mo (List W)} {c c' : Mo Bool} {m m' body : MS} {g : Tg} {f : D → D → Option W} {fl : List D → Option W} {w : W} {d : D} {ds as : List D} {i j n k : Nat} {keep : Bool}
theorem okE_eq {x : Option (R α)} {P : Ps α} {w : α} (e : x = some (.ok w ρ h)) (p : P w ρ h) : okE x P X := ⟨_, e, p⟩
theorem okW_eq {x : Option α} {P : α → Prop} {w : α} (e : x = some w) (p : P w) : okW x P := ⟨w, e, p⟩
theorem okE.mono {x : Option (R α)} {P P' : Ps α} (q : okE x P X) (i : ∀ w ρ h, P w ρ h → P' w ρ h) : okE x P' X := by
  obtain ⟨r, e, p⟩ := q
  refine ⟨r, e, ?_⟩
  cases r with
  | ok w ρ h => exact i _ _ _ p
  | ex C fs ρ h => exact p
theorem okF.mono {x : Option FR} {P P' : W → Tb → Prop} {X : Str → List (Str × D) → Tb → Prop} (q : okF x P X) (i : ∀ w h, P w h → P' w h) : okF x P' X := by
  obtain ⟨r, e, p⟩ := q
  refine ⟨r, e, ?_⟩
  cases r with
  | rt w h => exact i _ _ p
  | ex C fs h => exact p
theorem okF.rt {x : Option FR} {P : W → Tb → Prop} (q : okF x P noX) : ∃ w h, x = some (.rt w h) ∧ P w h := by
  obtain ⟨r, e, p⟩ := q
  cases r with
  | rt w h => exact ⟨w, h, e, p⟩
  | ex C fs h => exact p.elim
theorem okS.mono {x : Option Out} (q : okS x N T L X) (hN : ∀ ρ h, N ρ h → N' ρ h) (hT : ∀ w ρ h, T w ρ h → T' w ρ h) (hL : ∀ b ρ h, L b ρ h → L' b ρ h) (hX : ∀ C fs ρ h, X C fs ρ h → X' C fs ρ h) : okS x N' T' L' X' := by
  obtain ⟨o, e, p⟩ := q
  refine ⟨o, e, ?_⟩
  cases o with
  | nx ρ h => exact hN _ _ p
  | rt w ρ h => exact hT _ _ _ p
  | ct ρ h => exact hL _ _ _ p
  | bk ρ h => exact hL _ _ _ p
  | ex C fs ρ h => exact hX _ _ _ _ p
theorem okE_bind {x : Option (R α)} {f : α → List Sl → Tb → Option (R β)} {P : Ps β} (q : okE x (fun w ρ h => okE (f w ρ h) P X) X) : okE (bindR x f) P X := by
  obtain ⟨r, e, p⟩ := q
  rw [e]
  cases r with
  | ok w ρ h => exact p
  | ex C fs ρ h => exact ⟨_, rfl, p⟩
theorem okE_opt {x : Option α} {f : α → Option (R β)} {P : Ps β} (q : okW x fun w => okE (f w) P X) : okE (x.bind f) P X := by
  obtain ⟨w, e, p⟩ := q
  rw [e]
  exact p
theorem okE_map {x : Option α} {f : α → R β} {P : Ps β} (q : okW x fun w => okE (some (f w)) P X) : okE (x.map f) P X := by
  obtain ⟨w, e, p⟩ := q
  rw [e]
  exact p
theorem okE_some {w : α} {P : Ps α} (p : P w ρ h) : okE (some (.ok w ρ h)) P X := ⟨_, rfl, p⟩
theorem okS_bind {x : Option (R α)} {f : α → List Sl → Tb → Option Out} (q : okE x (fun w ρ h => okS (f w ρ h) N T L X) X) : okS (bindS x f) N T L X := by
  obtain ⟨r, e, p⟩ := q
  rw [e]
  cases r with
  | ok w ρ h => exact p
  | ex C fs ρ h => exact ⟨_, rfl, p⟩
theorem okS_opt {x : Option α} {f : α → Option Out} (q : okW x fun w => okS (f w) N T L X) : okS (x.bind f) N T L X := by
  obtain ⟨w, e, p⟩ := q
  rw [e]
  exact p
theorem okS_seq (q : okS (m ρ h) (fun ρ h => okS (m' ρ h) N T L X) T L X) : okS (sSeq m m' ρ h) N T L X := by
  obtain ⟨o, e, p⟩ := q
  unfold sSeq
  rw [e]
  cases o with
  | nx ρ h => exact p
  | rt w ρ h => exact ⟨_, rfl, p⟩
  | ct ρ h => exact ⟨_, rfl, p⟩
  | bk ρ h => exact ⟨_, rfl, p⟩
  | ex C fs ρ h => exact ⟨_, rfl, p⟩
theorem okS_seqM (I : List Sl → Tb → Prop) (h1 : okS (m ρ h) I T L X) (h2 : ∀ ρ h, I ρ h → okS (m' ρ h) N T L X) : okS (sSeq m m' ρ h) N T L X := okS_seq (h1.mono h2 (fun _ _ _ h => h) (fun _ _ _ h => h) fun _ _ _ _ h => h)
theorem okS_next (q : N ρ h) : okS (sNext ρ h) N T L X := ⟨_, rfl, q⟩
theorem okS_asg (q : okE (e ρ h) (fun w ρ h => okG (g w ρ h) N) X) : okS (sAsg e g ρ h) N T L X := okS_bind (q.mono fun _ _ _ q => by
  obtain ⟨y, e, p⟩ := q
  rw [e]
  exact ⟨_, rfl, p⟩)
theorem okS_ret (q : okE (e ρ h) T X) : okS (sRet e ρ h) N T L X := okS_bind (q.mono fun _ _ _ q => ⟨_, rfl, q⟩)
theorem okS_retN (q : T (.cl .non) ρ h) : okS (sRetN ρ h) N T L X := ⟨_, rfl, q⟩
theorem okS_drop (q : okE (e ρ h) (fun _ ρ h => N ρ h) X) : okS (sDrop e ρ h) N T L X := okS_bind (q.mono fun _ _ _ q => ⟨_, rfl, q⟩)
theorem okS_cnt (q : L false ρ h) : okS (sCnt ρ h) N T L X := ⟨_, rfl, q⟩
theorem okS_if (q : okE (c ρ h) (fun k ρ h => (k = true → okS (m ρ h) N T L X) ∧ (k = false → okS (m' ρ h) N T L X)) X) : okS (sIf c m m' ρ h) N T L X := okS_bind (q.mono fun k ρ h q => by
  cases k with
  | true => exact q.1 rfl
  | false => exact q.2 rfl)
theorem okS_yes (q : okE (c ρ h) (fun k ρ h => k = true ∧ okS (m ρ h) N T L X) X) : okS (sIf c m m' ρ h) N T L X := okS_bind (q.mono fun k ρ h q => by
  obtain ⟨rfl, q⟩ := q
  exact q)
theorem okS_no (q : okE (c ρ h) (fun k ρ h => k = false ∧ okS (m' ρ h) N T L X) X) : okS (sIf c m m' ρ h) N T L X := okS_bind (q.mono fun k ρ h q => by
  obtain ⟨rfl, q⟩ := q
  exact q)
theorem okS_aug (q : okE (mVar i ρ h) (fun x ρ h => okE (e ρ h) (fun y ρ h => okW (deref h x) fun dx => okW (deref h y) fun dy => okW (f dx dy) fun w => N (ρ.set i (.cl (fzW w))) h) X) X) : okS (sAug f i e ρ h) N T L X :=
  okS_bind (q.mono fun _ _ _ q => okS_bind (q.mono fun _ _ _ q => okS_opt (q.elim fun _ q => ⟨_, q.1, okS_opt (q.2.elim fun _ q => ⟨_, q.1, okS_opt (q.2.elim fun _ q => ⟨_, q.1, _, rfl, q.2⟩)⟩)⟩)))
theorem okS_fg {is : List Nat} (q : okS (m (wipeS is ρ) h) N T L X) : okS (sFg is m ρ h) N T L X := q
theorem okS_par {o1 o2 : Bool} {i j : Nat} (q : okE (es ρ h) (fun ws ρ h => ∃ v w, ws = [v, w] ∧ N (gPut o2 j w (gPut o1 i v ρ h).1 (gPut o1 i v ρ h).2).1 (gPut o2 j w (gPut o1 i v ρ h).1 (gPut o1 i v ρ h).2).2) X) : okS (sPar o1 o2 i j es ρ h) N T L X := okS_bind (q.mono fun ws ρ h q => by
  obtain ⟨v, w, rfl, p⟩ := q
  exact ⟨_, rfl, p⟩)
theorem okS_par3 {o1 o2 o3 : Bool} {i j k : Nat} (q : okE (es ρ h) (fun ws ρ h => ∃ u v w, ws = [u, v, w] ∧ N (gPut o3 k w (gPut o2 j v (gPut o1 i u ρ h).1 (gPut o1 i u ρ h).2).1 (gPut o2 j v (gPut o1 i u ρ h).1 (gPut o1 i u ρ h).2).2).1 (gPut o3 k w (gPut o2 j v (gPut o1 i u ρ h).1 (gPut o1 i u ρ h).2).1 (gPut o2 j v (gPut o1 i u ρ h).1 (gPut o1 i u ρ h).2).2).2) X) : okS (sPar3 o1 o2 o3 i j k es ρ h) N T L X := okS_bind (q.mono fun ws ρ h q => by
  obtain ⟨u, v, w, rfl, p⟩ := q
  exact ⟨_, rfl, p⟩)
/-- a loop, by what holds ahead of each turn -/
theorem okS_loop {ck : List (Nat × D)} (I : Nat → List Sl → Tb → Prop) (hck : ∀ k ρ h, I k ρ h → ckOk ck h) : ∀ (ds : List D) (i : Nat) {ρ : List Sl} {h : Tb}, I i ρ h → (∀ (j : Nat) (d : D) (ρ : List Sl) (h : Tb), ds[j]? = some d → I (i + j) ρ h → okG (g (.cl d) ρ h) fun ρ h => okS (m ρ h) (fun ρ h => I (i + j + 1) ρ h) T (fun b ρ h => if b = true then N ρ h else I (i + j + 1) ρ h) X) → (∀ ρ h, I (i + ds.length) ρ h → N ρ h) → okS (loopS g m ck ds ρ h) N T L X
  | [], i, ρ, h, h0, hs, he => ⟨_, rfl, he ρ h h0⟩
  | d :: ds, i, ρ, h, h0, hs, he => by
    obtain ⟨y, e1, o, e2, p⟩ := hs 0 d ρ h rfl h0
    have ih : ∀ ρ h, I (i + 1) ρ h → okS (loopS g m ck ds ρ h) N T L X := fun ρ h q => okS_loop I hck ds (i + 1) q (fun j d ρ h hj hI => by
      have := hs (j + 1) d ρ h (by simpa using hj) (by rw [show i + (j + 1) = i + 1 + j by omega]; exact hI)
      rw [show i + (j + 1) + 1 = i + 1 + j + 1 by omega] at this
      exact this) (fun ρ h q => he ρ h (by rw [show i + (d :: ds).length = i + 1 + ds.length by simp; omega]; exact q))
    unfold loopS
    rw [e1]
    dsimp only [Option.bind_some]
    rw [e2]
    cases o with
    | nx ρ h =>
      dsimp only
      rw [if_pos (hck _ _ _ p)]
      exact ih _ _ p
    | rt w ρ h => exact ⟨_, rfl, p⟩
    | ct ρ h =>
      have p : I (i + 1) ρ h := by simpa [okO] using p
      dsimp only
      rw [if_pos (hck _ _ _ p)]
      exact ih _ _ p
    | bk ρ h => exact ⟨_, rfl, by simpa [okO] using p⟩
    | ex C fs ρ h => exact ⟨_, rfl, p⟩
/-- a loop over what stays -/
theorem okS_loop0 (I : Nat → List Sl → Tb → Prop) (ds : List D) (i : Nat) {ρ : List Sl} {h : Tb} (h0 : I i ρ h) (hs : ∀ (j : Nat) (d : D) (ρ : List Sl) (h : Tb), ds[j]? = some d → I (i + j) ρ h → okG (g (.cl d) ρ h) fun ρ h => okS (m ρ h) (fun ρ h => I (i + j + 1) ρ h) T (fun b ρ h => if b = true then N ρ h else I (i + j + 1) ρ h) X) (he : ∀ ρ h, I (i + ds.length) ρ h → N ρ h) : okS (loopS g m [] ds ρ h) N T L X :=
  okS_loop I (fun _ _ _ _ x z => absurd z List.not_mem_nil) ds i h0 hs he
theorem okS_for {it : Mo ItM} (q : okE (it ρ h) (fun i ρ h => okS (loopS g m i.ck i.ds ρ h) N T L X) X) : okS (sFor it g m ρ h) N T L X := okS_bind q
theorem okE_op (q : okE (a ρ h) (fun x ρ h => okE (b ρ h) (fun y ρ h => okW (deref h x) fun dx => okW (deref h y) fun dy => okW (f dx dy) fun w => P w ρ h) X) X) : okE (mOp f a b ρ h) P X :=
  okE_bind (q.mono fun _ _ _ q => okE_bind (q.mono fun _ _ _ q => okE_opt (q.elim fun _ q => ⟨_, q.1, okE_opt (q.2.elim fun _ q => ⟨_, q.1, okE_map (q.2.elim fun _ q => ⟨_, q.1, okE_some q.2⟩)⟩)⟩)))
theorem okE_un {f : D → Option W} (q : okE (a ρ h) (fun x ρ h => okW (deref h x) fun dx => okW (f dx) fun w => P w ρ h) X) : okE (mUn f a ρ h) P X :=
  okE_bind (q.mono fun _ _ _ q => okE_opt (q.elim fun _ q => ⟨_, q.1, okE_map (q.2.elim fun _ q => ⟨_, q.1, okE_some q.2⟩)⟩))
theorem okE_cb (q : okE (es ρ h) (fun ws ρ h => okW (derefs h ws) fun ds => okW (fl ds) fun w => P w ρ h) X) : okE (mCB fl es ρ h) P X :=
  okE_bind (q.mono fun _ _ _ q => okE_opt (q.elim fun _ q => ⟨_, q.1, okE_map (q.2.elim fun _ q => ⟨_, q.1, okE_some q.2⟩)⟩))
theorem okE_cons {P : Ps (List W)} (q : okE (e ρ h) (fun w ρ h => okE (es ρ h) (fun ws ρ h => P (w :: ws) ρ h) X) X) : okE (mCons e es ρ h) P X :=
  okE_bind (q.mono fun _ _ _ q => okE_bind (q.mono fun _ _ _ q => okE_some q))
theorem okE_nil {P : Ps (List W)} (q : P [] ρ h) : okE (mNil ρ h) P X := okE_some q
theorem okE_tup (q : okE (es ρ h) (fun ws ρ h => ws.length ≤ 100000 ∧ P (.cl (.tup (ws.map fzW))) ρ h) X) : okE (mTup es ρ h) P X :=
  okE_bind (q.mono fun _ _ _ q => by rw [if_pos q.1]; exact okE_some q.2)
theorem okE_lst (q : okE (es ρ h) (fun ws ρ h => ws.length ≤ 100000 ∧ P (.fr (ws.map fzW)) ρ h) X) : okE (mLst es ρ h) P X :=
  okE_bind (q.mono fun _ _ _ q => by rw [if_pos q.1]; exact okE_some q.2)
theorem okE_c (q : P (.cl d) ρ h) : okE (mC d ρ h) P X := ⟨_, rfl, q⟩
theorem okE_var {k : Nat} {d : D} (e : ρ[k]? = some (.cl d)) (q : P (.cl d) ρ h) : okE (mVar k ρ h) P X := ⟨.ok (.cl d) ρ h, by unfold mVar; rw [e], q⟩
theorem okE_ce (q : okE (e ρ h) (fun w ρ h => match w with | .nw c => P (.cl (.ce h.length)) ρ (h ++ [c]) | .cl d => P (.cl d) ρ h) X) : okE (mCe e ρ h) P X := okE_bind (q.mono fun w ρ h q => by
  cases w with
  | nw c => exact okE_some q
  | cl d => exact okE_some q)
theorem okE_fr (q : okE (e ρ h) (fun w ρ h => P (.cl (fzW w)) ρ h) X) : okE (mFr e ρ h) P X := okE_bind (q.mono fun w ρ h q => okE_some q)
theorem okB_test {P : Ps Bool} (q : okE (e ρ h) (fun w ρ h => ∃ b, deref h w = some (.bl b) ∧ P b ρ h) X) : okE (mTest e ρ h) P X := okE_bind (q.mono fun w ρ h q => by
  obtain ⟨b, e, p⟩ := q
  rw [e]
  exact okE_some p)
theorem okB_tru {P : Ps Bool} (q : okE (e ρ h) (fun w ρ h => ∃ d b, deref h w = some d ∧ dTru d.u = some b ∧ P b ρ h) X) : okE (mTru e ρ h) P X := okE_bind (q.mono fun w ρ h q => by
  obtain ⟨d, b, e, e2, p⟩ := q
  rw [e]
  dsimp only [Option.bind_some]
  rw [e2]
  exact okE_some p)
theorem okE_if (q : okE (c ρ h) (fun k ρ h => (k = true → okE (a ρ h) P X) ∧ (k = false → okE (b ρ h) P X)) X) : okE (mIf c a b ρ h) P X := okE_bind (q.mono fun k ρ h q => by
  cases k with
  | true => exact q.1 rfl
  | false => exact q.2 rfl)
theorem okB_and {P : Ps Bool} (q : okE (c ρ h) (fun k ρ h => (k = true → okE (c' ρ h) P X) ∧ (k = false → P false ρ h)) X) : okE (mAnd c c' ρ h) P X := okE_bind (q.mono fun k ρ h q => by
  cases k with
  | true => exact q.1 rfl
  | false => exact okE_some (q.2 rfl))
theorem okB_or {P : Ps Bool} (q : okE (c ρ h) (fun k ρ h => (k = true → P true ρ h) ∧ (k = false → okE (c' ρ h) P X)) X) : okE (mOr c c' ρ h) P X := okE_bind (q.mono fun k ρ h q => by
  cases k with
  | true => exact okE_some (q.1 rfl)
  | false => exact q.2 rfl)
theorem okB_not {P : Ps Bool} (q : okE (c ρ h) (fun k ρ h => P (!k) ρ h) X) : okE (mNot c ρ h) P X := okE_bind (q.mono fun _ _ _ q => okE_some q)
theorem okE_notV (q : okE (mTest e ρ h) (fun b ρ h => P (.cl (.bl (!b))) ρ h) X) : okE (mNotV e ρ h) P X := okE_bind (q.mono fun _ _ _ q => okE_some q)
theorem okE_andV (q : okE (mTest a ρ h) (fun k ρ h => (k = true → okE (b ρ h) P X) ∧ (k = false → P (.cl (.bl false)) ρ h)) X) : okE (mAndV a b ρ h) P X := okE_bind (q.mono fun k ρ h q => by
  cases k with
  | true => exact q.1 rfl
  | false => exact okE_some (q.2 rfl))
theorem okE_call {mf : Fnm} (q : okE (es ρ h) (fun ws ρ h => okF (mf (ws.map fzW) h) (fun w h => P w ρ h) noX) X) : okE (callN mf es ρ h) P X := okE_bind (q.mono fun ws ρ h q => by
  obtain ⟨w, h', e, p⟩ := q.rt
  unfold callT
  rw [e]
  exact okE_some p)
theorem okE_callX {mf : Fnm} (q : okE (es ρ h) (fun ws ρ h => okF (mf (ws.map fzW) h) (fun w h => P w ρ h) (fun C fs h => X C fs ρ h)) X) : okE (callM mf es ρ h) P X := okE_bind (q.mono fun ws ρ h q => by
  obtain ⟨r, e, p⟩ := q
  unfold callX
  rw [e]
  cases r with
  | rt w h => exact ⟨_, rfl, p⟩
  | ex C fs h => exact ⟨_, rfl, p⟩)
/-- a display over items -/
theorem okE_loopC {ck : List (Nat × D)} {t : Mo Bool} {vs : List Nat} {Q : Ps (List D)} (I : Nat → List Sl → Tb → List D → Prop) (hck : ∀ k ρ h acc, I k ρ h acc → ckOk ck h) : ∀ (ds : List D) (i : Nat) {ρ : List Sl} {h : Tb} {acc : List D}, I i ρ h acc → (∀ (j : Nat) (d : D) (ρ : List Sl) (h : Tb) (acc : List D), ds[j]? = some d → I (i + j) ρ h acc →
    okG (g (.cl d) ρ h) fun ρ h => okE (t ρ h) (fun b ρ h => (b = true → okE (e ρ h) (fun w ρ h => I (i + j + 1) (wipeS vs ρ) h (acc ++ [fzW w])) X) ∧ (b = false → I (i + j + 1) (wipeS vs ρ) h acc)) X) → (∀ ρ h acc, I (i + ds.length) ρ h acc → Q acc ρ h) → okE (loopC g t e vs ck ds ρ h acc) Q X
  | [], i, ρ, h, acc, h0, hs, he => ⟨_, rfl, he ρ h acc h0⟩
  | d :: ds, i, ρ, h, acc, h0, hs, he => by
    obtain ⟨y, e1, r, e2, p⟩ := hs 0 d ρ h acc rfl h0
    have ih : ∀ ρ h acc, I (i + 1) ρ h acc → okE (loopC g t e vs ck ds ρ h acc) Q X := fun ρ h acc q => okE_loopC I hck ds (i + 1) q (fun j d ρ h acc hj hI => by
      have := hs (j + 1) d ρ h acc (by simpa using hj) (by rw [show i + (j + 1) = i + 1 + j by omega]; exact hI)
      rw [show i + (j + 1) + 1 = i + 1 + j + 1 by omega] at this
      exact this) (fun ρ h acc q => he ρ h acc (by rw [show i + (d :: ds).length = i + 1 + ds.length by simp; omega]; exact q))
    unfold loopC
    refine okE_opt ⟨_, e1, okE_bind ⟨_, e2, ?_⟩⟩
    cases r with
    | ex C fs ρ h => exact p
    | ok b ρ2 h2 =>
      cases b with
      | true =>
        show okE _ Q X
        rw [if_pos rfl]
        refine okE_bind ((p.1 rfl).mono fun w ρ h q => ?_)
        rw [if_pos (hck _ _ _ _ q)]
        exact ih _ _ _ q
      | false =>
        show okE _ Q X
        rw [if_neg (by decide), if_pos (hck _ _ _ _ (p.2 rfl))]
        exact ih _ _ _ (p.2 rfl)
theorem okE_loopC0 {t : Mo Bool} {vs : List Nat} {Q : Ps (List D)} (I : Nat → List Sl → Tb → List D → Prop) (ds : List D) (i : Nat) {ρ : List Sl} {h : Tb} {acc : List D} (h0 : I i ρ h acc) (hs : ∀ (j : Nat) (d : D) (ρ : List Sl) (h : Tb) (acc : List D), ds[j]? = some d → I (i + j) ρ h acc →
    okG (g (.cl d) ρ h) fun ρ h => okE (t ρ h) (fun b ρ h => (b = true → okE (e ρ h) (fun w ρ h => I (i + j + 1) (wipeS vs ρ) h (acc ++ [fzW w])) X) ∧ (b = false → I (i + j + 1) (wipeS vs ρ) h acc)) X) (he : ∀ ρ h acc, I (i + ds.length) ρ h acc → Q acc ρ h) : okE (loopC g t e vs [] ds ρ h acc) Q X :=
  okE_loopC I (fun _ _ _ _ _ x z => absurd z List.not_mem_nil) ds i h0 hs he
theorem okE_lc {it : Mo ItM} {t : Mo Bool} {vs : List Nat} (q : okE (it ρ h) (fun i ρ h => idle vs ρ = true ∧ okE (loopC g t e vs i.ck i.ds ρ h []) (fun acc ρ h => P (.fr acc) ρ h) X) X) : okE (mLc it g t e vs ρ h) P X := okE_bind (q.mono fun i ρ h q => by
  rw [if_pos q.1]
  exact okE_bind (q.2.mono fun acc ρ h q => okE_some q))
/-- what is walked stays -/
theorem okE_iU {P : Ps ItM} (q : okE (e ρ h) (fun w ρ h => okW (deref h w) fun d => okW (itemsD d.u) fun ds => ds.length ≤ 90000 ∧ P ⟨ds, ckOf h w⟩ ρ h) X) : okE (mIU e ρ h) P X := okE_bind (q.mono fun w ρ h q => okE_opt (q.elim fun _ q => ⟨_, q.1, okE_opt (q.2.elim fun _ q => ⟨_, q.1, by dsimp only; rw [if_pos q.2.1]; exact okE_some q.2.2⟩)⟩))
theorem okE_rng1 {P : Ps ItM} (q : okE (es ρ h) (fun ws ρ h => okW (derefs h ws) fun ds => ∃ n : Int, ds = [.int n] ∧ n ≤ 90000 ∧ -1000000 ≤ n ∧ P ⟨(List.range n.toNat).map fun i => .int (i : Nat), []⟩ ρ h) X) : okE (mRng1 es ρ h) P X := okE_bind (q.mono fun ws ρ h q => by
  obtain ⟨ds, e, n, rfl, h1, h2, p⟩ := q
  refine okE_opt ⟨_, e, ?_⟩
  show okE (if n ≤ 90000 ∧ -1000000 ≤ n then some (.ok ⟨(List.range n.toNat).map fun i => .int (i : Nat), []⟩ ρ h) else none) P X
  rw [if_pos ⟨h1, h2⟩]
  exact okE_some p)
theorem okE_mut {fm : List D → List D → Option (D × List D)} (q : okE (e ρ h) (fun u ρ h => okW (lstAt h u) fun _ => okE (es ρ h) (fun ws ρ h => okW (lstAt h u) fun x => okW (fm x.2 (ws.map fzW)) fun y => P (.cl y.1) ρ (h.set x.1 (.lst y.2))) X) X) : okE (mMut fm e es ρ h) P X :=
  okE_bind (q.mono fun u ρ h q => okE_opt (q.elim fun _ q => ⟨_, q.1, okE_bind (q.2.mono fun ws ρ h q => okE_opt (q.elim fun _ q => ⟨_, q.1, okE_map (q.2.elim fun _ q => ⟨_, q.1, okE_some q.2⟩)⟩))⟩))
theorem okG_set {k : Nat} (q : match w with | .nw c => N (ρ.set k (.cl (.ce h.length))) (h ++ [c]) | .cl d => N (ρ.set k (.cl d)) h) : okG (gSet k w ρ h) N := by
  cases w with
  | nw c => exact ⟨_, rfl, q⟩
  | cl d => exact ⟨_, rfl, q⟩
theorem okG_setC {k : Nat} (q : N (ρ.set k (.cl (fzW w))) h) : okG (gSetC k w ρ h) N := ⟨_, rfl, q⟩
theorem okG_sub {o : Mo W} (q : okE (o ρ h) (fun u ρ h => okE (e ρ h) (fun k ρ h => ∃ n : Int, deref h k = some (.int n) ∧ okW (lstAt h u) fun x => okW (ixN x.2.length n) fun j => N ρ (h.set x.1 (.lst (x.2.set j (fzW w))))) nox) nox) : okG (gSubL o e w ρ h) N := by
  obtain ⟨r, e1, p⟩ := q
  cases r with
  | ex C fs ρ h => exact p.elim
  | ok u ρ1 h1 =>
    obtain ⟨r, e2, p⟩ := p
    cases r with
    | ex C fs ρ h => exact p.elim
    | ok k ρ2 h2 =>
      obtain ⟨n, e3, x, e4, j, e5, p⟩ := p
      refine ⟨(ρ2, h2.set x.1 (.lst (x.2.set j (fzW w)))), ?_, p⟩
      unfold gSubL
      rw [e1]
      dsimp only
      rw [e2]
      dsimp only
      rw [e3]
      show ((lstAt h2 u).bind fun x => (ixN x.2.length n).map fun j => (ρ2, h2.set x.1 (.lst (x.2.set j (fzW w))))) = _
      rw [e4]
      dsimp only [Option.bind_some]
      rw [e5]
      rfl
theorem okE_sl {lo hi : MO} (q : okE (a ρ h) (fun w ρ h => okE (lo ρ h) (fun l ρ h => okE (hi ρ h) (fun u ρ h => okW (deref h w) fun d => okW (dSl d l u) fun w => P w ρ h) X) X) X) : okE (mSl a lo hi ρ h) P X :=
  okE_bind (q.mono fun _ _ _ q => okE_bind (q.mono fun _ _ _ q => okE_bind (q.mono fun _ _ _ q => okE_opt (q.elim fun _ q => ⟨_, q.1, okE_map (q.2.elim fun _ q => ⟨_, q.1, okE_some q.2⟩)⟩))))
theorem okE_nopart {P : Ps (Option Int)} (q : P none ρ h) : okE (mNoPart ρ h) P X := okE_some q
theorem okE_part {P : Ps (Option Int)} (q : okE (a ρ h) (fun w ρ h => ∃ n : Int, deref h w = some (.int n) ∧ P (some n) ρ h) X) : okE (mPart a ρ h) P X := okE_bind (q.mono fun w ρ h q => by
  obtain ⟨n, e, p⟩ := q
  rw [e]
  exact okE_some p)
theorem okE_bs {fs : Str → List D → Option W} (q : okE (a ρ h) (fun x ρ h => ∃ z, deref h x = some (.str z) ∧ okE (es ρ h) (fun ws ρ h => okW (derefs h ws) fun ds => okW (fs z ds) fun w => P w ρ h) X) X) : okE (mBS fs a es ρ h) P X := okE_bind (q.mono fun x ρ h q => by
  obtain ⟨z, e, q⟩ := q
  rw [e]
  exact okE_bind (q.mono fun ws ρ h q => okE_opt (q.elim fun _ q => ⟨_, q.1, okE_map (q.2.elim fun _ q => ⟨_, q.1, okE_some q.2⟩)⟩)))
theorem okF_fn {P : W → Tb → Prop} {X : Str → List (Str × D) → Tb → Prop} (hl : as.length = n) (q : okS (body (as.map Sl.cl ++ List.replicate k .un) h) (fun ρ h' => okW (cutF keep h (.cl .non) h') fun x => P x.1 x.2) (fun w ρ h' => okW (cutF keep h w h') fun x => P x.1 x.2) (fun _ _ _ => False) (fun C fs ρ h' => okW (cutX keep h fs h') fun x => X C fs x)) : okF (fnM keep n k body as h) P X := by
  obtain ⟨o, e, p⟩ := q
  unfold fnM
  rw [if_pos hl, e]
  cases o with
  | nx ρ h' =>
    obtain ⟨x, e, p⟩ := p
    exact ⟨.rt x.1 x.2, by show (cutF keep h (.cl .non) h').map _ = _; rw [e]; rfl, p⟩
  | rt w ρ h' =>
    obtain ⟨x, e, p⟩ := p
    exact ⟨.rt x.1 x.2, by show (cutF keep h w h').map _ = _; rw [e]; rfl, p⟩
  | ct ρ h' => exact p.elim
  | bk ρ h' => exact p.elim
  | ex C fs ρ h' =>
    obtain ⟨x, e, p⟩ := p
    exact ⟨.ex C fs x, by show (cutX keep h fs h').map _ = _; rw [e]; rfl, p⟩
/-- no cell came to it -/
theorem cut_same {Q : W × Tb → Prop} (hl : h'.length = h.length) (q : Q (w, h')) : okW (cutF keep h w h') Q := ⟨_, by unfold cutF; rw [if_pos (.inr hl)], q⟩
theorem cutX_same {fs : List (Str × D)} {Q : Tb → Prop} (hl : h'.length = h.length) (q : Q h') : okW (cutX keep h fs h') Q := ⟨_, by unfold cutX; rw [if_pos (.inr hl)], q⟩
/-- own cells go; what is handed back tells of none of them -/
theorem cut_app {h1 g : Tb} {Q : W × Tb → Prop} (hl : h1.length = h.length) (ok : okCut h h1) (hw : ∀ n, w ≠ .cl (.ce n)) (hb : below h.length (fzW w) = true) (q : Q (w, h1)) : okW (cutF false h w (h1 ++ g)) Q := by
  have e0 : (h1 ++ g).take h.length = h1 := by rw [← hl, List.take_left]
  have ok2 : okCut h (h1 ++ g) := fun i c hi hc => by
    rw [List.getElem?_append_left (by omega)] at hc
    exact ok i c hi hc
  unfold cutF
  by_cases hs : (h1 ++ g).length = h.length
  · have : g = [] := by
      rw [List.length_append, hl] at hs
      exact List.eq_nil_of_length_eq_zero (by omega)
    subst this
    rw [List.append_nil, if_pos (.inr hl)]
    exact ⟨_, rfl, q⟩
  · rw [if_neg (fun z => z.elim (fun z => by cases z) hs), if_pos ok2]
    refine ⟨(w, h1), ?_, q⟩
    cases w with
    | nw c =>
      show (if below h.length (fzW (.nw c)) = true then some ((W.nw c), (h1 ++ g).take h.length) else none) = _
      rw [if_pos hb, e0]
    | cl d =>
      cases d with
      | ce n => exact absurd rfl (hw n)
      | _ => (first | (rw [e0]; exact if_pos hb) | skip)
/-- an own cell is handed back: it is a new thing -/
theorem cut_own {h1 g : Tb} {c : D} {n : Nat} {Q : W × Tb → Prop} (hl : h1.length = h.length) (ok : okCut h h1) (hn : h.length ≤ n) (hc : (h1 ++ g)[n]? = some c) (hb : below h.length c = true) (q : Q (.nw c, h1)) : okW (cutF false h (.cl (.ce n)) (h1 ++ g)) Q := by
  have e0 : (h1 ++ g).take h.length = h1 := by rw [← hl, List.take_left]
  have ok2 : okCut h (h1 ++ g) := fun i c hi hc => by
    rw [List.getElem?_append_left (by omega)] at hc
    exact ok i c hi hc
  have hs : (h1 ++ g).length ≠ h.length := fun z => by
    have := (List.getElem?_eq_some_iff.mp hc).1
    omega
  unfold cutF
  rw [if_neg (fun z => z.elim (fun z => by cases z) hs), if_pos ok2]
  refine ⟨_, ?_, q⟩
  show (if n < h.length then some (W.cl (D.ce n), (h1 ++ g).take h.length) else match (h1 ++ g)[n]? with
      | some c => if below h.length c = true then some (W.nw c, (h1 ++ g).take h.length) else none
      | none => none) = _
  rw [if_neg (by omega), hc]
  show (if below h.length c = true then some (W.nw c, (h1 ++ g).take h.length) else none) = _
  rw [if_pos hb, e0]
theorem okCut_refl : okCut h h := fun i c _ hc => .inl hc
end
theorem below_lst {k : Nat} {ds : List D} : below k (.lst ds) = ds.all (below k) := by simp only [below, belows_eq]
theorem below_tup {k : Nat} {ds : List D} : below k (.tup ds) = ds.all (below k) := by simp only [below, belows_eq]
theorem below_ins {k : Nat} {C : Str} {fs : List (Str × D)} : below k (.ins C fs) = (fs.map (·.2)).all (below k) := by simp only [below, belowF_eq, belows_eq]
theorem below_int {k : Nat} {i : Int} : below k (.int i) = true := by simp only [below]
theorem below_str {k : Nat} {i : Str} : below k (.str i) = true := by simp only [below]
theorem below_bl {k : Nat} {i : Bool} : below k (.bl i) = true := by simp only [below]
theorem below_non {k : Nat} : below k .non = true := by simp only [below]
theorem below_strs {k : Nat} (zs : List Str) : below k (.lst (zs.map .str)) = true := by
  rw [below_lst, List.all_eq_true]
  intro d hd
  obtain ⟨z, _, rfl⟩ := List.mem_map.mp hd
  exact below_str
end CM
namespace CM
open PySem PySem.Spec PyProof.Rows L2 SL
/-- the box: what is left of a cell, a seed, how often was drawn -/
def BoxL (n : Nat) (ds : List D) : Prop := ∃ a s c : Int, ds = [.int a, .int s, .int c] ∧ 0 ≤ a ∧ 0 ≤ s ∧ s < 2147483648 ∧ 0 ≤ c ∧ c ≤ n
theorem BoxL.mono {m n : Nat} {ds : List D} (h : BoxL m ds) (k : m ≤ n) : BoxL n ds := by
  obtain ⟨a, s, c, e, h1, h2, h3, h4, h5⟩ := h
  exact ⟨a, s, c, e, h1, h2, h3, h4, by omega⟩
/-- h is h0 but for the box at b, from which was drawn at most n times -/
def Bx (b n : Nat) (h0 h : Tb) : Prop := ∃ ds, BoxL n ds ∧ b < h0.length ∧ h = h0.set b (.lst ds)
section
variable {b n m : Nat} {h0 h h' h1 g : Tb} {ds : List D}
theorem Bx.len (q : Bx b n h0 h) : h.length = h0.length := by
  obtain ⟨ds, _, _, rfl⟩ := q
  exact List.length_set ..
theorem Bx.lt (q : Bx b n h0 h) : b < h.length := by
  obtain ⟨ds, _, k, rfl⟩ := q
  rwa [List.length_set]
theorem Bx.at_ (q : Bx b n h0 h) : ∃ ds, BoxL n ds ∧ h[b]? = some (.lst ds) := by
  obtain ⟨ds, a, k, rfl⟩ := q
  exact ⟨ds, a, List.getElem?_set_self k⟩
theorem Bx.put (q : Bx b n h0 h) (k : BoxL m ds) : Bx b m h0 (h.set b (.lst ds)) := by
  obtain ⟨_, _, k2, rfl⟩ := q
  exact ⟨ds, k, k2, by rw [List.set_set]⟩
theorem Bx.refl (e : h[b]? = some (.lst ds)) (k : BoxL n ds) : Bx b n h h := ⟨ds, k, (List.getElem?_eq_some_iff.mp e).1, (set_self e).symm⟩
theorem Bx.mono (q : Bx b m h0 h) (k : m ≤ n) : Bx b n h0 h := by
  obtain ⟨ds, a, c, e⟩ := q
  exact ⟨ds, a.mono k, c, e⟩
theorem Bx.ne {i : Nat} (q : Bx b n h0 h) (hi : i ≠ b) : h[i]? = h0[i]? := by
  obtain ⟨ds, _, _, rfl⟩ := q
  exact List.getElem?_set_ne (fun z => hi z.symm)
theorem Bx.app (q : Bx b n h0 h) : Bx b n (h0 ++ g) (h ++ g) := by
  obtain ⟨ds, a, k, rfl⟩ := q
  exact ⟨ds, a, by rw [List.length_append]; omega, by rw [List.set_append_left _ _ k]⟩
theorem Bx.unapp (q : Bx b n (h0 ++ g) h) (k : b < h0.length) : ∃ h1, h = h1 ++ g ∧ Bx b n h0 h1 := by
  obtain ⟨ds, a, _, rfl⟩ := q
  exact ⟨h0.set b (.lst ds), List.set_append_left _ _ k, ds, a, k, rfl⟩
theorem Bx.trans (q : Bx b n h0 h) (r : Bx b m h h') : Bx b m h0 h' := by
  obtain ⟨ds, a, k, rfl⟩ := q
  obtain ⟨es, c, _, rfl⟩ := r
  exact ⟨es, c, k, by rw [List.set_set]⟩
theorem boxL_below {k : Nat} (a : BoxL n ds) : below k (.lst ds) = true := by
  obtain ⟨a, s, c, rfl, _⟩ := a
  rw [below_lst]
  simp [below_int]
theorem Bx.cut (q : Bx b n h0 h) (r : Bx b m h0 h1) : okCut h h1 := fun i c hi hc => by
  by_cases e : i = b
  · subst e
    obtain ⟨ds, a, hb⟩ := r.at_
    rw [hb] at hc
    cases hc
    exact .inr (boxL_below a)
  · rw [r.ne e] at hc
    rw [q.ne e]
    exact .inl hc
/-- the box of a table that goes on -/
theorem Bx.self (q : Bx b n h0 h) : Bx b n h h := by
  obtain ⟨ds, a, e⟩ := q.at_
  exact Bx.refl e a
end
def cellM (A B : Int) : MS := (sSeq (sIf (mTest (mOp dLt (mVar 1) (mCB dLen (mCons (mVar 0) mNil)))) (sRet (mOp dIx (mVar 0) (mVar 1))) sNext)
    (sRet (mOp dAdd (mOp dMul (mC (.int A)) (mVar 1)) (mC (.int B)))))
def boxM : MS := (sRet (mLst (mCons (mCB dMax2 (mCons (mC (.int 0)) (mCons (mOp dSub (mVar 0) (mOp dPow (mC (.int 10)) (mC (.int 18)))) mNil))) (mCons (mOp dMod (mVar 0) (mC (.int 2147483629))) (mCons (mC (.int 0)) mNil)))))
section
variable {ρ : List Sl} {h : Tb} {P : Ps W} {X : Px} {A B i j : Int} {n k : Nat} {d e : D} {ds : List D} {m : Int}
theorem w_mod {Q : W → Prop} (h : 0 < j) (q : Q (.cl (.int (i % j)))) : okW (dMod (.int i) (.int j)) Q := ⟨_, by show (if 0 < j then some (W.cl (.int (i % j))) else none) = _; rw [if_pos h], q⟩
theorem w_div {Q : W → Prop} (h : 0 < j) (h2 : j < big) (q : Q (.cl (.int (i / j)))) : okW (dDiv (.int i) (.int j)) Q := ⟨_, by show (if 0 < j ∧ j < big then some (W.cl (.int (i / j))) else none) = _; rw [if_pos ⟨h, h2⟩], q⟩
theorem w_mul {Q : W → Prop} (h1 : -big < i) (h2 : i < big) (h3 : -big < j) (h4 : j < big) (q : Q (.cl (.int (i * j)))) : okW (dMul (.int i) (.int j)) Q := ⟨_, by show (if -big < i ∧ i < big ∧ -big < j ∧ j < big then some (W.cl (.int (i * j))) else none) = _; rw [if_pos ⟨h1, h2, h3, h4⟩], q⟩
theorem w_sq {Q : W → Prop} (h1 : -18446744073709551616 < i) (h2 : i < 18446744073709551616) (q : Q (.cl (.int (i ^ 2)))) : okW (dPow (.int i) (.int 2)) Q := ⟨_, by show (if (0 : Int) ≤ 2 ∧ (2 : Int) ≤ 1000000 ∧ -18446744073709551616 < i ∧ i < 18446744073709551616 then some (W.cl (.int (i ^ 2))) else none) = _; rw [if_pos ⟨by decide, by decide, h1, h2⟩], q⟩
theorem w_add {Q : W → Prop} (q : Q (.cl (.int (i + j)))) : okW (dAdd (.int i) (.int j)) Q := ⟨_, rfl, q⟩
theorem w_addI {Q : W → Prop} (q : Q (.cl (.int (i + j)))) : okW (dAddI (.int i) (.int j)) Q := ⟨_, rfl, q⟩
theorem w_sub {Q : W → Prop} (q : Q (.cl (.int (i - j)))) : okW (dSub (.int i) (.int j)) Q := ⟨_, rfl, q⟩
theorem w_lt {Q : W → Prop} (q : Q (.cl (.bl (decide (i < j))))) : okW (dLt (.int i) (.int j)) Q := ⟨_, rfl, q⟩
theorem w_le {Q : W → Prop} (q : Q (.cl (.bl (decide (i ≤ j))))) : okW (dLe (.int i) (.int j)) Q := ⟨_, rfl, q⟩
theorem w_gt {Q : W → Prop} (q : Q (.cl (.bl (decide (j < i))))) : okW (dGt (.int i) (.int j)) Q := ⟨_, rfl, q⟩
theorem w_ge {Q : W → Prop} (q : Q (.cl (.bl (decide (j ≤ i))))) : okW (dGe (.int i) (.int j)) Q := ⟨_, rfl, q⟩
theorem w_max2 {Q : W → Prop} (q : Q (.cl (.int (if j > i then j else i)))) : okW (dMax2 [.int i, .int j]) Q := ⟨_, rfl, q⟩
theorem w_min2 {Q : W → Prop} (q : Q (.cl (.int (if j < i then j else i)))) : okW (dMin2 [.int i, .int j]) Q := ⟨_, rfl, q⟩
theorem w_lenL {Q : W → Prop} (q : Q (.cl (.int ds.length))) : okW (dLen [.lst ds]) Q := ⟨_, rfl, q⟩
theorem w_lenT {Q : W → Prop} (q : Q (.cl (.int ds.length))) : okW (dLen [.tup ds]) Q := ⟨_, rfl, q⟩
theorem w_lenC {ns : List Int} {Q : W → Prop} (q : Q (.cl (.int ns.length))) : okW (dLen [.scr ns]) Q := ⟨_, rfl, q⟩
theorem w_listL {Q : W → Prop} (q : Q (W.fr ds)) : okW (dList [.lst ds]) Q := ⟨_, rfl, q⟩
theorem w_listT {Q : W → Prop} (q : Q (W.fr ds)) : okW (dList [.tup ds]) Q := ⟨_, rfl, q⟩
theorem w_tupL {Q : W → Prop} (q : Q (.cl (.tup ds))) : okW (dTuple [.lst ds]) Q := ⟨_, rfl, q⟩
theorem w_tupT {Q : W → Prop} (q : Q (.cl (.tup ds))) : okW (dTuple [.tup ds]) Q := ⟨_, rfl, q⟩
theorem okE_eqn {x : Option (R W)} (q : okE x P X) : okE x P X := q
theorem okW_deref {w : W} {Q : D → Prop} (e : deref h w = some d) (q : Q d) : okW (deref h w) Q := ⟨_, e, q⟩
theorem okW_derefs {ws : List W} {Q : List D → Prop} (e : derefs h ws = some ds) (q : Q ds) : okW (derefs h ws) Q := ⟨_, e, q⟩
theorem okW_derefC {c : Nat} {Q : List D → Prop} (e : h[c]? = some d) (q : Q [d]) : okW (derefs h [.cl (.ce c)]) Q := ⟨[d], by
  show ((h[c]?).bind fun d => (some []).bind fun ds => some (d :: ds)) = _
  rw [e]
  rfl, q⟩
theorem okW_lstAt {c : Nat} {Q : Nat × List D → Prop} (e : h[c]? = some (.lst ds)) (q : Q (c, ds)) : okW (lstAt h (.cl (.ce c))) Q := ⟨_, by
  show (match h[c]? with
    | some (.lst cs) => some (c, cs)
    | _ => none) = _
  rw [e], q⟩
theorem okW_ix {b : D} {w : W} {Q : W → Prop} (e : dIx d b = some w) (q : Q w) : okW (dIx d b) Q := ⟨_, e, q⟩
theorem okB_testd {e : Mo W} {P : Ps Bool} (q : ∃ b, (e ρ h) = some (.ok (.cl (.bl b)) ρ h) ∧ P b ρ h) : okE (mTest e ρ h) P X := by
  obtain ⟨b, e, p⟩ := q
  exact okB_test (okE_eq e ⟨b, rfl, p⟩)
theorem big_eq : big = 10000000000000000000000000000000000000000 := rfl
local macro_rules | `(tactic| walk_at "hv") => `(tactic| first | rfl | assumption | (exact (by assumption : _)))
local macro_rules | `(tactic| walk_at "p1") => `(tactic| first
  | with_reducible refine CM.okS_seq ?_ | with_reducible refine CM.okS_next ?_ | with_reducible refine CM.okS_asg ?_ | with_reducible refine CM.okS_ret ?_ | with_reducible refine CM.okS_drop ?_ | with_reducible refine CM.okS_aug ?_ | with_reducible refine CM.okS_cnt ?_ | with_reducible refine CM.okS_fg ?_ | with_reducible refine CM.okS_retN ?_
  | with_reducible refine CM.okE_op ?_ | with_reducible refine CM.okE_cb ?_ | with_reducible refine CM.okE_cons ?_ | with_reducible refine CM.okE_nil ?_ | with_reducible refine CM.okB_not ?_ | with_reducible refine CM.okE_c ?_ | with_reducible refine CM.okE_fr ?_ | with_reducible refine CM.okE_ce ?_ | with_reducible refine CM.okE_notV ?_ | with_reducible refine CM.okE_un ?_
  | with_reducible refine CM.okE_sl ?_ | with_reducible refine CM.okE_nopart ?_
  | ((with_reducible refine' CM.okE_var ?hv ?_); (case hv => rfl))
  | ((with_reducible refine' CM.okE_part (CM.okE_var ?hv ⟨_, ?hv2, ?_⟩)); (case hv => rfl); (case hv2 => rfl))
  | ((with_reducible refine' CM.okE_part (CM.okE_c ⟨_, ?hv2, ?_⟩)); (case hv2 => rfl))
  | ((with_reducible refine' CM.okW_eq (w := _) ?hv ?_); (case hv => (with_reducible rfl)))
  | ((with_reducible refine' CM.okW_deref ?hv ?_); (case hv => walk_at "hv")) | ((with_reducible refine' CM.okW_derefs ?hv ?_); (case hv => rfl)) | ((with_reducible refine' CM.okW_derefC ?hv ?_); (case hv => walk_at "hv")) | ((with_reducible refine' CM.okW_lstAt ?hv ?_); (case hv => walk_at "hv"))
  | with_reducible refine CM.w_add ?_ | with_reducible refine CM.w_sub ?_ | with_reducible refine CM.w_lt ?_ | with_reducible refine CM.w_le ?_ | with_reducible refine CM.w_gt ?_ | with_reducible refine CM.w_ge ?_ | with_reducible refine CM.w_addI ?_
  | with_reducible refine CM.w_mod (by omega) ?_ | with_reducible refine CM.w_div (by omega) (by rw [CM.big_eq]; omega) ?_ | with_reducible refine CM.w_mul (by rw [CM.big_eq]; omega) (by rw [CM.big_eq]; omega) (by rw [CM.big_eq]; omega) (by rw [CM.big_eq]; omega) ?_ | with_reducible refine CM.w_sq (by omega) (by omega) ?_
  | with_reducible refine CM.w_max2 ?_ | with_reducible refine CM.w_min2 ?_ | with_reducible refine CM.w_lenL ?_ | with_reducible refine CM.w_lenT ?_ | with_reducible refine CM.w_lenC ?_ | with_reducible refine CM.w_listL ?_ | with_reducible refine CM.w_listT ?_ | with_reducible refine CM.w_tupL ?_ | with_reducible refine CM.w_tupT ?_
  | ((with_reducible refine CM.okG_setC ?_); (try dsimp only [List.set, CM.fzW]))
  | ((with_reducible refine' CM.okW_ix ?hv ?_); (case hv => rfl))
  | ((with_reducible refine' CM.okB_test (CM.okE_eqn ⟨_, ?hv, ?_⟩)); (case hv => rfl))
  | ((with_reducible refine' CM.okB_testd ⟨_, ?hv, ?_⟩); (case hv => rfl)))
local macro_rules | `(tactic| walk_at "p") => `(tactic| repeat walk_at "p1")
theorem box_ok {v : Int} {P : W → Tb → Prop} {X : Str → List (Str × D) → Tb → Prop} (q : ∀ ds, BoxL 0 ds → P (W.fr ds) h) : okF (fnM false 1 0 boxM [.int v] h) P X := by
  refine okF_fn rfl ?_
  show okS (boxM [.cl (.int v)] h) _ _ _ _
  refine okS_ret (okE_eq (w := W.fr [.int (if v - 10 ^ 18 > 0 then v - 10 ^ 18 else 0), .int (v % 2147483629), .int 0]) rfl ?_)
  refine cut_same rfl (q _ ⟨_, _, _, rfl, ?_, Int.emod_nonneg _ (by decide), ?_, by decide, by decide⟩)
  · split
    · omega
    · exact Int.le_refl _
  · have := Int.emod_lt_of_pos v (b := 2147483629) (by decide)
    omega
theorem cell_ok {ns : List Int} {k : Nat} {P : W → Tb → Prop} {X : Str → List (Str × D) → Tb → Prop} (hk : k < 1000000) (hA : 0 ≤ A) (hA2 : A ≤ 100000000) (q : ∀ v, P (.cl (.int v)) h) : okF (fnM false 2 0 (cellM A B) [.scr ns, .int k] h) P X := by
  refine okF_fn rfl ?_
  show okS (cellM A B [.cl (.scr ns), .cl (.int k)] h) _ _ _ _
  refine okS_seq (okS_if (okE_eq (w := decide ((k : Int) < ns.length)) rfl ⟨fun ht => ?_, fun ht => ?_⟩))
  · have ht := of_decide_eq_true ht
    refine okS_ret (okE_op ?_)
    walk_at "p"
    have hk : k < ns.length := by omega
    refine okW_eq (w := .cl (.int (ns[k]))) ?_ ?_
    · show (atI ns (k : Int)).map (fun n => W.cl (.int n)) = _
      have : atI ns (k : Int) = some ns[k] := by
        unfold atI ixN
        rw [if_pos (by omega), if_pos ht]
        show ns[(k : Int).toNat]? = _
        rw [Int.toNat_natCast]
        exact List.getElem?_eq_getElem hk
      rw [this]
      rfl
    · exact cut_same rfl (q _)
  · refine okS_next (okS_ret (okE_op (okE_op ?_)))
    walk_at "p"
    exact cut_same rfl (q _)
end
end CM
namespace CM
open PySem PySem.Spec PyProof.Rows L2 SL
theorem perm_pop {α : Type} : ∀ (l : List α) (v : Nat) (h : v < l.length), (l[v] :: l.eraseIdx v).Perm l
  | [], v, h => absurd h (Nat.not_lt_zero v)
  | a :: l, 0, _ => .refl _
  | a :: l, v + 1, h => have hv : v < l.length := by simpa using h
    (List.Perm.swap a (l[v]'hv) (l.eraseIdx v)).trans ((perm_pop l v hv).cons a)
/-- a text by its signs -/
def S (l : List Nat) : Str := ⟨l.toArray⟩
theorem S_cps (l : List Nat) : (S l).cps.toList = l := rfl
theorem S_len (l : List Nat) : (S l).length = l.length := by rw [SL.len_str]; rfl
theorem S_inj {a b : List Nat} (h : S a = S b) : a = b := by
  have := congrArg (fun z : Str => z.cps.toList) h
  exact this
theorem S_add (a b : List Nat) : S a ++ S b = S (a ++ b) := by
  apply SL.str_ext
  rw [cps_add]
  rfl
theorem S_of (z : Str) : ∃ l, z = S l := ⟨z.cps.toList, by cases z; rfl⟩
theorem S_take (l : List Nat) (k : Nat) : cutS (S l) none (some (k : Int)) = S (l.take k) := by
  unfold cutS
  rw [HT.sIx_none, HT.sIx_nat, S_cps, S_len]
  show S _ = S _
  rw [List.drop_zero, Nat.sub_zero]
  congr 1
  rcases Nat.le_total k l.length with h | h
  · rw [Nat.min_eq_left h]
  · rw [Nat.min_eq_right h, List.take_of_length_le (Nat.le_refl _), List.take_of_length_le h]
theorem S_join (ls : List (List Nat)) : Txt.join "" (ls.map S) = S ls.flatten := by
  apply SL.str_ext
  rw [TL.join_eq]
  have e := TL.tl_join "" (ls.map S)
  have e2 : TL.tl ("" : Str) = [] := by decide +kernel
  rw [e2, joinL_nil, List.map_map] at e
  have e3 : (Str.join "" (ls.map S)).cps.toList = (ls.map (TL.tl ∘ S)).flatten := e
  rw [e3]
  have : ls.map (TL.tl ∘ S) = ls := by
    conv => rhs; rw [← List.map_id ls]
    rfl
  rw [this]
  rfl
def lets : List Nat := [97,98,99,100,101,102,103,104,105,106,107,108,109,110,111,112,113,114,115,116,117,118,119,120,121,122]
theorem letters_eq : ("abcdefghijklmnopqrstuvwxyz" : Str) = S lets := by decide +kernel
/-- the signs of a name -/
def NmL (l : List Nat) : Prop := 1 ≤ l.length ∧ l.length ≤ 8 ∧ ∀ c ∈ l, c ∈ lets
def Nm (z : Str) : Prop := NmL z.cps.toList
/-- a letter by its number -/
def lt (i : Int) : Nat := lets.getD i.toNat 0
theorem lt_mem {i : Int} (h0 : 0 ≤ i) (h1 : i < 26) : lt i ∈ lets := by
  unfold lt
  have h : i.toNat < lets.length := by show i.toNat < 26; omega
  rw [List.getD_eq_getElem?_getD, List.getElem?_eq_getElem h]
  exact List.getElem_mem h
theorem lt_at {i : Int} (h0 : 0 ≤ i) (h1 : i < 26) : atI lets i = some (lt i) := by
  have h : i.toNat < lets.length := by show i.toNat < 26; omega
  unfold atI ixN
  rw [if_pos h0, if_pos (by show i < 26; exact h1)]
  show lets[i.toNat]? = _
  unfold lt
  rw [List.getD_eq_getElem?_getD, List.getElem?_eq_getElem h]
  rfl
theorem lets_get : ∀ i < 26, lets.getD i 0 = 97 + i := by decide +kernel
theorem lt_eq {i : Int} (h0 : 0 ≤ i) (h1 : i < 26) : (lt i : Int) = 97 + i := by
  unfold lt
  rw [lets_get i.toNat (by omega)]
  omega
theorem lt_inj {i j : Int} (h0 : 0 ≤ i) (h1 : i < 26) (k0 : 0 ≤ j) (k1 : j < 26) (h : lt i = lt j) : i = j := by
  have a := lt_eq h0 h1
  have b := lt_eq k0 k1
  rw [h] at a
  omega
theorem w_letter {i : Int} {Q : W → Prop} (h0 : 0 ≤ i) (h1 : i < 26) (q : Q (.cl (.str (S [lt i])))) : okW (dIx (.str (S lets)) (.int i)) Q := by
  refine ⟨_, ?_, q⟩
  show (if (S lets).length ≤ 100000 then (atI (S lets).cps.toList i).map (fun c => W.cl (.str ⟨#[c]⟩)) else none) = _
  rw [if_pos (by decide +kernel), S_cps, lt_at h0 h1]
  rfl
theorem w_adds {a b : List Nat} {Q : W → Prop} (h : a.length + b.length ≤ 100000) (q : Q (.cl (.str (S (a ++ b))))) : okW (dAdd (.str (S a)) (.str (S b))) Q := by
  refine ⟨_, ?_, q⟩
  show (if (S a).length + (S b).length ≤ 100000 then some (W.cl (.str (S a ++ S b))) else none) = _
  rw [S_len, S_len, if_pos h, S_add]
theorem w_take {a : List Nat} {k : Nat} {Q : W → Prop} (h : a.length ≤ 100000) (q : Q (.cl (.str (S (a.take k))))) : okW (dSl (.str (S a)) none (some (k : Int))) Q := by
  refine ⟨_, ?_, q⟩
  show (if (S a).length ≤ 100000 then some (W.cl (.str (cutS (S a) none (some (k : Int))))) else none) = _
  rw [S_len, if_pos h, S_take]
theorem strsOf_map (zs : List Str) : strsOf (zs.map D.str) = some zs := by
  induction zs with
  | nil => rfl
  | cons z zs ih =>
    show (strsOf (zs.map D.str)).map (z :: ·) = _
    rw [ih]
    rfl
theorem w_join {ls : List (List Nat)} {Q : W → Prop} (h : ls.flatten.length ≤ 100000) (q : Q (.cl (.str (S ls.flatten)))) : okW (fJoin "" [.lst ((ls.map S).map .str)]) Q := by
  refine ⟨_, ?_, q⟩
  show ((strsOf ((ls.map S).map .str)).bind fun zs => if (zs.map (·.length)).sum + zs.length * (("" : Str).length) ≤ 16777216 then some (W.cl (.str (Txt.join "" zs))) else none) = _
  rw [strsOf_map]
  show (if ((ls.map S).map (·.length)).sum + (ls.map S).length * (("" : Str).length) ≤ 16777216 then some (W.cl (.str (Txt.join "" (ls.map S)))) else none) = _
  rw [S_join]
  have e : (((ls.map S).map (·.length)).sum + (ls.map S).length * (("" : Str).length)) ≤ 16777216 := by
    have e2 : (("" : Str).length) = 0 := by decide +kernel
    rw [e2, Nat.mul_zero, Nat.add_zero]
    have : ((ls.map S).map (·.length)).sum = ls.flatten.length := by
      clear h q
      induction ls with
      | nil => rfl
      | cons l ls ih => rw [List.map_cons, List.map_cons, List.sum_cons, ih, List.flatten_cons, List.length_append, S_len]
    omega
  rw [if_pos e]
/-- words that fit, each its own -/
theorem words_ok {R : Nat → List Nat → Prop} {m : Nat} {ls : List (List Nat)} (hl : ls.length = m) (hR : ∀ (i : Nat) (h : i < ls.length), R i ls[i]) (hi : ∀ i j l, i < m → j < m → R i l → R j l → i = j) (hN : ∀ i l, i < m → R i l → NmL l) : ls.Nodup ∧ ∀ l ∈ ls, NmL l := by
  constructor
  · unfold List.Nodup
    rw [List.pairwise_iff_getElem]
    intro i j h1 h2 h e
    have a := hR i h1
    rw [e] at a
    have := hi i j _ (by omega) (by omega) a (hR j h2)
    omega
  · intro l h
    obtain ⟨i, h1, rfl⟩ := List.getElem_of_mem h
    exact hN i _ (by omega) (hR i h1)
section
variable {ρ : List Sl} {h h0 : Tb} {N : List Sl → Tb → Prop} {T : Ps W} {L : Bool → List Sl → Tb → Prop} {P : Ps W} {X : Px} {A B : Int} {i b n k : Nat} {d e : D} {ds cs xs ys : List D} {m : Int} {es : Mo (List W)} {m1 m2 : MS} {it : Mo ItM} {t : Mo Bool} {el : Mo W}
theorem wipe1 {s : Sl} (hi : ρ[i]? = some .un) : wipeS [i] (ρ.set i s) = ρ := by
  show (ρ.set i s).set i .un = ρ
  rw [List.set_set]
  exact set_self hi
/-- [el for x in items if t], x in slot i -/
theorem okE_lcF (I : Nat → Tb → List D → Prop) (hi : ρ[i]? = some .un) (q : okE (it ρ h) (fun y ρ' h' => ρ' = ρ ∧ y = ⟨ds, []⟩ ∧ I 0 h' []) X)
    (hs : ∀ j d h acc, ds[j]? = some d → I j h acc → okE (t (ρ.set i (.cl d)) h) (fun b ρ' h => ρ' = ρ.set i (.cl d) ∧ (b = true → okE (el (ρ.set i (.cl d)) h) (fun w ρ' h' => ρ' = ρ.set i (.cl d) ∧ I (j + 1) h' (acc ++ [fzW w])) X) ∧ (b = false → I (j + 1) h acc)) X)
    (hp : ∀ h acc, I ds.length h acc → P (W.fr acc) ρ h) : okE (mLc it (gSetC i) t el [i] ρ h) P X := by
  refine okE_lc (q.mono ?_)
  rintro y ρ' h' ⟨rfl, rfl, h0⟩
  refine ⟨?_, okE_loopC0 (fun j ρ'' h acc => ρ'' = ρ' ∧ I j h acc) _ 0 ⟨rfl, h0⟩ ?_ ?_⟩
  · exact idle_of fun j hj => by rw [List.mem_singleton.mp hj]; exact hi
  · rintro j d ρ'' h acc hj ⟨rfl, hI⟩
    rw [Nat.zero_add] at hI ⊢
    refine okG_setC ((hs j d h acc hj hI).mono ?_)
    rintro b ρ2 h2 ⟨rfl, hT, hF⟩
    refine ⟨fun hb => (hT hb).mono ?_, fun hb => ?_⟩
    · rintro w ρ3 h3 ⟨rfl, hI⟩
      exact ⟨wipe1 hi, hI⟩
    · exact ⟨wipe1 hi, hF hb⟩
  · rintro ρ'' h acc ⟨rfl, hI⟩
    rw [Nat.zero_add] at hI
    exact hp h acc hI
theorem okE_lc1 (I : Nat → Tb → List D → Prop) (hi : ρ[i]? = some .un) (q : okE (it ρ h) (fun y ρ' h' => ρ' = ρ ∧ y = ⟨ds, []⟩ ∧ I 0 h' []) X)
    (hs : ∀ j d h acc, ds[j]? = some d → I j h acc → okE (el (ρ.set i (.cl d)) h) (fun w ρ' h' => ρ' = ρ.set i (.cl d) ∧ I (j + 1) h' (acc ++ [fzW w])) X)
    (hp : ∀ h acc, I ds.length h acc → P (W.fr acc) ρ h) : okE (mLc it (gSetC i) mYes el [i] ρ h) P X :=
  okE_lcF I hi q (fun j d h acc hj hI => okE_eq rfl ⟨rfl, fun _ => hs j d h acc hj hI, fun z => by cases z⟩) hp
/-- items by their numbers: the same table -/
theorem popAt_ok {Q : D × List D → Prop} {v : Int} (h0 : 0 ≤ v) (h1 : v < cs.length) (h2 : cs.length ≤ 100000) (q : ∀ hv : v.toNat < cs.length, Q (cs[v.toNat], cs.eraseIdx v.toNat)) : okW (fPopAt cs [.int v]) Q := by
  have hv : v.toNat < cs.length := by omega
  refine ⟨_, ?_, q hv⟩
  show (if cs.length ≤ 100000 then (ixN cs.length v).bind fun k => (cs[k]?).map fun d => (d, cs.eraseIdx k) else none) = _
  rw [if_pos h2]
  have : ixN cs.length v = some v.toNat := by
    unfold ixN
    rw [if_pos h0, if_pos h1]
  rw [this]
  show (cs[v.toNat]?).map (fun d => (d, cs.eraseIdx v.toNat)) = _
  rw [List.getElem?_eq_getElem hv]
  rfl
theorem rng_ok {m : Nat} {it : ItM} {P : Ps ItM} (hm : m ≤ 1000) (hes : okE (es ρ h) (fun ws ρ' h' => ws = [.cl (.int m)] ∧ ρ' = ρ ∧ h' = h) X) (p : P ⟨(List.range m).map fun i => .int (i : Nat), []⟩ ρ h) : okE (mRng1 es ρ h) P X := okE_rng1 (hes.mono (by
  rintro ws ρ' h' ⟨rfl, rfl, rfl⟩
  exact okW_derefs rfl ⟨(m : Int), rfl, by omega, by omega, p⟩))
theorem rng_at {m j : Nat} {d : D} (h : ((List.range m).map fun i => D.int (i : Nat))[j]? = some d) : j < m ∧ d = .int (j : Nat) := by
  obtain ⟨h1, h2⟩ := List.getElem?_eq_some_iff.mp h
  rw [List.length_map, List.length_range] at h1
  rw [List.getElem_map, List.getElem_range] at h2
  exact ⟨h1, h2.symm⟩
local macro_rules | `(tactic| walk_at "hv") => `(tactic| first | rfl | assumption | (exact (by assumption : _)))
local macro_rules | `(tactic| walk_at "p1") => `(tactic| first
  | with_reducible refine CM.okS_seq ?_ | with_reducible refine CM.okS_next ?_ | with_reducible refine CM.okS_asg ?_ | with_reducible refine CM.okS_ret ?_ | with_reducible refine CM.okS_drop ?_ | with_reducible refine CM.okS_aug ?_ | with_reducible refine CM.okS_cnt ?_ | with_reducible refine CM.okS_fg ?_ | with_reducible refine CM.okS_retN ?_
  | with_reducible refine CM.okE_op ?_ | with_reducible refine CM.okE_cb ?_ | with_reducible refine CM.okE_cons ?_ | with_reducible refine CM.okE_nil ?_ | with_reducible refine CM.okB_not ?_ | with_reducible refine CM.okE_c ?_ | with_reducible refine CM.okE_fr ?_ | with_reducible refine CM.okE_ce ?_ | with_reducible refine CM.okE_notV ?_ | with_reducible refine CM.okE_un ?_
  | with_reducible refine CM.okE_sl ?_ | with_reducible refine CM.okE_nopart ?_
  | ((with_reducible refine' CM.okE_var ?hv ?_); (case hv => rfl))
  | ((with_reducible refine' CM.okE_part (CM.okE_var ?hv ⟨_, ?hv2, ?_⟩)); (case hv => rfl); (case hv2 => rfl))
  | ((with_reducible refine' CM.okE_part (CM.okE_c ⟨_, ?hv2, ?_⟩)); (case hv2 => rfl))
  | ((with_reducible refine' CM.okW_eq (w := _) ?hv ?_); (case hv => (with_reducible rfl)))
  | ((with_reducible refine' CM.okW_deref ?hv ?_); (case hv => walk_at "hv")) | ((with_reducible refine' CM.okW_derefs ?hv ?_); (case hv => rfl)) | ((with_reducible refine' CM.okW_derefC ?hv ?_); (case hv => walk_at "hv")) | ((with_reducible refine' CM.okW_lstAt ?hv ?_); (case hv => walk_at "hv"))
  | with_reducible refine CM.w_add ?_ | with_reducible refine CM.w_sub ?_ | with_reducible refine CM.w_lt ?_ | with_reducible refine CM.w_le ?_ | with_reducible refine CM.w_gt ?_ | with_reducible refine CM.w_ge ?_ | with_reducible refine CM.w_addI ?_
  | with_reducible refine CM.w_mod (by omega) ?_ | with_reducible refine CM.w_div (by omega) (by rw [CM.big_eq]; omega) ?_ | with_reducible refine CM.w_mul (by rw [CM.big_eq]; omega) (by rw [CM.big_eq]; omega) (by rw [CM.big_eq]; omega) (by rw [CM.big_eq]; omega) ?_ | with_reducible refine CM.w_sq (by omega) (by omega) ?_
  | with_reducible refine CM.w_max2 ?_ | with_reducible refine CM.w_min2 ?_ | with_reducible refine CM.w_lenL ?_ | with_reducible refine CM.w_lenT ?_ | with_reducible refine CM.w_lenC ?_ | with_reducible refine CM.w_listL ?_ | with_reducible refine CM.w_listT ?_ | with_reducible refine CM.w_tupL ?_ | with_reducible refine CM.w_tupT ?_
  | ((with_reducible refine CM.okG_setC ?_); (try dsimp only [List.set, CM.fzW]))
  | ((with_reducible refine' CM.okW_ix ?hv ?_); (case hv => rfl))
  | ((with_reducible refine' CM.okB_test (CM.okE_eqn ⟨_, ?hv, ?_⟩)); (case hv => rfl))
  | ((with_reducible refine' CM.okB_testd ⟨_, ?hv, ?_⟩); (case hv => rfl)))
local macro_rules | `(tactic| walk_at "p") => `(tactic| repeat walk_at "p1")
/-- [e for k in range(..)], e a text by k: the box may be drawn from -/
theorem okE_words {e : Mo W} {R : Nat → List Nat → Prop} {h0 : Tb} {q m : Nat} {es : Mo (List W)} (hi : ρ[i]? = some .un) (hb : Bx b n h0 h) (hm : m ≤ 1000)
    (hes : okE (es ρ h) (fun ws ρ' h' => ws = [.cl (.int m)] ∧ ρ' = ρ ∧ h' = h) X)
    (he : ∀ k h, k < m → Bx b (n + q * k) h0 h → okE (e (ρ.set i (.cl (.int k))) h) (fun w ρ' h' => ∃ l, w = .cl (.str (S l)) ∧ ρ' = ρ.set i (.cl (.int k)) ∧ Bx b (n + q * k + q) h0 h' ∧ R k l) X)
    (p : ∀ (ls : List (List Nat)) (h' : Tb), ls.length = m → (∀ (i : Nat) (h : i < ls.length), R i ls[i]) → Bx b (n + q * m) h0 h' → P (W.fr ((ls.map S).map .str)) ρ h') :
    okE (mLc (mRng1 es) (gSetC i) mYes e [i] ρ h) P X := by
  refine okE_lc1 (ds := (List.range m).map fun i => .int (i : Nat)) (fun j h' acc => ∃ ls : List (List Nat), acc = (ls.map S).map .str ∧ ls.length = j ∧ (∀ (i : Nat) (h : i < ls.length), R i ls[i]) ∧ Bx b (n + q * j) h0 h') hi ?_ ?_ ?_
  · exact rng_ok (it := ⟨[], []⟩) hm hes ⟨rfl, rfl, [], rfl, rfl, fun i h => absurd h (Nat.not_lt_zero i), hb⟩
  · rintro j d h' acc hj ⟨ls, rfl, g1, g2, g3⟩
    obtain ⟨hj2, rfl⟩ := rng_at hj
    refine (he j h' hj2 g3).mono ?_
    rintro w ρ' h2 ⟨l, rfl, rfl, g4, g5⟩
    refine ⟨rfl, ls ++ [l], ?_, ?_, ?_, ?_⟩
    · simp [fzW]
    · rw [List.length_append, g1]
      rfl
    · intro i h
      rw [List.getElem_append]
      split
      · exact g2 i _
      · have : i = j := by
          rw [List.length_append] at h
          have : i < ls.length + 1 := h
          omega
        subst this
        simpa [g1] using g5
    · rw [show n + q * (j + 1) = n + q * j + q by rw [Nat.mul_add, Nat.mul_one]; omega]
      exact g4
  · rintro h' acc ⟨ls, rfl, g1, g2, g3⟩
    rw [List.length_map, List.length_range] at g1 g3
    exact p _ _ g1 g2 g3
theorem w_eqi {i j : Int} {Q : W → Prop} (q : Q (.cl (.bl (decide (i = j))))) : okW (dEq (.int i) (.int j)) Q := by
  refine ⟨_, ?_, q⟩
  have h1 : ∀ x : Int, SeqAt.shaped (.int x) = true := fun x => by simp [SeqAt.shaped, PyData.canLay0, PyData.depth]
  show (if SeqAt.shaped (.int i) = true ∧ SeqAt.shaped (.int j) = true then some (PyData.eqv (.int i) (.int j)) else none).map (fun b => W.cl (.bl b)) = _
  rw [if_pos ⟨h1 _, h1 _⟩]
  have : PyData.eqv (.int i) (.int j) = decide (i = j) := by
    unfold PyData.eqv
    by_cases h : i = j
    · subst h
      simp
    · simp [h]
  rw [this]
  rfl
end
section
variable {ρ : List Sl} {h : Tb} {P : Ps W} {X : Px} {A B : Int} {i j : Int} {b n k : Nat} {d e : D} {ds cs xs ys : List D}
local macro_rules | `(tactic| walk_at "hv") => `(tactic| first | rfl | assumption | (exact (by assumption : _)))
local macro_rules | `(tactic| walk_at "p1") => `(tactic| first
  | with_reducible refine CM.okS_seq ?_ | with_reducible refine CM.okS_next ?_ | with_reducible refine CM.okS_asg ?_ | with_reducible refine CM.okS_ret ?_ | with_reducible refine CM.okS_drop ?_ | with_reducible refine CM.okS_aug ?_ | with_reducible refine CM.okS_cnt ?_ | with_reducible refine CM.okS_fg ?_ | with_reducible refine CM.okS_retN ?_
  | with_reducible refine CM.okE_op ?_ | with_reducible refine CM.okE_cb ?_ | with_reducible refine CM.okE_cons ?_ | with_reducible refine CM.okE_nil ?_ | with_reducible refine CM.okB_not ?_ | with_reducible refine CM.okE_c ?_ | with_reducible refine CM.okE_fr ?_ | with_reducible refine CM.okE_ce ?_ | with_reducible refine CM.okE_notV ?_ | with_reducible refine CM.okE_un ?_
  | with_reducible refine CM.okE_sl ?_ | with_reducible refine CM.okE_nopart ?_
  | ((with_reducible refine' CM.okE_var ?hv ?_); (case hv => rfl))
  | ((with_reducible refine' CM.okE_part (CM.okE_var ?hv ⟨_, ?hv2, ?_⟩)); (case hv => rfl); (case hv2 => rfl))
  | ((with_reducible refine' CM.okE_part (CM.okE_c ⟨_, ?hv2, ?_⟩)); (case hv2 => rfl))
  | ((with_reducible refine' CM.okW_eq (w := _) ?hv ?_); (case hv => (with_reducible rfl)))
  | ((with_reducible refine' CM.okW_deref ?hv ?_); (case hv => walk_at "hv")) | ((with_reducible refine' CM.okW_derefs ?hv ?_); (case hv => rfl)) | ((with_reducible refine' CM.okW_derefC ?hv ?_); (case hv => walk_at "hv")) | ((with_reducible refine' CM.okW_lstAt ?hv ?_); (case hv => walk_at "hv"))
  | with_reducible refine CM.w_add ?_ | with_reducible refine CM.w_sub ?_ | with_reducible refine CM.w_lt ?_ | with_reducible refine CM.w_le ?_ | with_reducible refine CM.w_gt ?_ | with_reducible refine CM.w_ge ?_ | with_reducible refine CM.w_addI ?_
  | with_reducible refine CM.w_mod (by omega) ?_ | with_reducible refine CM.w_div (by omega) (by rw [CM.big_eq]; omega) ?_ | with_reducible refine CM.w_mul (by rw [CM.big_eq]; omega) (by rw [CM.big_eq]; omega) (by rw [CM.big_eq]; omega) (by rw [CM.big_eq]; omega) ?_ | with_reducible refine CM.w_sq (by omega) (by omega) ?_
  | with_reducible refine CM.w_max2 ?_ | with_reducible refine CM.w_min2 ?_ | with_reducible refine CM.w_lenL ?_ | with_reducible refine CM.w_lenT ?_ | with_reducible refine CM.w_lenC ?_ | with_reducible refine CM.w_listL ?_ | with_reducible refine CM.w_listT ?_ | with_reducible refine CM.w_tupL ?_ | with_reducible refine CM.w_tupT ?_
  | ((with_reducible refine CM.okG_setC ?_); (try dsimp only [List.set, CM.fzW]))
  | ((with_reducible refine' CM.okW_ix ?hv ?_); (case hv => rfl))
  | ((with_reducible refine' CM.okB_test (CM.okE_eqn ⟨_, ?hv, ?_⟩)); (case hv => rfl))
  | ((with_reducible refine' CM.okB_testd ⟨_, ?hv, ?_⟩); (case hv => rfl)))
local macro_rules | `(tactic| walk_at "p") => `(tactic| repeat walk_at "p1")
/-- what the columns are: names, each its own -/
def Cols (m : Nat) (ls : List (List Nat)) : Prop := ls.length = m ∧ ls.Nodup ∧ ∀ l ∈ ls, NmL l
theorem flat_one : ∀ (ls : List (List Nat)), (∀ (i : Nat) (h : i < ls.length), ls[i].length = 1 ∧ ∀ c ∈ ls[i], c ∈ lets) → ls.flatten.length = ls.length ∧ ∀ c ∈ ls.flatten, c ∈ lets
  | [], _ => ⟨rfl, fun c h => by cases h⟩
  | l :: ls, h => by
    have h0 := h 0 (Nat.zero_lt_succ _)
    obtain ⟨a, b⟩ := flat_one ls fun i hi => h (i + 1) (by simpa using hi)
    rw [List.flatten_cons]
    constructor
    · rw [List.length_append, a]
      have : l.length = 1 := h0.1
      rw [this, List.length_cons]
      omega
    · intro c hc
      rcases List.mem_append.mp hc with q | q
      · exact h0.2 c q
      · exact b c q
theorem perm_map {α β : Type} {f : α → β} (g : β → α) (hg : ∀ x, g (f x) = x) {xs : List α} {ys : List β} (h : ys.Perm (xs.map f)) : ∃ zs : List α, ys = zs.map f ∧ zs.Perm xs := by
  refine ⟨ys.map g, ?_, ?_⟩
  · rw [List.map_map]
    conv => lhs; rw [← List.map_id ys]
    refine List.map_congr_left fun y hy => ?_
    obtain ⟨x, _, rfl⟩ := List.mem_map.mp (h.mem_iff.mp hy)
    show f x = f (g (f x))
    rw [hg]
  · have z := h.map g
    rw [List.map_map] at z
    have e : xs.map (g ∘ f) = xs := by
      conv => rhs; rw [← List.map_id xs]
      exact List.map_congr_left fun x _ => hg x
    rw [e] at z
    exact z
end
end CM
namespace CM
open PySem PySem.Spec PyProof.Rows L2 SL
abbrev LS (zs : List Str) : List D := zs.map .str
theorem pds_strs : ∀ zs : List Str, pds (LS zs) = some (zs.map PyData.str)
  | [] => rfl
  | z :: zs => by
    show (pd (.str z)).bind (fun x => (pds (LS zs)).map (x :: ·)) = _
    rw [pds_strs zs]
    rfl
theorem pd_strs (zs : List Str) : pd (.lst (LS zs)) = some (.list (zs.map PyData.str)) := by
  show (pds (LS zs)).map PyData.list = _
  rw [pds_strs]
  rfl
theorem eqv_strs : ∀ zs ws : List Str, PyData.eqvAll (zs.map PyData.str) (ws.map PyData.str) = decide (zs = ws)
  | [], [] => by simp [PyData.eqvAll]
  | [], w :: ws => by simp [PyData.eqvAll]
  | z :: zs, [] => by simp [PyData.eqvAll]
  | z :: zs, w :: ws => by
    rw [List.map_cons, List.map_cons, PyData.eqvAll, eqv_strs zs ws, PyData.eqv]
    by_cases h : z = w
    · subst h
      simp
    · simp [h]
def Ascs (zs : List Str) : Prop := ∀ z ∈ zs, Asc z
theorem dEqB_L {zs ws : List Str} (h1 : Ascs zs) (h2 : Ascs ws) : dEqB (.lst (LS zs)) (.lst (LS ws)) = some (decide (zs = ws)) := by
  show dEqB0 _ _ = _
  unfold dEqB0
  rw [pd_strs, pd_strs]
  show (if _ ∧ _ then some _ else none) = _
  rw [if_pos ⟨shaped_strs h1, shaped_strs h2⟩, PyData.eqv, eqv_strs]
theorem dEqB_SN {z : Str} (h1 : Asc z) : dEqB (.str z) .non = some false := by
  have h : ∀ z : Str, Asc z → SeqAt.shaped (.str z) = true := fun z h => by
    have := shaped_strs (ys := [z]) (fun x hx => by rw [List.mem_singleton.mp hx]; exact h)
    simp only [SeqAt.shaped, PyData.canLay0, PyData.depth, PyData.canLayAll0, PyData.depthAll, List.map_cons, List.map_nil, Bool.and_true] at this ⊢
    simp only [Bool.and_eq_true] at this ⊢
    exact ⟨this.1, by simp⟩
  show (if SeqAt.shaped (.str z) = true ∧ SeqAt.shaped .none = true then some (PyData.eqv (.str z) .none) else none) = _
  rw [if_pos ⟨h z h1, by simp [SeqAt.shaped, PyData.canLay0, PyData.depth]⟩, PyData.eqv]
theorem dEqB_NN : dEqB .non .non = some true := by
  show (if SeqAt.shaped .none = true ∧ SeqAt.shaped .none = true then some (PyData.eqv .none .none) else none) = _
  have h : SeqAt.shaped .none = true := by simp [SeqAt.shaped, PyData.canLay0, PyData.depth]
  rw [if_pos ⟨h, h⟩, PyData.eqv]
theorem w_eq {a b : D} {c : Bool} {Q : W → Prop} (h : dEqB a b = some c) (q : Q (.cl (.bl c))) : okW (dEq a b) Q := ⟨_, by unfold dEq; rw [h]; rfl, q⟩
theorem w_ne {a b : D} {c : Bool} {Q : W → Prop} (h : dEqB a b = some c) (q : Q (.cl (.bl (!c)))) : okW (dNe a b) Q := ⟨_, by unfold dNe; rw [h]; rfl, q⟩
theorem flats_strs : ∀ zs : List Str, flats (LS zs) = some (zs.map V.str)
  | [] => rfl
  | z :: zs => by
    show (flat (.str z)).bind (fun v => (flats (LS zs)).map (v :: ·)) = _
    rw [flats_strs zs]
    rfl
theorem inV_strs {x : Str} {ys : List Str} : inV (.str x) (ys.map V.str) = decide (x ∈ ys) := by
  unfold inV
  rw [Bool.eq_iff_iff, List.any_eq_true, decide_eq_true_eq]
  constructor
  · rintro ⟨v, hv, e⟩
    obtain ⟨y, hy, rfl⟩ := List.mem_map.mp hv
    have : y = x := by simpa [eqV] using e
    rw [← this]
    exact hy
  · intro h
    exact ⟨.str x, List.mem_map.mpr ⟨x, h, rfl⟩, by simp [eqV]⟩
theorem inV_non {ys : List Str} : inV .non (ys.map V.str) = false := by
  unfold inV
  rw [List.any_eq_false]
  intro v hv
  obtain ⟨y, _, rfl⟩ := List.mem_map.mp hv
  simp [eqV]
theorem w_in {a b : D} {c : Bool} {Q : W → Prop} (h : dInB a b = some c) (q : Q (.cl (.bl c))) : okW (dIn a b) Q := ⟨_, by unfold dIn; rw [h]; rfl, q⟩
theorem w_srtQ {d : D} {zs : List Str} {Q : W → Prop} (hd : seqD d.u = some (LS zs)) (h : zs.length < 64) (q : Q (W.fr (LS (sortS zs)))) : okW (dSrt [d]) Q := ⟨_, by
  show ((seqD d.u).bind fun ds => match strsOf ds with
      | some zs => if zs.length < 64 then some (W.fr ((sortS zs).map .str)) else none
      | none => (intsOf ds).bind fun ns => if ns.length < 64 then some (W.fr ((sortI ns).map .int)) else none) = _
  rw [hd]
  show (match strsOf (LS zs) with
      | some zs => if zs.length < 64 then some (W.fr ((sortS zs).map .str)) else none
      | none => (intsOf (LS zs)).bind fun ns => if ns.length < 64 then some (W.fr ((sortI ns).map .int)) else none) = _
  rw [strsOf_map]
  show (if _ then _ else _) = _
  rw [if_pos h], q⟩
theorem w_srt {zs : List Str} {Q : W → Prop} (h : zs.length < 64) (q : Q (W.fr (LS (sortS zs)))) : okW (dSrt [.lst (LS zs)]) Q := w_srtQ rfl h q
theorem sortS_eq {a b : List Str} : sortS a = sortS b ↔ a.Perm b := by
  constructor
  · intro h
    exact (sortS_perm a).symm.trans (h ▸ sortS_perm b)
  · intro h
    exact perm_eq (fun _ _ => leS_antisymm) ((sortS_perm a).trans (h.trans (sortS_perm b).symm)) (sortS_sorted a) (sortS_sorted b)
theorem sortS_len (a : List Str) : (sortS a).length = a.length := (sortS_perm a).length_eq
theorem sortS_mem {a : List Str} {z : Str} : z ∈ sortS a ↔ z ∈ a := (sortS_perm a).mem_iff
theorem lets_asc : ∀ c ∈ lets, c < 128 := by decide +kernel
theorem Nm.asc {z : Str} (h : Nm z) : Asc z := fun c hc => lets_asc c (h.2.2 c hc)
theorem cut_take {α : Type} (xs : List α) (k : Nat) : cutL xs none (some (k : Int)) = xs.take k := by
  unfold cutL
  rw [HT.sIx_none, HT.sIx_nat, List.drop_zero, Nat.sub_zero]
  rcases Nat.le_total k xs.length with h | h
  · rw [Nat.min_eq_left h]
  · rw [Nat.min_eq_right h, List.take_of_length_le (Nat.le_refl _), List.take_of_length_le h]
theorem cut_drop {α : Type} (xs : List α) (k : Nat) : cutL xs (some (k : Int)) none = xs.drop k := by
  unfold cutL
  rw [HT.sIx_none, HT.sIx_nat]
  rcases Nat.le_total k xs.length with h | h
  · rw [Nat.min_eq_left h]
    exact List.take_of_length_le (by rw [List.length_drop]; exact Nat.le_refl _)
  · rw [Nat.min_eq_right h, List.drop_of_length_le (Nat.le_refl _), List.drop_of_length_le h, List.take_nil]
theorem cut_mid {α : Type} (xs : List α) (a b : Nat) : cutL xs (some (a : Int)) (some (b : Int)) = (xs.drop a).take (b - a) := by
  unfold cutL
  rw [HT.sIx_nat, HT.sIx_nat]
  rcases Nat.le_total a xs.length with h | h
  · rw [Nat.min_eq_left h]
    rcases Nat.le_total b xs.length with h2 | h2
    · rw [Nat.min_eq_left h2]
    · rw [Nat.min_eq_right h2, List.take_of_length_le (by rw [List.length_drop]; exact Nat.le_refl _), List.take_of_length_le (by rw [List.length_drop]; omega)]
  · rw [Nat.min_eq_right h, List.drop_of_length_le (Nat.le_refl _), List.drop_of_length_le h, List.take_nil, List.take_nil]
theorem w_sl {ds : List D} {lo hi : Option Int} {Q : W → Prop} (q : Q (W.fr (cutL ds lo hi))) : okW (dSl (.lst ds) lo hi) Q := ⟨_, rfl, q⟩
def PI (xs : List Nat) : List D := xs.map fun i : Nat => .int (i : Int)
def oI : Option Nat → D
  | none => .non
  | some i => .int (i : Nat)
theorem PI_len (xs : List Nat) : (PI xs).length = xs.length := List.length_map ..
theorem PI_get {xs : List Nat} {j : Nat} (h : j < xs.length) : (PI xs)[j]? = some (.int (xs[j] : Nat)) := by
  unfold PI
  rw [List.getElem?_map, List.getElem?_eq_getElem h]
  rfl
theorem below_PI {k : Nat} (xs : List Nat) : below k (.lst (PI xs)) = true := by
  rw [below_lst, List.all_eq_true]
  intro d hd
  obtain ⟨z, _, rfl⟩ := List.mem_map.mp hd
  exact below_int
theorem below_oI {k : Nat} (s : Option Nat) : below k (oI s) = true := by
  cases s with
  | none => exact below_non
  | some i => exact below_int
theorem pds_PI : ∀ xs : List Nat, pds (PI xs) = some (xs.map fun i : Nat => PyData.int (i : Int))
  | [] => rfl
  | x :: xs => by
    show (pd (.int (x : Int))).bind (fun y => (pds (PI xs)).map (y :: ·)) = _
    rw [pds_PI xs]
    rfl
theorem pd_PI (xs : List Nat) : pd (.lst (PI xs)) = some (.list (xs.map fun i : Nat => PyData.int (i : Int))) := by
  show (pds (PI xs)).map PyData.list = _
  rw [pds_PI]
  rfl
theorem canLay_ints : ∀ xs : List Nat, PyData.canLayAll0 (xs.map fun i : Nat => PyData.int (i : Int)) = true
  | [] => by simp [PyData.canLayAll0]
  | x :: xs => by simp [PyData.canLayAll0, PyData.canLay0, canLay_ints xs]
theorem depth_ints : ∀ xs : List Nat, PyData.depthAll (xs.map fun i : Nat => PyData.int (i : Int)) = 0
  | [] => by simp [PyData.depthAll]
  | x :: xs => by simp [PyData.depthAll, PyData.depth, depth_ints xs]
theorem shaped_ints (xs : List Nat) : SeqAt.shaped (.list (xs.map fun i : Nat => PyData.int (i : Int))) = true := by
  simp only [SeqAt.shaped, PyData.canLay0, PyData.depth, canLay_ints, depth_ints]
  decide
theorem eqv_ints : ∀ xs ys : List Nat, PyData.eqvAll (xs.map fun i : Nat => PyData.int (i : Int)) (ys.map fun i : Nat => PyData.int (i : Int)) = decide (xs = ys)
  | [], [] => by simp [PyData.eqvAll]
  | [], w :: ws => by simp [PyData.eqvAll]
  | z :: zs, [] => by simp [PyData.eqvAll]
  | z :: zs, w :: ws => by
    rw [List.map_cons, List.map_cons, PyData.eqvAll, eqv_ints zs ws, PyData.eqv]
    by_cases h : z = w
    · subst h
      simp
    · simp [h, Int.ofNat_inj]
theorem dEqB_PI (xs ys : List Nat) : dEqB (.lst (PI xs)) (.lst (PI ys)) = some (decide (xs = ys)) := by
  show dEqB0 _ _ = _
  unfold dEqB0
  rw [pd_PI, pd_PI]
  show (if _ ∧ _ then some _ else none) = _
  rw [if_pos ⟨shaped_ints xs, shaped_ints ys⟩, PyData.eqv, eqv_ints]
theorem flats_PI : ∀ xs : List Nat, flats (PI xs) = some (xs.map fun i : Nat => V.int (i : Int))
  | [] => rfl
  | z :: zs => by
    show (flat (.int (z : Int))).bind (fun v => (flats (PI zs)).map (v :: ·)) = _
    rw [flats_PI zs]
    rfl
theorem inV_ints {x : Nat} {ys : List Nat} : inV (.int (x : Int)) (ys.map fun i : Nat => V.int (i : Int)) = decide (x ∈ ys) := by
  unfold inV
  rw [Bool.eq_iff_iff, List.any_eq_true, decide_eq_true_eq]
  constructor
  · rintro ⟨v, hv, e⟩
    obtain ⟨y, hy, rfl⟩ := List.mem_map.mp hv
    have : (y : Int) = x := by simpa [eqV] using e
    have : y = x := by omega
    rw [← this]
    exact hy
  · intro h
    exact ⟨.int (x : Int), List.mem_map.mpr ⟨x, h, rfl⟩, by simp [eqV]⟩
theorem inV_nonI {ys : List Nat} : inV .non (ys.map fun i : Nat => V.int (i : Int)) = false := by
  unfold inV
  rw [List.any_eq_false]
  intro v hv
  obtain ⟨y, _, rfl⟩ := List.mem_map.mp hv
  simp [eqV]
theorem dInB_PI {x : Nat} {xs : List Nat} : dInB (.int (x : Int)) (.lst (PI xs)) = some (decide (x ∈ xs)) := by
  show (flat (.int (x : Int))).bind (fun v => (flats (PI xs)).map fun vs => inV v vs) = _
  rw [flats_PI]
  show some (inV (.int (x : Int)) (xs.map fun i : Nat => V.int (i : Int))) = _
  rw [inV_ints]
theorem dInB_oI {s : Option Nat} {xs : List Nat} : dInB (oI s) (.lst (PI xs)) = some (decide (∃ i, s = some i ∧ i ∈ xs)) := by
  cases s with
  | none =>
    show (flat .non).bind (fun v => (flats (PI xs)).map fun vs => inV v vs) = _
    rw [flats_PI]
    show some (inV .non (xs.map fun i : Nat => V.int (i : Int))) = _
    rw [inV_nonI]
    simp
  | some i =>
    show dInB (.int (i : Int)) (.lst (PI xs)) = _
    rw [dInB_PI]
    simp
theorem w_niPI {x : Nat} {xs : List Nat} {Q : W → Prop} (q : Q (.cl (.bl (!decide (x ∈ xs))))) : okW (dNi (.int (x : Int)) (.lst (PI xs))) Q := ⟨_, by
  show (dInB (.int (x : Int)) (.lst (PI xs))).map (fun b => W.cl (.bl (!b))) = _
  rw [dInB_PI]
  rfl, q⟩
/-- sorted numbers -/
theorem sort_nat (xs : List Nat) : ∃ ys : List Nat, sortI (xs.map fun i : Nat => (i : Int)) = ys.map (fun i : Nat => (i : Int)) ∧ ys.Perm xs ∧ ys.Pairwise (· ≤ ·) := by
  have hp : (sortI (xs.map fun i : Nat => (i : Int))).Perm (xs.map fun i : Nat => (i : Int)) := List.mergeSort_perm _ _
  obtain ⟨ys, e, hq⟩ := perm_map (f := fun i : Nat => (i : Int)) Int.toNat (fun i => Int.toNat_natCast i) hp
  refine ⟨ys, e, hq, ?_⟩
  have hs : (sortI (xs.map fun i : Nat => (i : Int))).Pairwise (fun a b => decide (a ≤ b) = true) := List.pairwise_mergeSort (le := fun a b : Int => decide (a ≤ b)) (fun a b c h1 h2 => by
    simp only [decide_eq_true_eq] at *
    omega) (fun a b => by
    simp only [Bool.or_eq_true, decide_eq_true_eq]
    omega) _
  rw [e, List.pairwise_map] at hs
  exact hs.imp fun h => by
    have := of_decide_eq_true h
    omega
theorem asc_of {ys : List Nat} (h : ys.Pairwise (· ≤ ·)) (n : ys.Nodup) : ys.Pairwise (· < ·) := (List.pairwise_and_iff.mpr ⟨h, n⟩).imp fun h => by omega
theorem strsOf_PI {x : Nat} {xs : List Nat} : strsOf (PI (x :: xs)) = none := rfl
theorem intsOf_PI : ∀ xs : List Nat, intsOf (PI xs) = some (xs.map fun i : Nat => (i : Int))
  | [] => rfl
  | x :: xs => by
    show (intsOf (PI xs)).map ((x : Int) :: ·) = _
    rw [intsOf_PI xs]
    rfl
theorem w_srtPI {xs : List Nat} {Q : W → Prop} (h : xs.length < 64) (q : ∀ ys : List Nat, ys.Perm xs → ys.Pairwise (· ≤ ·) → Q (W.fr (PI ys))) : okW (dSrt [.lst (PI xs)]) Q := by
  obtain ⟨ys, e, h1, h2⟩ := sort_nat xs
  cases xs with
  | nil =>
    have : ys = [] := List.Perm.eq_nil h1
    subst this
    exact ⟨_, rfl, q [] (.refl _) .nil⟩
  | cons x xs =>
    refine ⟨_, ?_, q ys h1 h2⟩
    show (match strsOf (PI (x :: xs)) with
      | some zs => if zs.length < 64 then some (W.fr ((sortS zs).map .str)) else none
      | none => (intsOf (PI (x :: xs))).bind fun ns => if ns.length < 64 then some (W.fr ((sortI ns).map .int)) else none) = _
    rw [strsOf_PI]
    dsimp only
    rw [intsOf_PI]
    show (if _ then _ else _) = _
    rw [if_pos (by rw [List.length_map]; exact h), e, List.map_map]
    rfl
section
variable {ρ : List Sl} {h : Tb} {P : Ps W} {X : Px} {N : List Sl → Tb → Prop} {T : Ps W} {L : Bool → List Sl → Tb → Prop} {a b c e : Mo W} {f g : D → D → Option W} {es : Mo (List W)} {C n : Str} {m : Fnm} {keep : Bool} {dvs : List D} {i : Nat} {ks : List Kd}
theorem okE_chain (q : okE (a ρ h) (fun x ρ h => okE (b ρ h) (fun y ρ h => okW (deref h x) fun dx => okW (deref h y) fun dy => ∃ k, f dx dy = some (.cl (.bl k)) ∧ (k = true → okE (c ρ h) (fun z ρ h => okW (deref h y) fun dy => okW (deref h z) fun dz => okW (g dy dz) fun w => P w ρ h) X) ∧ (k = false → P (.cl (.bl false)) ρ h)) X) X) : okE (mChain f g a b c ρ h) P X :=
  okE_bind (q.mono fun x ρ h q => okE_bind (q.mono fun y ρ h q => by
    obtain ⟨dx, e1, dy, e2, k, e3, p1, p2⟩ := q
    rw [e1, e2]
    show okE (match f dx dy with
      | some (.cl (.bl true)) => bindR (c ρ h) fun z ρ h => (deref h y).bind fun dy => (deref h z).bind fun dz => (g dy dz).map fun w => .ok w ρ h
      | some (.cl (.bl false)) => some (.ok (.cl (.bl false)) ρ h)
      | _ => none) P X
    rw [e3]
    cases k with
    | false => exact okE_some (p2 rfl)
    | true => exact okE_bind ((p1 rfl).mono fun z ρ h q => okE_opt (q.elim fun _ q => ⟨_, q.1, okE_opt (q.2.elim fun _ q => ⟨_, q.1, okE_map (q.2.elim fun _ q => ⟨_, q.1, okE_some q.2⟩)⟩)⟩))))
theorem insOf_eq {fs : List (Str × D)} : insOf C (.ins C fs) = some fs := by
  show (if C = C then some fs else none) = _
  rw [if_pos rfl]
theorem okE_fld (q : okE (a ρ h) (fun w ρ h => ∃ fs d, deref h w = some (.ins C fs) ∧ fs.lookup n = some d ∧ P (.cl d) ρ h) X) : okE (mFld C n a ρ h) P X := okE_bind (q.mono fun w ρ h q => by
  obtain ⟨fs, d, e1, e2, p⟩ := q
  rw [e1]
  show okE ((insOf C (.ins C fs)).bind fun fs => (fs.lookup n).map fun d => R.ok (W.cl d) ρ h) P X
  rw [insOf_eq]
  exact okE_map ⟨_, e2, okE_some p⟩)
theorem okE_make (q : okE (es ρ h) (fun ws ρ h => okF (m (.ce h.length :: (ws.map fzW ++ dvs)) (h ++ [.ins C []])) (fun w h' => w = .cl .non ∧ okW (cutF keep h (.cl (.ce h.length)) h') fun x => P x.1 ρ x.2) noX) X) : okE (mMake keep C m dvs es ρ h) P X := okE_bind (q.mono fun ws ρ h q => by
  obtain ⟨w, h', e, rfl, x, e2, p⟩ := q.rt
  rw [e]
  dsimp only
  rw [e2]
  exact okE_some p)
theorem okS_fld (q : okE (e ρ h) (fun w ρ h => okE (a ρ h) (fun u ρ h => okW (insAt C h u) fun x => x.2.length < 1000 ∧ N ρ (h.set x.1 (.ins C (putD n (fzW w) x.2)))) X) X) : okS (sFldM C n a e ρ h) N T L X := okS_bind (q.mono fun w ρ h q => okS_bind (q.mono fun u ρ h q => okS_opt (q.elim fun x q => ⟨x, q.1, by
  dsimp only
  rw [if_pos q.2.1]
  exact ⟨_, rfl, q.2.2⟩⟩)))
theorem insAt_eq {k : Nat} {fs : List (Str × D)} (e : h[k]? = some (.ins C fs)) : insAt C h (.cl (.ce k)) = some (k, fs) := by
  show (match h[k]? with
    | some (.ins C' fs) => if C' = C then some (k, fs) else none
    | _ => none) = _
  rw [e]
  exact if_pos rfl
theorem okE_strO {z : Str} (q : okE (es ρ h) (fun ws ρ h => ∃ w fs, ws = [w] ∧ deref h w = some (.ins C fs) ∧ okF (m [fzW w] h) (fun w h => w = .cl (.str z) ∧ P (.cl (.str z)) ρ h) noX) X) : okE (mStrO C m es ρ h) P X := okE_bind (q.mono fun ws ρ h q => by
  obtain ⟨w, fs, rfl, e1, q⟩ := q
  obtain ⟨u, h', e2, rfl, p⟩ := q.rt
  show okE ((deref h w).bind fun d => (insOf C d.u).bind fun _ => (callT m [fzW w] ρ h).bind fun r => if chkS r = true then some r else none) P X
  rw [e1]
  show okE ((insOf C (.ins C fs)).bind fun _ => (callT m [fzW w] ρ h).bind fun r => if chkS r = true then some r else none) P X
  rw [insOf_eq]
  unfold callT
  rw [e2]
  exact okE_some p)
theorem okE_enum {P : Ps ItM} (q : okE (es ρ h) (fun ws ρ h => ∃ w d ds, ws = [w] ∧ deref h w = some d ∧ seqD d.u = some ds ∧ ds.length ≤ 90000 ∧ P ⟨(List.range ds.length).zipWith (fun i d => .tup [.int (i : Nat), d]) ds, ckOf h w⟩ ρ h) X) : okE (mEnum es ρ h) P X := okE_bind (q.mono fun ws ρ h q => by
  obtain ⟨w, d, ds, rfl, e1, e2, h1, p⟩ := q
  show okE ((deref h w).bind fun d => (seqD d.u).bind fun ds => if ds.length ≤ 90000 then some (.ok ⟨(List.range ds.length).zipWith (fun i d => .tup [.int (i : Nat), d]) ds, ckOf h w⟩ ρ h) else none) P X
  rw [e1]
  dsimp only [Option.bind_some]
  rw [e2]
  dsimp only [Option.bind_some]
  rw [if_pos h1]
  exact okE_some p)
theorem okG_tup2 {g1 g2 : Tg} {x y : D} (q : okG (g1 (.cl x) ρ h) fun ρ h => okG (g2 (.cl y) ρ h) N) : okG (gTupM 2 (gsCons g1 (gsCons g2 gsNil)) (.cl (.tup [x, y])) ρ h) N := by
  obtain ⟨y1, e1, y2, e2, p⟩ := q
  refine ⟨y2, ?_, p⟩
  show ((g1 (.cl x) ρ h).bind fun z => (g2 (.cl y) z.1 z.2).bind fun z => some z) = _
  rw [e1]
  show ((g2 (.cl y) y1.1 y1.2).bind fun z => some z) = _
  rw [e2]
  rfl
end
theorem enum_at {α β : Type} {f : Nat → α → β} {ds : List α} {j : Nat} {d : β} (h : ((List.range ds.length).zipWith f ds)[j]? = some d) : ∃ x, ds[j]? = some x ∧ d = f j x := by
  obtain ⟨hj, e⟩ := List.getElem?_eq_some_iff.mp h
  rw [List.length_zipWith, List.length_range, Nat.min_self] at hj
  rw [List.getElem_zipWith, List.getElem_range] at e
  exact ⟨ds[j], List.getElem?_eq_getElem hj, e.symm⟩
theorem nodup_take {α : Type} {xs : List α} (hn : xs.Nodup) {j : Nat} {z : α} (h : xs[j]? = some z) : z ∉ xs.take j := by
  intro hm
  obtain ⟨hj, e⟩ := List.getElem?_eq_some_iff.mp h
  obtain ⟨i, hi, e2⟩ := List.getElem_of_mem hm
  rw [List.length_take] at hi
  rw [List.getElem_take] at e2
  unfold List.Nodup at hn
  rw [List.pairwise_iff_getElem] at hn
  exact hn i j (by omega) hj (by omega) (e2.trans e.symm)
theorem strs_at {zs : List Str} {j : Nat} {d : D} (h : (LS zs)[j]? = some d) : ∃ z, zs[j]? = some z ∧ d = .str z := by
  rw [List.getElem?_map] at h
  cases e : zs[j]? with
  | none => rw [e] at h; cases h
  | some z =>
    rw [e] at h
    cases h
    exact ⟨z, rfl, rfl⟩
end CM
namespace CM
open PySem PySem.Spec PyProof.Rows L2 SL
def take2M (A B C : Int) : MS := (sSeq (sIf (mTest (mOp dGt (mOp dIx (mVar 0) (mC (.int 0))) (mC (.int 0)))) (sSeq (sAsg (mOp dMod (mOp dIx (mVar 0) (mC (.int 0))) (mVar 1)) (gSetC 3))
    (sSeq (sAsg (mOp dDiv (mOp dIx (mVar 0) (mC (.int 0))) (mVar 1)) (gSubL (mVar 0) (mC (.int 0))))
    (sRet (mVar 3)))) sNext)
    (sSeq (sAsg (mOp dAdd (mOp dIx (mVar 0) (mC (.int 2))) (mC (.int 1))) (gSubL (mVar 0) (mC (.int 2))))
    (sSeq (sAsg (mOp dMod (mOp dPow (mOp dAdd (mOp dAdd (mOp dIx (mVar 0) (mC (.int 1))) (mOp dMul (mC (.int A)) (mOp dIx (mVar 0) (mC (.int 2))))) (mC (.int B))) (mC (.int 5))) (mC (.int 2147483647))) (gSetC 2))
    (sSeq (sAsg (mOp dMod (mOp dPow (mOp dAdd (mVar 2) (mOp dMul (mC (.int C)) (mOp dIx (mVar 0) (mC (.int 2))))) (mC (.int 3))) (mC (.int 2147483587))) (gSetC 2))
    (sRet (mOp dMod (mOp dDiv (mVar 2) (mC (.int 16))) (mVar 1)))))))
section
variable {ρ : List Sl} {h h0 : Tb} {P : Ps W} {X : Px} {A B C i j : Int} {b n k : Nat} {d e : D} {ds : List D} {m : Int}
theorem w_pow {Q : W → Prop} (k0 : 0 ≤ j) (k1 : j ≤ 1000000) (h1 : -18446744073709551616 < i) (h2 : i < 18446744073709551616) (q : Q (.cl (.int (i ^ j.toNat)))) : okW (dPow (.int i) (.int j)) Q := ⟨_, by show (if 0 ≤ j ∧ j ≤ 1000000 ∧ -18446744073709551616 < i ∧ i < 18446744073709551616 then some (W.cl (.int (i ^ j.toNat))) else none) = _; rw [if_pos ⟨k0, k1, h1, h2⟩], q⟩
local macro_rules | `(tactic| walk_at "hv") => `(tactic| first | rfl | assumption | (exact (by assumption : _)))
local macro_rules | `(tactic| walk_at "p1") => `(tactic| first
  | with_reducible refine CM.okS_seq ?_ | with_reducible refine CM.okS_next ?_ | with_reducible refine CM.okS_asg ?_ | with_reducible refine CM.okS_ret ?_ | with_reducible refine CM.okS_drop ?_ | with_reducible refine CM.okS_aug ?_ | with_reducible refine CM.okS_cnt ?_ | with_reducible refine CM.okS_fg ?_ | with_reducible refine CM.okS_retN ?_
  | with_reducible refine CM.okE_op ?_ | with_reducible refine CM.okE_cb ?_ | with_reducible refine CM.okE_cons ?_ | with_reducible refine CM.okE_nil ?_ | with_reducible refine CM.okB_not ?_ | with_reducible refine CM.okE_c ?_ | with_reducible refine CM.okE_fr ?_ | with_reducible refine CM.okE_ce ?_ | with_reducible refine CM.okE_notV ?_ | with_reducible refine CM.okE_un ?_
  | with_reducible refine CM.okE_sl ?_ | with_reducible refine CM.okE_nopart ?_
  | ((with_reducible refine' CM.okE_var ?hv ?_); (case hv => rfl))
  | ((with_reducible refine' CM.okE_part (CM.okE_var ?hv ⟨_, ?hv2, ?_⟩)); (case hv => rfl); (case hv2 => rfl))
  | ((with_reducible refine' CM.okE_part (CM.okE_c ⟨_, ?hv2, ?_⟩)); (case hv2 => rfl))
  | ((with_reducible refine' CM.okW_eq (w := _) ?hv ?_); (case hv => (with_reducible rfl)))
  | ((with_reducible refine' CM.okW_deref ?hv ?_); (case hv => walk_at "hv")) | ((with_reducible refine' CM.okW_derefs ?hv ?_); (case hv => rfl)) | ((with_reducible refine' CM.okW_derefC ?hv ?_); (case hv => walk_at "hv")) | ((with_reducible refine' CM.okW_lstAt ?hv ?_); (case hv => walk_at "hv"))
  | with_reducible refine CM.w_add ?_ | with_reducible refine CM.w_sub ?_ | with_reducible refine CM.w_lt ?_ | with_reducible refine CM.w_le ?_ | with_reducible refine CM.w_gt ?_ | with_reducible refine CM.w_ge ?_ | with_reducible refine CM.w_addI ?_
  | with_reducible refine CM.w_mod (by omega) ?_ | with_reducible refine CM.w_div (by omega) (by rw [CM.big_eq]; omega) ?_ | with_reducible refine CM.w_mul (by rw [CM.big_eq]; omega) (by rw [CM.big_eq]; omega) (by rw [CM.big_eq]; omega) (by rw [CM.big_eq]; omega) ?_ | with_reducible refine CM.w_sq (by omega) (by omega) ?_
  | with_reducible refine CM.w_max2 ?_ | with_reducible refine CM.w_min2 ?_ | with_reducible refine CM.w_lenL ?_ | with_reducible refine CM.w_lenT ?_ | with_reducible refine CM.w_lenC ?_ | with_reducible refine CM.w_listL ?_ | with_reducible refine CM.w_listT ?_ | with_reducible refine CM.w_tupL ?_ | with_reducible refine CM.w_tupT ?_
  | ((with_reducible refine CM.okG_setC ?_); (try dsimp only [List.set, CM.fzW]))
  | ((with_reducible refine' CM.okW_ix ?hv ?_); (case hv => rfl))
  | ((with_reducible refine' CM.okB_test (CM.okE_eqn ⟨_, ?hv, ?_⟩)); (case hv => rfl))
  | ((with_reducible refine' CM.okB_testd ⟨_, ?hv, ?_⟩); (case hv => rfl)))
local macro_rules | `(tactic| walk_at "p") => `(tactic| repeat walk_at "p1")
theorem take2_ok {P : W → Tb → Prop} {X : Str → List (Str × D) → Tb → Prop} (hA : 0 ≤ A) (hA2 : A ≤ 20000000) (hB : 0 ≤ B) (hB2 : B ≤ 1000000) (hC : 0 ≤ C) (hC2 : C ≤ 1000000) (hb : Bx b n h0 h) (hn : n ≤ 100000000) (hm : 0 < m) (hm2 : m ≤ 1000000) (q : ∀ v h', 0 ≤ v → v < m → Bx b (n + 1) h0 h' → P (.cl (.int v)) h') :
    okF (fnM false 2 2 (take2M A B C) [.ce b, .int m] h) P X := by
  obtain ⟨ds, hl, hc⟩ := hb.at_
  obtain ⟨a, s, c, rfl, h1, h2, h3, h4, h5⟩ := hl
  refine okF_fn rfl ?_
  show okS (take2M A B C [.cl (.ce b), .cl (.int m), .un, .un] h) _ _ _ _
  refine okS_seq (okS_if (okB_test (okE_op ?_)))
  walk_at "p"
  refine ⟨_, rfl, fun ht => ?_, fun ht => ?_⟩
  · have ht := of_decide_eq_true ht
    walk_at "p"
    refine okG_sub (okE_var rfl (okE_c ⟨0, rfl, ⟨_, (by show (match h[b]? with | some (.lst cs) => some (b, cs) | _ => none) = _; rw [hc]), ⟨0, rfl, ?_⟩⟩⟩))
    have hb2 : Bx b (n + 1) h0 (h.set b (.lst [.int (a / m), .int s, .int c])) := hb.put ⟨a / m, s, c, rfl, Int.ediv_nonneg h1 (by omega), h2, h3, h4, by omega⟩
    walk_at "p"
    exact cut_same (by rw [List.length_set]) (q _ _ (Int.emod_nonneg _ (by omega)) (Int.emod_lt_of_pos _ hm) hb2)
  · refine okS_next ?_
    walk_at "p"
    refine okG_sub (okE_var rfl (okE_c ⟨2, rfl, ⟨_, (by show (match h[b]? with | some (.lst cs) => some (b, cs) | _ => none) = _; rw [hc]), ⟨2, rfl, ?_⟩⟩⟩))
    have hb2 : Bx b (n + 1) h0 (h.set b (.lst [.int a, .int s, .int (c + 1)])) := hb.put ⟨a, s, c + 1, rfl, h1, h2, h3, by omega, by omega⟩
    have hc2 : (h.set b (.lst [.int a, .int s, .int (c + 1)]))[b]? = some (.lst [.int a, .int s, .int (c + 1)]) := List.getElem?_set_self hb.lt
    have hl2 : (h.set b (.lst [.int a, .int s, .int (c + 1)])).length = h.length := List.length_set ..
    show okS _ _ _ _ _
    dsimp only [fzW, List.set] at hb2 hc2 hl2 ⊢
    generalize h.set b (.lst [.int a, .int s, .int (c + 1)]) = h9 at hb2 hc2 hl2 ⊢
    generalize hcc : c + 1 = c1 at hb2 hc2 ⊢
    have k1 : 0 ≤ c1 := by omega
    have k2 : c1 ≤ 100000001 := by omega
    have k3 : 0 ≤ A * c1 := Int.mul_nonneg hA k1
    have k4 : A * c1 ≤ 20000000 * 100000001 := Int.mul_le_mul hA2 k2 k1 (by decide)
    have k5 : 0 ≤ C * c1 := Int.mul_nonneg hC k1
    have k6 : C * c1 ≤ 1000000 * 100000001 := Int.mul_le_mul hC2 k2 k1 (by decide)
    walk_at "p"
    refine w_pow (by decide) (by decide) (by omega) (by omega) ?_
    walk_at "p"
    have g1 := Int.emod_nonneg ((s + A * c1 + B) ^ (5 : Int).toNat) (b := 2147483647) (by decide)
    have g2 := Int.emod_lt_of_pos ((s + A * c1 + B) ^ (5 : Int).toNat) (b := 2147483647) (by decide)
    generalize ((s + A * c1 + B) ^ (5 : Int).toNat) % 2147483647 = r at g1 g2 ⊢
    refine w_pow (by decide) (by decide) (by omega) (by omega) ?_
    walk_at "p"
    exact cut_same hl2 (q _ _ (Int.emod_nonneg _ (by omega)) (Int.emod_lt_of_pos _ hm) hb2)
end
/-- a def that draws: what it is called with, how it answers -/
structure Tk (tk : Fnm) : Prop where
  ok : ∀ {b n : Nat} {h0 h : Tb} {m : Int} {P : W → Tb → Prop} {X : Str → List (Str × D) → Tb → Prop}, Bx b n h0 h → n ≤ 100000000 → 0 < m → m ≤ 1000000 → (∀ v h', 0 ≤ v → v < m → Bx b (n + 1) h0 h' → P (.cl (.int v)) h') → okF (tk [.ce b, .int m] h) P X
theorem tk2 {A B C : Int} (hA : 0 ≤ A) (hA2 : A ≤ 20000000) (hB : 0 ≤ B) (hB2 : B ≤ 1000000) (hC : 0 ≤ C) (hC2 : C ≤ 1000000) : Tk (fnM false 2 2 (take2M A B C)) := ⟨fun a b c d e => take2_ok hA hA2 hB hB2 hC hC2 a b c d e⟩
section
variable {ρ : List Sl} {h h0 : Tb} {P : Ps W} {X : Px} {tk : Fnm} {b n k : Nat} {m : Int}
/-- a draw within a def -/
theorem okE_tk {e : Mo W} (t : Tk tk) (hb : Bx b n h0 h) (hs : ρ[k]? = some (.cl (.ce b))) (hn : n ≤ 100000000) (he : okE (e ρ h) (fun w ρ' h' => ρ' = ρ ∧ h' = h ∧ w = .cl (.int m)) X) (hm : 0 < m) (hm2 : m ≤ 1000000) (q : ∀ v h', 0 ≤ v → v < m → Bx b (n + 1) h0 h' → P (.cl (.int v)) ρ h') :
    okE (callN tk (mCons (mCe (mVar k)) (mCons (mFr e) mNil)) ρ h) P X := by
  refine okE_call (okE_cons (okE_ce (okE_var hs (okE_cons (okE_fr (he.mono ?_))))))
  rintro w ρ' h' ⟨rfl, rfl, rfl⟩
  exact okE_nil (t.ok hb hn hm hm2 fun v h' v0 v1 hb' => q v h' v0 v1 hb')
/-- a draw of a written number -/
theorem okE_tkc (t : Tk tk) (hb : Bx b n h0 h) (hs : ρ[k]? = some (.cl (.ce b))) (hn : n ≤ 100000000) (hm : 0 < m) (hm2 : m ≤ 1000000) (q : ∀ v h', 0 ≤ v → v < m → Bx b (n + 1) h0 h' → P (.cl (.int v)) ρ h') :
    okE (callN tk (mCons (mCe (mVar k)) (mCons (mFr (mC (.int m))) mNil)) ρ h) P X := okE_tk t hb hs hn (okE_eq rfl ⟨rfl, rfl, rfl⟩) hm hm2 q
end
end CM
namespace CM
open PySem PySem.Spec PyProof.Rows L2 SL
noncomputable def namesM (tk : Fnm) : MS := (sSeq (sAsg (mC (.str "abcdefghijklmnopqrstuvwxyz")) (gSetC 2))
    (sSeq (sFg [8] (sAsg (mBS fJoin (mC (.str "")) (mCons (mLc (mRng1 (mCons (mC (.int 7)) mNil)) (gSetC 8) mYes (mOp dIx (mVar 2) (callN tk (mCons (mCe (mVar 0)) (mCons (mFr (mC (.int 26))) mNil)))) [8]) mNil)) (gSetC 3)))
    (sSeq (sPar3 false false false 4 5 6 (mCons (callN tk (mCons (mCe (mVar 0)) (mCons (mFr (mC (.int 8))) mNil))) (mCons (callN tk (mCons (mCe (mVar 0)) (mCons (mFr (mC (.int 26))) mNil))) (mCons (mOp dIx (mLst (mCons (mC (.int 1)) (mCons (mC (.int 3)) (mCons (mC (.int 5)) (mCons (mC (.int 7)) (mCons (mC (.int 9)) (mCons (mC (.int 11)) (mCons (mC (.int 15)) (mCons (mC (.int 17)) mNil))))))))) (callN tk (mCons (mCe (mVar 0)) (mCons (mFr (mC (.int 8))) mNil)))) mNil))))
    (sSeq (sAsg (mLst mNil) (gSet 7))
    (sSeq (sFor (mRng1 (mCons (mVar 1) mNil)) (gSetC 8) (sSeq (sAsg (mOp dAdd (mSl (mVar 3) mNoPart (mPart (mVar 4))) (mOp dIx (mVar 2) (mOp dMod (mOp dAdd (mVar 5) (mOp dMul (mVar 6) (mVar 8))) (mC (.int 26))))) (gSetC 9))
    (sDrop (mMut fAppend (mVar 7) (mCons (mOp dAdd (mVar 9) (mSl (mVar 3) (mPart (mVar 4)) (mPart (mOp dAdd (mVar 4) (callN tk (mCons (mCe (mVar 0)) (mCons (mFr (mOp dSub (mC (.int 8)) (mVar 4))) mNil))))))) mNil)))))
    (sSeq (sIf (mAnd (mTest (mOp dGt (mVar 1) (mC (.int 1)))) (mAnd (mTest (mOp dLt (mCB dLen (mCons (mOp dIx (mVar 7) (mC (.int 0))) mNil)) (mC (.int 8)))) (mTest (mOp dEq (callN tk (mCons (mCe (mVar 0)) (mCons (mFr (mC (.int 3))) mNil))) (mC (.int 0)))))) (sAsg (mOp dAdd (mOp dIx (mVar 7) (mC (.int 0))) (mOp dIx (mVar 2) (callN tk (mCons (mCe (mVar 0)) (mCons (mFr (mC (.int 26))) mNil))))) (gSubL (mVar 7) (mC (.int 1)))) sNext)
    (sRet (mVar 7))))))))
noncomputable def pickM (tk : Fnm) : MS := (sSeq (sPar true true 3 4 (mCons (mLstRg (mVar 1)) (mCons (mLst mNil) mNil)))
    (sSeq (sFor (mRng1 (mCons (callN tk (mCons (mCe (mVar 0)) (mCons (mFr (mOp dAdd (mCB dMin2 (mCons (mVar 1) (mCons (mVar 2) mNil))) (mC (.int 1)))) mNil))) mNil)) (gSetC 5) (sDrop (mMut fAppend (mVar 4) (mCons (mMut fPopAt (mVar 3) (mCons (callN tk (mCons (mCe (mVar 0)) (mCons (mFr (mCB dLen (mCons (mVar 3) mNil))) mNil))) mNil)) mNil))))
    (sSeq (sIf (mOr (mTest (mOp dEq (mVar 3) (mLst mNil))) (mOr (mTest (mOp dGt (mCB dLen (mCons (mVar 4) mNil)) (mC (.int 4)))) (mTest (mOp dEq (callN tk (mCons (mCe (mVar 0)) (mCons (mFr (mC (.int 2))) mNil))) (mC (.int 0)))))) (sRet (mTup (mCons (mCB dSrt (mCons (mVar 4) mNil)) (mCons (mC .non) mNil)))) sNext)
    (sRet (mTup (mCons (mCB dSrt (mCons (mVar 4) mNil)) (mCons (mOp dIx (mVar 3) (callN tk (mCons (mCe (mVar 0)) (mCons (mFr (mCB dLen (mCons (mVar 3) mNil))) mNil)))) mNil)))))))
noncomputable def nearM (tk : Fnm) : MS := (sSeq (sAsg (mTup (mCons (mCe (mCB dList (mCons (mOp dIx (mVar 2) (mC (.int 0))) mNil))) (mCons (mFr (mOp dIx (mVar 2) (mC (.int 1)))) mNil))) (gTupM 2 (gsCons (gSet 3) (gsCons (gSetC 4) gsNil))))
    (sSeq (sAsg (mLc (mRng1 (mCons (mVar 1) mNil)) (gSetC 7) (mTest (mOp dNi (mVar 7) (mVar 3))) (mVar 7) [7]) (gSetC 5))
    (sSeq (sAsg (callN tk (mCons (mCe (mVar 0)) (mCons (mFr (mC (.int 4))) mNil))) (gSetC 6))
    (sSeq (sIf (mAnd (mTest (mOp dLt (mVar 6) (mC (.int 2)))) (mTest (mOp dNe (mVar 5) (mLst mNil)))) (sAsg (mCB dSrt (mCons (mOp dAdd (mVar 3) (mLst (mCons (mOp dIx (mVar 5) (callN tk (mCons (mCe (mVar 0)) (mCons (mFr (mCB dLen (mCons (mVar 5) mNil))) mNil)))) mNil))) mNil)) (gSet 3)) sNext)
    (sSeq (sIf (mAnd (mTest (mOp dEq (mVar 6) (mC (.int 2)))) (mTest (mOp dNe (mVar 3) (mLst mNil)))) (sDrop (mMut fPopAt (mVar 3) (mCons (callN tk (mCons (mCe (mVar 0)) (mCons (mFr (mCB dLen (mCons (mVar 3) mNil))) mNil))) mNil))) sNext)
    (sSeq (sAsg (mLc (mRng1 (mCons (mVar 1) mNil)) (gSetC 7) (mTest (mOp dNi (mVar 7) (mVar 3))) (mVar 7) [7]) (gSetC 5))
    (sSeq (sIf (mOr (mTest (mOp dIn (mVar 4) (mVar 3))) (mTest (mOp dEq (mVar 6) (mC (.int 3))))) (sAsg (mC .non) (gSetC 4)) sNext)
    (sSeq (sIf (mAnd (mTest (mOp dNe (mVar 5) (mLst mNil))) (mTest (mOp dEq (callN tk (mCons (mCe (mVar 0)) (mCons (mFr (mC (.int 3))) mNil))) (mC (.int 0))))) (sAsg (mOp dIx (mVar 5) (callN tk (mCons (mCe (mVar 0)) (mCons (mFr (mCB dLen (mCons (mVar 5) mNil))) mNil)))) (gSetC 4)) sNext)
    (sRet (mTup (mCons (mSl (mVar 3) mNoPart (mPart (mC (.int 5)))) (mCons (mIf (mTest (mOp dLt (mCB dLen (mCons (mVar 3) mNil)) (mC (.int 5)))) (mVar 4) (mC .non)) mNil))))))))))))
noncomputable def partsM (tk : Fnm) (pk : Fnm) (nr : Fnm) : MS := (sSeq (sPar3 true true false 3 4 5 (mCons (mLst mNil) (mCons (mLst mNil) (mCons (callN tk (mCons (mCe (mVar 0)) (mCons (mFr (mC (.int 3))) mNil))) mNil))))
    (sSeq (sFor (mRng1 (mCons (mVar 2) mNil)) (gSetC 6) (sSeq (sAsg (callN pk (mCons (mCe (mVar 0)) (mCons (mFr (mVar 1)) (mCons (mFr (mC (.int 5))) mNil)))) (gSetC 7))
    (sSeq (sIf (mAnd (mTest (mOp dGt (mVar 5) (mC (.int 0)))) (mAnd (mTest (mOp dNe (mVar 4) (mLst mNil))) (mTest (mOp dGt (callN tk (mCons (mCe (mVar 0)) (mCons (mFr (mC (.int 3))) mNil))) (mC (.int 0)))))) (sAsg (callN nr (mCons (mCe (mVar 0)) (mCons (mFr (mVar 1)) (mCons (mFr (mOp dIx (mVar 4) (callN tk (mCons (mCe (mVar 0)) (mCons (mFr (mCB dLen (mCons (mVar 4) mNil))) mNil))))) mNil)))) (gSetC 7)) sNext)
    (sSeq (sDrop (mMut fAppend (mVar 4) (mCons (mVar 7) mNil)))
    (sIf (mAnd (mTest (mOp dNiD (mVar 7) (mVar 3))) (mTest (mOp dGt (callN tk (mCons (mCe (mVar 0)) (mCons (mFr (mC (.int 5))) mNil))) (mC (.int 0))))) (sDrop (mMut fAppend (mVar 3) (mCons (mVar 7) mNil))) sNext)))))
    (sRet (mVar 3))))
noncomputable def shapeM (tk : Fnm) (si : Fnm) : MS := (sSeq (sPar true true 3 4 (mCons (mCB dList (mCons (mOp dIx (mVar 2) (mC (.int 0))) mNil)) (mCons (mLst mNil) mNil)))
    (sSeq (sFor (mRng1 (mCons (mCB dLen (mCons (mVar 3) mNil)) mNil)) (gSetC 5) (sDrop (mMut fAppend (mVar 4) (mCons (mOp dIx (mVar 1) (mMut fPopAt (mVar 3) (mCons (callN tk (mCons (mCe (mVar 0)) (mCons (mFr (mCB dLen (mCons (mVar 3) mNil))) mNil))) mNil))) mNil))))
    (sRet (mMake false "Shape" si [] (mCons (mFr (mOp dIx (mLst (mCons (mVar 4) (mCons (mCB dTuple (mCons (mVar 4) mNil)) mNil))) (callN tk (mCons (mCe (mVar 0)) (mCons (mFr (mC (.int 2))) mNil))))) (mCons (mFr (mIf (mTest (mOp dIs (mOp dIx (mVar 2) (mC (.int 1))) (mC .non))) (mC .non) (mOp dIx (mVar 1) (mOp dIx (mVar 2) (mC (.int 1)))))) mNil))))))
section
variable {ρ : List Sl} {h h0 h1 g : Tb} {P : Ps W} {X : Px} {N : List Sl → Tb → Prop} {T : Ps W} {L : Bool → List Sl → Tb → Prop} {tk : Fnm} {b n k i j len : Nat} {m : Int} {c : D}
theorem tail_at (hl : h1.length = len) : (h1 ++ g)[len + i]? = g[i]? := by
  rw [List.getElem?_append_right (by omega)]
  congr 1
  omega
theorem tail_at0 (hl : h1.length = len) : (h1 ++ g)[len]? = g[0]? := tail_at (i := 0) hl
theorem tail_set (hl : h1.length = len) : (h1 ++ g).set (len + i) c = h1 ++ g.set i c := by
  rw [List.set_append_right _ _ (by omega)]
  congr 2
  omega
theorem tail_set0 (hl : h1.length = len) : (h1 ++ g).set len c = h1 ++ g.set 0 c := tail_set (i := 0) hl
/-- a draw, own cells behind -/
theorem okE_tkg {e : Mo W} (t : Tk tk) (hb : Bx b n h0 h1) (hs : ρ[k]? = some (.cl (.ce b))) (hn : n ≤ 100000000) (he : okE (e ρ (h1 ++ g)) (fun w ρ' h' => ρ' = ρ ∧ h' = h1 ++ g ∧ w = .cl (.int m)) X) (hm : 0 < m) (hm2 : m ≤ 1000000) (q : ∀ v h2, 0 ≤ v → v < m → Bx b (n + 1) h0 h2 → P (.cl (.int v)) ρ (h2 ++ g)) :
    okE (callN tk (mCons (mCe (mVar k)) (mCons (mFr e) mNil)) ρ (h1 ++ g)) P X := okE_tk t hb.app hs hn he hm hm2 fun v h' v0 v1 hb' => by
  obtain ⟨h2, rfl, hb2⟩ := hb'.unapp (by rw [← hb.len]; exact hb.lt)
  exact q v h2 v0 v1 hb2
theorem okE_tkcg (t : Tk tk) (hb : Bx b n h0 h1) (hs : ρ[k]? = some (.cl (.ce b))) (hn : n ≤ 100000000) (hm : 0 < m) (hm2 : m ≤ 1000000) (q : ∀ v h2, 0 ≤ v → v < m → Bx b (n + 1) h0 h2 → P (.cl (.int v)) ρ (h2 ++ g)) :
    okE (callN tk (mCons (mCe (mVar k)) (mCons (mFr (mC (.int m))) mNil)) ρ (h1 ++ g)) P X := okE_tkg t hb hs hn (okE_eq rfl ⟨rfl, rfl, rfl⟩) hm hm2 q
theorem w_slice {a : List Nat} {j k : Nat} {Q : W → Prop} (hl : a.length ≤ 100000) (q : Q (.cl (.str (S ((a.drop j).take (k - j)))))) : okW (dSl (.str (S a)) (some (j : Int)) (some (k : Int))) Q := by
  refine ⟨_, ?_, q⟩
  show (if (S a).length ≤ 100000 then some (W.cl (.str (cutS (S a) (some (j : Int)) (some (k : Int))))) else none) = _
  rw [S_len, if_pos hl]
  have : cutS (S a) (some (j : Int)) (some (k : Int)) = S ((a.drop j).take (k - j)) := by
    unfold cutS
    rw [HT.sIx_nat, HT.sIx_nat, S_cps, S_len]
    show S _ = S _
    congr 1
    have := cut_mid a j k
    unfold cutL at this
    rw [HT.sIx_nat, HT.sIx_nat] at this
    exact this
  rw [this]
theorem w_lenS {a : List Nat} {Q : W → Prop} (hl : a.length ≤ 100000) (q : Q (.cl (.int a.length))) : okW (dLen [.str (S a)]) Q := by
  refine ⟨_, ?_, q⟩
  show (if (S a).length ≤ 100000 then some (W.cl (.int ((S a).length : Int))) else none) = _
  rw [S_len, if_pos hl]
theorem w_append {cs : List D} {d : D} {Q : D × List D → Prop} (hl : cs.length < 100000) (q : Q (.non, cs ++ [d])) : okW (fAppend cs [d]) Q := ⟨_, by
  show (if cs.length < 100000 then some (D.non, cs ++ [d]) else none) = _
  rw [if_pos hl], q⟩
theorem w_ixL {ds : List D} {i : Nat} {d : D} {Q : W → Prop} (e : ds[i]? = some d) (q : Q (.cl d)) : okW (dIx (.lst ds) (.int (i : Int))) Q := ⟨_, by
  show (atI ds (i : Int)).map W.cl = _
  rw [atI_nat e]
  rfl, q⟩
theorem w_ixT {ds : List D} {i : Nat} {d : D} {Q : W → Prop} (e : ds[i]? = some d) (q : Q (.cl d)) : okW (dIx (.tup ds) (.int (i : Int))) Q := ⟨_, by
  show (atI ds (i : Int)).map W.cl = _
  rw [atI_nat e]
  rfl, q⟩
theorem below_strs' {k : Nat} (ls : List (List Nat)) : below k (.lst (ls.map (D.str ∘ S))) = true := by
  have := below_strs (k := k) (ls.map S)
  rwa [List.map_map] at this
local macro_rules | `(tactic| walk_at "hv") => `(tactic| first | rfl | assumption | (exact (by assumption : _)))
local macro_rules | `(tactic| walk_at "p1") => `(tactic| first
  | with_reducible refine CM.okS_seq ?_ | with_reducible refine CM.okS_next ?_ | with_reducible refine CM.okS_asg ?_ | with_reducible refine CM.okS_ret ?_ | with_reducible refine CM.okS_drop ?_ | with_reducible refine CM.okS_aug ?_ | with_reducible refine CM.okS_cnt ?_ | with_reducible refine CM.okS_fg ?_ | with_reducible refine CM.okS_retN ?_
  | with_reducible refine CM.okE_op ?_ | with_reducible refine CM.okE_cb ?_ | with_reducible refine CM.okE_cons ?_ | with_reducible refine CM.okE_nil ?_ | with_reducible refine CM.okB_not ?_ | with_reducible refine CM.okE_c ?_ | with_reducible refine CM.okE_fr ?_ | with_reducible refine CM.okE_ce ?_ | with_reducible refine CM.okE_notV ?_ | with_reducible refine CM.okE_un ?_
  | with_reducible refine CM.okE_sl ?_ | with_reducible refine CM.okE_nopart ?_
  | ((with_reducible refine' CM.okE_var ?hv ?_); (case hv => rfl))
  | ((with_reducible refine' CM.okE_part (CM.okE_var ?hv ⟨_, ?hv2, ?_⟩)); (case hv => rfl); (case hv2 => rfl))
  | ((with_reducible refine' CM.okE_part (CM.okE_c ⟨_, ?hv2, ?_⟩)); (case hv2 => rfl))
  | ((with_reducible refine' CM.okW_eq (w := _) ?hv ?_); (case hv => (with_reducible rfl)))
  | ((with_reducible refine' CM.okW_deref ?hv ?_); (case hv => walk_at "hv")) | ((with_reducible refine' CM.okW_derefs ?hv ?_); (case hv => rfl)) | ((with_reducible refine' CM.okW_derefC ?hv ?_); (case hv => walk_at "hv")) | ((with_reducible refine' CM.okW_lstAt ?hv ?_); (case hv => walk_at "hv"))
  | with_reducible refine CM.w_add ?_ | with_reducible refine CM.w_sub ?_ | with_reducible refine CM.w_lt ?_ | with_reducible refine CM.w_le ?_ | with_reducible refine CM.w_gt ?_ | with_reducible refine CM.w_ge ?_ | with_reducible refine CM.w_addI ?_
  | with_reducible refine CM.w_mod (by omega) ?_ | with_reducible refine CM.w_div (by omega) (by rw [CM.big_eq]; omega) ?_ | with_reducible refine CM.w_mul (by rw [CM.big_eq]; omega) (by rw [CM.big_eq]; omega) (by rw [CM.big_eq]; omega) (by rw [CM.big_eq]; omega) ?_ | with_reducible refine CM.w_sq (by omega) (by omega) ?_
  | with_reducible refine CM.w_max2 ?_ | with_reducible refine CM.w_min2 ?_ | with_reducible refine CM.w_lenL ?_ | with_reducible refine CM.w_lenT ?_ | with_reducible refine CM.w_lenC ?_ | with_reducible refine CM.w_listL ?_ | with_reducible refine CM.w_listT ?_ | with_reducible refine CM.w_tupL ?_ | with_reducible refine CM.w_tupT ?_
  | ((with_reducible refine CM.okG_setC ?_); (try dsimp only [List.set, CM.fzW]))
  | ((with_reducible refine' CM.okW_ix ?hv ?_); (case hv => rfl))
  | ((with_reducible refine' CM.okB_test (CM.okE_eqn ⟨_, ?hv, ?_⟩)); (case hv => rfl))
  | ((with_reducible refine' CM.okB_testd ⟨_, ?hv, ?_⟩); (case hv => rfl)))
local macro_rules | `(tactic| walk_at "p") => `(tactic| repeat walk_at "p1")
/-- the i-th of the drawn names begins with what parts it from the others -/
def nmR (st : List Nat) (t : Nat) (f s : Int) (i : Nat) (l : List Nat) : Prop := ∃ z, l = st.take t ++ lt ((f + s * i) % 26) :: z ∧ z.length ≤ 7 - t ∧ ∀ c ∈ z, c ∈ lets
theorem step_inj {s f : Int} (hs : s = 1 ∨ s = 3 ∨ s = 5 ∨ s = 7 ∨ s = 9 ∨ s = 11 ∨ s = 15 ∨ s = 17) {i j : Nat} (hi : i < 8) (hj : j < 8) (e : (f + s * i) % 26 = (f + s * j) % 26) : i = j := by
  rcases hs with rfl | rfl | rfl | rfl | rfl | rfl | rfl | rfl <;> omega
theorem names_ok {m : Nat} {P : W → Tb → Prop} {X : Str → List (Str × D) → Tb → Prop} (t : Tk tk) (hb : Bx b n h0 h) (hn : n ≤ 90000000) (hm0 : 1 ≤ m) (hm : m ≤ 8) (q : ∀ ls h', Cols m ls → Bx b (n + 30) h0 h' → P (W.fr ((ls.map S).map .str)) h') :
    okF (fnM false 2 8 (namesM tk) [.ce b, .int m] h) P X := by
  refine okF_fn rfl ?_
  show okS (namesM tk [.cl (.ce b), .cl (.int m), .un, .un, .un, .un, .un, .un, .un, .un] h) _ _ _ _
  have hl0 := hb.len
  have hbs := hb.self
  unfold namesM
  rw [letters_eq]
  walk_at "p"
  refine okE_bs (okE_c ⟨_, rfl, okE_cons ?_⟩)
  refine okE_words (R := fun _ l => l.length = 1 ∧ ∀ c ∈ l, c ∈ lets) (q := 1) (m := 7) rfl hbs (by decide) (okE_eq rfl ⟨rfl, rfl, rfl⟩) ?_ ?_
  · intro k h9 hk hb
    refine okE_op (okE_var rfl (okE_tkc t hb rfl (by omega) (by decide) (by decide) fun v d3 v0 v1 hb => ?_))
    refine okW_eq rfl (okW_eq rfl (w_letter v0 v1 ⟨_, rfl, rfl, hb, rfl, fun c hc => ?_⟩))
    rw [List.mem_singleton.mp hc]
    exact lt_mem v0 v1
  intro ls d3 h1 h2 hb3
  obtain ⟨h3, h4⟩ := flat_one ls h2
  rw [h1] at h3
  refine okE_nil (okW_derefs rfl ?_)
  refine w_join (ls := ls) (by omega) (okG_setC ?_)
  generalize ls.flatten = st at h3 h4 ⊢
  dsimp only [List.set, fzW]
  refine okS_seq (okS_par3 (okE_cons (okE_tkc t hb3 rfl (by omega) (by decide) (by decide) fun u h5 u0 u1 hb5 => ?_)))
  refine okE_cons (okE_tkc t hb5 rfl (by omega) (by decide) (by decide) fun f h6 f0 f1 hb6 => ?_)
  refine okE_cons (okE_op (okE_eq (w := W.fr (PI [1, 3, 5, 7, 9, 11, 15, 17])) rfl (okE_tkc t hb6 rfl (by omega) (by decide) (by decide) fun v h7 v0 v1 hb7 => ?_)))
  obtain ⟨u, rfl⟩ := Int.eq_ofNat_of_zero_le u0
  obtain ⟨v, rfl⟩ := Int.eq_ofNat_of_zero_le v0
  refine okW_eq rfl (okW_eq rfl ?_)
  have hv : v < 8 := by omega
  obtain ⟨s, hs, es⟩ : ∃ s : Nat, ((s : Int) = 1 ∨ (s : Int) = 3 ∨ (s : Int) = 5 ∨ (s : Int) = 7 ∨ (s : Int) = 9 ∨ (s : Int) = 11 ∨ (s : Int) = 15 ∨ (s : Int) = 17) ∧ (PI [1, 3, 5, 7, 9, 11, 15, 17])[v]? = some (.int (s : Int)) := by
    match v, hv with
    | 0, _ => exact ⟨1, by decide, rfl⟩
    | 1, _ => exact ⟨3, by decide, rfl⟩
    | 2, _ => exact ⟨5, by decide, rfl⟩
    | 3, _ => exact ⟨7, by decide, rfl⟩
    | 4, _ => exact ⟨9, by decide, rfl⟩
    | 5, _ => exact ⟨11, by decide, rfl⟩
    | 6, _ => exact ⟨15, by decide, rfl⟩
    | 7, _ => exact ⟨17, by decide, rfl⟩
  refine w_ixL es ?_
  refine okE_nil ⟨_, _, _, rfl, ?_⟩
  show okS _ _ _ _ _
  dsimp only [gPut, List.set, fzW]
  generalize hsi : (s : Int) = si at hs
  refine okS_seq (okS_asg (okE_eq (w := W.fr []) rfl (okG_set ?_)))
  have hl7 := hb7.len
  dsimp only [List.set]
  rw [hl7]
  have hu : u < 8 := by omega
  -- the names one by one
  refine okS_seq (okS_for (rng_ok (m := m) (it := ⟨[], []⟩) (by omega) (okE_eq rfl ⟨rfl, rfl, rfl⟩) ?_))
  refine okS_loop0 (fun j ρ h' => ∃ (ls : List (List Nat)) (h1 : Tb) (s8 s9 : Sl), ρ = [.cl (.ce b), .cl (.int m), .cl (.str (S lets)), .cl (.str (S st)), .cl (.int u), .cl (.int f), .cl (.int si), .cl (.ce h.length), s8, s9] ∧ h' = h1 ++ [.lst ((ls.map S).map .str)] ∧ ls.length = j ∧ (∀ (i : Nat) (h : i < ls.length), nmR st u f si i ls[i]) ∧ Bx b (n + 10 + j) h h1) _ 0 ⟨[], h7, _, _, rfl, rfl, rfl, (fun i h => absurd h (Nat.not_lt_zero i)), hb7.mono (by omega)⟩ ?_ ?_
  · rintro j d ρ h' hj ⟨ls, h8, s8, s9, rfl, rfl, g1, g2, g3⟩
    obtain ⟨hj2, rfl⟩ := rng_at hj
    rw [Nat.zero_add] at g1 g3 ⊢
    have hl8 := g3.len
    refine okG_setC ?_
    dsimp only [List.set, fzW]
    refine okS_seq (okS_asg ?_)
    walk_at "p"
    refine w_take (by omega) ?_
    walk_at "p"
    refine w_letter (Int.emod_nonneg _ (by decide)) (Int.emod_lt_of_pos _ (by decide)) ?_
    walk_at "p"
    refine w_adds (by rw [List.length_singleton, List.length_take]; omega) (okG_setC ?_)
    dsimp only [List.set, fzW]
    have hcell : (h8 ++ [D.lst ((ls.map S).map .str)])[h.length]? = some (.lst ((ls.map S).map .str)) := tail_at0 hl8
    refine okS_drop (okE_mut (okE_var rfl (okW_lstAt hcell (okE_cons ?_))))
    refine okE_op (okE_var rfl (okE_sl (okE_var rfl (okE_part (okE_var rfl ⟨_, rfl, okE_part (okE_op (okE_var rfl (okE_tkg (m := 8 - (u : Int)) t g3 rfl (by omega) ?_ (by omega) (by omega) fun v h9 v0 v1 hb9 => ?_)))⟩)))))
    · exact okE_op (okE_c (okE_var rfl (okW_eq rfl (okW_eq rfl (w_sub ⟨rfl, rfl, rfl⟩)))))
    obtain ⟨v, rfl⟩ := Int.eq_ofNat_of_zero_le v0
    refine okW_eq rfl (okW_eq rfl (w_add ⟨((u + v : Nat) : Int), by rw [Int.natCast_add]; rfl, okW_eq rfl (w_slice (by omega) ?_)⟩))
    refine okW_eq rfl (okW_eq rfl (w_adds (by
      rw [List.length_append, List.length_singleton, List.length_take, List.length_take, List.length_drop]
      omega) ?_))
    have hcell2 : (h9 ++ [D.lst ((ls.map S).map .str)])[h.length]? = some (.lst ((ls.map S).map .str)) := tail_at0 hb9.len
    refine okE_nil (okW_lstAt hcell2 (w_append (by rw [List.length_map, List.length_map]; omega) ?_))
    refine ⟨ls ++ [st.take u ++ [lt ((f + si * j) % 26)] ++ (st.drop u).take (u + v - u)], h9, _, _, rfl, ?_, ?_, ?_, hb9.mono (by omega)⟩
    · rw [tail_set0 hb9.len]
      simp [fzW]
    · rw [List.length_append, g1]
      rfl
    · intro i hi
      rw [List.getElem_append]
      split
      · exact g2 i _
      · have hij : i = j := by
          rw [List.length_append] at hi
          have : i < ls.length + 1 := hi
          omega
        subst hij
        refine ⟨(st.drop u).take (u + v - u), by simp, ?_, fun c hc => h4 c (List.mem_of_mem_drop (List.mem_of_mem_take hc))⟩
        rw [List.length_take]
        omega
  rintro ρ h' ⟨ls, h8, s8, s9, rfl, rfl, g1, g2, g3⟩
  rw [List.length_map, List.length_range, Nat.zero_add] at g1 g3
  have hl8 := g3.len
  have hcell : (h8 ++ [D.lst ((ls.map S).map .str)])[h.length]? = some (.lst ((ls.map S).map .str)) := tail_at0 hl8
  have nm : ∀ i l, nmR st u f si i l → NmL l := fun i l ⟨z, e, z1, z2⟩ => by
    subst e
    refine ⟨by rw [List.length_append, List.length_cons]; omega, by rw [List.length_append, List.length_cons, List.length_take]; omega, fun c hc => ?_⟩
    rcases List.mem_append.mp hc with hc | hc
    · exact h4 c (List.mem_of_mem_take hc)
    · rcases List.mem_cons.mp hc with rfl | hc
      · exact lt_mem (Int.emod_nonneg _ (by decide)) (Int.emod_lt_of_pos _ (by decide))
      · exact z2 c hc
  have inj : ∀ i j l, i < m → j < m → nmR st u f si i l → nmR st u f si j l → i = j := fun i j l hi hj ⟨z, e, _⟩ ⟨z', e', _⟩ => by
    have q := List.append_cancel_left (e.symm.trans e')
    have q := lt_inj (Int.emod_nonneg _ (by decide)) (Int.emod_lt_of_pos _ (by decide)) (Int.emod_nonneg _ (by decide)) (Int.emod_lt_of_pos _ (by decide)) (List.cons.inj q).1
    exact step_inj hs (by omega) (by omega) q
  have c1 : Cols m ls := ⟨g1, words_ok (R := nmR st u f si) g1 g2 inj fun i l _ => nm i l⟩
  have fin : ∀ (ls : List (List Nat)) h9, Cols m ls → Bx b (n + 25) h h9 → okS (sRet (mVar 7) [.cl (.ce b), .cl (.int m), .cl (.str (S lets)), .cl (.str (S st)), .cl (.int u), .cl (.int f), .cl (.int si), .cl (.ce h.length), s8, s9] (h9 ++ [.lst ((ls.map S).map .str)])) (fun ρ h' => okW (cutF false h (.cl .non) h') fun x => P x.1 x.2) (fun w ρ h' => okW (cutF false h w h') fun x => P x.1 x.2) (fun _ _ _ => False) (fun C fs ρ h' => okW (cutX false h fs h') fun x => X C fs x) := fun ls h9 hc hb9 => by
    refine okS_ret (okE_var rfl ?_)
    exact cut_own hb9.len (Bx.cut hbs hb9) (Nat.le_refl _) (tail_at0 hb9.len) (by rw [List.map_map]; exact below_strs' _) (q ls h9 hc ((hb.trans hb9).mono (by omega)))
  refine okS_seq (okS_if (okB_and (okB_test (okE_op (okE_var rfl (okE_c (okW_eq rfl (okW_eq rfl (w_gt ⟨_, rfl, fun m1 => ?_, fun _ => ?_⟩)))))))))
  · have m1 : 1 < m := by
      have := of_decide_eq_true m1
      omega
    have h0l : 0 < ls.length := by omega
    have e0 : ((ls.map S).map D.str)[0]? = some (.str (S ls[0])) := by
      rw [List.getElem?_map, List.getElem?_map, List.getElem?_eq_getElem h0l]
      rfl
    have hcellD : deref (h8 ++ [D.lst ((ls.map S).map .str)]) (.cl (.ce h.length)) = some (.lst ((ls.map S).map .str)) := hcell
    obtain ⟨w1, w2, w3⟩ := c1.2.2 _ (List.getElem_mem h0l)
    refine okB_and (okB_test (okE_op (okE_cb (okE_cons (okE_op (okE_var rfl (okE_c (okW_eq hcellD (okW_eq rfl (w_ixL (i := 0) e0 (okE_nil (okW_eq rfl (w_lenS (by omega) (okE_c (okW_eq rfl (okW_eq rfl (w_lt ⟨_, rfl, fun k1 => ?_, fun _ => ?_⟩)))))))))))))))))
    · have k1 : ls[0].length < 8 := by
        have := of_decide_eq_true k1
        omega
      refine okB_test (okE_op (okE_tkcg t g3 rfl (by omega) (by decide) (by decide) fun v h9 v0 v1 hb9 => okE_c (okW_eq rfl (okW_eq rfl (w_eqi ⟨_, rfl, fun _ => ?_, fun _ => ?_⟩)))))
      · have hcell9 : (h9 ++ [D.lst ((ls.map S).map .str)])[h.length]? = some (.lst ((ls.map S).map .str)) := tail_at0 hb9.len
        refine okS_asg (okE_op (okE_op (okE_var rfl (okE_c (okW_eq hcell9 (okW_eq rfl (w_ixL (i := 0) e0 ?_)))))))
        refine okE_op (okE_var rfl (okE_tkcg t hb9 rfl (by omega) (by decide) (by decide) fun x h10 x0 x1 hb10 => okW_eq rfl (okW_eq rfl (w_letter x0 x1 (okW_eq rfl (okW_eq rfl (w_adds (by rw [List.length_singleton]; omega) ?_)))))))
        have hcell10 : (h10 ++ [D.lst ((ls.map S).map .str)])[h.length]? = some (.lst ((ls.map S).map .str)) := tail_at0 hb10.len
        refine okG_sub (okE_var rfl (okE_c ⟨1, rfl, okW_lstAt hcell10 ⟨1, ?_, ?_⟩⟩))
        · show ixN ((ls.map S).map D.str).length 1 = some 1
          unfold ixN
          rw [if_pos (by decide), if_pos (by rw [List.length_map, List.length_map]; omega)]
          rfl
        dsimp only
        rw [tail_set0 hb10.len]
        have e1 : ((ls.map S).map D.str).set 1 (fzW (.cl (.str (S (ls[0] ++ [lt x]))))) = ((ls.set 1 (ls[0] ++ [lt x])).map S).map D.str := by
          rw [List.map_set, List.map_set]
          rfl
        show okS _ _ _ _ _
        dsimp only [List.set]
        rw [e1]
        refine fin _ h10 ?_ (hb10.mono (by omega))
        refine ⟨by rw [List.length_set]; exact g1, ?_, fun l hl => ?_⟩
        · unfold List.Nodup
          rw [List.pairwise_iff_getElem]
          intro i j hi hj hij e
          rw [List.length_set] at hi hj
          rw [List.getElem_set, List.getElem_set] at e
          have r0 := g2 0 h0l
          obtain ⟨z, ez, _⟩ := r0
          have par : ∀ (k : Nat) (hk : k < ls.length), k ≠ 0 → ls[k] ≠ ls[0] ++ [lt x] := fun k hk k0 e => by
            obtain ⟨z', ez', _⟩ := g2 k hk
            rw [ez', ez, List.append_assoc] at e
            have q := List.append_cancel_left e
            have q := lt_inj (Int.emod_nonneg _ (by decide)) (Int.emod_lt_of_pos _ (by decide)) (Int.emod_nonneg _ (by decide)) (Int.emod_lt_of_pos _ (by decide)) (List.cons.inj q).1
            exact k0 (step_inj hs (by omega) (by omega) q)
          by_cases hj1 : 1 = j
          · subst hj1
            have hi0 : i = 0 := by omega
            subst hi0
            rw [if_neg (by decide), if_pos rfl] at e
            have := congrArg List.length e
            rw [List.length_append, List.length_singleton] at this
            omega
          · rw [if_neg hj1] at e
            by_cases hi1 : 1 = i
            · rw [if_pos hi1] at e
              exact par j hj (by omega) e.symm
            · rw [if_neg hi1] at e
              have := inj i j ls[i] (by omega) (by omega) (g2 i hi) (by rw [e]; exact g2 j hj)
              omega
        · rcases List.mem_or_eq_of_mem_set hl with hl | rfl
          · exact c1.2.2 l hl
          · refine ⟨by rw [List.length_append, List.length_singleton]; omega, by rw [List.length_append, List.length_singleton]; omega, fun c hc => ?_⟩
            rcases List.mem_append.mp hc with hc | hc
            · exact w3 c hc
            · rw [List.mem_singleton.mp hc]
              exact lt_mem x0 x1
      · refine okS_next ?_
        exact fin ls h9 c1 (hb9.mono (by omega))
    · exact ⟨(fun z => nomatch z), fun _ => by
        refine okS_next ?_
        exact fin ls h8 c1 (g3.mono (by omega))⟩
  · exact ⟨(fun z => nomatch z), fun _ => by
      refine okS_next ?_
      exact fin ls h8 c1 (g3.mono (by omega))⟩
structure Part (m : Nat) (fx : List Nat) (sp : Option Nat) : Prop where
  asc : fx.Pairwise (· < ·)
  lt : ∀ i ∈ fx, i < m
  len : fx.length ≤ 5
  sp : ∀ i, sp = some i → i < m ∧ i ∉ fx ∧ fx.length < 5
abbrev partD (p : List Nat × Option Nat) : D := .tup [.lst (PI p.1), oI p.2]
theorem Part.nd {m : Nat} {fx : List Nat} {sp : Option Nat} (q : Part m fx sp) : fx.Nodup := q.asc.imp fun h => by omega
theorem below_part {k : Nat} (p : List Nat × Option Nat) : below k (partD p) = true := by
  rw [below_tup]
  simp [below_PI, below_oI]
theorem PI_append (xs ys : List Nat) : PI (xs ++ ys) = PI xs ++ PI ys := List.map_append ..
theorem PI_erase (xs : List Nat) (i : Nat) : (PI xs).eraseIdx i = PI (xs.eraseIdx i) := by
  unfold PI
  induction xs generalizing i with
  | nil => rfl
  | cons x xs ih =>
    cases i with
    | zero => rfl
    | succ i => simp [ih]
theorem okE_lstRg {k m : Nat} (hk : ρ[k]? = some (.cl (.int (m : Int)))) (hm : m ≤ 90000) (q : P (W.fr (PI (List.range m))) ρ h) : okE (mLstRg (mVar k) ρ h) P X := okE_bind (okE_var hk (by
  show okE (if -1000000 ≤ (m : Int) ∧ (m : Int) ≤ 90000 then some (R.ok (W.fr ((List.range (m : Int).toNat).map fun i => .int (i : Nat))) ρ h) else none) P X
  rw [if_pos ⟨by omega, by omega⟩, Int.toNat_natCast]
  exact okE_some q))
theorem w_minN {i j : Nat} {Q : W → Prop} (q : Q (.cl (.int ((min i j : Nat) : Int)))) : okW (dMin2 [.int (i : Int), .int (j : Int)]) Q := by
  refine w_min2 ?_
  have : (if (j : Int) < (i : Int) then (j : Int) else (i : Int)) = ((min i j : Nat) : Int) := by
    split
    · rw [Nat.min_eq_right (by omega)]
    · rw [Nat.min_eq_left (by omega)]
  rw [this]
  exact q
theorem w_ne0 {xs : List Nat} {Q : W → Prop} (q : Q (.cl (.bl (!decide (xs = []))))) : okW (dNe (.lst (PI xs)) (.lst [])) Q := w_ne (dEqB_PI xs []) q
theorem w_eq0 {xs : List Nat} {Q : W → Prop} (q : Q (.cl (.bl (decide (xs = []))))) : okW (dEq (.lst (PI xs)) (.lst [])) Q := w_eq (dEqB_PI xs []) q
theorem pick_ok {m : Nat} {P : W → Tb → Prop} {X : Str → List (Str × D) → Tb → Prop} (t : Tk tk) (hb : Bx b n h0 h) (hn : n ≤ 90000000) (hm : m ≤ 1000) (q : ∀ fx sp h', Part m fx sp → Bx b (n + 10) h0 h' → P (.cl (partD (fx, sp))) h') :
    okF (fnM false 3 3 (pickM tk) [.ce b, .int m, .int 5] h) P X := by
  refine okF_fn rfl ?_
  show okS (pickM tk [.cl (.ce b), .cl (.int m), .cl (.int 5), .un, .un, .un] h) _ _ _ _
  have hl0 := hb.len
  have hbs := hb.self
  unfold pickM
  refine okS_seq (okS_par (okE_cons (okE_lstRg (m := m) rfl (by omega) (okE_cons (okE_eq (w := W.fr (PI [])) rfl (okE_nil ⟨_, _, rfl, ?_⟩))))))
  show okS _ _ _ _ _
  dsimp only [gPut, List.set]
  rw [List.append_assoc, List.length_append, List.length_singleton]
  dsimp only [List.cons_append, List.nil_append]
  refine okS_seq (okS_for (okE_rng1 (okE_cons (okE_tkg (m := ((min m 5 : Nat) : Int) + 1) t hbs rfl (by omega) ?_ (by omega) (by omega) fun v h1 v0 v1 hb1 => okE_nil ?_))))
  · refine okE_op (okE_cb (okE_cons (okE_var rfl (okE_cons (okE_var rfl (okE_nil (okW_eq rfl (w_minN (i := m) (j := 5) (okE_c (okW_eq rfl (okW_eq rfl (w_add ⟨rfl, rfl, rfl⟩))))))))))))
  obtain ⟨v, rfl⟩ := Int.eq_ofNat_of_zero_le v0
  refine okW_eq rfl ⟨_, rfl, by omega, by omega, ?_⟩
  rw [Int.toNat_natCast]
  refine okS_loop0 (fun j ρ h' => ∃ (fx left : List Nat) (h1 : Tb) (s5 : Sl), ρ = [.cl (.ce b), .cl (.int m), .cl (.int 5), .cl (.ce h.length), .cl (.ce (h.length + 1)), s5] ∧ h' = h1 ++ [.lst (PI left), .lst (PI fx)] ∧ fx.length = j ∧ (fx ++ left).Perm (List.range m) ∧ Bx b (n + 1 + j) h h1) _ 0 ⟨[], List.range m, h1, _, rfl, rfl, rfl, .refl _, hb1⟩ ?_ ?_
  · rintro j d ρ h' hj ⟨fx, left, h2, s5, rfl, rfl, g1, g2, g3⟩
    obtain ⟨hj2, rfl⟩ := rng_at hj
    rw [Nat.zero_add] at g1 g3 ⊢
    have hl2 := g3.len
    have hlen : fx.length + left.length = m := by
      have := g2.length_eq
      rw [List.length_append, List.length_range] at this
      exact this
    refine okG_setC ?_
    dsimp only [List.set, fzW]
    refine okS_drop (okE_mut (okE_var rfl (okW_lstAt (tail_at hl2) (okE_cons (okE_mut (okE_var rfl (okW_lstAt (tail_at0 hl2) (okE_cons (okE_tkg (m := left.length) t g3 rfl (by omega) ?_ (by omega) (by omega) fun w h3 w0 w1 hb3 => ?_)))))))))
    · exact okE_cb (okE_cons (okE_var rfl (okE_nil (okW_derefC (tail_at0 hl2) (w_lenL ⟨rfl, rfl, by rw [PI_len]⟩)))))
    have hl3 := hb3.len
    refine okE_nil (okW_lstAt (tail_at0 hl3) (popAt_ok (cs := PI left) w0 (by rw [PI_len]; exact w1) (by rw [PI_len]; omega) fun hw => ?_))
    rw [PI_len] at hw
    rw [tail_set0 hl3]
    refine okE_nil (okW_lstAt (tail_at (i := 1) hl3) (w_append (by rw [PI_len]; omega) ?_))
    rw [tail_set hl3]
    refine ⟨fx ++ [left[w.toNat]], left.eraseIdx w.toNat, h3, _, rfl, ?_, ?_, ?_, ?_⟩
    · dsimp only [List.set, fzW]
      rw [PI_erase, PI_append]
      simp [PI]
    · rw [List.length_append, g1]
      rfl
    · rw [List.append_assoc]
      exact (List.Perm.append_left fx (perm_pop left w.toNat hw)).trans g2
    · exact hb3
  rintro ρ h' ⟨fx, left, h2, s5, rfl, rfl, g1, g2, g3⟩
  rw [List.length_map, List.length_range, Nat.zero_add] at g1 g3
  have hl2 := g3.len
  have hlen : fx.length + left.length = m := by
    have := g2.length_eq
    rw [List.length_append, List.length_range] at this
    exact this
  have hnd : (fx ++ left).Nodup := g2.nodup_iff.mpr List.nodup_range
  have hmem : ∀ i ∈ fx ++ left, i < m := fun i hi => List.mem_range.mp (g2.mem_iff.mp hi)
  have done : ∀ (ys : List Nat) (sp : Option Nat) h3, ys.Perm fx → ys.Pairwise (· ≤ ·) → (∀ i, sp = some i → i ∈ left ∧ fx.length < 5) → Bx b (n + 10) h h3 → okW (cutF false h (.cl (.tup [fzW (W.fr (PI ys)), oI sp])) (h3 ++ [.lst (PI left), .lst (PI fx)])) fun x => P x.1 x.2 := fun ys sp h3 hp hs hsp hb3 => by
    refine cut_app hb3.len (Bx.cut hbs hb3) (fun _ z => by cases z) (below_part (ys, sp)) (q ys sp h3 ⟨asc_of hs (hp.nodup_iff.mpr (List.nodup_append.mp hnd).1), fun i hi => hmem i (List.mem_append.mpr (.inl (hp.mem_iff.mp hi))), by rw [hp.length_eq]; omega, fun i e => ?_⟩ (hb.trans hb3))
    obtain ⟨e1, e2⟩ := hsp i e
    exact ⟨hmem i (List.mem_append.mpr (.inr e1)), fun z => (List.nodup_append.mp hnd).2.2 i (hp.mem_iff.mp z) i e1 rfl, by rw [hp.length_eq]; exact e2⟩
  have srt : ∀ {h3 : Tb} {Q : Ps W}, h3.length = h.length → (∀ ys : List Nat, ys.Perm fx → ys.Pairwise (· ≤ ·) → Q (W.fr (PI ys)) [.cl (.ce b), .cl (.int m), .cl (.int 5), .cl (.ce h.length), .cl (.ce (h.length + 1)), s5] (h3 ++ [.lst (PI left), .lst (PI fx)])) → okE (mCB dSrt (mCons (mVar 4) mNil) [.cl (.ce b), .cl (.int m), .cl (.int 5), .cl (.ce h.length), .cl (.ce (h.length + 1)), s5] (h3 ++ [.lst (PI left), .lst (PI fx)])) Q (fun C fs ρ h' => okW (cutX false h fs h') fun x => X C fs x) := fun {h3 Q} hl3 hq =>
    okE_cb (okE_cons (okE_var rfl (okE_nil (okW_derefC (tail_at (i := 1) hl3) (w_srtPI (by omega) hq)))))
  have none_ : ∀ h3, Bx b (n + 10) h h3 → okS (sRet (mTup (mCons (mCB dSrt (mCons (mVar 4) mNil)) (mCons (mC .non) mNil))) [.cl (.ce b), .cl (.int m), .cl (.int 5), .cl (.ce h.length), .cl (.ce (h.length + 1)), s5] (h3 ++ [.lst (PI left), .lst (PI fx)])) (fun ρ h_1 => okS (sRet (mTup (mCons (mCB dSrt (mCons (mVar 4) mNil)) (mCons (mOp dIx (mVar 3) (callN tk (mCons (mCe (mVar 0)) (mCons (mFr (mCB dLen (mCons (mVar 3) mNil))) mNil)))) mNil))) ρ h_1) (fun ρ h' => okW (cutF false h (W.cl D.non) h') fun x => P x.fst x.snd) (fun w ρ h' => okW (cutF false h w h') fun x => P x.fst x.snd) (fun x x_1 x_2 => False) fun C fs ρ h' => okW (cutX false h fs h') fun x => X C fs x) (fun w ρ h' => okW (cutF false h w h') fun x => P x.fst x.snd) (fun _ _ _ => False) (fun C fs ρ h' => okW (cutX false h fs h') fun x => X C fs x) := fun h3 hb3 => by
    refine okS_ret (okE_tup (okE_cons (srt hb3.len fun ys hp hs => okE_cons (okE_c (okE_nil ⟨Nat.le_of_ble_eq_true rfl, ?_⟩)))))
    exact done ys none h3 hp hs (fun i e => by cases e) hb3
  refine okS_seq (okS_if (okB_or (okB_test (okE_op (okE_var rfl (okE_eq (w := W.fr (PI [])) rfl (okW_eq (tail_at0 hl2 : deref (h2 ++ [.lst (PI left), .lst (PI fx)]) (.cl (.ce h.length)) = some (.lst (PI left))) (okW_eq rfl (w_eq0 ⟨_, rfl, fun _ => ?_, fun l0 => ?_⟩)))))))))
  · exact ⟨fun _ => none_ h2 (g3.mono (by omega)), (fun z => nomatch z)⟩
  · have l0 : 0 < left.length := List.length_pos_iff.mpr (of_decide_eq_false l0)
    refine okB_or (okB_test (okE_op (okE_cb (okE_cons (okE_var rfl (okE_nil (okW_derefC (tail_at (i := 1) hl2) (w_lenL (okE_c (okW_eq rfl (okW_eq rfl (w_gt ⟨_, rfl, fun _ => ?_, fun k4 => ?_⟩))))))))))))
    · exact ⟨fun _ => none_ h2 (g3.mono (by omega)), (fun z => nomatch z)⟩
    · have k4 : fx.length < 5 := by
        have := of_decide_eq_false k4
        rw [PI_len] at this
        omega
      refine okB_test (okE_op (okE_tkcg t g3 rfl (by omega) (by decide) (by decide) fun w h3 w0 w1 hb3 => okE_c (okW_eq rfl (okW_eq rfl (w_eqi ⟨_, rfl, fun _ => ?_, fun _ => ?_⟩)))))
      · exact none_ h3 (hb3.mono (by omega))
      · refine okS_next ?_
        refine okS_ret (okE_tup (okE_cons (srt hb3.len fun ys hp hs => okE_cons (okE_op (okE_var rfl (okE_tkg (m := left.length) t hb3 rfl (by omega) ?_ (by omega) (by omega) fun x h4 x0 x1 hb4 => ?_))))))
        · exact okE_cb (okE_cons (okE_var rfl (okE_nil (okW_derefC (tail_at0 hb3.len) (w_lenL ⟨rfl, rfl, by rw [PI_len]⟩)))))
        obtain ⟨x, rfl⟩ := Int.eq_ofNat_of_zero_le x0
        have hx : x < left.length := by omega
        refine okW_eq (tail_at0 hb4.len : deref (h4 ++ [.lst (PI left), .lst (PI fx)]) (.cl (.ce h.length)) = some (.lst (PI left))) (okW_eq rfl (w_ixL (PI_get hx) (okE_nil ⟨Nat.le_of_ble_eq_true rfl, ?_⟩)))
        exact done ys (some left[x]) h4 hp hs (fun i e => by
          cases e
          exact ⟨List.getElem_mem hx, k4⟩) (hb4.mono (by omega))
end
end CM
namespace CM
open PySem PySem.Spec PyProof.Rows L2 SL
section
variable {ρ : List Sl} {h h0 h1 g : Tb} {P : Ps W} {X : Px} {N : List Sl → Tb → Prop} {T : Ps W} {L : Bool → List Sl → Tb → Prop} {tk pk nr : Fnm} {b n k i j len m : Nat} {c : D} {fx : List Nat}
local macro_rules | `(tactic| walk_at "hv") => `(tactic| first | rfl | assumption | (exact (by assumption : _)))
local macro_rules | `(tactic| walk_at "p1") => `(tactic| first
  | with_reducible refine CM.okS_seq ?_ | with_reducible refine CM.okS_next ?_ | with_reducible refine CM.okS_asg ?_ | with_reducible refine CM.okS_ret ?_ | with_reducible refine CM.okS_drop ?_ | with_reducible refine CM.okS_aug ?_ | with_reducible refine CM.okS_cnt ?_ | with_reducible refine CM.okS_fg ?_ | with_reducible refine CM.okS_retN ?_
  | with_reducible refine CM.okE_op ?_ | with_reducible refine CM.okE_cb ?_ | with_reducible refine CM.okE_cons ?_ | with_reducible refine CM.okE_nil ?_ | with_reducible refine CM.okB_not ?_ | with_reducible refine CM.okE_c ?_ | with_reducible refine CM.okE_fr ?_ | with_reducible refine CM.okE_ce ?_ | with_reducible refine CM.okE_notV ?_ | with_reducible refine CM.okE_un ?_
  | with_reducible refine CM.okE_sl ?_ | with_reducible refine CM.okE_nopart ?_
  | ((with_reducible refine' CM.okE_var ?hv ?_); (case hv => rfl))
  | ((with_reducible refine' CM.okE_part (CM.okE_var ?hv ⟨_, ?hv2, ?_⟩)); (case hv => rfl); (case hv2 => rfl))
  | ((with_reducible refine' CM.okE_part (CM.okE_c ⟨_, ?hv2, ?_⟩)); (case hv2 => rfl))
  | ((with_reducible refine' CM.okW_eq (w := _) ?hv ?_); (case hv => (with_reducible rfl)))
  | ((with_reducible refine' CM.okW_deref ?hv ?_); (case hv => walk_at "hv")) | ((with_reducible refine' CM.okW_derefs ?hv ?_); (case hv => rfl)) | ((with_reducible refine' CM.okW_derefC ?hv ?_); (case hv => walk_at "hv")) | ((with_reducible refine' CM.okW_lstAt ?hv ?_); (case hv => walk_at "hv"))
  | with_reducible refine CM.w_add ?_ | with_reducible refine CM.w_sub ?_ | with_reducible refine CM.w_lt ?_ | with_reducible refine CM.w_le ?_ | with_reducible refine CM.w_gt ?_ | with_reducible refine CM.w_ge ?_ | with_reducible refine CM.w_addI ?_
  | with_reducible refine CM.w_mod (by omega) ?_ | with_reducible refine CM.w_div (by omega) (by rw [CM.big_eq]; omega) ?_ | with_reducible refine CM.w_mul (by rw [CM.big_eq]; omega) (by rw [CM.big_eq]; omega) (by rw [CM.big_eq]; omega) (by rw [CM.big_eq]; omega) ?_ | with_reducible refine CM.w_sq (by omega) (by omega) ?_
  | with_reducible refine CM.w_max2 ?_ | with_reducible refine CM.w_min2 ?_ | with_reducible refine CM.w_lenL ?_ | with_reducible refine CM.w_lenT ?_ | with_reducible refine CM.w_lenC ?_ | with_reducible refine CM.w_listL ?_ | with_reducible refine CM.w_listT ?_ | with_reducible refine CM.w_tupL ?_ | with_reducible refine CM.w_tupT ?_
  | ((with_reducible refine CM.okG_setC ?_); (try dsimp only [List.set, CM.fzW]))
  | ((with_reducible refine' CM.okW_ix ?hv ?_); (case hv => rfl))
  | ((with_reducible refine' CM.okB_test (CM.okE_eqn ⟨_, ?hv, ?_⟩)); (case hv => rfl))
  | ((with_reducible refine' CM.okB_testd ⟨_, ?hv, ?_⟩); (case hv => rfl)))
local macro_rules | `(tactic| walk_at "p") => `(tactic| repeat walk_at "p1")
theorem filter_take {p : Nat → Bool} {m j : Nat} (hj : j < m) : (List.range (j + 1)).filter p = (List.range j).filter p ++ (if p j = true then [j] else []) := by
  rw [List.range_succ, List.filter_append]
  congr 1
  by_cases e : p j = true
  · rw [if_pos e, List.filter_cons, if_pos e]
    rfl
  · rw [if_neg e, List.filter_cons, if_neg e]
    rfl
/-- [i for i in range(many) if i not in fixed] -/
theorem free_ok {s0 s2 s4 s5 s6 : Sl} {q : Nat} (hm : m ≤ 1000) (hk : h[k]? = some (.lst (PI fx))) (p : P (W.fr (PI ((List.range m).filter fun i => !decide (i ∈ fx)))) [s0, .cl (.int m), s2, .cl (.ce k), s4, s5, s6, .un] h) :
    okE (mLc (mRng1 (mCons (mVar 1) mNil)) (gSetC 7) (mTest (mOp dNi (mVar 7) (mVar 3))) (mVar 7) [7] [s0, .cl (.int m), s2, .cl (.ce k), s4, s5, s6, .un] h) P X := by
  have hkd : deref h (.cl (.ce k)) = some (.lst (PI fx)) := hk
  refine okE_lcF (ds := (List.range m).map fun i => .int (i : Nat)) (fun j h' acc => h' = h ∧ acc = PI ((List.range j).filter fun i => !decide (i ∈ fx))) rfl ?_ ?_ ?_
  · exact rng_ok (it := ⟨[], []⟩) hm (okE_eq rfl ⟨rfl, rfl, rfl⟩) ⟨rfl, rfl, rfl, rfl⟩
  · rintro j d h' acc hj ⟨rfl, rfl⟩
    obtain ⟨hj2, rfl⟩ := rng_at hj
    refine okB_test (okE_op (okE_var rfl (okE_var rfl (okW_eq rfl (okW_eq hkd (w_niPI ⟨_, rfl, rfl, fun e => ?_, fun e => ?_⟩))))))
    · refine okE_var rfl ⟨rfl, rfl, ?_⟩
      rw [filter_take hj2, if_pos e, PI_append]
      rfl
    · refine ⟨rfl, ?_⟩
      rw [filter_take hj2, if_neg (by rw [e]; decide), List.append_nil]
  · rintro h' acc ⟨rfl, rfl⟩
    rw [List.length_map, List.length_range]
    exact p
/-- positions on the way -/
structure Fx (m : Nat) (fx : List Nat) : Prop where
  asc : fx.Pairwise (· < ·)
  lt : ∀ i ∈ fx, i < m
  len : fx.length ≤ 6
theorem near_ok {sp : Option Nat} {P : W → Tb → Prop} {X : Str → List (Str × D) → Tb → Prop} (t : Tk tk) (hb : Bx b n h0 h) (hn : n ≤ 90000000) (hm : m ≤ 1000) (hp : Part m fx sp) (q : ∀ fx sp h', Part m fx sp → Bx b (n + 10) h0 h' → P (.cl (partD (fx, sp))) h') :
    okF (fnM false 3 5 (nearM tk) [.ce b, .int m, partD (fx, sp)] h) P X := by
  refine okF_fn rfl ?_
  show okS (nearM tk [.cl (.ce b), .cl (.int m), .cl (partD (fx, sp)), .un, .un, .un, .un, .un] h) _ _ _ _
  have hl0 := hb.len
  have hbs := hb.self
  unfold nearM
  refine okS_seq (okS_asg (okE_tup (okE_cons (okE_ce (okE_cb (okE_cons (okE_op (okE_var rfl (okE_c (okW_eq rfl (okW_eq rfl (w_ixT (i := 0) rfl (okE_nil (okW_eq rfl (w_listL ?_)))))))))))))))
  refine okE_cons (okE_fr (okE_op (okE_var rfl (okE_c (okW_eq rfl (okW_eq rfl (w_ixT (i := 1) rfl (okE_nil ⟨Nat.le_of_ble_eq_true rfl, okG_tup2 (okG_set (okG_setC ?_))⟩))))))))
  dsimp only [List.set, fzW]
  -- the positions from here on: a cell behind the others
  let fr (s4 s5 s6 : Sl) (k : Nat) : List Sl := [.cl (.ce b), .cl (.int m), .cl (partD (fx, sp)), .cl (.ce k), s4, s5, s6, .un]
  have hk0 : (h ++ [D.lst (PI fx)])[h.length]? = some (.lst (PI fx)) := tail_at0 rfl
  refine okS_seq (okS_asg (free_ok (q := 0) hm hk0 (okG_setC ?_)))
  dsimp only [List.set, fzW]
  refine okS_seq (okS_asg (okE_tkcg t hbs rfl (by omega) (by decide) (by decide) fun w h1 w0 w1 hb1 => okG_setC ?_))
  dsimp only [List.set, fzW]
  have hl1 := hb1.len
  have hnd := hp.nd
  let J : Nat → List Sl → Tb → Prop := fun r ρ h' => ∃ (g : Tb) (j : Nat) (ys : List Nat) (h2 : Tb) (s5 : Sl), ρ = fr (.cl (oI sp)) s5 (.cl (.int w)) (h.length + j) ∧ h' = h2 ++ g ∧ g[j]? = some (.lst (PI ys)) ∧ Fx m ys ∧ Bx b (n + r) h h2
  -- one more
  refine okS_seqM (J 2) (okS_if (okB_and (okB_test (okE_op (okE_var rfl (okE_c (okW_eq rfl (okW_eq rfl (w_lt ⟨_, rfl, fun _ => ?_, fun _ => ?_⟩))))))))) ?_
  · refine okB_test (okE_op (okE_var rfl (okE_eq (w := W.fr (PI [])) rfl (okW_eq rfl (okW_eq rfl (w_ne0 ⟨_, rfl, fun e => ?_, fun _ => ?_⟩))))))
    · have e : (List.range m).filter (fun i => !decide (i ∈ fx)) ≠ [] := by simpa using e
      have hfr : ∀ i ∈ (List.range m).filter (fun i => !decide (i ∈ fx)), i < m ∧ i ∉ fx := fun i hi => by simpa using hi
      have hfl : ((List.range m).filter (fun i => !decide (i ∈ fx))).length ≤ 1000 := Nat.le_trans (List.length_filter_le ..) (by rw [List.length_range]; exact hm)
      generalize (List.range m).filter (fun i => !decide (i ∈ fx)) = free at e hfr hfl ⊢
      have e0 : 0 < free.length := List.length_pos_iff.mpr e
      have hk1 : deref (h1 ++ [D.lst (PI fx)]) (.cl (.ce h.length)) = some (.lst (PI fx)) := tail_at0 hl1
      refine okS_asg (okE_cb (okE_cons (okE_op (okE_var rfl (okE_lst (okE_cons (okE_op (okE_var rfl (okE_tkg (m := free.length) t hb1 rfl (by omega) ?_ (by omega) (by omega) fun x h2 x0 x1 hb2 => ?_)))))))))
      · exact okE_cb (okE_cons (okE_var rfl (okE_nil (okW_eq rfl (w_lenL ⟨rfl, rfl, by rw [PI_len]⟩)))))
      obtain ⟨x, rfl⟩ := Int.eq_ofNat_of_zero_le x0
      have hx : x < free.length := by omega
      have hk2 : deref (h2 ++ [D.lst (PI fx)]) (.cl (.ce h.length)) = some (.lst (PI fx)) := tail_at0 hb2.len
      refine okW_eq rfl (okW_eq rfl (w_ixL (PI_get hx) (okE_nil ⟨Nat.le_of_ble_eq_true rfl, okW_eq hk2 (okW_eq rfl ?_)⟩)))
      have hfx := hp.len
      refine okW_eq (w := W.fr (PI (fx ++ [free[x]]))) (by
        show (if (PI fx).length + 1 ≤ 100000 then some (W.fr (PI fx ++ [D.int (free[x] : Nat)])) else none) = _
        rw [PI_len, if_pos (by omega), PI_append]
        rfl) (okE_nil (okW_eq rfl (w_srtPI (by rw [List.length_append, List.length_singleton]; omega) fun ys hy hs => okG_set ?_)))
      dsimp only [List.set]
      obtain ⟨hx1, hx2⟩ := hfr _ (List.getElem_mem hx)
      refine ⟨[.lst (PI fx), .lst (PI ys)], 1, ys, h2, .cl (.lst (PI free)), ?_, by rw [List.append_assoc]; rfl, rfl, ⟨asc_of hs (hy.nodup_iff.mpr ?_), fun i hi => ?_, ?_⟩, hb2⟩
      · rw [List.length_append, hb2.len]
        rfl
      · rw [List.nodup_append]
        refine ⟨hnd, by simp, fun a ha c hc z => ?_⟩
        rw [List.mem_singleton.mp hc] at z
        rw [z] at ha
        exact hx2 ha
      · rcases List.mem_append.mp (hy.mem_iff.mp hi) with z | z
        · exact hp.lt i z
        · rw [List.mem_singleton.mp z]
          exact hx1
      · rw [hy.length_eq, List.length_append, List.length_singleton]
        omega
    · exact okS_next ⟨[.lst (PI fx)], 0, fx, h1, _, rfl, rfl, rfl, ⟨hp.asc, hp.lt, by have := hp.len; omega⟩, hb1.mono (by omega)⟩
  · exact ⟨(fun z => nomatch z), fun _ => okS_next ⟨[.lst (PI fx)], 0, fx, h1, _, rfl, rfl, rfl, ⟨hp.asc, hp.lt, by have := hp.len; omega⟩, hb1.mono (by omega)⟩⟩
  -- one fewer
  rintro ρ h' ⟨g, j, ys, h2, s5, rfl, rfl, hg, hy, hb2⟩
  have at_ : ∀ {h2 g : Tb} {ys : List Nat}, h2.length = h.length → g[j]? = some (.lst (PI ys)) → (h2 ++ g)[h.length + j]? = some (.lst (PI ys)) := fun e1 e2 => (tail_at e1).trans e2
  refine okS_seqM (fun ρ h' => ∃ (g : Tb) (ys : List Nat) (h2 : Tb) (s5 : Sl), ρ = fr (.cl (oI sp)) s5 (.cl (.int w)) (h.length + j) ∧ h' = h2 ++ g ∧ g[j]? = some (.lst (PI ys)) ∧ Fx m ys ∧ Bx b (n + 3) h h2) (okS_if (okB_and (okB_test (okE_op (okE_var rfl (okE_c (okW_eq rfl (okW_eq rfl (w_eqi ⟨_, rfl, fun _ => ?_, fun _ => ?_⟩))))))))) ?_
  · refine okB_test (okE_op (okE_var rfl (okE_eq (w := W.fr (PI [])) rfl (okW_eq (at_ hb2.len hg : deref (h2 ++ g) (.cl (.ce (h.length + j))) = some (.lst (PI ys))) (okW_eq rfl (w_ne0 ⟨_, rfl, fun e => ?_, fun _ => ?_⟩))))))
    · have e : ys ≠ [] := by simpa using e
      have e0 : 0 < ys.length := List.length_pos_iff.mpr e
      have hyl := hy.len
      refine okS_drop (okE_mut (okE_var rfl (okW_lstAt (at_ hb2.len hg) (okE_cons (okE_tkg (m := ys.length) t hb2 rfl (by omega) ?_ (by omega) (by omega) fun x h3 x0 x1 hb3 => ?_)))))
      · exact okE_cb (okE_cons (okE_var rfl (okE_nil (okW_derefC (at_ hb2.len hg) (w_lenL ⟨rfl, rfl, by rw [PI_len]⟩)))))
      refine okE_nil (okW_lstAt (at_ hb3.len hg) (popAt_ok (cs := PI ys) x0 (by rw [PI_len]; exact x1) (by rw [PI_len]; omega) fun hx => ?_))
      rw [tail_set hb3.len, PI_erase]
      have hjl := (List.getElem?_eq_some_iff.mp hg).1
      refine ⟨g.set j (.lst (PI (ys.eraseIdx x.toNat))), ys.eraseIdx x.toNat, h3, _, rfl, rfl, List.getElem?_set_self hjl, ⟨hy.asc.sublist (List.eraseIdx_sublist ..), fun i hi => hy.lt i ((List.eraseIdx_sublist ..).subset hi), Nat.le_trans (List.eraseIdx_sublist ..).length_le hyl⟩, hb3⟩
    · exact okS_next ⟨g, ys, h2, _, rfl, rfl, hg, hy, hb2.mono (by omega)⟩
  · exact ⟨(fun z => nomatch z), fun _ => okS_next ⟨g, ys, h2, _, rfl, rfl, hg, hy, hb2.mono (by omega)⟩⟩
  clear hb2 hy hg ys g h2
  rintro ρ h' ⟨g, ys, h2, s5, rfl, rfl, hg, hy, hb2⟩
  refine okS_seq (okS_asg (free_ok (q := 0) hm (at_ hb2.len hg) (okG_setC ?_)))
  dsimp only [List.set, fzW]
  have hfr : ∀ i ∈ (List.range m).filter (fun i => !decide (i ∈ ys)), i < m ∧ i ∉ ys := fun i hi => by simpa using hi
  have hfl : ((List.range m).filter (fun i => !decide (i ∈ ys))).length ≤ 1000 := Nat.le_trans (List.length_filter_le ..) (by rw [List.length_range]; exact hm)
  generalize (List.range m).filter (fun i => !decide (i ∈ ys)) = free at hfr hfl ⊢
  have atd : ∀ {h3 : Tb}, h3.length = h.length → deref (h3 ++ g) (.cl (.ce (h.length + j))) = some (.lst (PI ys)) := fun e1 => at_ e1 hg
  -- the span
  refine okS_seqM (fun ρ h' => ∃ sp' : Option Nat, ρ = fr (.cl (oI sp')) (.cl (.lst (PI free))) (.cl (.int w)) (h.length + j) ∧ h' = h2 ++ g ∧ ∀ i, sp' = some i → i < m ∧ i ∉ ys) (okS_if (okB_or (okB_test (okE_op (okE_var rfl (okE_var rfl (okW_eq (w := oI sp) (by cases sp <;> rfl) (okW_eq (atd hb2.len) (w_in dInB_oI ⟨_, rfl, fun _ => ?_, fun e => ?_⟩))))))))) ?_
  · exact ⟨fun _ => okS_asg (okE_c (okG_setC ⟨none, rfl, rfl, fun i e => by cases e⟩)), (fun z => nomatch z)⟩
  · have e := of_decide_eq_false e
    refine okB_test (okE_op (okE_var rfl (okE_c (okW_eq rfl (okW_eq rfl (w_eqi ⟨_, rfl, fun _ => ?_, fun _ => ?_⟩))))))
    · exact okS_asg (okE_c (okG_setC ⟨none, rfl, rfl, fun i e => by cases e⟩))
    · exact okS_next ⟨sp, rfl, rfl, fun i ei => ⟨(hp.sp i ei).1, fun z => e ⟨i, ei, z⟩⟩⟩
  rintro ρ h' ⟨sp1, rfl, rfl, hsp1⟩
  refine okS_seqM (fun ρ h' => ∃ (sp' : Option Nat) (h3 : Tb), ρ = fr (.cl (oI sp')) (.cl (.lst (PI free))) (.cl (.int w)) (h.length + j) ∧ h' = h3 ++ g ∧ (∀ i, sp' = some i → i < m ∧ i ∉ ys) ∧ Bx b (n + 5) h h3) (okS_if (okB_and (okB_test (okE_op (okE_var rfl (okE_eq (w := W.fr (PI [])) rfl (okW_eq rfl (okW_eq rfl (w_ne0 ⟨_, rfl, fun e => ?_, fun _ => ?_⟩))))))))) ?_
  · have e : free ≠ [] := by simpa using e
    have e0 : 0 < free.length := List.length_pos_iff.mpr e
    refine okB_test (okE_op (okE_tkcg t hb2 rfl (by omega) (by decide) (by decide) fun x h3 x0 x1 hb3 => okE_c (okW_eq rfl (okW_eq rfl (w_eqi ⟨_, rfl, fun _ => ?_, fun _ => ?_⟩)))))
    · refine okS_asg (okE_op (okE_var rfl (okE_tkg (m := free.length) t hb3 rfl (by omega) ?_ (by omega) (by omega) fun y h4 y0 y1 hb4 => ?_)))
      · exact okE_cb (okE_cons (okE_var rfl (okE_nil (okW_eq rfl (w_lenL ⟨rfl, rfl, by rw [PI_len]⟩)))))
      obtain ⟨y, rfl⟩ := Int.eq_ofNat_of_zero_le y0
      have hy2 : y < free.length := by omega
      refine okW_eq rfl (okW_eq rfl (w_ixL (PI_get hy2) (okG_setC ⟨some free[y], h4, rfl, rfl, fun i e => ?_, hb4⟩)))
      cases e
      exact hfr _ (List.getElem_mem hy2)
    · exact okS_next ⟨sp1, h3, rfl, rfl, hsp1, hb3.mono (by omega)⟩
  · exact ⟨(fun z => nomatch z), fun _ => okS_next ⟨sp1, h2, rfl, rfl, hsp1, hb2.mono (by omega)⟩⟩
  rintro ρ h' ⟨sp2, h3, rfl, rfl, hsp2, hb3⟩
  refine okS_ret (okE_tup (okE_cons (okE_sl (okE_var rfl (okE_nopart (okE_part (okE_c ⟨(5 : Nat), rfl, okW_eq (atd hb3.len) (w_sl ?_)⟩)))))))
  have e5 : cutL (PI ys) none (some ((5 : Nat) : Int)) = PI (ys.take 5) := by
    rw [cut_take]
    unfold PI
    rw [List.map_take]
  rw [e5]
  have fin : ∀ sp3 : Option Nat, (∀ i, sp3 = some i → i < m ∧ i ∉ ys ∧ ys.length < 5) → okW (cutF false h (.cl (partD (ys.take 5, sp3))) (h3 ++ g)) fun x => P x.1 x.2 := fun sp3 hs => by
    refine cut_app hb3.len (Bx.cut hbs hb3) (fun _ z => by cases z) (below_part (ys.take 5, sp3)) (q _ sp3 h3 ⟨hy.asc.sublist (List.take_sublist ..), fun i hi => hy.lt i (List.mem_of_mem_take hi), by rw [List.length_take]; omega, fun i e => ?_⟩ ((hb.trans hb3).mono (by omega)))
    obtain ⟨a1, a2, a3⟩ := hs i e
    exact ⟨a1, fun z => a2 (List.mem_of_mem_take z), by rw [List.length_take]; omega⟩
  refine okE_cons (okE_if (okB_test (okE_op (okE_cb (okE_cons (okE_var rfl (okE_nil (okW_derefC (at_ hb3.len hg) (w_lenL (okE_c (okW_eq rfl (okW_eq rfl (w_lt ⟨_, rfl, fun e => ?_, fun e => ?_⟩)))))))))))))
  · have e : ys.length < 5 := by
      have := of_decide_eq_true e
      rw [PI_len] at this
      omega
    exact okE_var rfl (okE_nil ⟨Nat.le_of_ble_eq_true rfl, fin sp2 fun i ei => ⟨(hsp2 i ei).1, (hsp2 i ei).2, e⟩⟩)
  · exact okE_c (okE_nil ⟨Nat.le_of_ble_eq_true rfl, fin none fun i ei => by cases ei⟩)
end
end CM
namespace CM
open PySem PySem.Spec PyProof.Rows L2 SL
abbrev Pt := List Nat × Option Nat
def pdI : Option Nat → PyData
  | none => .none
  | some i => .int (i : Nat)
def pdPt (p : Pt) : PyData := .tuple [.list (p.1.map fun i : Nat => PyData.int (i : Int)), pdI p.2]
theorem pd_oI' (s : Option Nat) : pd (oI s) = some (pdI s) := by cases s <;> rfl
theorem pd_part (p : Pt) : pd (partD p) = some (pdPt p) := by
  show (pds [.lst (PI p.1), oI p.2]).map PyData.tuple = _
  show ((pd (.lst (PI p.1))).bind fun x => ((pd (oI p.2)).bind fun y => (some []).map (y :: ·)).map (x :: ·)).map PyData.tuple = _
  rw [pd_PI, pd_oI']
  rfl
theorem pds_parts : ∀ ps : List Pt, pds (ps.map partD) = some (ps.map pdPt)
  | [] => rfl
  | p :: ps => by
    show (pd (partD p)).bind (fun x => (pds (ps.map partD)).map (x :: ·)) = _
    rw [pd_part, pds_parts ps]
    rfl
theorem eqv_I (s t : Option Nat) : PyData.eqv (pdI s) (pdI t) = decide (s = t) := by
  cases s <;> cases t <;> simp [pdI, PyData.eqv]
  rw [Bool.eq_iff_iff, beq_iff_eq, decide_eq_true_eq]
  omega
theorem eqv_pt (p q : Pt) : PyData.eqv (pdPt p) (pdPt q) = decide (p = q) := by
  obtain ⟨a, s⟩ := p
  obtain ⟨b, t⟩ := q
  show PyData.eqv (.tuple _) (.tuple _) = _
  rw [PyData.eqv, PyData.eqvAll, PyData.eqvAll, PyData.eqvAll, PyData.eqv, eqv_ints, eqv_I, Bool.and_true, Bool.eq_iff_iff, Bool.and_eq_true, decide_eq_true_eq, decide_eq_true_eq, decide_eq_true_eq, Prod.mk.injEq]
theorem lay_pt (p : Pt) : PyData.canLay0 (pdPt p) = true ∧ PyData.depth (pdPt p) ≤ 2 := by
  obtain ⟨a, s⟩ := p
  unfold pdPt
  cases s <;> simp [pdI, PyData.canLay0, PyData.canLayAll0, PyData.depth, PyData.depthAll, canLay_ints, depth_ints]
theorem lay_pts : ∀ ps : List Pt, PyData.canLayAll0 (ps.map pdPt) = true ∧ PyData.depthAll (ps.map pdPt) ≤ 2
  | [] => ⟨by simp [PyData.canLayAll0], by simp [PyData.depthAll]⟩
  | p :: ps => by
    obtain ⟨a, b⟩ := lay_pt p
    obtain ⟨c, d⟩ := lay_pts ps
    rw [List.map_cons, PyData.canLayAll0, PyData.depthAll, a, c]
    exact ⟨rfl, by omega⟩
theorem shaped_pt (p : Pt) : SeqAt.shaped (pdPt p) = true := by
  obtain ⟨a, b⟩ := lay_pt p
  unfold SeqAt.shaped
  rw [a, Bool.true_and, decide_eq_true_eq]
  omega
theorem shaped_pts (ps : List Pt) : SeqAt.shaped (.list (ps.map pdPt)) = true := by
  obtain ⟨a, b⟩ := lay_pts ps
  unfold SeqAt.shaped
  rw [PyData.canLay0, PyData.depth, a, Bool.true_and, decide_eq_true_eq]
  omega
theorem dInDB_pt (p : Pt) (ps : List Pt) : dInDB (partD p) (.lst (ps.map partD)) = some (decide (p ∈ ps)) := by
  unfold dInDB
  rw [pd_part]
  show ((pds (ps.map partD)).map PyData.list).bind (fun y => match y with
    | .list ys => if SeqAt.shaped (pdPt p) = true ∧ SeqAt.shaped (.list ys) = true then some (ys.any fun z => PyData.eqv z (pdPt p)) else none
    | _ => none) = _
  rw [pds_parts]
  show (if SeqAt.shaped (pdPt p) = true ∧ SeqAt.shaped (.list (ps.map pdPt)) = true then some ((ps.map pdPt).any fun z => PyData.eqv z (pdPt p)) else none) = _
  rw [if_pos ⟨shaped_pt p, shaped_pts ps⟩]
  congr 1
  rw [Bool.eq_iff_iff, List.any_eq_true, decide_eq_true_eq]
  constructor
  · rintro ⟨x, hx, e⟩
    obtain ⟨q, hq, rfl⟩ := List.mem_map.mp hx
    rw [eqv_pt, decide_eq_true_eq] at e
    rw [← e]
    exact hq
  · intro h
    exact ⟨pdPt p, List.mem_map.mpr ⟨p, h, rfl⟩, by rw [eqv_pt, decide_eq_true rfl]⟩
theorem w_niPt {p : Pt} {ps : List Pt} {Q : W → Prop} (q : Q (.cl (.bl (!decide (p ∈ ps))))) : okW (dNiD (partD p) (.lst (ps.map partD))) Q := ⟨_, by
  unfold dNiD
  rw [dInDB_pt]
  rfl, q⟩
theorem w_nePt0 {ps : List Pt} {Q : W → Prop} (q : Q (.cl (.bl (!decide (ps = []))))) : okW (dNe (.lst (ps.map partD)) (.lst [])) Q := w_ne (by
  show ((pds (ps.map partD)).map PyData.list).bind (fun x => (some (PyData.list [])).bind fun y => if SeqAt.shaped x = true ∧ SeqAt.shaped y = true then some (PyData.eqv x y) else none) = _
  rw [pds_parts]
  show (if SeqAt.shaped (.list (ps.map pdPt)) = true ∧ SeqAt.shaped (.list []) = true then some (PyData.eqv (.list (ps.map pdPt)) (.list [])) else none) = _
  rw [if_pos ⟨shaped_pts ps, shaped_pts []⟩, PyData.eqv]
  cases ps <;> simp [PyData.eqvAll]) q
theorem below_parts {k : Nat} (ps : List Pt) : below k (.lst (ps.map partD)) = true := by
  rw [below_lst, List.all_eq_true]
  intro d hd
  obtain ⟨p, _, rfl⟩ := List.mem_map.mp hd
  exact below_part p
structure Parts (m most : Nat) (ps : List Pt) : Prop where
  ok : ∀ p ∈ ps, Part m p.1 p.2
  nd : ps.Nodup
  len : ps.length ≤ most
section
variable {ρ : List Sl} {h h0 h1 g : Tb} {P : Ps W} {X : Px} {N : List Sl → Tb → Prop} {T : Ps W} {L : Bool → List Sl → Tb → Prop} {tk pk nr : Fnm} {b n k i j len m most : Nat} {c : D} {fx : List Nat}
local macro_rules | `(tactic| walk_at "hv") => `(tactic| first | rfl | assumption | (exact (by assumption : _)))
local macro_rules | `(tactic| walk_at "p1") => `(tactic| first
  | with_reducible refine CM.okS_seq ?_ | with_reducible refine CM.okS_next ?_ | with_reducible refine CM.okS_asg ?_ | with_reducible refine CM.okS_ret ?_ | with_reducible refine CM.okS_drop ?_ | with_reducible refine CM.okS_aug ?_ | with_reducible refine CM.okS_cnt ?_ | with_reducible refine CM.okS_fg ?_ | with_reducible refine CM.okS_retN ?_
  | with_reducible refine CM.okE_op ?_ | with_reducible refine CM.okE_cb ?_ | with_reducible refine CM.okE_cons ?_ | with_reducible refine CM.okE_nil ?_ | with_reducible refine CM.okB_not ?_ | with_reducible refine CM.okE_c ?_ | with_reducible refine CM.okE_fr ?_ | with_reducible refine CM.okE_ce ?_ | with_reducible refine CM.okE_notV ?_ | with_reducible refine CM.okE_un ?_
  | with_reducible refine CM.okE_sl ?_ | with_reducible refine CM.okE_nopart ?_
  | ((with_reducible refine' CM.okE_var ?hv ?_); (case hv => rfl))
  | ((with_reducible refine' CM.okE_part (CM.okE_var ?hv ⟨_, ?hv2, ?_⟩)); (case hv => rfl); (case hv2 => rfl))
  | ((with_reducible refine' CM.okE_part (CM.okE_c ⟨_, ?hv2, ?_⟩)); (case hv2 => rfl))
  | ((with_reducible refine' CM.okW_eq (w := _) ?hv ?_); (case hv => (with_reducible rfl)))
  | ((with_reducible refine' CM.okW_deref ?hv ?_); (case hv => walk_at "hv")) | ((with_reducible refine' CM.okW_derefs ?hv ?_); (case hv => rfl)) | ((with_reducible refine' CM.okW_derefC ?hv ?_); (case hv => walk_at "hv")) | ((with_reducible refine' CM.okW_lstAt ?hv ?_); (case hv => walk_at "hv"))
  | with_reducible refine CM.w_add ?_ | with_reducible refine CM.w_sub ?_ | with_reducible refine CM.w_lt ?_ | with_reducible refine CM.w_le ?_ | with_reducible refine CM.w_gt ?_ | with_reducible refine CM.w_ge ?_ | with_reducible refine CM.w_addI ?_
  | with_reducible refine CM.w_mod (by omega) ?_ | with_reducible refine CM.w_div (by omega) (by rw [CM.big_eq]; omega) ?_ | with_reducible refine CM.w_mul (by rw [CM.big_eq]; omega) (by rw [CM.big_eq]; omega) (by rw [CM.big_eq]; omega) (by rw [CM.big_eq]; omega) ?_ | with_reducible refine CM.w_sq (by omega) (by omega) ?_
  | with_reducible refine CM.w_max2 ?_ | with_reducible refine CM.w_min2 ?_ | with_reducible refine CM.w_lenL ?_ | with_reducible refine CM.w_lenT ?_ | with_reducible refine CM.w_lenC ?_ | with_reducible refine CM.w_listL ?_ | with_reducible refine CM.w_listT ?_ | with_reducible refine CM.w_tupL ?_ | with_reducible refine CM.w_tupT ?_
  | ((with_reducible refine CM.okG_setC ?_); (try dsimp only [List.set, CM.fzW]))
  | ((with_reducible refine' CM.okW_ix ?hv ?_); (case hv => rfl))
  | ((with_reducible refine' CM.okB_test (CM.okE_eqn ⟨_, ?hv, ?_⟩)); (case hv => rfl))
  | ((with_reducible refine' CM.okB_testd ⟨_, ?hv, ?_⟩); (case hv => rfl)))
local macro_rules | `(tactic| walk_at "p") => `(tactic| repeat walk_at "p1")
theorem parts_ok {P : W → Tb → Prop} {X : Str → List (Str × D) → Tb → Prop} (t : Tk tk) (hpk : pk = fnM false 3 3 (pickM tk)) (hnr : nr = fnM false 3 5 (nearM tk)) (hb : Bx b n h0 h) (hn : n ≤ 80000000) (hm : m ≤ 1000) (hmost : most ≤ 1000)
    (q : ∀ ps h', Parts m most ps → Bx b (n + 10 + 30 * most) h0 h' → P (W.fr (ps.map partD)) h') :
    okF (fnM false 3 5 (partsM tk pk nr) [.ce b, .int m, .int most] h) P X := by
  refine okF_fn rfl ?_
  show okS (partsM tk pk nr [.cl (.ce b), .cl (.int m), .cl (.int most), .un, .un, .un, .un, .un] h) _ _ _ _
  have hl0 := hb.len
  have hbs := hb.self
  unfold partsM
  refine okS_seq (okS_par3 (okE_cons (okE_eq (w := W.fr []) rfl (okE_cons (okE_eq (w := W.fr []) rfl (okE_cons (okE_tkc t hbs rfl (by omega) (by decide) (by decide) fun mode h1 m0 m1 hb1 => okE_nil ⟨_, _, _, rfl, ?_⟩)))))))
  show okS _ _ _ _ _
  dsimp only [gPut, List.set, fzW]
  rw [List.append_assoc, List.length_append, List.length_singleton, hb1.len]
  dsimp only [List.cons_append, List.nil_append]
  refine okS_seq (okS_for (rng_ok (m := most) (it := ⟨[], []⟩) hmost (okE_eq rfl ⟨rfl, rfl, rfl⟩) ?_))
  let fr (s6 s7 : Sl) : List Sl := [.cl (.ce b), .cl (.int m), .cl (.int most), .cl (.ce h.length), .cl (.ce (h.length + 1)), .cl (.int mode), s6, s7]
  refine okS_loop0 (fun j ρ h' => ∃ (fs rs : List Pt) (h2 : Tb) (s6 s7 : Sl), ρ = fr s6 s7 ∧ h' = h2 ++ [.lst (fs.map partD), .lst (rs.map partD)] ∧ Parts m j fs ∧ rs.length = j ∧ (∀ p ∈ rs, Part m p.1 p.2) ∧ Bx b (n + 1 + 30 * j) h h2) _ 0 ⟨[], [], h1, _, _, rfl, rfl, ⟨fun p z => absurd z List.not_mem_nil, .nil, Nat.le_refl _⟩, rfl, (fun p z => absurd z List.not_mem_nil), hb1⟩ ?_ ?_
  · rintro j d ρ h' hj ⟨fs, rs, h2, s6, s7, rfl, rfl, g1, g2, g3, hb2⟩
    obtain ⟨hj2, rfl⟩ := rng_at hj
    rw [Nat.zero_add] at g1 g2 hb2 ⊢
    have hl2 := hb2.len
    refine okG_setC ?_
    dsimp only [fr, List.set, fzW]
    -- a part drawn
    refine okS_seq (okS_asg (okE_call (okE_cons (okE_ce (okE_var rfl (okE_cons (okE_fr (okE_var rfl (okE_cons (okE_fr (okE_c (okE_nil ?_))))))))))))
    subst hpk
    refine pick_ok t hb2.app (by omega) hm fun fx sp h3 hp hb3 => ?_
    obtain ⟨h4, rfl, hb4⟩ := hb3.unapp (by rw [← hb2.len]; exact hb2.lt)
    have hl4 := hb4.len
    refine okG_setC ?_
    dsimp only [List.set, fzW]
    -- or one that is near
    refine okS_seqM (fun ρ h' => ∃ (p : Pt) (h5 : Tb), ρ = fr (.cl (.int (j : Nat))) (.cl (partD p)) ∧ h' = h5 ++ [.lst (fs.map partD), .lst (rs.map partD)] ∧ Part m p.1 p.2 ∧ Bx b (n + 1 + 30 * j + 22) h h5) (okS_if (okB_and (okB_test (okE_op (okE_var rfl (okE_c (okW_eq rfl (okW_eq rfl (w_gt ⟨_, rfl, fun _ => ?_, fun _ => ?_⟩))))))))) ?_
    · refine okB_and (okB_test (okE_op (okE_var rfl (okE_eq (w := W.fr []) rfl (okW_eq (tail_at (i := 1) hl4 : deref (h4 ++ [D.lst (fs.map partD), D.lst (rs.map partD)]) (.cl (.ce (h.length + 1))) = some (.lst (rs.map partD))) (okW_eq rfl (w_nePt0 ⟨_, rfl, fun e => ?_, fun _ => ?_⟩)))))))
      · have e : rs ≠ [] := by simpa using e
        have e0 : 0 < rs.length := List.length_pos_iff.mpr e
        refine okB_test (okE_op (okE_tkcg t hb4 rfl (by omega) (by decide) (by decide) fun w h5 w0 w1 hb5 => okE_c (okW_eq rfl (okW_eq rfl (w_gt ⟨_, rfl, fun _ => ?_, fun _ => ?_⟩)))))
        · have hl5 := hb5.len
          refine okS_asg (okE_call (okE_cons (okE_ce (okE_var rfl (okE_cons (okE_fr (okE_var rfl (okE_cons (okE_fr (okE_op (okE_var rfl (okE_tkg (m := rs.length) t hb5 rfl (by omega) ?_ (by omega) (by omega) fun x h6 x0 x1 hb6 => ?_))))))))))))
          · exact okE_cb (okE_cons (okE_var rfl (okE_nil (okW_derefC (tail_at (i := 1) hl5) (w_lenL ⟨rfl, rfl, by rw [List.length_map]⟩)))))
          obtain ⟨x, rfl⟩ := Int.eq_ofNat_of_zero_le x0
          have hx : x < rs.length := by omega
          have hl6 := hb6.len
          refine okW_eq (tail_at (i := 1) hl6 : deref (h6 ++ [D.lst (fs.map partD), D.lst (rs.map partD)]) (.cl (.ce (h.length + 1))) = some (.lst (rs.map partD))) (okW_eq rfl (w_ixL (d := partD rs[x]) (by rw [List.getElem?_map, List.getElem?_eq_getElem hx]; rfl) (okE_nil ?_)))
          subst hnr
          refine near_ok t hb6.app (by omega) hm (g3 rs[x] (List.getElem_mem hx)) fun fx sp h7 hp hb7 => ?_
          obtain ⟨h8, rfl, hb8⟩ := hb7.unapp (by rw [← hb6.len]; exact hb6.lt)
          exact okG_setC ⟨(fx, sp), h8, rfl, rfl, hp, hb8.mono (by omega)⟩
        · exact okS_next ⟨(fx, sp), h5, rfl, rfl, hp, hb5.mono (by omega)⟩
      · exact ⟨(fun z => nomatch z), fun _ => okS_next ⟨(fx, sp), h4, rfl, rfl, hp, hb4.mono (by omega)⟩⟩
    · exact ⟨(fun z => nomatch z), fun _ => okS_next ⟨(fx, sp), h4, rfl, rfl, hp, hb4.mono (by omega)⟩⟩
    rintro ρ h' ⟨p, h5, rfl, rfl, hp5, hb5⟩
    have hl5 := hb5.len
    have hrl : rs.length < 100000 := by omega
    refine okS_seq (okS_drop (okE_mut (okE_var rfl (okW_lstAt (tail_at (i := 1) hl5) (okE_cons (okE_var rfl (okE_nil (okW_lstAt (tail_at (i := 1) hl5) (w_append (by rw [List.length_map]; omega) ?_)))))))))
    rw [tail_set hl5]
    have er : (rs.map partD) ++ [partD p] = (rs ++ [p]).map partD := by rw [List.map_append]; rfl
    have ef : (fs.map partD) ++ [partD p] = (fs ++ [p]).map partD := by rw [List.map_append]; rfl
    show okS _ _ _ _ _
    dsimp only [List.set, fzW]
    rw [er]
    have hrs : ∀ q ∈ rs ++ [p], Part m q.1 q.2 := fun q hq => by
      rcases List.mem_append.mp hq with z | z
      · exact g3 q z
      · rw [List.mem_singleton.mp z]
        exact hp5
    have hrn : (rs ++ [p]).length = j + 1 := by rw [List.length_append, g2, List.length_singleton]
    have same : ∀ h6, Bx b (n + 1 + 30 * j + 23) h h6 → ∃ (fs' rs' : List Pt) (h2 : Tb) (s6 s7 : Sl), fr (.cl (.int (j : Nat))) (.cl (partD p)) = fr s6 s7 ∧ h6 ++ [D.lst (fs.map partD), D.lst ((rs ++ [p]).map partD)] = h2 ++ [.lst (fs'.map partD), .lst (rs'.map partD)] ∧ Parts m (j + 1) fs' ∧ rs'.length = j + 1 ∧ (∀ p ∈ rs', Part m p.1 p.2) ∧ Bx b (n + 1 + 30 * (j + 1)) h h2 := fun h6 hb6 =>
      ⟨fs, rs ++ [p], h6, _, _, rfl, rfl, ⟨g1.ok, g1.nd, by have := g1.len; omega⟩, hrn, hrs, hb6.mono (by omega)⟩
    refine okS_if (okB_and (okB_test (okE_op (okE_var rfl (okE_var rfl (okW_eq rfl (okW_eq (tail_at0 hl5 : deref (h5 ++ [D.lst (fs.map partD), D.lst ((rs ++ [p]).map partD)]) (.cl (.ce h.length)) = some (.lst (fs.map partD))) (w_niPt ⟨_, rfl, fun e => ?_, fun _ => ?_⟩))))))))
    · have e : p ∉ fs := by simpa using e
      refine okB_test (okE_op (okE_tkcg t hb5 rfl (by omega) (by decide) (by decide) fun w h6 w0 w1 hb6 => okE_c (okW_eq rfl (okW_eq rfl (w_gt ⟨_, rfl, fun _ => ?_, fun _ => ?_⟩)))))
      · have hl6 := hb6.len
        have hfl := g1.len
        refine okS_drop (okE_mut (okE_var rfl (okW_lstAt (tail_at0 hl6) (okE_cons (okE_var rfl (okE_nil (okW_lstAt (tail_at0 hl6) (w_append (by rw [List.length_map]; omega) ?_))))))))
        rw [tail_set0 hl6]
        dsimp only [List.set, fzW]
        rw [ef]
        refine ⟨fs ++ [p], rs ++ [p], h6, _, _, rfl, rfl, ⟨fun q hq => ?_, ?_, by rw [List.length_append, List.length_singleton]; omega⟩, hrn, hrs, hb6.mono (by omega)⟩
        · rcases List.mem_append.mp hq with z | z
          · exact g1.ok q z
          · rw [List.mem_singleton.mp z]
            exact hp5
        · rw [List.nodup_append]
          refine ⟨g1.nd, by simp, fun a ha c hc z => ?_⟩
          rw [List.mem_singleton.mp hc] at z
          rw [z] at ha
          exact e ha
      · exact okS_next (same h6 (hb6.mono (by omega)))
    · exact ⟨(fun z => nomatch z), fun _ => okS_next (same h5 (hb5.mono (by omega)))⟩
  rintro ρ h' ⟨fs, rs, h2, s6, s7, rfl, rfl, g1, g2, g3, hb2⟩
  rw [List.length_map, List.length_range, Nat.zero_add] at g1 g2 hb2
  have hl2 := hb2.len
  refine okS_ret (okE_var rfl ?_)
  exact cut_own hl2 (Bx.cut hbs hb2) (Nat.le_refl _) (tail_at0 hl2) (below_parts _) (q fs h2 g1 ((hb.trans hb2).mono (by omega)))
end
end CM
namespace CM
open PySem PySem.Spec PyProof.Rows L2 SL
theorem w_isi {c : Cd} {ks : List Kd} {d x : D} {k : Kd} {Q : W → Prop} (hx : cdIs c x.u = true) (hk : kd d.u = some k) (hm : k ∈ ks) (q : Q (.cl (.bl (insK k c)))) : okW (dIsi c (tabK ks c) [d, x]) Q := ⟨_, by
  show (if cdIs c x.u = true then (kd d.u).bind fun k => (lookK k (tabK ks c)).map fun b => W.cl (.bl b) else none) = _
  rw [if_pos hx, hk]
  show (lookK k (tabK ks c)).map _ = _
  unfold tabK
  rw [look_map hm]
  rfl, q⟩
theorem w_isiT {cs : List Cd} {ks : List Kd} {d : D} {ds : List D} {k : Kd} {Q : W → Prop} (hx : cdsAre cs ds = true) (hk : kd d.u = some k) (hm : k ∈ ks) (q : Q (.cl (.bl (cs.any (insK k))))) : okW (dIsiT cs (tabKT ks cs) [d, .tup ds]) Q := ⟨_, by
  show (if cdsAre cs ds = true then (kd d.u).bind fun k => (lookK k (tabKT ks cs)).map fun b => W.cl (.bl b) else none) = _
  rw [if_pos hx, hk]
  show (lookK k (tabKT ks cs)).map _ = _
  unfold tabKT
  rw [look_map hm]
  rfl, q⟩
def nmB (z : Str) : Bool := decide (1 ≤ z.cps.toList.length) && decide (z.cps.toList.length ≤ 8) && z.cps.toList.all fun c => decide (c ∈ lets)
theorem nmB_iff {z : Str} : nmB z = true ↔ Nm z := by
  unfold nmB Nm NmL
  simp only [Bool.and_eq_true, decide_eq_true_eq, List.all_eq_true]
  rw [and_assoc]
def nmD : D → Bool
  | .str z => nmB z
  | _ => false
theorem blsOf_map (bs : List Bool) : blsOf (bs.map .bl) = some bs := by
  induction bs with
  | nil => rfl
  | cons b bs ih =>
    show (blsOf (bs.map .bl)).map (b :: ·) = _
    rw [ih]
    rfl
def spD : Option Str → D
  | none => .non
  | some z => .str z
abbrev shF (fx : List Str) (sp : Option Str) : List (Str × D) := [(("fixed_columns" : Str), .lst (LS (sortS fx))), (("span_column" : Str), spD sp)]
def shD (fx : List Str) (sp : Option Str) : D := .ins "Shape" (shF fx sp)
structure ShOk (fx : List Str) (sp : Option Str) : Prop where
  len : fx.length ≤ 5
  nd : fx.Nodup
  nm : ∀ z ∈ fx, Nm z
  sp : ∀ z, sp = some z → Nm z ∧ z ∉ fx ∧ fx.length < 5
section
variable {ρ : List Sl} {h : Tb} {X : Str → List (Str × D) → Tb → Prop} {P : W → Tb → Prop} {ks : List Kd} {rz : Bool} {z : Str} {d0 d d1 : D} {k : Kd} {n : Nat} {fx : List Str} {sp : Option Str}
local macro_rules | `(tactic| walk_at "hv") => `(tactic| first | rfl | assumption | (exact (by assumption : _)))
local macro_rules | `(tactic| walk_at "p1") => `(tactic| first
  | with_reducible refine CM.okS_seq ?_ | with_reducible refine CM.okS_next ?_ | with_reducible refine CM.okS_asg ?_ | with_reducible refine CM.okS_ret ?_ | with_reducible refine CM.okS_drop ?_ | with_reducible refine CM.okS_aug ?_ | with_reducible refine CM.okS_cnt ?_ | with_reducible refine CM.okS_fg ?_ | with_reducible refine CM.okS_retN ?_
  | with_reducible refine CM.okE_op ?_ | with_reducible refine CM.okE_cb ?_ | with_reducible refine CM.okE_cons ?_ | with_reducible refine CM.okE_nil ?_ | with_reducible refine CM.okB_not ?_ | with_reducible refine CM.okE_c ?_ | with_reducible refine CM.okE_fr ?_ | with_reducible refine CM.okE_ce ?_ | with_reducible refine CM.okE_notV ?_ | with_reducible refine CM.okE_un ?_
  | with_reducible refine CM.okE_sl ?_ | with_reducible refine CM.okE_nopart ?_
  | ((with_reducible refine' CM.okE_var ?hv ?_); (case hv => rfl))
  | ((with_reducible refine' CM.okE_part (CM.okE_var ?hv ⟨_, ?hv2, ?_⟩)); (case hv => rfl); (case hv2 => rfl))
  | ((with_reducible refine' CM.okE_part (CM.okE_c ⟨_, ?hv2, ?_⟩)); (case hv2 => rfl))
  | ((with_reducible refine' CM.okW_eq (w := _) ?hv ?_); (case hv => (with_reducible rfl)))
  | ((with_reducible refine' CM.okW_deref ?hv ?_); (case hv => walk_at "hv")) | ((with_reducible refine' CM.okW_derefs ?hv ?_); (case hv => rfl)) | ((with_reducible refine' CM.okW_derefC ?hv ?_); (case hv => walk_at "hv")) | ((with_reducible refine' CM.okW_lstAt ?hv ?_); (case hv => walk_at "hv"))
  | with_reducible refine CM.w_add ?_ | with_reducible refine CM.w_sub ?_ | with_reducible refine CM.w_lt ?_ | with_reducible refine CM.w_le ?_ | with_reducible refine CM.w_gt ?_ | with_reducible refine CM.w_ge ?_ | with_reducible refine CM.w_addI ?_
  | with_reducible refine CM.w_mod (by omega) ?_ | with_reducible refine CM.w_div (by omega) (by rw [CM.big_eq]; omega) ?_ | with_reducible refine CM.w_mul (by rw [CM.big_eq]; omega) (by rw [CM.big_eq]; omega) (by rw [CM.big_eq]; omega) (by rw [CM.big_eq]; omega) ?_ | with_reducible refine CM.w_sq (by omega) (by omega) ?_
  | with_reducible refine CM.w_max2 ?_ | with_reducible refine CM.w_min2 ?_ | with_reducible refine CM.w_lenL ?_ | with_reducible refine CM.w_lenT ?_ | with_reducible refine CM.w_lenC ?_ | with_reducible refine CM.w_listL ?_ | with_reducible refine CM.w_listT ?_ | with_reducible refine CM.w_tupL ?_ | with_reducible refine CM.w_tupT ?_
  | ((with_reducible refine CM.okG_setC ?_); (try dsimp only [List.set, CM.fzW]))
  | ((with_reducible refine' CM.okW_ix ?hv ?_); (case hv => rfl))
  | ((with_reducible refine' CM.okB_test (CM.okE_eqn ⟨_, ?hv, ?_⟩)); (case hv => rfl))
  | ((with_reducible refine' CM.okB_testd ⟨_, ?hv, ?_⟩); (case hv => rfl)))
local macro_rules | `(tactic| walk_at "p") => `(tactic| repeat walk_at "p1")
theorem okW_d1 {w : W} {Q : List D → Prop} (e : deref h w = some d) (q : Q [d]) : okW (derefs h [w]) Q := ⟨[d], by
  show ((deref h w).bind fun d => (some []).bind fun ds => some (d :: ds)) = _
  rw [e]
  rfl, q⟩
theorem okW_d2 {w u : W} {Q : List D → Prop} (e : deref h w = some d) (e2 : deref h u = some d1) (q : Q [d, d1]) : okW (derefs h [w, u]) Q := ⟨[d, d1], by
  show ((deref h w).bind fun d => ((deref h u).bind fun d => (some []).bind fun ds => some (d :: ds)).bind fun ds => some (d :: ds)) = _
  rw [e, e2]
  rfl, q⟩
theorem w_lenS' {Q : W → Prop} (hu : d.u = .str z) (hl : z.length ≤ 100000) (q : Q (.cl (.int z.cps.toList.length))) : okW (dLen [d]) Q := ⟨_, by
  show (match d.u with
    | .str z => if z.length ≤ 100000 then some (W.cl (.int z.length)) else none
    | .lst ds => some (W.cl (.int ds.length))
    | .tup ds => some (W.cl (.int ds.length))
    | .scr ds => some (W.cl (.int ds.length))
    | _ => none) = _
  rw [hu]
  show (if z.length ≤ 100000 then some (W.cl (.int z.length)) else none) = _
  rw [if_pos hl, SL.len_str], q⟩
theorem w_lenQ {ds : List D} {Q : W → Prop} (hu : seqD d.u = some ds) (q : Q (.cl (.int ds.length))) : okW (dLen [d]) Q := by
  refine ⟨.cl (.int ds.length), ?_, q⟩
  unfold seqD at hu
  show (match d.u with
    | .str z => if z.length ≤ 100000 then some (W.cl (.int z.length)) else none
    | .lst ds => some (W.cl (.int ds.length))
    | .tup ds => some (W.cl (.int ds.length))
    | .scr ds => some (W.cl (.int ds.length))
    | _ => none) = _
  split at hu
  · rename_i e
    cases hu
    rw [e]
  · rename_i e
    cases hu
    rw [e]
  · cases hu
theorem is_name_ok (hd : deref h (.cl d0) = some d) (hk : kd d.u = some k) (hm : k ∈ ks) (hl : ∀ z, d.u = .str z → z.length ≤ 100000) (p : P (.cl (.bl (nmD d.u))) h) : okF (CP.m_is_name ks rz [d0] h) P X := by
  unfold CP.m_is_name
  refine okF_fn rfl ?_
  show okS (CP.b_is_name ks rz [.cl d0, .un] h) _ _ _ _
  unfold CP.b_is_name
  refine okS_seq (okS_if (okB_or (okB_not (okB_tru (okE_cb (okE_cons (okE_var rfl (okE_cons (okE_c (okE_nil (okW_d2 hd rfl (w_isi rfl hk hm ⟨_, _, rfl, rfl, ?_⟩))))))))))))
  by_cases hs : ∃ z, d.u = .str z
  · obtain ⟨z, hu⟩ := hs
    rw [hu] at hk p
    cases hk
    refine ⟨(fun e => nomatch e), fun _ => okB_not (okB_test (okE_chain (okE_c (okE_cb (okE_cons (okE_var rfl (okE_nil (okW_d1 hd (w_lenS' hu (hl z hu) (okW_eq rfl (okW_eq rfl ⟨_, rfl, fun h0 => ?_, fun h0 => ?_⟩)))))))))))⟩
    · have h0 : 1 ≤ z.cps.toList.length := by
        have := of_decide_eq_true h0
        omega
      refine okE_c (okW_eq rfl (okW_eq rfl (w_le ⟨_, rfl, fun h8 => ?_, fun h8 => ?_⟩)))
      · have h8 : ¬ z.cps.toList.length ≤ 8 := by
          intro c
          have : decide ((z.cps.toList.length : Int) ≤ 8) = true := decide_eq_true (by omega)
          rw [this] at h8
          cases h8
        refine okS_ret (okE_c (cut_same rfl ?_))
        have : nmD (.str z) = false := by
          show nmB z = false
          unfold nmB
          rw [decide_eq_false h8, Bool.and_false, Bool.false_and]
        rw [this] at p
        exact p
      · have h8 : z.cps.toList.length ≤ 8 := by
          by_cases c : z.cps.toList.length ≤ 8
          · exact c
          · have : decide ((z.cps.toList.length : Int) ≤ 8) = false := decide_eq_false (by omega)
            rw [this] at h8
            cases h8
        refine okS_next (okS_ret (okE_cb (okE_cons (okE_lc (okE_iU (okE_var rfl (okW_eq hd (okW_eq (w := z.cps.toList.map fun c => D.str ⟨#[c]⟩) (by rw [hu]; rfl) ⟨by rw [List.length_map]; omega, rfl, ?_⟩))))))))
        have hck : ∀ (j : Nat) (ρ : List Sl) (h' : Tb) (acc : List D), ρ = [.cl d0, .un] ∧ h' = h ∧ (∃ bs : List Bool, acc = bs.map .bl ∧ bs = (z.cps.toList.take j).map fun c => decide (c ∈ lets)) → ckOk (ckOf h (.cl d0)) h' := by
          rintro j ρ h' acc ⟨_, rfl, _⟩
          exact ck_of
        refine okE_loopC (fun j ρ h' acc => ρ = [.cl d0, .un] ∧ h' = h ∧ (∃ bs : List Bool, acc = bs.map .bl ∧ bs = (z.cps.toList.take j).map fun c => decide (c ∈ lets))) hck _ 0 ⟨rfl, rfl, [], rfl, rfl⟩ ?_ ?_
        · rintro j d ρ h' acc hj ⟨rfl, rfl, bs, rfl, hbs⟩
          rw [Nat.zero_add] at hbs ⊢
          rw [List.getElem?_map] at hj
          cases hc : z.cps.toList[j]? with
          | none => rw [hc] at hj; cases hj
          | some c =>
            rw [hc] at hj
            cases hj
            refine okG_setC (okE_eq rfl ⟨fun _ => ?_, (fun e => nomatch e)⟩)
            refine okE_op (okE_var rfl (okE_c (okW_eq rfl (okW_eq rfl (w_in (c := decide (c ∈ lets)) ?_ ⟨rfl, rfl, bs ++ [decide (c ∈ lets)], by simp [fzW], ?_⟩)))))
            · rw [letters_eq]
              show some (decide (c ∈ (S lets).cps.toList)) = _
              rw [S_cps]
            · obtain ⟨hj2, e⟩ := List.getElem?_eq_some_iff.mp hc
              rw [hbs, List.take_succ_eq_append_getElem hj2, e, List.map_append]
              rfl
        · rintro ρ h' acc ⟨rfl, rfl, bs, rfl, hbs⟩
          rw [List.length_map, Nat.zero_add, List.take_of_length_le (Nat.le_refl _)] at hbs
          refine okE_nil (okW_eq rfl (okW_eq (w := .cl (.bl (nmB z))) ?_ (cut_same rfl p)))
          show (blsOf (bs.map .bl)).map (fun bs => W.cl (.bl (bs.all id))) = _
          rw [blsOf_map]
          have : bs.all id = nmB z := by
            rw [hbs]
            unfold nmB
            rw [decide_eq_true h0, decide_eq_true h8, List.all_map]
            rfl
          show some (W.cl (.bl (bs.all id))) = _
          rw [this]
    · have h0 : ¬ 1 ≤ z.cps.toList.length := fun c => by
        have : decide ((0 : Int) < z.cps.toList.length) = true := decide_eq_true (by omega)
        rw [this] at h0
        cases h0
      refine ⟨false, rfl, fun _ => ?_, (fun e => nomatch e)⟩
      refine okS_ret (okE_c (cut_same rfl ?_))
      have : nmD (.str z) = false := by
        show nmB z = false
        unfold nmB
        rw [decide_eq_false h0, Bool.false_and, Bool.false_and]
      rw [this] at p
      exact p
  · have hb : insK k (.ty "str") = false := by
      cases k with
      | b T =>
        have hT : T ≠ "str" := by
          rintro rfl
          apply hs
          generalize d.u = e at hk
          cases e <;> first | exact ⟨_, rfl⟩ | (exfalso; revert hk; simp [kd])
        show (decide (T = "str") || (decide (T = "bool") && decide (("str" : String) = "int"))) = false
        rw [decide_eq_false hT]
        simp
      | own C => rfl
      | exc C =>
        show decide ("str" ∈ basesT C) = false
        unfold basesT
        split
        · decide
        · split <;> decide
      | fn => rfl
    rw [hb]
    refine ⟨fun _ => ⟨fun _ => okS_ret (okE_c (cut_same rfl ?_)), (fun e => nomatch e)⟩, (fun e => nomatch e)⟩
    have : nmD d.u = false := by
      generalize d.u = e at hs
      cases e <;> first | rfl | exact absurd ⟨_, rfl⟩ hs
    rw [this] at p
    exact p
theorem is_list_ok (hd : deref h (.cl d0) = some d) (hk : kd d.u = some k) (hm : k ∈ ks) (p : P (.cl (.bl (insK k (.ty "list") || insK k (.ty "tuple")))) h) : okF (CP.m_is_list ks rz [d0] h) P X := by
  unfold CP.m_is_list
  refine okF_fn rfl ?_
  show okS (CP.b_is_list ks rz [.cl d0] h) _ _ _ _
  unfold CP.b_is_list
  refine okS_ret (okE_cb (okE_cons (okE_var rfl (okE_cons (okE_tup (okE_cons (okE_c (okE_cons (okE_c (okE_nil ⟨Nat.le_of_ble_eq_true rfl, okE_nil (okW_d2 hd rfl (w_isiT rfl hk hm (cut_same rfl ?_)))⟩))))))))))
  rw [List.any_cons, List.any_cons, List.any_nil, Bool.or_false]
  exact p
end
end CM
namespace CM
open PySem PySem.Spec PyProof.Rows L2 SL
section
variable {ρ : List Sl} {h : Tb} {X : Str → List (Str × D) → Tb → Prop} {P : W → Tb → Prop} {ks : List Kd} {rz : Bool} {z : Str} {d0 d d1 e0 : D} {k : Kd} {n : Nat} {fx gx : List Str} {sp sq : Option Str}
local macro_rules | `(tactic| walk_at "hv") => `(tactic| first | rfl | assumption | (exact (by assumption : _)))
local macro_rules | `(tactic| walk_at "p1") => `(tactic| first
  | with_reducible refine CM.okS_seq ?_ | with_reducible refine CM.okS_next ?_ | with_reducible refine CM.okS_asg ?_ | with_reducible refine CM.okS_ret ?_ | with_reducible refine CM.okS_drop ?_ | with_reducible refine CM.okS_aug ?_ | with_reducible refine CM.okS_cnt ?_ | with_reducible refine CM.okS_fg ?_ | with_reducible refine CM.okS_retN ?_
  | with_reducible refine CM.okE_op ?_ | with_reducible refine CM.okE_cb ?_ | with_reducible refine CM.okE_cons ?_ | with_reducible refine CM.okE_nil ?_ | with_reducible refine CM.okB_not ?_ | with_reducible refine CM.okE_c ?_ | with_reducible refine CM.okE_fr ?_ | with_reducible refine CM.okE_ce ?_ | with_reducible refine CM.okE_notV ?_ | with_reducible refine CM.okE_un ?_
  | with_reducible refine CM.okE_sl ?_ | with_reducible refine CM.okE_nopart ?_
  | ((with_reducible refine' CM.okE_var ?hv ?_); (case hv => rfl))
  | ((with_reducible refine' CM.okE_part (CM.okE_var ?hv ⟨_, ?hv2, ?_⟩)); (case hv => rfl); (case hv2 => rfl))
  | ((with_reducible refine' CM.okE_part (CM.okE_c ⟨_, ?hv2, ?_⟩)); (case hv2 => rfl))
  | ((with_reducible refine' CM.okW_eq (w := _) ?hv ?_); (case hv => (with_reducible rfl)))
  | ((with_reducible refine' CM.okW_deref ?hv ?_); (case hv => walk_at "hv")) | ((with_reducible refine' CM.okW_derefs ?hv ?_); (case hv => rfl)) | ((with_reducible refine' CM.okW_derefC ?hv ?_); (case hv => walk_at "hv")) | ((with_reducible refine' CM.okW_lstAt ?hv ?_); (case hv => walk_at "hv"))
  | with_reducible refine CM.w_add ?_ | with_reducible refine CM.w_sub ?_ | with_reducible refine CM.w_lt ?_ | with_reducible refine CM.w_le ?_ | with_reducible refine CM.w_gt ?_ | with_reducible refine CM.w_ge ?_ | with_reducible refine CM.w_addI ?_
  | with_reducible refine CM.w_mod (by omega) ?_ | with_reducible refine CM.w_div (by omega) (by rw [CM.big_eq]; omega) ?_ | with_reducible refine CM.w_mul (by rw [CM.big_eq]; omega) (by rw [CM.big_eq]; omega) (by rw [CM.big_eq]; omega) (by rw [CM.big_eq]; omega) ?_ | with_reducible refine CM.w_sq (by omega) (by omega) ?_
  | with_reducible refine CM.w_max2 ?_ | with_reducible refine CM.w_min2 ?_ | with_reducible refine CM.w_lenL ?_ | with_reducible refine CM.w_lenT ?_ | with_reducible refine CM.w_lenC ?_ | with_reducible refine CM.w_listL ?_ | with_reducible refine CM.w_listT ?_ | with_reducible refine CM.w_tupL ?_ | with_reducible refine CM.w_tupT ?_
  | ((with_reducible refine CM.okG_setC ?_); (try dsimp only [List.set, CM.fzW]))
  | ((with_reducible refine' CM.okW_ix ?hv ?_); (case hv => rfl))
  | ((with_reducible refine' CM.okB_test (CM.okE_eqn ⟨_, ?hv, ?_⟩)); (case hv => rfl))
  | ((with_reducible refine' CM.okB_testd ⟨_, ?hv, ?_⟩); (case hv => rfl)))
local macro_rules | `(tactic| walk_at "p") => `(tactic| repeat walk_at "p1")
theorem seq_two {ds : List D} (hu : seqD d.u = some ds) : d.u = .lst ds ∨ d.u = .tup ds := by
  unfold seqD at hu
  split at hu
  · cases hu
    exact .inl (by assumption)
  · cases hu
    exact .inr (by assumption)
  · cases hu
theorem dInB_Q (hu : seqD d.u = some (LS fx)) : dInB (.str z) d = some (decide (z ∈ fx)) := by
  have hf : (flat (.str z)).bind (fun v => (flats (LS fx)).map fun vs => inV v vs) = some (decide (z ∈ fx)) := by
    rw [flats_strs]
    show some (inV (.str z) (fx.map V.str)) = _
    rw [inV_strs]
  unfold dInB
  rcases seq_two hu with e | e
  · rw [e]
    exact hf
  · rw [e]
    exact hf
theorem dInB_QN (hu : seqD d.u = some (LS fx)) : dInB .non d = some false := by
  have hf : (flat .non).bind (fun v => (flats (LS fx)).map fun vs => inV v vs) = some false := by
    rw [flats_strs]
    show some (inV .non (fx.map V.str)) = _
    rw [inV_non]
  unfold dInB
  rcases seq_two hu with e | e
  · rw [e]
    exact hf
  · rw [e]
    exact hf
theorem w_slQ {ds : List D} {lo hi : Option Int} {Q : W → Prop} (hu : seqD d.u = some ds) (q : ∀ w e, (∀ h, deref h w = some e) → seqD e.u = some (cutL ds lo hi) → Q w) : okW (dSl d lo hi) Q := by
  unfold dSl
  rcases seq_two hu with e | e
  · rw [e]
    exact ⟨_, rfl, q _ (.lst _) (fun _ => rfl) rfl⟩
  · rw [e]
    exact ⟨_, rfl, q _ (.tup _) (fun _ => rfl) rfl⟩
theorem kd_seq {ds : List D} (hu : seqD d.u = some ds) : kd d.u = some (.b "list") ∨ kd d.u = some (.b "tuple") := by
  rcases seq_two hu with e | e <;> rw [e]
  · exact .inl rfl
  · exact .inr rfl
/-- kinds that are told -/
structure KsOk (ks : List Kd) : Prop where
  s : Kd.b "str" ∈ ks
  l : Kd.b "list" ∈ ks
  t : Kd.b "tuple" ∈ ks
theorem is_seq_ok {ds : List D} (hks : KsOk ks) (hd : deref h (.cl d0) = some d) (hu : seqD d.u = some ds) (p : P (.cl (.bl true)) h) : okF (CP.m_is_list ks rz [d0] h) P X := by
  rcases kd_seq hu with e | e
  · exact is_list_ok hd e hks.l p
  · exact is_list_ok hd e hks.t p
theorem is_nm_ok (hks : KsOk ks) (hz : Nm z) (p : P (.cl (.bl true)) h) : okF (CP.m_is_name ks rz [.str z] h) P X := by
  refine is_name_ok (d := .str z) rfl rfl hks.s (fun w e => ?_) ?_
  · cases e
    rw [SL.len_str]
    have := hz.2.1
    show z.cps.toList.length ≤ _
    omega
  · show P (.cl (.bl (nmB z))) h
    rw [nmB_iff.mpr hz]
    exact p
theorem putD_span {x v : D} : putD "span_column" v [(("fixed_columns" : Str), x)] = [(("fixed_columns" : Str), x), (("span_column" : Str), v)] := by
  unfold putD
  rw [if_neg (by decide +kernel)]
  rfl
theorem shape_init (hks : KsOk ks) (hs : h[n]? = some (.ins "Shape" [])) (hd : deref h (.cl d0) = some d) (hu : seqD d.u = some (LS fx)) (ok : ShOk fx sp) (p : P (.cl .non) (h.set n (shD fx sp))) : okF (CP.m_Shape_D_init_D ks rz [.ce n, d0, spD sp] h) P X := by
  unfold CP.m_Shape_D_init_D
  refine okF_fn rfl ?_
  show okS (CP.b_Shape_D_init_D ks rz [.cl (.ce n), .cl d0, .cl (spD sp), .un, .un] h) _ _ _ _
  unfold CP.b_Shape_D_init_D
  have h5 := ok.len
  have hl : (LS fx).length = fx.length := List.length_map ..
  refine okS_seq (okS_no (okB_or (okB_not (okB_tru (okE_call (okE_cons (okE_fr (okE_var rfl (okE_nil (is_seq_ok hks hd hu ⟨.bl true, true, rfl, rfl, (fun e => nomatch e), fun _ => ?_⟩))))))))))
  refine okB_test (okE_op (okE_cb (okE_cons (okE_var rfl (okE_nil (okW_d1 hd (w_lenQ hu (okE_c (okW_eq rfl (okW_eq rfl (w_gt ⟨_, rfl, decide_eq_false (by omega), okS_next ?_⟩)))))))))))
  refine okS_seq (okS_for (okE_enum (okE_cons (okE_var rfl (okE_nil ⟨_, d, _, rfl, hd, hu, by omega, ?_⟩)))))
  refine okS_loop (fun j ρ h' => h' = h ∧ ∃ s3 s4, ρ = [.cl (.ce n), .cl d0, .cl (spD sp), s3, s4]) ?_ _ 0 ⟨rfl, _, _, rfl⟩ ?_ ?_
  · rintro j ρ h' ⟨rfl, _⟩
    exact ck_of
  · rintro j d ρ h' hj ⟨rfl, s3, s4, rfl⟩
    obtain ⟨x, hx, rfl⟩ := enum_at hj
    obtain ⟨z, hz, rfl⟩ := strs_at hx
    have hm : z ∈ fx := List.mem_of_getElem? hz
    refine okG_tup2 (okG_setC (okG_setC ?_))
    dsimp only [List.set, fzW]
    refine okS_seq (okS_no (okB_not (okB_tru (okE_call (okE_cons (okE_fr (okE_var rfl (okE_nil (is_nm_ok hks (ok.nm z hm) ⟨.bl true, true, rfl, rfl, rfl, okS_next ?_⟩)))))))))
    refine okS_no (okB_test (okE_op (okE_var rfl (okE_sl (okE_var rfl (okE_nopart (okE_part (okE_var rfl ⟨_, rfl, okW_eq hd (w_slQ hu fun w e he hue => okW_eq rfl (okW_eq (he _) ?_))⟩))))))))
    rw [cut_take, ← List.map_take] at hue
    exact w_in (dInB_Q hue) ⟨_, rfl, decide_eq_false (nodup_take ok.nd hz), okS_next ⟨rfl, _, _, rfl⟩⟩
  · rintro ρ h' ⟨rfl, s3, s4, rfl⟩
    have tail : okS (sSeq (sFldM "Shape" "fixed_columns" (mVar 0) (mCB dSrt (mCons (mVar 1) mNil))) (sFldM "Shape" "span_column" (mVar 0) (mVar 2)) [.cl (.ce n), .cl d0, .cl (spD sp), s3, s4] h') (fun ρ h'' => okW (cutF false h' (.cl .non) h'') fun x => P x.1 x.2) (fun w ρ h'' => okW (cutF false h' w h'') fun x => P x.1 x.2) (fun _ _ _ => False) (fun C fs ρ h'' => okW (cutX false h' fs h'') fun x => X C fs x) := by
      refine okS_seq (okS_fld (okE_cb (okE_cons (okE_var rfl (okE_nil (okW_d1 hd (w_srtQ hu (by omega) (okE_var rfl (okW_eq (insAt_eq hs) ⟨by show (0 : Nat) < 1000; decide, ?_⟩)))))))))
      have hn := (List.getElem?_eq_some_iff.mp hs).1
      refine okS_fld (okE_var rfl (okE_var rfl (okW_eq (insAt_eq (List.getElem?_set_self hn)) ⟨by show (1 : Nat) < 1000; decide, cut_same (by rw [List.length_set, List.length_set]) ?_⟩)))
      have e2 : putD "fixed_columns" (fzW (W.fr (LS (sortS fx)))) [] = [(("fixed_columns" : Str), D.lst (LS (sortS fx)))] := rfl
      show P (.cl .non) (((h'.set n _).set n (.ins "Shape" (putD "span_column" (spD sp) (putD "fixed_columns" (fzW (W.fr (LS (sortS fx)))) [])))))
      rw [List.set_set, e2, putD_span]
      exact p
    cases sp with
    | none =>
      refine okS_seq (okS_no (okB_and (okE_eq (w := false) rfl ⟨(fun q => nomatch q), fun _ => ⟨rfl, okS_next ?_⟩⟩)))
      refine okS_seq (okS_no (okB_test (okE_op (okE_var rfl (okE_var rfl (okW_eq rfl (okW_eq hd (w_in (dInB_QN hu) ⟨_, rfl, rfl, okS_next ?_⟩))))))))
      refine okS_seq (okS_no (okB_and (okE_eq (w := false) rfl ⟨(fun q => nomatch q), fun _ => ⟨rfl, okS_next ?_⟩⟩)))
      exact tail
    | some z =>
      obtain ⟨z1, z2, z3⟩ := ok.sp z rfl
      refine okS_seq (okS_no (okB_and (okE_eq (w := true) rfl ⟨fun _ => ?_, (fun q => nomatch q)⟩)))
      refine okB_not (okB_tru (okE_call (okE_cons (okE_fr (okE_var rfl (okE_nil (is_nm_ok hks z1 ⟨.bl true, true, rfl, rfl, rfl, okS_next ?_⟩)))))))
      refine okS_seq (okS_no (okB_test (okE_op (okE_var rfl (okE_var rfl (okW_eq rfl (okW_eq hd (w_in (dInB_Q hu) ⟨_, rfl, decide_eq_false z2, okS_next ?_⟩))))))))
      refine okS_seq (okS_no (okB_and (okE_eq (w := true) rfl ⟨fun _ => ?_, (fun q => nomatch q)⟩)))
      refine okB_test (okE_op (okE_cb (okE_cons (okE_var rfl (okE_nil (okW_d1 hd (w_lenQ hu (okE_c (okW_eq rfl (okW_eq rfl (w_eqi ⟨_, rfl, decide_eq_false (by omega), okS_next ?_⟩)))))))))))
      exact tail
/-- Shape(..) -/
theorem okE_shape {P : Ps W} {X : Px} {es : Mo (List W)} {dvs : List D} (hks : KsOk ks) (q : okE (es ρ h) (fun ws ρ h => ∃ d0 d fx sp, ws.map fzW ++ dvs = [d0, spD sp] ∧ deref h (.cl d0) = some d ∧ seqD d.u = some (LS fx) ∧ ShOk fx sp ∧ P (.nw (shD fx sp)) ρ h) X) : okE (mMake false "Shape" (CP.m_Shape_D_init_D ks rz) dvs es ρ h) P X := okE_make (q.mono fun ws ρ h q => by
  obtain ⟨d0, d, fx, sp, e, hd, hu, ok, p⟩ := q
  rw [e]
  have hd2 : deref (h ++ [.ins "Shape" []]) (.cl d0) = some d := by
    by_cases hc : ∃ m, d0 = .ce m
    · obtain ⟨m, rfl⟩ := hc
      have hd : h[m]? = some d := hd
      show (h ++ [D.ins "Shape" []])[m]? = some d
      rw [List.getElem?_append_left (List.getElem?_eq_some_iff.mp hd).1]
      exact hd
    · have := top_ne (h := h) (d := d0) (fun m z => hc ⟨m, z⟩)
      have e2 := top_ne (h := h ++ [.ins "Shape" []]) (d := d0) (fun m z => hc ⟨m, z⟩)
      show top _ d0 = _
      rw [e2]
      rw [← this]
      exact hd
  refine shape_init hks (tail_at0 rfl) hd2 hu ok ⟨rfl, ?_⟩
  rw [List.set_append_right _ _ (Nat.le_refl _), Nat.sub_self]
  refine cut_own (h1 := h) (g := [shD fx sp]) rfl okCut_refl (Nat.le_refl _) (tail_at0 rfl) ?_ p
  show below h.length (.ins "Shape" (shF fx sp)) = true
  rw [below_ins]
  have h1 : below h.length (.lst (LS (sortS fx))) = true := below_strs (sortS fx)
  have h2 : below h.length (spD sp) = true := by cases sp <;> first | exact below_non | exact below_str
  simp [h1, h2])
end
end CM
namespace CM
open PySem PySem.Spec PyProof.Rows L2 SL
section
variable {ρ : List Sl} {h : Tb} {P : Ps W} {X : Px} {a : Mo W} {ms : List (Mo W)} {acc : Str}
theorem okE_js0 (q : P (.cl (.str acc)) ρ h) : okE (mJs [] acc ρ h) P X := okE_some q
theorem okE_js {m : Mo W} (q : okE (m ρ h) (fun w ρ h => ∃ d y, deref h w = some d ∧ d.u = .str y ∧ (acc ++ y).length ≤ 100000 ∧ okE (mJs ms (acc ++ y) ρ h) P X) X) : okE (mJs (m :: ms) acc ρ h) P X := okE_bind (q.mono fun w ρ h q => by
  obtain ⟨d, y, e, e2, e3, q⟩ := q
  show okE (match (deref h w).map D.u with
    | some (.str y) => if (acc ++ y).length ≤ 100000 then mJs ms (acc ++ y) ρ h else none
    | _ => none) P X
  rw [e]
  show okE (match some d.u with
    | some (.str y) => if (acc ++ y).length ≤ 100000 then mJs ms (acc ++ y) ρ h else none
    | _ => none) P X
  rw [e2]
  show okE (if (acc ++ y).length ≤ 100000 then mJs ms (acc ++ y) ρ h else none) P X
  rw [if_pos e3]
  exact q)
theorem okE_fmt (q : okE (a ρ h) (fun w ρ h => ∃ z, deref h w = some (.str z) ∧ z.length ≤ 100000 ∧ P (.cl (.str z)) ρ h) X) : okE (mFmt a ρ h) P X := okE_bind (q.mono fun w ρ h q => by
  obtain ⟨z, e, e2, p⟩ := q
  show okE (match (deref h w).map D.u with
    | some (.str z) => if z.length ≤ 100000 then some (.ok (.cl (.str z)) ρ h) else none
    | _ => none) P X
  rw [e]
  show okE (if z.length ≤ 100000 then some (.ok (.cl (.str z)) ρ h) else none) P X
  rw [if_pos e2]
  exact okE_some p)
end
structure Good (b k : Nat) (x : PyData) : Prop where
  s : x.showable = true
  l : x.leavesShort 60 = true
  b : x.bulk ≤ b
  d : x.depth ≤ k
theorem Good.mono {b k b' k' : Nat} {x : PyData} (g : Good b k x) (h1 : b ≤ b') (h2 : k ≤ k') : Good b' k' x := ⟨g.s, g.l, Nat.le_trans g.b h1, Nat.le_trans g.d h2⟩
theorem good_str {z : Str} (hz : Nm z) : Good 8 0 (.str z) := ⟨by simp [PyData.showable], by
  rw [PyData.leavesShort, List.all_eq_true]
  intro c hc
  have := hz.asc c hc
  rw [decide_eq_true_eq]
  omega, by
  rw [PyData.bulk]
  exact hz.2.1, by simp [PyData.depth]⟩
theorem good_non : Good 0 0 .none := ⟨by simp [PyData.showable], by simp [PyData.leavesShort], by simp [PyData.bulk], by simp [PyData.depth]⟩
theorem good_all {b k : Nat} : ∀ {xs : List PyData}, (∀ x ∈ xs, Good b k x) → PyData.showableAll xs = true ∧ PyData.leavesShortAll 60 xs = true ∧ PyData.bulkAll xs ≤ xs.length * (b + 1) ∧ PyData.depthAll xs ≤ k
  | [], _ => ⟨by simp [PyData.showableAll], by simp [PyData.leavesShortAll], by simp [PyData.bulkAll], by simp [PyData.depthAll]⟩
  | x :: xs, h => by
    obtain ⟨h1, h2, h3, h4⟩ := good_all (xs := xs) fun y hy => h y (List.mem_cons_of_mem _ hy)
    obtain ⟨g1, g2, g3, g4⟩ := h x (List.mem_cons_self ..)
    refine ⟨by rw [PyData.showableAll, g1, h1]; rfl, by rw [PyData.leavesShortAll, g2, h2]; rfl, ?_, by rw [PyData.depthAll]; omega⟩
    rw [PyData.bulkAll, List.length_cons, Nat.add_mul, Nat.one_mul]
    omega
theorem good_list {b k : Nat} {xs : List PyData} (h : ∀ x ∈ xs, Good b k x) : Good (xs.length * (b + 1)) (k + 1) (.list xs) := by
  obtain ⟨h1, h2, h3, h4⟩ := good_all h
  exact ⟨by rw [PyData.showable]; exact h1, by rw [PyData.leavesShort]; exact h2, by rw [PyData.bulk]; exact h3, by rw [PyData.depth]; omega⟩
theorem good_names {zs : List Str} (h : ∀ z ∈ zs, Nm z) (hl : zs.length ≤ 100) : Good 900 1 (.list (zs.map PyData.str)) := (good_list (b := 8) (k := 0) fun x hx => by
  obtain ⟨z, hz, rfl⟩ := List.mem_map.mp hx
  exact good_str (h z hz)).mono (by rw [List.length_map]; omega) (Nat.le_refl _)
def pdS : Option Str → PyData
  | none => .none
  | some z => .str z
theorem pd_spD (s : Option Str) : pd (spD s) = some (pdS s) := by cases s <;> rfl
theorem good_sp {s : Option Str} (h : ∀ z, s = some z → Nm z) : Good 8 0 (pdS s) := by
  cases s with
  | none => exact good_non.mono (by omega) (Nat.le_refl _)
  | some z => exact good_str (h z rfl)
theorem w_repr {d : D} {x : PyData} {b k : Nat} {Q : W → Prop} (hx : pd d = some x) (g : Good b k x) (hb : b ≤ 1600) (hk : k ≤ 60) (q : x.shown.length ≤ 100000 → Q (.cl (.str x.shown))) : okW (dRepr [d]) Q := by
  have hs : showsB x = true := by
    unfold showsB
    rw [g.s, g.l, decide_eq_true (Nat.le_trans g.b (by omega)), decide_eq_true (Nat.le_trans g.d hk)]
    rfl
  have hl : x.shown.length ≤ 100000 := by
    have := PyData.shown_le_bulk 60 (by decide) x g.l
    have := g.b
    omega
  refine ⟨.cl (.str x.shown), ?_, q hl⟩
  show (pd d).bind (fun x => if showsB x = true then some (W.cl (.str x.shown)) else none) = _
  rw [hx]
  show (if showsB x = true then some (W.cl (.str x.shown)) else none) = _
  rw [if_pos hs]
section
variable {ρ : List Sl} {h : Tb} {X : Str → List (Str × D) → Tb → Prop} {P : W → Tb → Prop} {ks : List Kd} {rz : Bool} {z : Str} {d0 d d1 e0 : D} {k : Kd} {n : Nat} {fx gx : List Str} {sp sq : Option Str}
local macro_rules | `(tactic| walk_at "hv") => `(tactic| first | rfl | assumption | (exact (by assumption : _)))
local macro_rules | `(tactic| walk_at "p1") => `(tactic| first
  | with_reducible refine CM.okS_seq ?_ | with_reducible refine CM.okS_next ?_ | with_reducible refine CM.okS_asg ?_ | with_reducible refine CM.okS_ret ?_ | with_reducible refine CM.okS_drop ?_ | with_reducible refine CM.okS_aug ?_ | with_reducible refine CM.okS_cnt ?_ | with_reducible refine CM.okS_fg ?_ | with_reducible refine CM.okS_retN ?_
  | with_reducible refine CM.okE_op ?_ | with_reducible refine CM.okE_cb ?_ | with_reducible refine CM.okE_cons ?_ | with_reducible refine CM.okE_nil ?_ | with_reducible refine CM.okB_not ?_ | with_reducible refine CM.okE_c ?_ | with_reducible refine CM.okE_fr ?_ | with_reducible refine CM.okE_ce ?_ | with_reducible refine CM.okE_notV ?_ | with_reducible refine CM.okE_un ?_
  | with_reducible refine CM.okE_sl ?_ | with_reducible refine CM.okE_nopart ?_
  | ((with_reducible refine' CM.okE_var ?hv ?_); (case hv => rfl))
  | ((with_reducible refine' CM.okE_part (CM.okE_var ?hv ⟨_, ?hv2, ?_⟩)); (case hv => rfl); (case hv2 => rfl))
  | ((with_reducible refine' CM.okE_part (CM.okE_c ⟨_, ?hv2, ?_⟩)); (case hv2 => rfl))
  | ((with_reducible refine' CM.okW_eq (w := _) ?hv ?_); (case hv => (with_reducible rfl)))
  | ((with_reducible refine' CM.okW_deref ?hv ?_); (case hv => walk_at "hv")) | ((with_reducible refine' CM.okW_derefs ?hv ?_); (case hv => rfl)) | ((with_reducible refine' CM.okW_derefC ?hv ?_); (case hv => walk_at "hv")) | ((with_reducible refine' CM.okW_lstAt ?hv ?_); (case hv => walk_at "hv"))
  | with_reducible refine CM.w_add ?_ | with_reducible refine CM.w_sub ?_ | with_reducible refine CM.w_lt ?_ | with_reducible refine CM.w_le ?_ | with_reducible refine CM.w_gt ?_ | with_reducible refine CM.w_ge ?_ | with_reducible refine CM.w_addI ?_
  | with_reducible refine CM.w_mod (by omega) ?_ | with_reducible refine CM.w_div (by omega) (by rw [CM.big_eq]; omega) ?_ | with_reducible refine CM.w_mul (by rw [CM.big_eq]; omega) (by rw [CM.big_eq]; omega) (by rw [CM.big_eq]; omega) (by rw [CM.big_eq]; omega) ?_ | with_reducible refine CM.w_sq (by omega) (by omega) ?_
  | with_reducible refine CM.w_max2 ?_ | with_reducible refine CM.w_min2 ?_ | with_reducible refine CM.w_lenL ?_ | with_reducible refine CM.w_lenT ?_ | with_reducible refine CM.w_lenC ?_ | with_reducible refine CM.w_listL ?_ | with_reducible refine CM.w_listT ?_ | with_reducible refine CM.w_tupL ?_ | with_reducible refine CM.w_tupT ?_
  | ((with_reducible refine CM.okG_setC ?_); (try dsimp only [List.set, CM.fzW]))
  | ((with_reducible refine' CM.okW_ix ?hv ?_); (case hv => rfl))
  | ((with_reducible refine' CM.okB_test (CM.okE_eqn ⟨_, ?hv, ?_⟩)); (case hv => rfl))
  | ((with_reducible refine' CM.okB_testd ⟨_, ?hv, ?_⟩); (case hv => rfl)))
local macro_rules | `(tactic| walk_at "p") => `(tactic| repeat walk_at "p1")
theorem sh_fixed : (shF fx sp).lookup ("fixed_columns" : Str) = some (D.lst (LS (sortS fx))) := rfl
theorem sh_span : (shF fx sp).lookup ("span_column" : Str) = some (spD sp) := by
  have h : (("span_column" : Str) == ("fixed_columns" : Str)) = false := by decide +kernel
  show List.lookup _ [_, _] = _
  rw [List.lookup_cons, h]
  rfl
theorem w_addLL {zs ws : List Str} {Q : W → Prop} (h : zs.length + ws.length ≤ 100000) (q : Q (W.fr (LS (zs ++ ws)))) : okW (dAdd (.lst (LS zs)) (.lst (LS ws))) Q := by
  refine ⟨_, ?_, q⟩
  show (if (LS zs).length + (LS ws).length ≤ 100000 then some (W.fr (LS zs ++ LS ws)) else none) = _
  rw [List.length_map, List.length_map, if_pos h]
  show some (W.fr (zs.map D.str ++ ws.map D.str)) = some (W.fr ((zs ++ ws).map D.str))
  rw [List.map_append]
theorem Nm.sorted (hf : ∀ z ∈ fx, Nm z) : Ascs (sortS fx) := fun z hz => (hf z (sortS_mem.mp hz)).asc
theorem sp_eq {s t : Option Str} (h1 : ∀ z, s = some z → Asc z) (h2 : ∀ z, t = some z → Asc z) : dEqB (spD s) (spD t) = some (decide (s = t)) := by
  cases s with
  | none =>
    cases t with
    | none => exact dEqB_NN
    | some z =>
      have hz : SeqAt.shaped (.str z) = true := by
        have := shaped_strs (ys := [z]) (fun x hx => by rw [List.mem_singleton.mp hx]; exact h2 z rfl)
        simp only [SeqAt.shaped, PyData.canLay0, PyData.depth, PyData.canLayAll0, PyData.depthAll, List.map_cons, List.map_nil, Bool.and_true] at this ⊢
        simp only [Bool.and_eq_true] at this ⊢
        exact ⟨this.1, by simp⟩
      show (if SeqAt.shaped .none = true ∧ SeqAt.shaped (.str z) = true then some (PyData.eqv .none (.str z)) else none) = _
      rw [if_pos ⟨by simp [SeqAt.shaped, PyData.canLay0, PyData.depth], hz⟩, PyData.eqv]
      rfl
  | some z =>
    cases t with
    | none => exact dEqB_SN (h1 z rfl)
    | some w =>
      show some (decide (z = w)) = _
      simp
theorem shape_eq (hx : Kd.own "Shape" ∈ ks) (ok : ShOk fx sp) (ok2 : ShOk gx sq) (hd : deref h (.cl d0) = some (shD fx sp)) (hd1 : deref h (.cl d1) = some (shD gx sq)) (p : P (.cl (.bl (decide (sortS fx = sortS gx) && decide (sp = sq)))) h) : okF (CP.m_Shape_D_eq_D ks rz [d0, d1] h) P X := by
  unfold CP.m_Shape_D_eq_D
  refine okF_fn rfl ?_
  show okS (CP.b_Shape_D_eq_D ks rz [.cl d0, .cl d1] h) _ _ _ _
  unfold CP.b_Shape_D_eq_D
  refine okS_seq (okS_no (okB_not (okB_tru (okE_cb (okE_cons (okE_var rfl (okE_cons (okE_c (okE_nil (okW_d2 hd1 rfl (w_isi (k := .own "Shape") rfl rfl hx ⟨_, true, rfl, ?_, rfl, okS_next ?_⟩)))))))))))
  · show dTru (.bl (decide (("Shape" : Str) = "Shape"))) = some true
    rw [decide_eq_true rfl]
    rfl
  refine okS_ret (okE_andV (okB_test (okE_op (okE_fld (okE_var rfl ⟨_, _, hd, sh_fixed, okE_fld (okE_var rfl ⟨_, _, hd1, sh_fixed, okW_eq rfl (okW_eq rfl (w_eq (dEqB_L (Nm.sorted ok.nm) (Nm.sorted ok2.nm)) ⟨_, rfl, fun e => ?_, fun e => ?_⟩))⟩)⟩)))))
  · refine okE_op (okE_fld (okE_var rfl ⟨_, _, hd, sh_span, okE_fld (okE_var rfl ⟨_, _, hd1, sh_span, okW_eq (by cases sp <;> rfl : deref h (.cl (spD sp)) = some (spD sp)) (okW_eq (by cases sq <;> rfl : deref h (.cl (spD sq)) = some (spD sq)) (w_eq (sp_eq (fun z e => (ok.sp z e).1.asc) fun z e => (ok2.sp z e).1.asc) (cut_same rfl ?_)))⟩)⟩))
    rw [e] at p
    rw [Bool.true_and] at p
    exact p
  · rw [e, Bool.false_and] at p
    exact cut_same rfl p
theorem joinL_props {sep : List Nat} (h1 : sep.length = 1) (h2 : ∀ c ∈ sep, c < 128) : ∀ ls : List (List Nat), (∀ l ∈ ls, l.length ≤ 8 ∧ ∀ c ∈ l, c < 128) → (TL.joinL sep ls).length ≤ 9 * ls.length ∧ ∀ c ∈ TL.joinL sep ls, c < 128
  | [], _ => ⟨Nat.zero_le _, fun c h => by cases h⟩
  | [p], h => by
    have hp := h p (List.mem_cons_self ..)
    refine ⟨?_, hp.2⟩
    show p.length ≤ 9 * 1
    omega
  | p :: q :: r, h => by
    have hp := h p (List.mem_cons_self ..)
    obtain ⟨i1, i2⟩ := joinL_props h1 h2 (q :: r) fun l hl => h l (List.mem_cons_of_mem _ hl)
    simp only [TL.joinL, List.length_append, List.length_cons] at i1 i2 ⊢
    refine ⟨by omega, fun c hc => ?_⟩
    rcases List.mem_append.mp hc with hc | hc
    · exact hp.2 c hc
    · rcases List.mem_append.mp hc with hc | hc
      · exact h2 c hc
      · exact i2 c hc
theorem join_plus {zs : List Str} (h : ∀ z ∈ zs, Nm z) : (Txt.join "+" zs).length ≤ 9 * zs.length ∧ Asc (Txt.join "+" zs) := by
  have e := TL.tl_join "+" zs
  have e2 : TL.tl ("+" : Str) = [43] := by decide +kernel
  rw [e2] at e
  have p := joinL_props (sep := [43]) rfl (by decide) (zs.map TL.tl) fun l hl => by
    obtain ⟨z, hz, rfl⟩ := List.mem_map.mp hl
    exact ⟨(h z hz).2.1, (h z hz).asc⟩
  rw [List.length_map] at p
  rw [← e] at p
  rw [TL.join_eq, SL.len_str]
  exact p
theorem w_joinP {zs : List Str} {Q : W → Prop} (h : ∀ z ∈ zs, Nm z) (hl : zs.length ≤ 50) (q : Q (.cl (.str (Txt.join "+" zs)))) : okW (fJoin "+" [.lst (LS zs)]) Q := by
  refine ⟨_, ?_, q⟩
  show ((strsOf (LS zs)).bind fun zs => if (zs.map (·.length)).sum + zs.length * (("+" : Str).length) ≤ 16777216 then some (W.cl (.str (Txt.join "+" zs))) else none) = _
  rw [strsOf_map]
  show (if (zs.map (·.length)).sum + zs.length * (("+" : Str).length) ≤ 16777216 then some (W.cl (.str (Txt.join "+" zs))) else none) = _
  have e : (zs.map (·.length)).sum ≤ 8 * zs.length := by
    clear q hl
    induction zs with
    | nil => exact Nat.le_refl _
    | cons z zs ih =>
      rw [List.map_cons, List.sum_cons, List.length_cons]
      have := ih fun x hx => h x (List.mem_cons_of_mem _ hx)
      have h8 := (h z (List.mem_cons_self ..)).2.1
      rw [← SL.len_str] at h8
      omega
  have e2 : (("+" : Str).length) = 1 := by decide +kernel
  rw [if_pos (by rw [e2]; omega)]
theorem len_add (a b : Str) : (a ++ b).length = a.length + b.length := by
  obtain ⟨x, rfl⟩ := S_of a
  obtain ⟨y, rfl⟩ := S_of b
  rw [S_add, S_len, S_len, S_len, List.length_append]
/-- the text of a shape -/
def shH (fx : List Str) : Str := if fx = [] then ("-" : Str) else Txt.join "+" fx
def shE : Option Str → Str
  | none => ("" : Str)
  | some z => (":" : Str) ++ z
def shT (fx : List Str) (sp : Option Str) : Str := shH (sortS fx) ++ shE sp
theorem emp_add (a : Str) : Str.empty ++ a = a := by
  obtain ⟨x, rfl⟩ := S_of a
  have e : Str.empty = S [] := rfl
  rw [e, S_add]
  rfl
theorem len_nm (hz : Nm z) : z.length ≤ 8 := by
  rw [SL.len_str]
  exact hz.2.1
theorem len_head (hf : ∀ z ∈ gx, Nm z) (hl : gx.length ≤ 50) : (shH gx).length ≤ 450 := by
  unfold shH
  split
  · decide
  · have := (join_plus hf).1
    omega
theorem len_tail (hs : ∀ z, sp = some z → Nm z) : (shE sp).length ≤ 9 := by
  cases sp with
  | none => decide
  | some z =>
    show ((":" : Str) ++ z).length ≤ 9
    rw [len_add]
    have := len_nm (hs z rfl)
    have e : ((":" : Str).length) = 1 := by decide +kernel
    omega
theorem shape_str (ok : ShOk fx sp) (hd : deref h (.cl d0) = some (shD fx sp)) (p : P (.cl (.str (shT fx sp))) h) : okF (CP.m_Shape_D_str_D ks rz [d0] h) P X := by
  unfold CP.m_Shape_D_str_D
  refine okF_fn rfl ?_
  show okS (CP.b_Shape_D_str_D ks rz [.cl d0, .un, .un] h) _ _ _ _
  unfold CP.b_Shape_D_str_D
  have h5 := ok.len
  have hsl := sortS_len fx
  have hn : ∀ z ∈ sortS fx, Nm z := fun z hz => ok.nm z (sortS_mem.mp hz)
  have h1 := len_head hn (by omega)
  have h2 := len_tail fun z e => (ok.sp z e).1
  refine okS_seqM (fun ρ h' => ρ = [.cl d0, .cl (.str (shH (sortS fx))), .un] ∧ h' = h) (okS_asg (okE_if (okB_test (okE_op (okE_fld (okE_var rfl ⟨_, _, hd, sh_fixed, okE_eq (w := W.fr (LS [])) rfl (okW_eq rfl (okW_eq rfl (w_ne (dEqB_L (Nm.sorted ok.nm) (fun _ z => absurd z List.not_mem_nil)) ⟨_, rfl, fun e => ?_, fun e => ?_⟩)))⟩)))))) ?_
  · have e : sortS fx ≠ [] := by simpa using e
    refine okE_bs (okE_c ⟨_, rfl, okE_cons (okE_fld (okE_var rfl ⟨_, _, hd, sh_fixed, okE_nil (okW_eq rfl (w_joinP hn (by omega) (okG_setC ⟨?_, rfl⟩)))⟩))⟩)
    unfold shH
    rw [if_neg e]
    rfl
  · have e : sortS fx = [] := by simpa using e
    refine okE_c (okG_setC ⟨?_, rfl⟩)
    unfold shH
    rw [if_pos e]
    rfl
  rintro ρ h' ⟨rfl, rfl⟩
  refine okS_seqM (fun ρ h'' => ρ = [.cl d0, .cl (.str (shH (sortS fx))), .cl (.str (shE sp))] ∧ h'' = h') (okS_asg (okE_if (okB_test (okE_op (okE_fld (okE_var rfl ⟨_, _, hd, sh_span, okE_c (okW_eq (w := spD sp) (by cases sp <;> rfl) (okW_eq rfl ?_))⟩)))))) ?_
  · cases sp with
    | none => exact okW_eq (w := .cl (.bl true)) rfl ⟨_, rfl, fun _ => okE_c (okG_setC ⟨rfl, rfl⟩), (fun e => nomatch e)⟩
    | some z =>
      refine okW_eq (w := .cl (.bl false)) rfl ⟨_, rfl, (fun e => nomatch e), fun _ => ?_⟩
      have hz := len_nm (ok.sp z rfl).1
      have e1 : ((":" : Str).length) = 1 := by decide +kernel
      have h2 : ((":" : Str) ++ z).length ≤ 9 := h2
      refine okE_js (okE_c ⟨_, (":" : Str), rfl, rfl, by rw [emp_add, e1]; decide, okE_js (okE_fmt (okE_fld (okE_var rfl ⟨_, _, hd, sh_span, z, rfl, by omega, _, z, rfl, rfl, by rw [emp_add]; omega, okE_js0 (okG_setC ⟨?_, rfl⟩)⟩)))⟩)
      rw [emp_add]
      rfl
  rintro ρ h'' ⟨rfl, rfl⟩
  refine okS_ret (okE_js (okE_fmt (okE_var rfl ⟨_, rfl, by omega, _, _, rfl, rfl, by rw [emp_add]; omega, okE_js (okE_fmt (okE_var rfl ⟨_, rfl, by omega, _, _, rfl, rfl, by rw [emp_add, len_add]; omega, okE_js0 (cut_same rfl ?_)⟩))⟩)))
  rw [emp_add]
  exact p
theorem shape_repr (ok : ShOk fx sp) (hd : deref h (.cl d0) = some (shD fx sp)) (p : ∀ z, P (.cl (.str z)) h) : okF (CP.m_Shape_D_repr_D ks rz [d0] h) P X := by
  unfold CP.m_Shape_D_repr_D
  refine okF_fn rfl ?_
  show okS (CP.b_Shape_D_repr_D ks rz [.cl d0] h) _ _ _ _
  unfold CP.b_Shape_D_repr_D
  have h5 := ok.len
  have hsl := sortS_len fx
  have hn : ∀ z ∈ sortS fx, Nm z := fun z hz => ok.nm z (sortS_mem.mp hz)
  have g1 := good_names hn (by omega)
  have g2 := good_sp fun z e => (ok.sp z e).1
  have b1 := PyData.shown_le_bulk 60 (by decide) _ g1.l
  have b2 := PyData.shown_le_bulk 60 (by decide) _ g2.l
  have c1 := g1.b
  have c2 := g2.b
  have e1 : (("Shape(" : Str).length) = 6 := by decide +kernel
  have e2 : ((", " : Str).length) = 2 := by decide +kernel
  have e3 : ((")" : Str).length) = 1 := by decide +kernel
  refine okS_ret (okE_js (okE_c ⟨_, ("Shape(" : Str), rfl, rfl, by rw [emp_add]; omega, ?_⟩))
  refine okE_js (okE_cb (okE_cons (okE_fld (okE_var rfl ⟨_, _, hd, sh_fixed, okE_nil (okW_eq rfl (w_repr (pd_strs _) g1 (by omega) (by omega) fun l1 => ⟨_, _, rfl, rfl, by rw [emp_add, len_add]; omega, ?_⟩))⟩))))
  refine okE_js (okE_c ⟨_, (", " : Str), rfl, rfl, by rw [emp_add, len_add, len_add]; omega, ?_⟩)
  refine okE_js (okE_cb (okE_cons (okE_fld (okE_var rfl ⟨_, _, hd, sh_span, okE_nil (okW_d1 (d := spD sp) (by cases sp <;> rfl) (w_repr (pd_spD _) g2 (by omega) (by omega) fun l1 => ⟨_, _, rfl, rfl, by rw [emp_add, len_add, len_add, len_add]; omega, ?_⟩))⟩))))
  refine okE_js (okE_c ⟨_, (")" : Str), rfl, rfl, by rw [emp_add, len_add, len_add, len_add, len_add]; omega, ?_⟩)
  exact okE_js0 (cut_same rfl (p _))
end
end CM
namespace CM
open PySem PySem.Spec PyProof.Rows L2 SL
def nm (ls : List (List Nat)) (i : Nat) : Str := S (ls.getD i [])
section
variable {ls : List (List Nat)} {m i j : Nat} {p : Pt}
theorem nm_eq (hi : i < ls.length) : nm ls i = S ls[i] := by
  unfold nm
  rw [List.getD_eq_getElem?_getD, List.getElem?_eq_getElem hi]
  rfl
theorem nm_at (hi : i < ls.length) : (LS (ls.map S))[i]? = some (.str (nm ls i)) := by
  rw [nm_eq hi, List.getElem?_map, List.getElem?_map, List.getElem?_eq_getElem hi]
  rfl
theorem nm_nm (c : Cols m ls) (hi : i < m) : Nm (nm ls i) := by
  have hi : i < ls.length := by rw [c.1]; exact hi
  rw [nm_eq hi]
  exact c.2.2 _ (List.getElem_mem hi)
theorem nm_inj (c : Cols m ls) (hi : i < m) (hj : j < m) (e : nm ls i = nm ls j) : i = j := by
  have hi : i < ls.length := by rw [c.1]; exact hi
  have hj : j < ls.length := by rw [c.1]; exact hj
  rw [nm_eq hi, nm_eq hj] at e
  have e := S_inj e
  rcases Nat.lt_trichotomy i j with z | z | z
  · exact absurd e (List.pairwise_iff_getElem.mp c.2.1 i j hi hj z)
  · exact z
  · exact absurd e.symm (List.pairwise_iff_getElem.mp c.2.1 j i hj hi z)
/-- positions of a shape, in any sequence -/
structure PtU (m : Nat) (p : Pt) : Prop where
  nd : p.1.Nodup
  lt : ∀ i ∈ p.1, i < m
  len : p.1.length ≤ 5
  sp : ∀ i, p.2 = some i → i < m ∧ i ∉ p.1 ∧ p.1.length < 5
theorem Part.u {fx : List Nat} {sp : Option Nat} (q : Part m fx sp) : PtU m (fx, sp) := ⟨q.nd, q.lt, q.len, q.sp⟩
abbrev fxP (ls : List (List Nat)) (p : Pt) : List Str := p.1.map (nm ls)
abbrev spP (ls : List (List Nat)) (p : Pt) : Option Str := p.2.map (nm ls)
def shP (ls : List (List Nat)) (p : Pt) : D := shD (fxP ls p) (spP ls p)
theorem PtU.sh (c : Cols m ls) (q : PtU m p) : ShOk (fxP ls p) (spP ls p) where
  len := by rw [List.length_map]; exact q.len
  nd := by
    unfold List.Nodup
    rw [List.pairwise_map]
    exact q.nd.imp_of_mem fun {a b} ha hb hab e => hab (nm_inj c (q.lt a ha) (q.lt b hb) e)
  nm := fun z hz => by
    obtain ⟨i, hi, rfl⟩ := List.mem_map.mp hz
    exact nm_nm c (q.lt i hi)
  sp := fun z hz => by
    obtain ⟨i, hi, rfl⟩ := Option.map_eq_some_iff.mp hz
    obtain ⟨h1, h2, h3⟩ := q.sp i hi
    refine ⟨nm_nm c h1, fun hm => ?_, by rw [List.length_map]; exact h3⟩
    obtain ⟨k, hk, e⟩ := List.mem_map.mp hm
    rw [nm_inj c (q.lt k hk) h1 e] at hk
    exact h2 hk
theorem below_shD {k : Nat} (fx : List Str) (sp : Option Str) : below k (shD fx sp) = true := by
  show below k (.ins "Shape" (shF fx sp)) = true
  rw [below_ins]
  have h1 : below k (.lst (LS (sortS fx))) = true := below_strs (sortS fx)
  have h2 : below k (spD sp) = true := by cases sp <;> first | exact below_non | exact below_str
  simp [h1, h2]
theorem shD_perm {fx gx : List Str} {sp : Option Str} (h : fx.Perm gx) : shD fx sp = shD gx sp := by
  unfold shD shF
  rw [sortS_eq.mpr h]
end
section
variable {ρ : List Sl} {h h0 h1 g : Tb} {N : List Sl → Tb → Prop} {T : Ps W} {L : Bool → List Sl → Tb → Prop} {tk si : Fnm} {b n k i j len m most : Nat} {c : D} {ks : List Kd} {rz : Bool} {ls : List (List Nat)} {p : Pt}
local macro_rules | `(tactic| walk_at "hv") => `(tactic| first | rfl | assumption | (exact (by assumption : _)))
local macro_rules | `(tactic| walk_at "p1") => `(tactic| first
  | with_reducible refine CM.okS_seq ?_ | with_reducible refine CM.okS_next ?_ | with_reducible refine CM.okS_asg ?_ | with_reducible refine CM.okS_ret ?_ | with_reducible refine CM.okS_drop ?_ | with_reducible refine CM.okS_aug ?_ | with_reducible refine CM.okS_cnt ?_ | with_reducible refine CM.okS_fg ?_ | with_reducible refine CM.okS_retN ?_
  | with_reducible refine CM.okE_op ?_ | with_reducible refine CM.okE_cb ?_ | with_reducible refine CM.okE_cons ?_ | with_reducible refine CM.okE_nil ?_ | with_reducible refine CM.okB_not ?_ | with_reducible refine CM.okE_c ?_ | with_reducible refine CM.okE_fr ?_ | with_reducible refine CM.okE_ce ?_ | with_reducible refine CM.okE_notV ?_ | with_reducible refine CM.okE_un ?_
  | with_reducible refine CM.okE_sl ?_ | with_reducible refine CM.okE_nopart ?_
  | ((with_reducible refine' CM.okE_var ?hv ?_); (case hv => rfl))
  | ((with_reducible refine' CM.okE_part (CM.okE_var ?hv ⟨_, ?hv2, ?_⟩)); (case hv => rfl); (case hv2 => rfl))
  | ((with_reducible refine' CM.okE_part (CM.okE_c ⟨_, ?hv2, ?_⟩)); (case hv2 => rfl))
  | ((with_reducible refine' CM.okW_eq (w := _) ?hv ?_); (case hv => (with_reducible rfl)))
  | ((with_reducible refine' CM.okW_deref ?hv ?_); (case hv => walk_at "hv")) | ((with_reducible refine' CM.okW_derefs ?hv ?_); (case hv => rfl)) | ((with_reducible refine' CM.okW_derefC ?hv ?_); (case hv => walk_at "hv")) | ((with_reducible refine' CM.okW_lstAt ?hv ?_); (case hv => walk_at "hv"))
  | with_reducible refine CM.w_add ?_ | with_reducible refine CM.w_sub ?_ | with_reducible refine CM.w_lt ?_ | with_reducible refine CM.w_le ?_ | with_reducible refine CM.w_gt ?_ | with_reducible refine CM.w_ge ?_ | with_reducible refine CM.w_addI ?_
  | with_reducible refine CM.w_mod (by omega) ?_ | with_reducible refine CM.w_div (by omega) (by rw [CM.big_eq]; omega) ?_ | with_reducible refine CM.w_mul (by rw [CM.big_eq]; omega) (by rw [CM.big_eq]; omega) (by rw [CM.big_eq]; omega) (by rw [CM.big_eq]; omega) ?_ | with_reducible refine CM.w_sq (by omega) (by omega) ?_
  | with_reducible refine CM.w_max2 ?_ | with_reducible refine CM.w_min2 ?_ | with_reducible refine CM.w_lenL ?_ | with_reducible refine CM.w_lenT ?_ | with_reducible refine CM.w_lenC ?_ | with_reducible refine CM.w_listL ?_ | with_reducible refine CM.w_listT ?_ | with_reducible refine CM.w_tupL ?_ | with_reducible refine CM.w_tupT ?_
  | ((with_reducible refine CM.okG_setC ?_); (try dsimp only [List.set, CM.fzW]))
  | ((with_reducible refine' CM.okW_ix ?hv ?_); (case hv => rfl))
  | ((with_reducible refine' CM.okB_test (CM.okE_eqn ⟨_, ?hv, ?_⟩)); (case hv => rfl))
  | ((with_reducible refine' CM.okB_testd ⟨_, ?hv, ?_⟩); (case hv => rfl)))
local macro_rules | `(tactic| walk_at "p") => `(tactic| repeat walk_at "p1")
theorem w_ixP {ds : List D} {v : Int} {d : D} {Q : W → Prop} (v0 : 0 ≤ v) (e : ds[v.toNat]? = some d) (q : Q (.cl d)) : okW (dIx (.lst ds) (.int v)) Q := by
  obtain ⟨v, rfl⟩ := Int.eq_ofNat_of_zero_le v0
  rw [Int.toNat_natCast] at e
  exact w_ixL e q
/-- None if part[1] is None else names[part[1]] -/
theorem okE_spN {P : Ps W} {X : Px} {a b : Nat} (c : Cols m ls) (u : PtU m p) (ha : ρ[a]? = some (.cl (partD p))) (hb : ρ[b]? = some (.cl (.lst (LS (ls.map S))))) (q : P (.cl (spD (spP ls p))) ρ h) :
    okE (mIf (mTest (mOp dIs (mOp dIx (mVar a) (mC (.int 1))) (mC .non))) (mC .non) (mOp dIx (mVar b) (mOp dIx (mVar a) (mC (.int 1)))) ρ h) P X := by
  refine okE_if (okB_test (okE_op (okE_op (okE_var ha (okE_c (okW_eq rfl (okW_eq rfl (w_ixT (i := 1) rfl (okE_c (okW_eq (w := oI p.2) (by cases p.2 <;> rfl) (okW_eq rfl ?_)))))))))) )
  obtain ⟨fx, sp⟩ := p
  cases sp with
  | none => exact okW_eq (w := .cl (.bl true)) rfl ⟨_, rfl, fun _ => okE_c q, (fun e => nomatch e)⟩
  | some i =>
    have hi : i < ls.length := by rw [c.1]; exact (u.sp i rfl).1
    exact okW_eq (w := .cl (.bl false)) rfl ⟨_, rfl, (fun e => nomatch e), fun _ => okE_op (okE_var hb (okE_op (okE_var ha (okE_c (okW_eq rfl (okW_eq rfl (w_ixT (i := 1) rfl (okW_eq rfl (okW_eq rfl (w_ixL (nm_at hi) q)))))))))) ⟩
theorem shape_draw {P : W → Tb → Prop} {X : Str → List (Str × D) → Tb → Prop} (t : Tk tk) (hks : KsOk ks) (hsi : si = CP.m_Shape_D_init_D ks rz) (hb : Bx b n h0 h) (hn : n ≤ 90000000) (c : Cols m ls) (u : PtU m p) (q : ∀ h', Bx b (n + 10) h0 h' → P (.nw (shP ls p)) h') :
    okF (fnM false 3 3 (shapeM tk si) [.ce b, .lst (LS (ls.map S)), partD p] h) P X := by
  refine okF_fn rfl ?_
  show okS (shapeM tk si [.cl (.ce b), .cl (.lst (LS (ls.map S))), .cl (partD p), .un, .un, .un] h) _ _ _ _
  have hl0 := hb.len
  have hbs := hb.self
  have hpl := u.len
  unfold shapeM
  refine okS_seq (okS_par (okE_cons (okE_cb (okE_cons (okE_op (okE_var rfl (okE_c (okW_eq rfl (okW_eq rfl (w_ixT (i := 0) rfl (okE_nil (okW_eq rfl (w_listL (okE_cons (okE_eq (w := W.fr []) rfl (okE_nil ⟨_, _, rfl, ?_⟩))))))))))))))))
  show okS _ _ _ _ _
  dsimp only [gPut, List.set]
  rw [List.append_assoc, List.length_append, List.length_singleton]
  dsimp only [List.cons_append, List.nil_append]
  refine okS_seq (okS_for (rng_ok (m := p.1.length) (it := ⟨[], []⟩) (by omega) (okE_cons (okE_cb (okE_cons (okE_var rfl (okE_nil (okW_derefC (tail_at0 rfl) (w_lenL (okE_nil ⟨by rw [PI_len], rfl, rfl⟩)))))))) ?_))
  refine okS_loop0 (fun j ρ h' => ∃ (dn left : List Nat) (h1 : Tb) (s5 : Sl), ρ = [.cl (.ce b), .cl (.lst (LS (ls.map S))), .cl (partD p), .cl (.ce h.length), .cl (.ce (h.length + 1)), s5] ∧ h' = h1 ++ [.lst (PI left), .lst (LS (dn.map (nm ls)))] ∧ dn.length = j ∧ (dn ++ left).Perm p.1 ∧ Bx b (n + j) h h1) _ 0 ⟨[], p.1, h, _, rfl, rfl, rfl, .refl _, hbs⟩ ?_ ?_
  · rintro j d ρ h' hj ⟨dn, left, h2, s5, rfl, rfl, g1, g2, g3⟩
    obtain ⟨hj2, rfl⟩ := rng_at hj
    rw [Nat.zero_add] at g1 g3 ⊢
    have hl2 := g3.len
    have hlen : dn.length + left.length = p.1.length := by
      have := g2.length_eq
      rw [List.length_append] at this
      exact this
    refine okG_setC ?_
    dsimp only [List.set, fzW]
    refine okS_drop (okE_mut (okE_var rfl (okW_lstAt (tail_at hl2) (okE_cons (okE_op (okE_var rfl (okE_mut (okE_var rfl (okW_lstAt (tail_at0 hl2) (okE_cons (okE_tkg (m := left.length) t g3 rfl (by omega) ?_ (by omega) (by omega) fun w h3 w0 w1 hb3 => ?_)))))))))))
    · exact okE_cb (okE_cons (okE_var rfl (okE_nil (okW_derefC (tail_at0 hl2) (w_lenL ⟨rfl, rfl, by rw [PI_len]⟩)))))
    have hl3 := hb3.len
    refine okE_nil (okW_lstAt (tail_at0 hl3) (popAt_ok (cs := PI left) w0 (by rw [PI_len]; exact w1) (by rw [PI_len]; omega) fun hw => ?_))
    rw [PI_len] at hw
    rw [tail_set0 hl3]
    have hm : left[w.toNat] ∈ p.1 := g2.mem_iff.mp (List.mem_append_right _ (List.getElem_mem hw))
    have hi : left[w.toNat] < ls.length := by rw [c.1]; exact u.lt _ hm
    have e1 : (PI left)[w.toNat]'(by rw [PI_len]; exact hw) = .int (left[w.toNat] : Nat) := by
      have := PI_get hw
      rw [List.getElem?_eq_getElem (by rw [PI_len]; exact hw)] at this
      exact Option.some.inj this
    rw [e1]
    refine okW_eq rfl (okW_eq rfl (w_ixL (nm_at hi) (okE_nil (okW_lstAt (tail_at (i := 1) hl3) (w_append (by rw [List.length_map, List.length_map]; omega) ?_)))))
    rw [tail_set hl3]
    refine ⟨dn ++ [left[w.toNat]], left.eraseIdx w.toNat, h3, _, rfl, ?_, ?_, ?_, hb3⟩
    · dsimp only [List.set, fzW]
      rw [PI_erase, List.map_append]
      simp
    · rw [List.length_append, g1]
      rfl
    · rw [List.append_assoc]
      exact (List.Perm.append_left dn (perm_pop left w.toNat hw)).trans g2
  rintro ρ h' ⟨dn, left, h2, s5, rfl, rfl, g1, g2, g3⟩
  rw [List.length_map, List.length_range, Nat.zero_add] at g1 g3
  have hl2 := g3.len
  have hleft : left = [] := by
    have := g2.length_eq
    rw [List.length_append] at this
    exact List.eq_nil_of_length_eq_zero (by omega)
  subst hleft
  rw [List.append_nil] at g2
  have hu : PtU m (dn, p.2) := ⟨g2.nodup_iff.mpr u.nd, fun i hi => u.lt i (g2.mem_iff.mp hi), by rw [g2.length_eq]; exact u.len, fun i e => by
    obtain ⟨a1, a2, a3⟩ := u.sp i e
    exact ⟨a1, fun z => a2 (g2.mem_iff.mp z), by rw [g2.length_eq]; exact a3⟩⟩
  have hsh : shD (dn.map (nm ls)) (spP ls p) = shP ls p := shD_perm (g2.map _)
  subst hsi
  refine okS_ret (okE_shape hks (okE_cons (okE_fr (okE_op (okE_lst (okE_cons (okE_var rfl (okE_cons (okE_cb (okE_cons (okE_var rfl (okE_nil (okW_derefC (tail_at (i := 1) hl2) (w_tupL (okE_nil ⟨Nat.le_of_ble_eq_true rfl, ?_⟩)))))))))))))))
  refine okE_tkcg t g3 rfl (by omega) (by decide) (by decide) fun v h3 v0 v1 hb3 => ?_
  have hl3 := hb3.len
  have fin : ∀ d0 : D, deref (h3 ++ [.lst (PI []), .lst (LS (dn.map (nm ls)))]) (.cl d0) = some (.lst (LS (dn.map (nm ls)))) ∨ d0 = .tup (LS (dn.map (nm ls))) → okE (mCons (mFr (mIf (mTest (mOp dIs (mOp dIx (mVar 2) (mC (.int 1))) (mC .non))) (mC .non) (mOp dIx (mVar 1) (mOp dIx (mVar 2) (mC (.int 1)))))) mNil [.cl (.ce b), .cl (.lst (LS (ls.map S))), .cl (partD p), .cl (.ce h.length), .cl (.ce (h.length + 1)), s5] (h3 ++ [.lst (PI []), .lst (LS (dn.map (nm ls)))])) (fun ws ρ h_1 => (fun ws ρ h' => ∃ d0 d fx sp, ws.map fzW ++ [] = [d0, spD sp] ∧ deref h' (.cl d0) = some d ∧ seqD d.u = some (LS fx) ∧ ShOk fx sp ∧ okW (cutF false h (.nw (shD fx sp)) h') fun x => P x.1 x.2) (W.cl d0 :: ws) ρ h_1) (fun C fs ρ h' => okW (cutX false h fs h') fun x => X C fs x) := fun d0 hd0 => by
    refine okE_cons (okE_fr (okE_spN c u rfl rfl (okE_nil ?_)))
    have cut : okW (cutF false h (.nw (shD (dn.map (nm ls)) (spP ls p))) (h3 ++ [.lst (PI []), .lst (LS (dn.map (nm ls)))])) fun x => P x.1 x.2 := by
      refine cut_app hl3 (Bx.cut hbs hb3) (fun _ z => by cases z) (below_shD _ _) ?_
      rw [hsh]
      exact q h3 ((hb.trans hb3).mono (by omega))
    rcases hd0 with e | rfl
    · exact ⟨d0, _, dn.map (nm ls), spP ls p, rfl, e, rfl, hu.sh c, cut⟩
    · exact ⟨_, .tup (LS (dn.map (nm ls))), dn.map (nm ls), spP ls p, rfl, rfl, rfl, hu.sh c, cut⟩
  have hv : v = 0 ∨ v = 1 := by omega
  rcases hv with rfl | rfl
  · exact okW_eq rfl (okW_eq rfl (w_ixP (d := .ce (h.length + 1)) (by decide) rfl (fin _ (.inl (tail_at (i := 1) hl3)))))
  · exact okW_eq rfl (okW_eq rfl (w_ixP (d := .tup (LS (dn.map (nm ls)))) (by decide) rfl (fin _ (.inr rfl))))
end
end CM
namespace CM
open PySem PySem.Spec PyProof.Rows L2 SL
section
variable {ρ : List Sl} {h : Tb} {P : Ps W} {X : Px} {N : List Sl → Tb → Prop} {T : Ps W} {L : Bool → List Sl → Tb → Prop} {a : Mo W} {es : Mo (List W)} {C n : Str} {fs : List Str} {m : Fnm} {body : MS} {cs : List (Str × Mx W)} {xs : List Str} {i : Nat}
theorem okS_raise (q : okE (es ρ h) (fun ws ρ h => ws.length = fs.length ∧ X C (fs.zip (ws.map fzW)) ρ h) X) : okS (sRaise C fs es ρ h) N T L X := okS_bind (q.mono fun ws ρ h q => by
  rw [if_pos q.1]
  exact ⟨_, rfl, q.2⟩)
/-- a try whose clauses hand back -/
theorem okS_try (q : okS (body ρ h) N T L (fun C fs ρ h => ρ[i]? = some .un ∧ C ∈ xs ∧ okW (hands C fs ρ h cs) fun o => okO N T L X o)) : okS (sTry i xs body cs ρ h) N T L X := by
  obtain ⟨o, e, p⟩ := q
  unfold sTry
  rw [e]
  cases o with
  | ex C fs ρ h =>
    obtain ⟨h1, h2, o, e2, p⟩ := p
    refine ⟨o, ?_, p⟩
    dsimp only
    rw [if_pos ⟨idle_of fun j hj => by rw [List.mem_singleton.mp hj]; exact h1, h2⟩]
    exact e2
  | nx ρ h => exact ⟨_, rfl, p⟩
  | rt w ρ h => exact ⟨_, rfl, p⟩
  | bk ρ h => exact ⟨_, rfl, p⟩
  | ct ρ h => exact ⟨_, rfl, p⟩
end
section
variable {ρ : List Sl} {h : Tb} {X : Str → List (Str × D) → Tb → Prop} {P : W → Tb → Prop} {ks : List Kd} {rz : Bool} {z : Str} {d0 d d1 e0 : D} {k : Kd} {n : Nat} {fx gx : List Str} {sp sq : Option Str}
local macro_rules | `(tactic| walk_at "hv") => `(tactic| first | rfl | assumption | (exact (by assumption : _)))
local macro_rules | `(tactic| walk_at "p1") => `(tactic| first
  | with_reducible refine CM.okS_seq ?_ | with_reducible refine CM.okS_next ?_ | with_reducible refine CM.okS_asg ?_ | with_reducible refine CM.okS_ret ?_ | with_reducible refine CM.okS_drop ?_ | with_reducible refine CM.okS_aug ?_ | with_reducible refine CM.okS_cnt ?_ | with_reducible refine CM.okS_fg ?_ | with_reducible refine CM.okS_retN ?_
  | with_reducible refine CM.okE_op ?_ | with_reducible refine CM.okE_cb ?_ | with_reducible refine CM.okE_cons ?_ | with_reducible refine CM.okE_nil ?_ | with_reducible refine CM.okB_not ?_ | with_reducible refine CM.okE_c ?_ | with_reducible refine CM.okE_fr ?_ | with_reducible refine CM.okE_ce ?_ | with_reducible refine CM.okE_notV ?_ | with_reducible refine CM.okE_un ?_
  | with_reducible refine CM.okE_sl ?_ | with_reducible refine CM.okE_nopart ?_
  | ((with_reducible refine' CM.okE_var ?hv ?_); (case hv => rfl))
  | ((with_reducible refine' CM.okE_part (CM.okE_var ?hv ⟨_, ?hv2, ?_⟩)); (case hv => rfl); (case hv2 => rfl))
  | ((with_reducible refine' CM.okE_part (CM.okE_c ⟨_, ?hv2, ?_⟩)); (case hv2 => rfl))
  | ((with_reducible refine' CM.okW_eq (w := _) ?hv ?_); (case hv => (with_reducible rfl)))
  | ((with_reducible refine' CM.okW_deref ?hv ?_); (case hv => walk_at "hv")) | ((with_reducible refine' CM.okW_derefs ?hv ?_); (case hv => rfl)) | ((with_reducible refine' CM.okW_derefC ?hv ?_); (case hv => walk_at "hv")) | ((with_reducible refine' CM.okW_lstAt ?hv ?_); (case hv => walk_at "hv"))
  | with_reducible refine CM.w_add ?_ | with_reducible refine CM.w_sub ?_ | with_reducible refine CM.w_lt ?_ | with_reducible refine CM.w_le ?_ | with_reducible refine CM.w_gt ?_ | with_reducible refine CM.w_ge ?_ | with_reducible refine CM.w_addI ?_
  | with_reducible refine CM.w_mod (by omega) ?_ | with_reducible refine CM.w_div (by omega) (by rw [CM.big_eq]; omega) ?_ | with_reducible refine CM.w_mul (by rw [CM.big_eq]; omega) (by rw [CM.big_eq]; omega) (by rw [CM.big_eq]; omega) (by rw [CM.big_eq]; omega) ?_ | with_reducible refine CM.w_sq (by omega) (by omega) ?_
  | with_reducible refine CM.w_max2 ?_ | with_reducible refine CM.w_min2 ?_ | with_reducible refine CM.w_lenL ?_ | with_reducible refine CM.w_lenT ?_ | with_reducible refine CM.w_lenC ?_ | with_reducible refine CM.w_listL ?_ | with_reducible refine CM.w_listT ?_ | with_reducible refine CM.w_tupL ?_ | with_reducible refine CM.w_tupT ?_
  | ((with_reducible refine CM.okG_setC ?_); (try dsimp only [List.set, CM.fzW]))
  | ((with_reducible refine' CM.okW_ix ?hv ?_); (case hv => rfl))
  | ((with_reducible refine' CM.okB_test (CM.okE_eqn ⟨_, ?hv, ?_⟩)); (case hv => rfl))
  | ((with_reducible refine' CM.okB_testd ⟨_, ?hv, ?_⟩); (case hv => rfl)))
local macro_rules | `(tactic| walk_at "p") => `(tactic| repeat walk_at "p1")
end
end CM
namespace CM
open PySem PySem.Spec PyProof.Rows L2 SL
end CM
namespace CM
open PySem PySem.Spec PyProof.Rows L2 SL
end CM
namespace CM
open PySem PySem.Spec PyProof.Rows L2 SL
section
variable {ρ ρ' : List Sl} {h h' h0 h1 g g' : Tb} {P : Ps W} {N : List Sl → Tb → Prop} {T : Ps W} {L : Bool → List Sl → Tb → Prop} {X : Px} {gt gt1 : Tg} {t t1 : Mo Bool} {e el : Mo W} {it it1 : Mo ItM} {vs vs1 : List Nat} {ck : List (Nat × D)} {d e0 : D} {ds : List D} {body : MS} {i k b n m len : Nat}
theorem dEqB_int {i j : Int} : dEqB (.int i) (.int j) = some (decide (i = j)) := by
  have h1 : ∀ x : Int, SeqAt.shaped (.int x) = true := fun x => by simp [SeqAt.shaped, PyData.canLay0, PyData.depth]
  show (if SeqAt.shaped (.int i) = true ∧ SeqAt.shaped (.int j) = true then some (PyData.eqv (.int i) (.int j)) else none) = _
  rw [if_pos ⟨h1 _, h1 _⟩]
  congr 1
theorem w_nei {i j : Int} {Q : W → Prop} (q : Q (.cl (.bl (!decide (i = j))))) : okW (dNe (.int i) (.int j)) Q := w_ne dEqB_int q
theorem okS_loop_nil (q : N ρ h) : okS (loopS gt body [] [] ρ h) N T L X := ⟨_, rfl, q⟩
theorem okS_loop_cons (q : okG (gt (.cl d) ρ h) fun ρ h => okS (body ρ h) (fun ρ h => okS (loopS gt body [] ds ρ h) N T L X) T (fun b ρ h => if b = true then N ρ h else okS (loopS gt body [] ds ρ h) N T L X) X) : okS (loopS gt body [] (d :: ds) ρ h) N T L X := by
  obtain ⟨y, e1, o, e2, p⟩ := q
  have ck : ∀ h : Tb, ckOk [] h := fun _ _ z => absurd z List.not_mem_nil
  unfold loopS
  rw [e1]
  dsimp only [Option.bind_some]
  rw [e2]
  cases o with
  | nx ρ h =>
    dsimp only
    rw [if_pos (ck _)]
    exact p
  | rt w ρ h => exact ⟨_, rfl, p⟩
  | ct ρ h =>
    have p : okS (loopS gt body [] ds ρ h) N T L X := by simpa [okO] using p
    dsimp only
    rw [if_pos (ck _)]
    exact p
  | bk ρ h => exact ⟨_, rfl, by simpa [okO] using p⟩
  | ex C fs ρ h => exact ⟨_, rfl, p⟩
end
end CM
namespace CM
open PySem PySem.Spec PyProof.Rows L2 SL
section
variable {ρ : List Sl} {h h0 h1 g : Tb} {N : List Sl → Tb → Prop} {T : Ps W} {L : Bool → List Sl → Tb → Prop} {X : Px} {b n k i j len m most : Nat} {d0 d1 d e0 : D} {ls : List (List Nat)} {p q : Pt} {fx gx : List Str} {sp sq : Option Str}
local macro_rules | `(tactic| walk_at "hv") => `(tactic| first | rfl | assumption | (exact (by assumption : _)))
local macro_rules | `(tactic| walk_at "p1") => `(tactic| first
  | with_reducible refine CM.okS_seq ?_ | with_reducible refine CM.okS_next ?_ | with_reducible refine CM.okS_asg ?_ | with_reducible refine CM.okS_ret ?_ | with_reducible refine CM.okS_drop ?_ | with_reducible refine CM.okS_aug ?_ | with_reducible refine CM.okS_cnt ?_ | with_reducible refine CM.okS_fg ?_ | with_reducible refine CM.okS_retN ?_
  | with_reducible refine CM.okE_op ?_ | with_reducible refine CM.okE_cb ?_ | with_reducible refine CM.okE_cons ?_ | with_reducible refine CM.okE_nil ?_ | with_reducible refine CM.okB_not ?_ | with_reducible refine CM.okE_c ?_ | with_reducible refine CM.okE_fr ?_ | with_reducible refine CM.okE_ce ?_ | with_reducible refine CM.okE_notV ?_ | with_reducible refine CM.okE_un ?_
  | with_reducible refine CM.okE_sl ?_ | with_reducible refine CM.okE_nopart ?_
  | ((with_reducible refine' CM.okE_var ?hv ?_); (case hv => rfl))
  | ((with_reducible refine' CM.okE_part (CM.okE_var ?hv ⟨_, ?hv2, ?_⟩)); (case hv => rfl); (case hv2 => rfl))
  | ((with_reducible refine' CM.okE_part (CM.okE_c ⟨_, ?hv2, ?_⟩)); (case hv2 => rfl))
  | ((with_reducible refine' CM.okW_eq (w := _) ?hv ?_); (case hv => (with_reducible rfl)))
  | ((with_reducible refine' CM.okW_deref ?hv ?_); (case hv => walk_at "hv")) | ((with_reducible refine' CM.okW_derefs ?hv ?_); (case hv => rfl)) | ((with_reducible refine' CM.okW_derefC ?hv ?_); (case hv => walk_at "hv")) | ((with_reducible refine' CM.okW_lstAt ?hv ?_); (case hv => walk_at "hv"))
  | with_reducible refine CM.w_add ?_ | with_reducible refine CM.w_sub ?_ | with_reducible refine CM.w_lt ?_ | with_reducible refine CM.w_le ?_ | with_reducible refine CM.w_gt ?_ | with_reducible refine CM.w_ge ?_ | with_reducible refine CM.w_addI ?_
  | with_reducible refine CM.w_mod (by omega) ?_ | with_reducible refine CM.w_div (by omega) (by rw [CM.big_eq]; omega) ?_ | with_reducible refine CM.w_mul (by rw [CM.big_eq]; omega) (by rw [CM.big_eq]; omega) (by rw [CM.big_eq]; omega) (by rw [CM.big_eq]; omega) ?_ | with_reducible refine CM.w_sq (by omega) (by omega) ?_
  | with_reducible refine CM.w_max2 ?_ | with_reducible refine CM.w_min2 ?_ | with_reducible refine CM.w_lenL ?_ | with_reducible refine CM.w_lenT ?_ | with_reducible refine CM.w_lenC ?_ | with_reducible refine CM.w_listL ?_ | with_reducible refine CM.w_listT ?_ | with_reducible refine CM.w_tupL ?_ | with_reducible refine CM.w_tupT ?_
  | ((with_reducible refine CM.okG_setC ?_); (try dsimp only [List.set, CM.fzW]))
  | ((with_reducible refine' CM.okW_ix ?hv ?_); (case hv => rfl))
  | ((with_reducible refine' CM.okB_test (CM.okE_eqn ⟨_, ?hv, ?_⟩)); (case hv => rfl))
  | ((with_reducible refine' CM.okB_testd ⟨_, ?hv, ?_⟩); (case hv => rfl)))
local macro_rules | `(tactic| walk_at "p") => `(tactic| repeat walk_at "p1")
end
end CM
namespace CM
open PySem PySem.Spec PyProof.Rows L2 SL
section
variable {ρ ρ' : List Sl} {h h0 h1 g g' : Tb} {N : List Sl → Tb → Prop} {T : Ps W} {L : Bool → List Sl → Tb → Prop} {X : Px} {b n k i j len m most : Nat} {d0 d1 d e0 : D} {fx gx : List Str} {sp sq : Option Str} {gt : Tg} {body : MS} {ds : List D} {ks : List Kd}
local macro_rules | `(tactic| walk_at "hv") => `(tactic| first | rfl | assumption | (exact (by assumption : _)))
local macro_rules | `(tactic| walk_at "p1") => `(tactic| first
  | with_reducible refine CM.okS_seq ?_ | with_reducible refine CM.okS_next ?_ | with_reducible refine CM.okS_asg ?_ | with_reducible refine CM.okS_ret ?_ | with_reducible refine CM.okS_drop ?_ | with_reducible refine CM.okS_aug ?_ | with_reducible refine CM.okS_cnt ?_ | with_reducible refine CM.okS_fg ?_ | with_reducible refine CM.okS_retN ?_
  | with_reducible refine CM.okE_op ?_ | with_reducible refine CM.okE_cb ?_ | with_reducible refine CM.okE_cons ?_ | with_reducible refine CM.okE_nil ?_ | with_reducible refine CM.okB_not ?_ | with_reducible refine CM.okE_c ?_ | with_reducible refine CM.okE_fr ?_ | with_reducible refine CM.okE_ce ?_ | with_reducible refine CM.okE_notV ?_ | with_reducible refine CM.okE_un ?_
  | with_reducible refine CM.okE_sl ?_ | with_reducible refine CM.okE_nopart ?_
  | ((with_reducible refine' CM.okE_var ?hv ?_); (case hv => rfl))
  | ((with_reducible refine' CM.okE_part (CM.okE_var ?hv ⟨_, ?hv2, ?_⟩)); (case hv => rfl); (case hv2 => rfl))
  | ((with_reducible refine' CM.okE_part (CM.okE_c ⟨_, ?hv2, ?_⟩)); (case hv2 => rfl))
  | ((with_reducible refine' CM.okW_eq (w := _) ?hv ?_); (case hv => (with_reducible rfl)))
  | ((with_reducible refine' CM.okW_deref ?hv ?_); (case hv => walk_at "hv")) | ((with_reducible refine' CM.okW_derefs ?hv ?_); (case hv => rfl)) | ((with_reducible refine' CM.okW_derefC ?hv ?_); (case hv => walk_at "hv")) | ((with_reducible refine' CM.okW_lstAt ?hv ?_); (case hv => walk_at "hv"))
  | with_reducible refine CM.w_add ?_ | with_reducible refine CM.w_sub ?_ | with_reducible refine CM.w_lt ?_ | with_reducible refine CM.w_le ?_ | with_reducible refine CM.w_gt ?_ | with_reducible refine CM.w_ge ?_ | with_reducible refine CM.w_addI ?_
  | with_reducible refine CM.w_mod (by omega) ?_ | with_reducible refine CM.w_div (by omega) (by rw [CM.big_eq]; omega) ?_ | with_reducible refine CM.w_mul (by rw [CM.big_eq]; omega) (by rw [CM.big_eq]; omega) (by rw [CM.big_eq]; omega) (by rw [CM.big_eq]; omega) ?_ | with_reducible refine CM.w_sq (by omega) (by omega) ?_
  | with_reducible refine CM.w_max2 ?_ | with_reducible refine CM.w_min2 ?_ | with_reducible refine CM.w_lenL ?_ | with_reducible refine CM.w_lenT ?_ | with_reducible refine CM.w_lenC ?_ | with_reducible refine CM.w_listL ?_ | with_reducible refine CM.w_listT ?_ | with_reducible refine CM.w_tupL ?_ | with_reducible refine CM.w_tupT ?_
  | ((with_reducible refine CM.okG_setC ?_); (try dsimp only [List.set, CM.fzW]))
  | ((with_reducible refine' CM.okW_ix ?hv ?_); (case hv => rfl))
  | ((with_reducible refine' CM.okB_test (CM.okE_eqn ⟨_, ?hv, ?_⟩)); (case hv => rfl))
  | ((with_reducible refine' CM.okB_testd ⟨_, ?hv, ?_⟩); (case hv => rfl)))
local macro_rules | `(tactic| walk_at "p") => `(tactic| repeat walk_at "p1")
/-- what becomes of the cells -/
def Mut (l : Nat) (d : D) (Ty : String) (g g' : Tb) : Prop :=
  (Ty = "list" ∧ ∃ i ds, d = .ce (l + i) ∧ g[i]? = some (.lst ds) ∧ ds.length < 1000 ∧ g' = g.set i (.lst (ds ++ [.str "late"]))) ∨
  (Ty = "dict" ∧ ∃ i kvs, d = .ce (l + i) ∧ g[i]? = some (.dK kvs) ∧ kvs.length < 1000 ∧ g' = g.set i (.dK (putKD kvs (.inr "late") (.int 1)))) ∨
  (Ty ≠ "list" ∧ Ty ≠ "dict" ∧ g' = g ∧ ∀ h, deref h (.cl d) = some d)
theorem repr_lit {x : PyData} (e : pd d = some x) (e2 : dReprX [d] = dRepr [d]) (s : showsB x = true) : ∃ s, dReprX [d] = some (.cl (.str s)) := ⟨x.shown, by
  rw [e2]
  show ((pd d).bind fun x => if showsB x = true then some (W.cl (.str x.shown)) else none) = _
  rw [e, Option.bind_some, if_pos s]⟩
theorem repr_dict {kvs : List (L2.Key × D)} {x : List (PyData × PyData)} (e : scKvs kvs = some x) (s : showsB (.dict x) = true) : ∃ s, dReprX [.dK kvs] = some (.cl (.str s)) := ⟨(PyData.dict x).shown, by
  show ((scKvs kvs).bind fun x => if showsB (.dict x) = true then some (W.cl (.str (PyData.dict x).shown)) else none) = _
  rw [e, Option.bind_some, if_pos s]⟩
structure OddS (ks : List Kd) (gt : Tg) (body : MS) (b : Nat) (h0 : Tb) (Fr : List Sl → Prop) (T : Ps W) (X : Px) : Prop where
  step : ∀ {Ty : String} {d e0 : D} {g g' : Tb} {n : Nat} {h1 : Tb} {ρ : List Sl} {N : List Sl → Tb → Prop} {L : Bool → List Sl → Tb → Prop}, Fr ρ → Bx b n h0 h1 → n ≤ 40000000 → (∀ h2 : Tb, h2.length = h0.length → deref (h2 ++ g) (.cl d) = some e0) → kd e0.u = some (.b Ty) → Kd.b Ty ∈ ks → Mut h0.length d Ty g g' →
    (∀ h2 : Tb, h2.length = h0.length → ∃ d' s, snapV (h2 ++ g') (.cl d) = some d' ∧ dReprX [d'] = some (.cl (.str s))) → (∀ ρ' h2 x, Fr ρ' → Bx b (n + 1) h0 h2 → N ρ' (h2 ++ (g' ++ x))) → okG (gt (.cl d) ρ (h1 ++ g)) fun ρ h => okS (body ρ h) N T L X
theorem OddS.turn {Fr : List Sl → Prop} {Ty : String} (o : OddS ks gt body b h0 Fr T X) (fr : Fr ρ) (hb : Bx b n h0 h1) (hn : n ≤ 40000000) (hd : ∀ h2 : Tb, h2.length = h0.length → deref (h2 ++ g) (.cl d) = some e0) (hk : kd e0.u = some (.b Ty)) (hm : Kd.b Ty ∈ ks) (hmut : Mut h0.length d Ty g g')
    (hsn : ∀ h2 : Tb, h2.length = h0.length → ∃ d' s, snapV (h2 ++ g') (.cl d) = some d' ∧ dReprX [d'] = some (.cl (.str s)))
    (hN : ∀ ρ' h2 x, Fr ρ' → Bx b (n + 1) h0 h2 → okS (loopS gt body [] ds ρ' (h2 ++ (g' ++ x))) N T L X) : okS (loopS gt body [] (d :: ds) ρ (h1 ++ g)) N T L X :=
  okS_loop_cons (o.step fr hb hn hd hk hm hmut hsn hN)
theorem OddS.l {Fr : List Sl → Prop} {xs : List D} (o : OddS ks gt body b h0 Fr T X) (hm : Kd.b "list" ∈ ks) (fr : Fr ρ) (hb : Bx b n h0 h1) (hn : n ≤ 40000000) (hg : g[i]? = some (.lst xs)) (hl : xs.length < 1000) (hs : ∀ h2 : Tb, h2.length = h0.length → ∃ d' s, snapV (h2 ++ g.set i (.lst (xs ++ [.str "late"]))) (.cl (.ce (h0.length + i))) = some d' ∧ dReprX [d'] = some (.cl (.str s)))
    (hN : ∀ ρ' h2 x, Fr ρ' → Bx b (n + 1) h0 h2 → okS (loopS gt body [] ds ρ' (h2 ++ (g.set i (.lst (xs ++ [.str "late"])) ++ x))) N T L X) : okS (loopS gt body [] (.ce (h0.length + i) :: ds) ρ (h1 ++ g)) N T L X :=
  o.turn (e0 := .lst xs) (Ty := "list") fr hb hn (fun h2 hl2 => (tail_at hl2).trans hg) rfl hm (.inl ⟨rfl, i, xs, rfl, hg, hl, rfl⟩) hs hN
/-- the cells from one on -/
def CsF (cs : Tb) (k : Nat) (g : Tb) : Prop := cs.length ≤ g.length ∧ ∀ j, k ≤ j → j < cs.length → g[j]? = cs[j]?
theorem CsF.app {cs y : Tb} (c : CsF cs k g) : CsF cs k (g ++ y) := ⟨by rw [List.length_append]; exact Nat.le_trans c.1 (Nat.le_add_right ..), fun j h1 h2 => by
  rw [List.getElem?_append_left (Nat.lt_of_lt_of_le h2 c.1)]
  exact c.2 j h1 h2⟩
theorem CsF.set {cs y : Tb} {x : D} (c : CsF cs k g) : CsF cs (k + 1) (g.set k x ++ y) := CsF.app ⟨by rw [List.length_set]; exact c.1, fun j h1 h2 => by
  rw [List.getElem?_set_ne (by omega)]
  exact c.2 j (by omega) h2⟩
theorem CsF.refl {cs : Tb} : CsF cs 0 cs := ⟨Nat.le_refl _, fun _ _ _ => rfl⟩
theorem CsF.mono {cs : Tb} {k' : Nat} (c : CsF cs k g) (h : k ≤ k') : CsF cs k' g := ⟨c.1, fun j h1 h2 => c.2 j (by omega) h2⟩
end
end CM
namespace SL
open PySem PySem.Spec PyProof.Rows L2
end SL
namespace SL
open PySem PySem.Spec PyProof.Rows L2
end SL
namespace SL
open PySem PySem.Spec PyProof.Rows L2
end SL
namespace CM
open PySem PySem.Spec PyProof.Rows L2 SL
end CM
namespace CM
open PySem PySem.Spec PyProof.Rows L2 SL
def mAlt (a b : Mo W) : Mo W := fun ρ h => match a ρ h with
  | some r => some r
  | none => b ρ h
def fSplit (a : Str) : List D → Option W
  | [b] => match b.u with
    | .str s => if (s.length == 0) = false ∧ a.length + 2 ≤ 100000 then some (.fr ((Txt.split a s).map .str)) else none
    | _ => none
  | _ => none
section
variable {f : PySem.W.Frag} {κ κ' : List Addr} {WW : WX} {F : Fm} {M : List Addr} {K : Kx} {H H' : Hp} {σ : L2.St} {ρ ρ' : List Sl} {h h' : Tb} {st l : List (V × W)} {v : V} {w : W} {d : D} {t ta tb te : TE} {ma mb me m1 m2 : Mo W} {C : Str} {m : Fnm} {r r' : R2} {g : D → D → Option W}
theorem sim_alt (s1 : SimE f WW t m1) (s2 : SimE f WW t m2) : SimE f WW t (mAlt m1 m2) := fun F σ H ρ h st x Q E e p => by
  unfold mAlt at e
  cases h1 : m1 ρ h with
  | some r =>
    rw [h1] at e
    cases e
    exact s1 F σ H ρ h st _ Q E h1 p
  | none =>
    rw [h1] at e
    exact s2 F σ H ρ h st _ Q E e p
theorem o_split : OpS f SL.rSplit fSplit := fun κ M H z xs ds w Q hM nr e q => by
  unfold fSplit at e
  split at e
  · obtain ⟨v, rfl, n⟩ := nra1 nr
    split at e
    · rename_i s h1
      split at e
      · rename_i hc
        cases e
        cases nr_str n h1
        refine ⟨z, s, rfl, rfl, hc.1, sz_le hc.2, fun p hp => q _ _ (Ex.new hp) (Nw.new hp (RepA.strs _))⟩
      · cases e
    · cases e
  · cases e
end
end CM
namespace CM
open PySem PySem.Spec PyProof.Rows L2 SL
end CM
namespace CM
open PySem PySem.Spec PyProof.Rows L2 SL
end CM
namespace SL
open PySem PySem.Spec PyProof.Rows L2
end SL
namespace CM
open PySem PySem.Spec PyProof.Rows L2 SL
end CM
namespace SL
open PySem PySem.Spec PyProof.Rows L2
section
variable {B : Heap} {p : Addr} {v : Value} {x : PyData} {vs : List Value} {xs : List PyData}
def Tl (B : Heap) (v : Value) (x : PyData) : Prop := (∃ l, Reads B v x l) ∧ ∀ (P : Program) (w : World), x.showable = true → x.shown.length ≤ sizeLine → ∃ l, ReadAtMost B x.depth l ∧ ReprK P w l B x.depth v x.shown
def TlA (B : Heap) (vs : List Value) (xs : List PyData) : Prop := (∃ l, ReadsAll B vs xs l) ∧ ∀ (P : Program) (w : World), PyData.showableAll xs = true → (∀ z ∈ PyData.shownAll xs, z.length ≤ sizeLine) → ∃ l, ReadAtMost B (PyData.depthAll xs) l ∧ ReprAllK P w l B (PyData.depthAll xs) vs (PyData.shownAll xs)
theorem tl_plain {l : List Addr} (r : Reads B v x l) (n : x.hasDict = false) : Tl B v x := ⟨⟨l, r⟩, fun _ _ s z => ReprK.of_reads r s (PyData.noDict_hsm n) z⟩
theorem tl_nil : TlA B [] [] := ⟨⟨[], .nil⟩, fun _ _ _ _ => ⟨[], (fun _ z => nomatch z), by simp only [PyData.shownAll]; exact .nil⟩⟩
theorem tl_cons (t : Tl B v x) (u : TlA B vs xs) : TlA B (v :: vs) (x :: xs) := by
  obtain ⟨⟨l, r⟩, t⟩ := t
  obtain ⟨⟨m, q⟩, u⟩ := u
  refine ⟨⟨l ++ m, .cons r q⟩, fun P w s z => ?_⟩
  have s2 : x.showable = true ∧ PyData.showableAll xs = true := by simpa [PyData.showableAll] using s
  have z1 : x.shown ∈ PyData.shownAll (x :: xs) := by
    simp only [PyData.shownAll]
    exact List.mem_cons_self ..
  have z2 : ∀ y ∈ PyData.shownAll xs, y ∈ PyData.shownAll (x :: xs) := fun y hy => by
    simp only [PyData.shownAll]
    exact List.mem_cons_of_mem _ hy
  obtain ⟨l1, a1, k1⟩ := t P w s2.1 (z _ z1)
  obtain ⟨l2, a2, k2⟩ := u P w s2.2 fun y hy => z y (z2 y hy)
  simp only [PyData.depthAll, PyData.shownAll]
  refine ⟨l1 ++ l2, (a1.mono (Nat.le_max_left _ _)).append (a2.mono (Nat.le_max_right _ _)), .cons ?_ ?_⟩
  · exact (k1.more fun y hy => List.mem_append_left _ hy).level_le (Nat.le_max_left _ _)
  · exact k2.more_le (fun y hy => List.mem_append_right _ hy) (Nat.le_max_right _ _)
variable {o : Obj} {arr : Array Value} {k : Nat}
theorem tl_list (g : B.get? p = some o) (c : o.cls = .type "list") (d : o.data = .seq arr k) (u : TlA B arr.toList xs) : Tl B (.ref p) (.list xs) := by
  obtain ⟨⟨l, q⟩, u⟩ := u
  have r : Reads B (.ref p) (.list xs) (p :: l) := .list g c d q
  refine ⟨⟨_, r⟩, fun P w s z => ?_⟩
  have z2 : (listText (PyData.shownAll xs)).length ≤ sizeLine := by simpa only [PyData.shown] using z
  obtain ⟨m, a2, k2⟩ := u P w (by simpa [PyData.showable] using s) fun y hy => Nat.le_trans (listText_mem_le hy) z2
  have nm : p ∉ m := not_mem_of_deeper r (by simp only [PyData.depth]; omega) a2
  refine ⟨p :: m, .cons r (by simp only [PyData.depth]; omega) a2, ?_⟩
  simp only [PyData.depth, PyData.shown]
  obtain ⟨_ | ⟨y, ys⟩⟩ := arr
  · cases (show ReadsAll B [] xs l from q)
    simp only [PyData.shownAll, listText_nil]
    exact ReprK.listEmpty g c d
  · exact ReprK.list g c d nm (by simpa using k2.length_eq) fun i y hy => k2.item i y (by simpa using hy)
theorem tl_tup (g : B.get? p = some o) (c : o.cls = .type "tuple") (d : o.data = .seq arr k) (u : TlA B arr.toList xs) : Tl B (.ref p) (.tuple xs) := by
  obtain ⟨⟨l, q⟩, u⟩ := u
  have r : Reads B (.ref p) (.tuple xs) l := .tuple g c d q
  refine ⟨⟨_, r⟩, fun P w s z => ?_⟩
  have z2 : (tupleText (PyData.shownAll xs)).length ≤ sizeLine := by simpa only [PyData.shown] using z
  obtain ⟨m, a2, k2⟩ := u P w (by simpa [PyData.showable] using s) fun y hy => Nat.le_trans (tupleText_mem_le hy) z2
  have nm : p ∉ m := not_mem_of_deeper r (by simp only [PyData.depth]; omega) a2
  refine ⟨p :: m, .cons r (by simp only [PyData.depth]; omega) a2, ?_⟩
  simp only [PyData.depth, PyData.shown]
  exact ReprK.tuple g c d nm k2
theorem tl_dict {l : List Addr} {kvs : List (PyData × PyData)} (r : Reads B (.ref p) (.dict kvs) l) (n : sysModules ∉ l) : Tl B (.ref p) (.dict kvs) := ⟨⟨l, r⟩, fun _ _ s z => ReprK.of_reads r s (fun _ => n) z⟩
end
section
variable {X : Cx} {pins : List (Addr × Obj)} {σ : L2.St} {H : Hp} {s : Shared}
mutual
inductive Dq (K : PySem.W.Frag) (H : Hp) : V → PyData → Prop
  | non : Dq K H .non .none
  | bl (b : Bool) : Dq K H (.bl b) (.bool b)
  | int (i : Int) : Dq K H (.int i) (.int i)
  | str (x : Str) : Dq K H (.str x) (.str x)
  | lst {a : Addr} {xs : List V} {ds : List PyData} : H a = some (.lst xs) → DqAll K H xs ds → Dq K H (.ref a) (.list ds)
  | tup {a : Addr} {xs : List V} {ds : List PyData} : SqT K H a xs → DqAll K H xs ds → Dq K H (.ref a) (.tuple ds)
  | dic {a : Addr} {kvs : List (Key × V)} {ds : List (PyData × PyData)} : H a = some (.dK kvs) → ScA kvs ds → Dq K H (.ref a) (.dict ds)
inductive DqAll (K : PySem.W.Frag) (H : Hp) : List V → List PyData → Prop
  | nil : DqAll K H [] []
  | cons {v : V} {vs : List V} {d : PyData} {ds : List PyData} : Dq K H v d → DqAll K H vs ds → DqAll K H (v :: vs) (d :: ds)
end
mutual
theorem Dq.tl (I : Inv X pins σ H s) : ∀ (d : PyData) (v : V) (u : Value), Dq X.K H v d → RelV v u → Tl s.heap u d
  | .none, _, _, h, r => by
    cases h
    cases (show _ = Value.none from r)
    exact tl_plain .none (by simp only [PyData.hasDict])
  | .bool b, _, _, h, r => by
    cases h
    cases (show _ = Value.bool b from r)
    exact tl_plain (.bool b) (by simp only [PyData.hasDict])
  | .int i, _, _, h, r => by
    cases h
    obtain ⟨t, rfl⟩ := r
    exact tl_plain (.int i t) (by simp only [PyData.hasDict])
  | .str z, _, _, h, r => by
    cases h
    obtain ⟨t, rfl⟩ := r
    exact tl_plain (.str z t) (by simp only [PyData.hasDict])
  | .list ds, _, _, h, r => by
    cases h with
    | lst hs ha =>
      cases r
      obtain ⟨its, rv, ⟨o, n, h1, h2, _, h3⟩, _⟩ := I.list (.inl (.inl hs))
      exact tl_list h1 h2 h3 (DqAll.tl I ds _ its ha rv)
  | .tuple ds, _, _, h, r => by
    cases h with
    | tup hs ha =>
      cases r
      obtain ⟨its, rv, ⟨o, h1, h2, n, h3⟩, _⟩ := I.tuple hs
      exact tl_tup h1 h2 h3 (DqAll.tl I ds _ its ha rv)
  | .dict ds, _, _, h, r => by
    cases h with
    | @dic a _ _ ha sc =>
      cases (show _ = Value.ref _ from r)
      obtain ⟨_, hs, vs, kv, o, es, ep, h1, h2, h3, _, hp, _⟩ := I.hok _ _ ha
      obtain ⟨r1, r2⟩ := reads_kvs (h := s.heap) sc kv hp
      refine tl_dict (l := a :: [] ++ []) (.dict h1 h2.1 h3 r1 r2) fun z => ?_
      have z : sysModules = a := by simpa using z
      rw [← z] at hs
      simp at hs
theorem DqAll.tl (I : Inv X pins σ H s) : ∀ (ds : List PyData) (vs : List V) (us : List Value), DqAll X.K H vs ds → Vals vs us → TlA s.heap us ds
  | [], _, _, h, r => by
    cases h
    cases r
    exact tl_nil
  | d :: ds, _, _, h, r => by
    cases h with
    | cons h1 h2 =>
      cases r with
      | cons r1 r2 => exact tl_cons (Dq.tl I d _ _ h1 r1) (DqAll.tl I ds _ _ h2 r2)
end
end
end SL
namespace CM
open PySem PySem.Spec PyProof.Rows L2 SL
section
variable {f : PySem.W.Frag} {WW : WX} {tr : TA} {mr : Mo (List W)} {C : Str} {m : Fnm} {r r' : List V → Hp → VK → Prop} {g : List D → Option W}
theorem o_up (o : OpN f r g) (i : ∀ xs H Q, r xs H Q → r' xs H Q) : OpN f r' g := fun κ M H xs ds w Q hM nr e q => i _ _ _ (o κ M H xs ds w Q hM nr e q)
theorem sim_strOi (i : ∀ xs H Q, rStrO (He.ga f C) (spM f m) E0 xs H Q → r' xs H Q) (ha : SimA f WW tr mr) : SimE f WW (tCB r' tr) (mStrO C m mr) := fun F σ H ρ h st x Q E e p => by
  rcases bindR_some e with ⟨ws, ρ1, h1, e1, e⟩ | ⟨C', fs, ρ1, h1, e1, rfl⟩
  · refine ha F σ H ρ h st _ _ E e1 fun vs H1 hl E1 => ?_
    split at e
    · rename_i w
      match vs, hl, E1 with
      | [v], hl, ⟨κ, E1⟩ =>
        obtain ⟨⟨a, dx, fs, hv, ea⟩, hc, hcall⟩ := callC_ok E1 hl e
        cases hv
        refine i _ _ _ ⟨a, dx, fs, rfl, ea, EnvK.callT (vs := [V.ref a]) (ds := [w].map fzW) (E1.fzs rfl) rfl hcall fun w ρ' h' hr v H' E' => ?_⟩
        subst hr
        have hcl : ∃ y, w = .cl (.str y) := by
          cases w with
          | cl d => cases d <;> first | exact ⟨_, rfl⟩ | cases hc
          | _ => cases hc
        obtain ⟨y, rfl⟩ := hcl
        obtain ⟨_, r⟩ := E'.reps
        exact ⟨y, rep_str r, p v H' E'⟩
    · cases e
  · exact ha F σ H ρ h st _ _ E e1 p
end
end CM
namespace CM
open PySem PySem.Spec PyProof.Rows L2 SL
end CM
namespace CM
open PySem PySem.Spec PyProof.Rows L2 SL
open PySem.Builtin PySem.Builtin.List
/-- what stands around a thing that is told -/
structure Sur (X : Cx) (g : List Code) (k : Nat) (A : Around) : Prop where
  gd : A.guards = some g
  fr : A.frames = some X.stack
  rm : Room k A
theorem Sur.mono {X : Cx} {g : List Code} {j k : Nat} {A : Around} (S : Sur X g k A) (h : j ≤ k) : Sur X g j A := ⟨S.gd, S.fr, S.rm.mono h⟩
/-- a value is told as a text, whatever guards stand around that leave its parts alone -/
def RN (X : Cx) (k : Nat) (as : List Addr) (H : Hp) (v : V) (t : Str) : Prop :=
  ∀ (u : Value), RelV v u → ∀ (n : Nat), n + t.length ≤ sizeLine → ∀ (A : Around) (g : List Code) (pins : List (Addr × Obj)) (σ : L2.St) (E : Value → Shared → Prop) (s : Shared) (Q : Str → Shared → Prop) (H1 : Hp),
    Sur X g k A → (∀ b ∈ as, Clear g b) → (∀ b ∈ as, H1 b = H b) → Inv X pins σ H1 s → (∀ s', Inv X pins σ H1 s' → Q t s') → wpAny (model X.prog X.w) A (pyReprUnder n u) Q E s
section
variable {X : Cx} {j k : Nat} {as bs : List Addr} {H H' : Hp} {v : V} {t : Str} {xs : List V} {ts : List Str} {a : Addr}
theorem RN.more (h : RN X j as H v t) (hk : j ≤ k) (hs : ∀ b ∈ as, b ∈ bs) : RN X k bs H v t :=
  fun u r n hn A g pins σ E s Q H1 S hc hh I hQ => h u r n hn A g pins σ E s Q H1 (S.mono hk) (fun b hb => hc b (hs b hb)) (fun b hb => hh b (hs b hb)) I hQ
/-- parts, told one by one -/
inductive RNs (X : Cx) (k : Nat) (as : List Addr) (H : Hp) : List V → List Str → Prop
  | nil : RNs X k as H [] []
  | cons {v : V} {t : Str} {xs : List V} {ts : List Str} : RN X k as H v t → RNs X k as H xs ts → RNs X k as H (v :: xs) (t :: ts)
theorem RNs.len : ∀ {xs : List V} {ts : List Str}, RNs X k as H xs ts → ts.length = xs.length
  | _, _, .nil => rfl
  | _, _, .cons _ h => by rw [List.length_cons, List.length_cons, h.len]
theorem RNs.more (hk : j ≤ k) (hs : ∀ b ∈ as, b ∈ bs) : ∀ {xs : List V} {ts : List Str}, RNs X j as H xs ts → RNs X k bs H xs ts
  | _, _, .nil => .nil
  | _, _, .cons h r => .cons (h.more hk hs) (RNs.more hk hs r)
theorem RNs.at_ : ∀ {xs : List V} {us : List Value} {ts : List Str}, RNs X k as H xs ts → Vals xs us → ∀ (i : Nat) (u : Value), us[i]? = some u → ∃ v t, ts[i]? = some t ∧ RelV v u ∧ RN X k as H v t
  | _, _, _, .nil, .nil, i, u, e => by simp at e
  | _, _, _, .cons h r, .cons hv rv, i, u, e => by
    cases i with
    | zero =>
      cases (show some _ = some u from e)
      exact ⟨_, _, rfl, hv, h⟩
    | succ i => exact r.at_ rv i u e
end
end CM
namespace CM
open PySem PySem.Spec PyProof.Rows L2 SL
open PySem.Builtin PySem.Builtin.List
theorem deep_tup {A : Around} (args : Args) : (A.under (.builtin "tuple.__repr__.under" args)).depth ≤ A.depth + 2 := by
  simp [Around.under, Code.weight, Code.isCreation, Code.isGuard, Code.isCaller, Code.frames, Code.isFrame, guardIds]
theorem Sur.tup {X : Cx} {g : List Code} {k : Nat} {A : Around} (S : Sur X g (k + 1) A) (args : Args) : Sur X (.builtin "tuple.__repr__.under" args :: g) k (A.under (.builtin "tuple.__repr__.under" args)) where
  gd := guards_under_guard (isGuard_tuple_repr_under args) S.gd
  fr := by first | exact S.fr | (simpa [Around.under, Code.envs, Code.isFrame, pushEnvs] using S.fr)
  rm := ⟨S.rm.hd, by have := S.rm.dp; have := deep_tup (A := A) args; omega, by have := S.rm.un; rw [units_under_tuple_repr_under]; omega⟩
end CM
namespace CM
open PySem PySem.Spec PyProof.Rows L2 SL
/-- how a class tells itself: what stands ahead of each field, and behind the last -/
structure Tpl where
  C : Str
  fs : List (Str × Str)
  z : Str
def tplGo : Str → List Str → List Str → Str
  | acc, p :: ps, t :: ts => tplGo ((acc ++ p) ++ t) ps ts
  | acc, _, _ => acc
def tplText (tp : Tpl) (ts : List Str) : Str := tplGo Str.empty (tp.fs.map (·.1)) ts ++ tp.z
/-- a field's value: nothing, a text, a list of texts -/
inductive Fl (H : Hp) : V → Nat → Str → List Addr → Prop
  | non : Fl H .non 0 "None" []
  | str {z : Str} (h : (reprText z).length ≤ 100000) : Fl H (.str z) 0 (reprText z) []
  | lst {a : Addr} {zs : List Str} (ha : H a = some (.lst (zs.map V.str))) (h : (listText (zs.map reprText)).length ≤ 100000) : Fl H (.ref a) 1 (listText (zs.map reprText)) [a]
inductive FlA (H : Hp) : List V → Nat → List Str → List Addr → Prop
  | nil : FlA H [] 0 [] []
  | cons {v : V} {n : Nat} {t : Str} {as : List Addr} {vs : List V} {m : Nat} {ts : List Str} {bs : List Addr} : Fl H v n t as → FlA H vs m ts bs → FlA H (v :: vs) (n + m) (t :: ts) (as ++ bs)
mutual
inductive Tx (K : PySem.W.Frag) (cls : List Tpl) (H : Hp) : V → Nat → Nat → Str → List Addr → Prop
  | non : Tx K cls H .non 0 0 "None" []
  | bl (b : Bool) : Tx K cls H (.bl b) 0 0 (if b then "True" else "False") []
  | int {i : Int} (h : i.natAbs.log2 < 1920) : Tx K cls H (.int i) 0 0 (toString i) []
  | str {z : Str} (h : (reprText z).length ≤ 100000) : Tx K cls H (.str z) 0 0 (reprText z) []
  | dK {a : Addr} {kvs : List (L2.Key × V)} {ds : List (PyData × PyData)} (ha : H a = some (.dK kvs)) (sc : ScA kvs ds) (s1 : PyData.showableAll (ds.map (·.1)) = true) (s2 : PyData.showableAll (ds.map (·.2)) = true) (d1 : PyData.depthAll (ds.map (·.1)) = 0) (d2 : PyData.depthAll (ds.map (·.2)) = 0) (n1 : PyData.hasDictAll (ds.map (·.1)) = false) (n2 : PyData.hasDictAll (ds.map (·.2)) = false) : Tx K cls H (.ref a) 1 1 (PyData.dict ds).shown [a]
  | lst {a : Addr} {xs : List V} {n d : Nat} {ts : List Str} {as : List Addr} (ha : H a = some (.lst xs)) (h : TxA K cls H xs n d ts as) : Tx K cls H (.ref a) (n + 1) (d + 1) (listText ts) (a :: as)
  | tup {a : Addr} {xs : List V} {n d : Nat} {ts : List Str} {as : List Addr} (ha : H a = some (.tup xs)) (h : TxA K cls H xs n d ts as) : Tx K cls H (.ref a) (n + 1) (d + 1) (tupleText ts) (a :: as)
  | own {a dx : Addr} {tp : Tpl} {vs : List (Str × V)} {n : Nat} {ts : List Str} {as : List Addr} (ht : tp ∈ cls) (ha : H a = some (.ins (He.ga K tp.C) dx vs)) (hn : vs.map (·.1) = tp.fs.map (·.2)) (h : FlA H (vs.map (·.2)) n ts as) (hl : (tplText tp ts).length ≤ 100000) : Tx K cls H (.ref a) (n + 1) 0 (tplText tp ts) (a :: as)
inductive TxA (K : PySem.W.Frag) (cls : List Tpl) (H : Hp) : List V → Nat → Nat → List Str → List Addr → Prop
  | nil : TxA K cls H [] 0 0 [] []
  | cons {v : V} {n d : Nat} {t : Str} {as : List Addr} {vs : List V} {m e : Nat} {ts : List Str} {bs : List Addr} : Tx K cls H v n d t as → TxA K cls H vs m e ts bs → TxA K cls H (v :: vs) (n + m) (max d e) (t :: ts) (as ++ bs)
end
section
variable {K : PySem.W.Frag} {cls : List Tpl} {H H1 : Hp}
theorem Fl.uniq {v : V} {n m : Nat} {t t' : Str} {as bs : List Addr} (h : Fl H v n t as) (h' : Fl H v m t' bs) : n = m := by
  cases h <;> cases h' <;> rfl
theorem FlA.uniq : ∀ {vs : List V} {n m : Nat} {ts ts' : List Str} {as bs : List Addr}, FlA H vs n ts as → FlA H vs m ts' bs → n = m
  | _, _, _, _, _, _, _, .nil, .nil => rfl
  | _, _, _, _, _, _, _, .cons a b, .cons a' b' => by rw [a.uniq a', b.uniq b']
mutual
theorem Tx.uniq : ∀ {v : V} {n d m e : Nat} {t t' : Str} {as bs : List Addr}, Tx K cls H v n d t as → Tx K cls H v m e t' bs → n = m
  | _, _, _, _, _, _, _, _, _, .non, h' => by cases h'; rfl
  | _, _, _, _, _, _, _, _, _, .bl _, h' => by cases h'; rfl
  | _, _, _, _, _, _, _, _, _, .int _, h' => by cases h'; rfl
  | _, _, _, _, _, _, _, _, _, .str _, h' => by cases h'; rfl
  | _, _, _, _, _, _, _, _, _, .dK ha _ _ _ _ _ _ _, h' => by
    cases h' with
    | dK _ _ _ _ _ _ _ _ => rfl
    | lst hb _ => rw [ha] at hb; cases hb
    | tup hb _ => rw [ha] at hb; cases hb
    | own _ hb _ _ _ => rw [ha] at hb; cases hb
  | _, _, _, _, _, _, _, _, _, .lst ha h, h' => by
    cases h' with
    | dK hb _ _ _ _ _ _ _ => rw [ha] at hb; cases hb
    | lst hb k =>
      rw [ha] at hb
      cases hb
      rw [TxA.uniq h k]
    | tup hb _ => rw [ha] at hb; cases hb
    | own _ hb _ _ _ => rw [ha] at hb; cases hb
  | _, _, _, _, _, _, _, _, _, .tup ha h, h' => by
    cases h' with
    | dK hb _ _ _ _ _ _ _ => rw [ha] at hb; cases hb
    | lst hb _ => rw [ha] at hb; cases hb
    | tup hb k =>
      rw [ha] at hb
      cases hb
      rw [TxA.uniq h k]
    | own _ hb _ _ _ => rw [ha] at hb; cases hb
  | _, _, _, _, _, _, _, _, _, .own _ ha _ h _, h' => by
    cases h' with
    | dK hb _ _ _ _ _ _ _ => rw [ha] at hb; cases hb
    | lst hb _ => rw [ha] at hb; cases hb
    | tup hb _ => rw [ha] at hb; cases hb
    | own _ hb _ k _ =>
      obtain ⟨_, _, e3⟩ := HO.ins.inj (Option.some.inj (ha.symm.trans hb))
      subst e3
      rw [h.uniq k]
theorem TxA.uniq : ∀ {vs : List V} {n d m e : Nat} {ts ts' : List Str} {as bs : List Addr}, TxA K cls H vs n d ts as → TxA K cls H vs m e ts' bs → n = m
  | _, _, _, _, _, _, _, _, _, .nil, h' => by cases h'; rfl
  | _, _, _, _, _, _, _, _, _, .cons a b, h' => by
    cases h' with
    | cons a' b' => rw [Tx.uniq a a', TxA.uniq b b']
end
theorem txA_strs : ∀ (zs : List Str), (∀ z ∈ zs, (reprText z).length ≤ 100000) → TxA K cls H (zs.map V.str) 0 0 (zs.map reprText) []
  | [], _ => .nil
  | z :: zs, h => .cons (n := 0) (d := 0) (as := []) (m := 0) (e := 0) (bs := []) (.str (h z (List.mem_cons_self ..))) (txA_strs zs fun y hy => h y (List.mem_cons_of_mem _ hy))
theorem Fl.tx {v : V} {n : Nat} {t : Str} {as : List Addr} (h : Fl H v n t as) : ∃ d, Tx K cls H v n d t as := by
  cases h with
  | non => exact ⟨0, .non⟩
  | str h => exact ⟨0, .str h⟩
  | @lst a zs ha h => exact ⟨_, .lst ha (txA_strs zs fun z hz => Nat.le_trans (listText_mem_le (List.mem_map.mpr ⟨z, hz, rfl⟩)) h)⟩
theorem FlA.inner : ∀ {vs : List V} {n : Nat} {ts : List Str} {as : List Addr}, FlA H vs n ts as → ∀ b ∈ as, ∃ m d t cs, m ≤ n ∧ Tx K cls H (.ref b) m d t cs
  | _, _, _, _, .nil, b, hb => nomatch hb
  | _, _, _, _, .cons (n := n) (m := m) h r, b, hb => by
    rcases List.mem_append.mp hb with hb | hb
    · cases h with
      | non => cases hb
      | str _ => cases hb
      | @lst a zs ha h =>
        rw [List.mem_singleton.mp hb]
        obtain ⟨d, q⟩ := (Fl.lst ha h).tx (K := K) (cls := cls)
        exact ⟨_, d, _, _, Nat.le_add_right .., q⟩
    · obtain ⟨k, d, t, cs, hk, q⟩ := FlA.inner r b hb
      exact ⟨k, d, t, cs, by omega, q⟩
mutual
theorem Tx.inner : ∀ {v : V} {n d : Nat} {t : Str} {as : List Addr}, Tx K cls H v n d t as → ∀ b ∈ as, ∃ m e t' cs, m ≤ n ∧ Tx K cls H (.ref b) m e t' cs
  | _, _, _, _, _, .non, b, hb => nomatch hb
  | _, _, _, _, _, .bl _, b, hb => nomatch hb
  | _, _, _, _, _, .int _, b, hb => nomatch hb
  | _, _, _, _, _, .str _, b, hb => nomatch hb
  | _, _, _, _, _, .dK ha sc s1 s2 d1 d2 n1 n2, b, hb => by
    rw [List.mem_singleton.mp hb]
    exact ⟨_, _, _, _, Nat.le_refl _, .dK ha sc s1 s2 d1 d2 n1 n2⟩
  | _, _, _, _, _, .lst ha h, b, hb => by
    rcases List.mem_cons.mp hb with rfl | hb
    · exact ⟨_, _, _, _, Nat.le_refl _, .lst ha h⟩
    · obtain ⟨m, e, t', cs, hm, q⟩ := TxA.inner h b hb
      exact ⟨m, e, t', cs, by omega, q⟩
  | _, _, _, _, _, .tup ha h, b, hb => by
    rcases List.mem_cons.mp hb with rfl | hb
    · exact ⟨_, _, _, _, Nat.le_refl _, .tup ha h⟩
    · obtain ⟨m, e, t', cs, hm, q⟩ := TxA.inner h b hb
      exact ⟨m, e, t', cs, by omega, q⟩
  | _, _, _, _, _, .own ht ha hn h hl, b, hb => by
    rcases List.mem_cons.mp hb with rfl | hb
    · exact ⟨_, _, _, _, Nat.le_refl _, .own ht ha hn h hl⟩
    · obtain ⟨m, e, t', cs, hm, q⟩ := h.inner (K := K) (cls := cls) b hb
      exact ⟨m, e, t', cs, by omega, q⟩
theorem TxA.inner : ∀ {vs : List V} {n d : Nat} {ts : List Str} {as : List Addr}, TxA K cls H vs n d ts as → ∀ b ∈ as, ∃ m e t' cs, m ≤ n ∧ Tx K cls H (.ref b) m e t' cs
  | _, _, _, _, _, .nil, b, hb => nomatch hb
  | _, _, _, _, _, .cons (n := n) (m := m) h r, b, hb => by
    rcases List.mem_append.mp hb with hb | hb
    · obtain ⟨k, e, t', cs, hk, q⟩ := Tx.inner h b hb
      exact ⟨k, e, t', cs, by omega, q⟩
    · obtain ⟨k, e, t', cs, hk, q⟩ := TxA.inner r b hb
      exact ⟨k, e, t', cs, by omega, q⟩
end
theorem Tx.off {a : Addr} {n d e : Nat} {t : Str} {vs : List V} {ts : List Str} {as cs : List Addr} (h : Tx K cls H (.ref a) (n + 1) d t cs) (r : TxA K cls H vs n e ts as) : a ∉ as := fun hm => by
  obtain ⟨m, e', t', bs, hk, q⟩ := r.inner a hm
  have := h.uniq q
  omega
end
end CM
namespace CM
open PySem PySem.Spec PyProof.Rows L2 SL
section
variable {f : PySem.W.Frag} {κ : List Addr} {cls : List Tpl} {H H' : Hp} {M : List Addr}
theorem repA_strs : ∀ {ds : List D} {zs : List Str} {vs : List V}, RepA M ⟨f, κ⟩ H vs ds → strsOf ds = some zs → vs = zs.map V.str
  | [], zs, _, .nil, e => by
    cases e
    rfl
  | d :: ds, zs, _, .cons r a, e => by
    unfold strsOf at e
    split at e
    · rename_i z hz
      obtain ⟨ys, e2, rfl⟩ := Option.map_eq_some_iff.mp e
      have r2 := r.u
      rw [hz] at r2
      cases r2
      rw [repA_strs a e2]
      rfl
    · cases e
end
end CM
namespace CM
open PySem PySem.Spec PyProof.Rows L2 SL
end CM
namespace CM
open PySem PySem.Spec PyProof.Rows L2 SL
def gSlc (to : TE) (tl th : TO) : TG := fun v σ H Q => to σ H fun o H1 => tl σ H1 fun l H2 => th σ H2 fun u H3 => ∃ (a b : Addr) (xs ys : List V) (i j : Int), o = .ref a ∧ v = .ref b ∧ H3 a = some (.lst xs) ∧ H3 b = some (.lst ys) ∧ a ≠ b ∧ l = some i ∧ u = some j ∧ 0 ≤ i ∧ i ≤ j ∧ j ≤ xs.length ∧ xs.length + ys.length ≤ sizeLine ∧ Q σ (upd H3 a (.lst (xs.take i.toNat ++ ys ++ xs.drop j.toNat)))
section
variable {X : Cx} {o : Expr} {to : TE} {lo hi : Option Expr} {tl th : TO} {pos p2 : Pos}
theorem part_some {u : Value} {i : Int} (h : IsPart u (some i)) : RelV (.int i) u := by
  cases h
  exact ⟨_, rfl⟩
theorem pg_slc (ho : PE X o to) (hl : PO X lo tl) (hu : PO X hi th)
    (ha : ∀ v, assign (.Subscript o (.Slice lo hi none p2) pos) X.env v = (do
      let ov ← holding [v] (eval o X.env)
      let iv ← holding [v, ov] (eval (.Slice lo hi none p2) X.env)
      standAt pos
      holding [v, ov, iv] (setItem ov iv v)
      release [iv, v, ov] []) := by intro _; rfl) : PG X (.Subscript o (.Slice lo hi none p2) pos) (gSlc to tl th) := by
  refine ⟨fun pins s σ H v u Q I r h => ?_⟩
  rw [ha]
  refine wpAny_bind (wpAny_holding (thn (ho.run pins s σ H _ I h) fun ov s1 ⟨x, H1, I1, r1, q1⟩ => ?_))
  refine wpAny_bind (wpAny_holding (wpAny_Slice (thn (hl.run pins s1 σ H1 _ I1 q1) fun vl s2 ⟨l, H2, I2, pl, q2⟩ => thn (hu.run pins s2 σ H2 _ I2 q2) fun vu s3 ⟨w, H3, I3, pu, q3⟩ => ?_)))
  rw [evalPart_none]
  refine wpAny_pure ?_
  obtain ⟨a, b, xs, ys, i, j, rfl, rfl, hx, hy, ne, rfl, rfl, h0, hij, hj, hz, q⟩ := q3
  cases (show ov = Value.ref a from r1)
  cases (show u = Value.ref b from r)
  have I4 : Inv X pins σ H3 { s3 with heap := s3.heap.push { cls := .type "slice", data := .fields #[vl, vu, .none] } } := I3.kept (t' := s3.toks) fun b ob q => Heap.get?_push_of_some _ q
  refine wpAny_bind (wpAny_standAt (wpAny_bind (wpAny_holding ?_)))
  exact set_slice (sl := s3.heap.objs.size) I4 hx hy ne (Heap.IsSliceOf.new ..) (part_some pl) (part_some pu) h0 hij hj hz fun s4 I5 => wpAny_release ⟨σ, _, I5, q⟩
end
/-- xs[i:j] = ys, plain -/
def gSlcL (o : Mo W) (lo hi : MO) : Tg := fun w ρ h => match o ρ h with
  | some (.ok u ρ h) => match lo ρ h with
    | some (.ok (some i) ρ h) => match hi ρ h with
      | some (.ok (some j) ρ h) => (lstAt h u).bind fun x => match fzW w with
        | .lst ys => if 0 ≤ i ∧ i ≤ j ∧ j ≤ x.2.length ∧ x.2.length + ys.length ≤ 100000 then some (ρ, h.set x.1 (.lst (x.2.take i.toNat ++ ys ++ x.2.drop j.toNat))) else none
        | _ => none
      | _ => none
    | _ => none
  | _ => none
section
variable {f : PySem.W.Frag} {ta : TE} {tl th : TO} {ma : Mo W} {ml mh : MO}
theorem repA_append {M : List Addr} {K : Kx} {H : Hp} : ∀ {xs ys : List V} {ds es : List D}, RepA M K H xs ds → RepA M K H ys es → RepA M K H (xs ++ ys) (ds ++ es)
  | _, _, _, _, .nil, h => h
  | _, _, _, _, .cons a r, h => .cons a (repA_append r h)
theorem repA_take {M : List Addr} {K : Kx} {H : Hp} : ∀ {xs : List V} {ds : List D} (n : Nat), RepA M K H xs ds → RepA M K H (xs.take n) (ds.take n)
  | _, _, 0, _ => by rw [List.take_zero, List.take_zero]; exact .nil
  | _, _, n + 1, .nil => .nil
  | _, _, n + 1, .cons a r => .cons a (repA_take n r)
theorem repA_drop {M : List Addr} {K : Kx} {H : Hp} : ∀ {xs : List V} {ds : List D} (n : Nat), RepA M K H xs ds → RepA M K H (xs.drop n) (ds.drop n)
  | _, _, 0, h => h
  | _, _, n + 1, .nil => .nil
  | _, _, n + 1, .cons a r => repA_drop n r
theorem sim_gslc (ho : SimE f (fun _ _ _ _ => False) ta ma) (hl : SimO f (fun _ _ _ _ => False) tl ml) (hh : SimO f (fun _ _ _ _ => False) th mh) : SimG f (gSlc ta tl th) (gSlcL ma ml mh) := fun F σ H ρ h x st v w Q ⟨κ, E⟩ e q => by
  unfold gSlcL at e
  have E1 := E.fz
  split at e
  · rename_i u ρ1 h1 e1
    split at e
    · rename_i i ρ2 h2 e2
      split at e
      · rename_i j ρ3 h3 e3
        cases g4 : lstAt h3 u with
        | none => rw [g4] at e; cases e
        | some y =>
          obtain ⟨c, cs⟩ := y
          rw [g4] at e
          dsimp only [Option.bind_some] at e
          split at e
          · rename_i ys hys
            split at e
            · rename_i hc
              obtain ⟨h0, hij, hj, hz⟩ := hc
              cases e
              refine ho F σ H ρ h _ _ _ ⟨κ, E1⟩ e1 fun vo Ho Eo => ?_
              refine hl F σ Ho ρ1 h1 _ _ _ Eo e2 ?_
              intro Hl El
              refine hh F σ Hl ρ2 h2 _ _ _ El e3 ?_
              rintro Hk ⟨κk, Ek⟩
              obtain ⟨p, xs, rfl, hk, hp, r⟩ := Ek.lstAt (List.mem_cons_self ..) g4
              have rv := Ek.rep (List.mem_cons_of_mem _ (List.mem_cons_self ..))
              rw [hys] at rv
              generalize hM : av F κk _ = M at rv r
              cases rv with
              | @lst b vys _ hb rb =>
                have hpM : p ∈ M := by
                  rw [← hM]
                  exact av_ka (List.mem_of_getElem? hk)
                refine ⟨p, b, xs, vys, i, j, rfl, rfl, hp, hb.at_, fun z => hb.off (z ▸ hpM), rfl, rfl, h0, hij, by rw [r.len]; exact hj, ?_, ?_⟩
                · rw [r.len, rb.len]
                  exact Nat.le_trans hz (by decide +kernel)
                · subst hM
                  have E3 := Ek.mut (u := .lst (xs.take i.toNat ++ vys ++ xs.drop j.toNat)) (c' := .lst (cs.take i.toNat ++ ys ++ cs.drop j.toNat)) hk (.lst upd_same ((repA_append (repA_append (repA_take _ r) rb) (repA_drop _ r)).ex (Ex.mut (av_ka (List.mem_of_getElem? hk)))))
                  exact q _ _ ⟨κk, E3.pop.pop⟩
            · cases e
          · cases e
      · cases e
    · cases e
  · cases e
/-- backwards -/
theorem okG_slc {ρ : List Sl} {h : Tb} {N : List Sl → Tb → Prop} {w : W} {o : Mo W} {lo hi : MO} {ys : List D} (hw : fzW w = .lst ys) (q : okE (o ρ h) (fun u ρ h => okE (lo ρ h) (fun l ρ h => okE (hi ρ h) (fun r ρ h => ∃ i j : Nat, l = some (i : Int) ∧ r = some (j : Int) ∧ okW (lstAt h u) fun x => i ≤ j ∧ j ≤ x.2.length ∧ x.2.length + ys.length ≤ 100000 ∧ N ρ (h.set x.1 (.lst (x.2.take i ++ ys ++ x.2.drop j)))) nox) nox) nox) : okG (gSlcL o lo hi w ρ h) N := by
  obtain ⟨r, e1, p⟩ := q
  cases r with
  | ex C fs ρ h => exact p.elim
  | ok u ρ1 h1 =>
    obtain ⟨r, e2, p⟩ := p
    cases r with
    | ex C fs ρ h => exact p.elim
    | ok l ρ2 h2 =>
      obtain ⟨r, e3, p⟩ := p
      cases r with
      | ex C fs ρ h => exact p.elim
      | ok m ρ3 h3 =>
        obtain ⟨i, j, rfl, rfl, x, e4, k1, k2, k3, p⟩ := p
        refine ⟨(ρ3, h3.set x.1 (.lst (x.2.take i ++ ys ++ x.2.drop j))), ?_, p⟩
        unfold gSlcL
        rw [e1]
        dsimp only
        rw [e2]
        dsimp only
        rw [e3]
        dsimp only
        rw [e4]
        dsimp only [Option.bind_some]
        rw [hw]
        dsimp only
        rw [if_pos ⟨by omega, by omega, by omega, k3⟩]
        simp only [Int.toNat_natCast]
end
end CM
namespace CM
open PySem PySem.Spec PyProof.Rows L2 SL
end CM
namespace CM
open PySem PySem.Spec PyProof.Rows L2 SL Builtin Builtin.Str
end CM
namespace SL
open PySem PySem.Spec PyProof.Rows L2
def cntZ : List Str → Nat
  | [] => 0
  | k :: r => if k ∈ r then cntZ r else cntZ r + 1
theorem cntZ_cons {k : Str} {r : List Str} : cntZ (k :: r) = if k ∈ r then cntZ r else cntZ r + 1 := by
  rw [cntZ]
theorem cntZ_le : ∀ r : List Str, cntZ r ≤ r.length
  | [] => Nat.le_refl _
  | k :: r => by
    have := cntZ_le r
    unfold cntZ
    rw [List.length_cons]
    split <;> omega
/-- the texts of a list, each once (where it stands last) -/
def onceZ : List Str → List Str
  | [] => []
  | k :: r => if k ∈ r then onceZ r else k :: onceZ r
theorem onceZ_cons {k : Str} {r : List Str} : onceZ (k :: r) = if k ∈ r then onceZ r else k :: onceZ r := by
  rw [onceZ]
theorem mem_onceZ {k : Str} : ∀ {r : List Str}, k ∈ onceZ r ↔ k ∈ r
  | [] => Iff.rfl
  | z :: r => by
    have ih := mem_onceZ (k := k) (r := r)
    rw [onceZ_cons, List.mem_cons]
    split
    case isTrue m => exact ih.trans ⟨.inr, fun q => q.elim (fun e => e ▸ m) id⟩
    case isFalse => rw [List.mem_cons, ih]
theorem once_len : ∀ r : List Str, (onceZ r).length = cntZ r
  | [] => rfl
  | z :: r => by
    rw [onceZ_cons, cntZ_cons]
    split
    · exact once_len r
    · rw [List.length_cons, once_len r]
theorem once_nodup : ∀ r : List Str, (onceZ r).Nodup
  | [] => .nil
  | z :: r => by
    rw [onceZ_cons]
    split
    case isTrue => exact once_nodup r
    case isFalse out => exact List.nodup_cons.2 ⟨fun q => out (mem_onceZ.1 q), once_nodup r⟩
/-- the set's slots rise, and it may be walked -/
def Neat (w : World) (D : Froz.SD) : Prop := Ris D.2.2.place.toList ∧ (w.params.followText "set-order" = true ∨ D.2.2.led = true)
theorem Neat.tail {w : World} {es : Array (Int × Value)} {ep : Nat} {t : SetTable} {b : Bool} (q : Neat w (es, ep, t)) : Neat w (Froz.tailTx ep es t b) := by
  unfold Froz.tailTx
  split
  · exact ⟨relayAll_ris .., q.2.imp id fun z => (relayAll_led ..).trans z⟩
  · exact q
theorem Neat.add {w : World} {D : Froz.SD} (h : Int) (v : Value) (q : Neat w D) : Neat w (Froz.addTx h v D) := by
  have up := layNew_ris D.2.2 D.1 h v q.1
  have led := q.2.imp id fun z => (layNew_led D.2.2 D.1 h v).trans z
  refine Neat.tail ?_
  split
  · exact ⟨up, led⟩
  · exact ⟨up, led⟩
section
variable {prog : Program} {w : World} {A : Around} {R : Result → Shared → Prop} {It : Addr} {fp wr : List Addr} {G : Array GenState → Array GenState → Prop} {n : Nat} {Pv : Nat → Value → Prop} {St : Nat → Shared → Prop}
/-- the set of the texts ks -/
def TSet (prog : Program) (w : World) (h : Heap) (D : Addr) (ks : List Str) : Prop :=
  ∃ S : Froz.SD, h.get? D = some (Froz.sObj "set" S) ∧ Froz.TxOk prog w S (onceZ ks) ∧ Neat w S
theorem TSet.to {h h' : Heap} {D : Addr} {ks : List Str} (q : TSet prog w h D ks)
    (e : ∀ o, h.get? D = some o → h'.get? D = some o) : TSet prog w h' D ks := by
  obtain ⟨S, a, r⟩ := q
  exact ⟨S, e _ a, r⟩
/-- a text that the set holds is put in once more -/
theorem put_again {E : Value → Shared → Prop} {s : Shared} {D : Addr} {S : Froz.SD} {l : List Str} {k : Str} {u : Tok} {Q : Bool → Shared → Prop} (at_ : s.heap.get? D = some (Froz.sObj "set" S)) (F : Froz.TxOk prog w S l) (here : k ∈ l) (few : l.length < scanBound) (q : Q false s) :
    wpAny (model prog w) A (setAddHashed D (.str k u) (hashStr w k)) Q E s := by
  have small : S.1.size < scanBound := F.sz ▸ few
  obtain ⟨e, he, is⟩ := (F.mem k).1 here
  obtain ⟨j, found⟩ : ∃ j, S.1.toList.findIdx? (fun e => (PySem.strKind prog w).is k e.2) = some j := by
    cases r : S.1.toList.findIdx? (fun e => (PySem.strKind prog w).is k e.2) with
    | some j => exact ⟨j, rfl⟩
    | none => exact absurd (is.symm.trans (List.findIdx?_eq_none_iff.1 r e he)) (by decide)
  unfold setAddHashed setAddHashedIn
  refine wpAny_holding (wpAny_bind (wpAny_setState_of at_ rfl F.fit ?_))
  dsimp only
  rw [byScan_of (x := .str k u) rfl small F.el, if_pos rfl]
  unfold setAddByScan
  refine wpAny_bind (wpAny_bind (wpAny_rule (wpAny_bind (wpAny_setScan_of (knd := PySem.strKind prog w) (Froz.is_str k u) at_ rfl F.fit F.el ?_))))
  rw [found]
  exact wpAny_pure (wpAny_pure q)
/-- a text is put in -/
theorem put_text {E : Value → Shared → Prop} {s : Shared} {D : Addr} {ks : List Str} {k : Str} {u : Tok} {Q : Bool → Shared → Prop} (held : TSet prog w s.heap D ks) (few : ks.length + 1 < scanBound)
    (q : ∀ b h', Heap.SameBut D s.heap h' → TSet prog w h' D (k :: ks) → Q b { s with heap := h' }) : wpAny (model prog w) A (setAddHashed D (.str k u) (hashStr w k)) Q E s := by
  obtain ⟨S, at_, F, neat⟩ := held
  have le : (onceZ ks).length ≤ ks.length := once_len ks ▸ cntZ_le ks
  by_cases here : k ∈ ks
  · refine put_again at_ F (mem_onceZ.2 here) (by omega) (q _ s.heap (Heap.SameBut.refl _ _) ⟨S, at_, ?_, neat⟩)
    rw [onceZ_cons, if_pos here]
    exact F
  · refine Froz.add_x at_ F (fun z => here (mem_onceZ.1 z)) (by omega) (q _ _ (Heap.SameBut.update _ _ _) ⟨_, Froz.get_upd _ at_ rfl, ?_, neat.add _ _⟩)
    rw [onceZ_cons, if_neg here]
    exact Froz.add_ok u F
/-- the rest of the walk: what is still to come is put in -/
theorem fill_rest (W : WalksS prog w A.in1 It fp wr G n Pv St) {D : Addr} (out : D ∉ fp)
    (val : Nat → Str) (hv : ∀ i v, Pv i v → ∃ t, v = .str (val i) t) :
    ∀ (m i : Nat) (ks : List Str) (s : Shared), n = i + m → ks.length = i → n < 4000 → St i s → TSet prog w s.heap D ks →
      (∀ s', Moved (D :: wr) G s s' → TSet prog w s'.heap D (((List.range' i m).map val).reverse ++ ks) →
        R (.ok (.ret .none)) s') →
      codeAny (model prog w) A (.builtin "set.update.loop" ⟨[.ref D, .ref It], []⟩) R s := by
  have outw : D ∉ wr := fun z => out (W.sub _ z)
  have wid : ∀ b ∈ wr, b ∈ D :: wr := fun _ => List.mem_cons_of_mem _
  intro m
  induction m with
  | zero =>
    intro i ks s en el hn4 st q fin
    have en : n = i := by omega
    subst en
    refine codeAny_builtin PyProof.Rows.F.entry_set_update_loop ?_
    rw [Around.under_plainId
      PyProof.Rows.F.plain_set_update_loop _]
    show wpAny _ A.in1
      (pyNext (.ref It) >>= _) _ _ s
    refine wpAny_bind (W.done s _ _ st fun s1 mv => ?_)
    show wpAny _ A.in1
      (ret Value.none) _ _ s1
    refine wpAny_pure (fin s1 (mv.mono wid) ?_)
    exact q.to fun o e => mv.heap D o outw e
  | succ m ih =>
    intro i ks s en el hn4 st q fin
    refine codeAny_builtin PyProof.Rows.F.entry_set_update_loop ?_
    rw [Around.under_plainId
      PyProof.Rows.F.plain_set_update_loop _]
    show wpAny _ A.in1
      (pyNext (.ref It) >>= _) _ _ s
    refine wpAny_bind (W.item i s _ _ (by omega) st fun v s1 pv st1 mv => ?_)
    obtain ⟨t, rfl⟩ := hv i v pv
    have q1 : TSet prog w s1.heap D ks := q.to fun o e => mv.heap D o outw e
    show wpAny _ A.in1
      (holding [Value.str (val i) t] (setAdd D (.str (val i) t)) >>= _) _ _ s1
    refine wpAny_bind (wpAny_holding ?_)
    unfold setAdd
    refine wpAny_holding (wpAny_bind ((PySem.strKind prog w).pyHash (k := val i) (strKind_is _ _ _ _) ?_))
    refine put_text (s := { s1 with toks := s1.toks + 1 }) q1 (by unfold scanBound; omega) fun _ h2 sb q3 => ?_
    refine wpAny_pure ⟨plainId_quiet PyProof.Rows.F.plain_set_update_loop _,
      ih (i + 1) (val i :: ks) _ (by omega) (by rw [List.length_cons, el]) hn4
        (W.frame _ s1 _ _ st1 (Nat.le_succ _) fun b hb o e => ?_) q3 fun s3 m3 q4 => ?_⟩
    · exact (sb.2 b fun z => out (z ▸ hb)).trans e
    · refine fin s3 (Moved.trans W.gtrans ((mv.mono wid).then_heap (Nat.le_succ _) fun b o hb e => ?_) m3) ?_
      · exact (sb.2 b fun z => hb (z ▸ List.mem_cons_self ..)).trans e
      · have er : ((List.range' i (m + 1)).map val).reverse ++ ks = ((List.range' (i + 1) m).map val).reverse ++ (val i :: ks) := by
          rw [List.range'_succ, List.map_cons, List.reverse_cons, List.append_assoc]
          rfl
        rw [er]
        exact q4
end
section
variable {prog : Program} {w : World} {A : Around} {E : Value → Shared → Prop} {s : Shared}
abbrev newZ (w : World) : Obj := { cls := .type "set", dict := none, data := .set #[] 0 (.fresh 0 0 (!w.params.followText "set-order")) }
theorem newZ_none (w : World) : TSet prog w (s.heap.push (newZ w)) s.heap.objs.size [] := by
  refine ⟨(#[], 0, .fresh 0 0 (!w.params.followText "set-order")), Heap.get?_push_size _ rfl, Froz.TxOk.nil rfl, .nil, ?_⟩
  by_cases e : w.params.followText "set-order" = true
  · exact .inl e
  · exact .inr (by show (!w.params.followText "set-order") = true; rw [Bool.eq_false_iff.2 e]; rfl)
theorem call_setZ {l : Addr} {its : Array Value} {xs : List Str} {Q : Value → Shared → Prop} (hh : A.handled = none) (hl : s.heap.IsList l its) (hi : PyProof.Rows.StrsAre its.toList xs) (hb : xs.length < 4000)
    (fin : ∀ (h' : Heap) (tk : Nat), TSet prog w h' s.heap.objs.size xs.reverse → (∀ b o, b < s.heap.objs.size → s.heap.get? b = some o → h'.get? b = some o) → Q (.ref s.heap.objs.size) { s with heap := h', toks := tk }) : wpAny (model prog w) A (call (.type "set") [.ref l]) Q E s := by
  obtain ⟨c, tl, c1⟩ := PySem.F.called_set.mro; have c2 := PySem.F.called_set.made; have c3 := PySem.F.called_set.sub
  refine wpAny_call (codeAny_of_tree ?_); show wpAny _ _ (callAny (.type "set") _) _ _ _
  refine wpAny_pure ⟨Code.quiet_builtin _ (by decide +kernel), codeAny_builtin PySem.F.entry_type_call ?_⟩; rw [Around.under_plain (weight_type_call_type "set" [.ref l] []) rfl]
  have c4 := PySem.F.called_set.notType; have c5 := PySem.F.called_set.canCreate; have c6 := PySem.F.typeCall_set_1 (.ref l)
  repeat (any_goals (first | assumption | wp_step))
  refine codeAny_mono (code_set_led1 (.ref l) (E := E) (Q₁ := fun ob s1 => ob = .ref s.heap.objs.size ∧ s1 = { s with heap := s.heap.push (newZ w) }) ⟨rfl, rfl⟩) fun r s1 hr => ?_
  cases r with
  | error e => exact hr
  | ok fl =>
    cases fl with
    | ret ob =>
      obtain ⟨rfl, rfl⟩ := hr
      have g1 : (s.heap.push (newZ w)).get? s.heap.objs.size = some (newZ w) := Heap.get?_push_size _ rfl
      have g2 : Shared.TypeIs { s with heap := s.heap.push (newZ w) } (.ref s.heap.objs.size) "set" := ⟨_, g1, rfl⟩
      have d1 := PySem.F.called_set.init.lookup; have d2 := PySem.F.called_set.init.bind (.ref s.heap.objs.size)
      repeat (any_goals (first | assumption | wp_step))
      refine codeAny_mono (codeAny_call_builtin (R := wants (fun r s2 => r = .none ∧ ∃ h' tk, s2 = { s with heap := h', toks := tk } ∧ TSet prog w h' s.heap.objs.size xs.reverse ∧ (∀ b o, b < s.heap.objs.size → s.heap.get? b = some o → h'.get? b = some o)) E) PySem.F.called_set.init.plain PySem.F.entry_set_init (check_set_init_1 g2 ?_)) fun r2 s2 hr2 => ?_
      · obtain ⟨⟨ocl, odi, oda, osl⟩, gl, k1, nl, k2⟩ := hl
        simp only at k1 k2
        subst k1; subst k2
        have gl' : (s.heap.push (newZ w)).get? l = some { cls := .type "list", dict := odi, data := .seq its nl, slots := osl } := Heap.get?_push_of_some _ gl
        have m1 := PySem.F.sub_list_set; have m2 := PySem.F.sub_list_frozenset
        have m3 : (Value.type "list" == Value.type "dict") = false := by decide
        have il : (s.heap.push (newZ w)).IsList l its := ⟨_, gl', rfl, nl, rfl⟩
        unfold Builtin.«set.__init__» noKeywords Builtin.Frozenset.updateFrom
        generalize hPI : pyIter = PI
        wp_walk
        subst hPI
        refine wpAny_pyIter_list il (wpAny_bind (wpAny_runValue ?_))
        have ll : l < s.heap.objs.size := Heap.lt_size gl
        have h3 : A.in1.in1.in1.handled = none := by simp [hh]
        have n1 : l ≠ (s.heap.push (newZ w)).objs.size := by rw [Heap.size_push]; exact Nat.ne_of_lt (Nat.lt_succ_of_lt ll)
        have n2 : s.heap.objs.size ∉ [(s.heap.push (newZ w)).objs.size, l] := by
          rw [Heap.size_push]
          simp only [List.mem_cons, List.not_mem_nil, or_false, not_or]
          exact ⟨Nat.ne_of_lt (Nat.lt_succ_self _), Nat.ne_of_gt ll⟩
        have sz : xs.length = its.size := by rw [← StrsAre.len_eq hi, Array.length_toList]
        refine fill_rest ((Walks.list h3 _ l n1 its).toS) n2 (fun i => xs.getD i Str.empty) (fun i v hv => _root_.SS.strs_at hi i v (by rw [Array.getElem?_toList]; exact hv)) its.size 0 [] _ (by omega) rfl (by omega) ⟨⟨_, Heap.get?_push_size _ rfl, rfl, rfl⟩, (il.push _)⟩ ?s0 ?sR
        case s0 =>
          exact (newZ_none w).to fun o e => Heap.get?_push_of_some _ e
        case sR =>
          intro s3 mv q
          obtain ⟨h', g', d', tk', os'⟩ := s3
          obtain rfl : g' = s.gens := mv.gens
          obtain rfl : d' = s.drawn := mv.drawn
          obtain rfl : os' = s.os := mv.os
          show wpAny _ _ _ _ _ _
          refine wpAny_pure (show wpAny _ _ (ret Value.none) _ _ _ from wpAny_pure ⟨rfl, h', tk', rfl, ?_, fun b o hb e => ?_⟩)
          · have er : ((List.range' 0 its.size).map fun i => xs.getD i Str.empty) = xs := by
              rw [← sz]
              refine List.ext_getElem (by simp) fun i h1 h2 => ?_
              simp [List.getD_eq_getElem?_getD, List.getElem?_eq_getElem h2]
            rw [er, List.append_nil] at q
            exact q
          · refine mv.heap b o ?_ (Heap.get?_push_of_some _ (Heap.get?_push_of_some _ e))
            rw [Heap.size_push]
            simp only [List.mem_cons, List.not_mem_nil, or_false, not_or]
            exact ⟨Nat.ne_of_lt hb, Nat.ne_of_lt (Nat.lt_succ_of_lt hb)⟩
      · cases r2 with
        | error e => exact hr2
        | ok f2 =>
          cases f2 with
          | ret r =>
            obtain ⟨rfl, h', tk, rfl, q1, q2⟩ := hr2
            repeat (any_goals (first | assumption | wp_step))
            exact fin _ _ q1 q2
          | _ => exact hr2.elim
    | _ => exact hr.elim
end
end SL
namespace CM
open PySem PySem.Spec PyProof.Rows L2 SL
def rLenSetZ (K : PySem.W.Frag) : List V → Hp → VK → Prop := fun xs H Q => ∃ (l : Addr) (zs : List Str), xs = [.ref l] ∧ SqL K H l (zs.map V.str) ∧ zs.length < 4000 ∧ Q (.int (cntZ zs.reverse : Nat)) H
theorem strs_are : ∀ {zs : List Str} {us : List Value}, Vals (zs.map V.str) us → PyProof.Rows.StrsAre us zs
  | [], _, .nil => .nil
  | z :: zs, _, .cons r t => by
    obtain ⟨k, rfl⟩ := r
    exact .cons z k (strs_are t)
theorem pe_lenSetZ {X : Cx} {a : Expr} {ta : TE} {p p2 q pos : Pos} (hc : X.calm = true) (hg : Gl X "len") (hm : X.mg "len" = none) (hg2 : Gl X "set") (hm2 : X.mg "set" = none) (ha : PE X a ta)
    (na : starEach [a] X.env = (false, eval a X.env) :: starEach [] X.env := by rfl) : PE X (.Call (.Name "len" p) [.Call (.Name "set" p2) [a] [] q] [] pos) (tCB (rLenSetZ X.K) (tCons ta tNil)) := by
  refine ⟨fun pins s σ H Q I h => Call_ (ld_blt I hg hm boot_len ?_)⟩
  refine PyProof.Rows.callWith_builtin1 (PyProof.Rows.args_cons (Call_ (ld_blt I hg2 hm2 boot_set ?_)) rfl) rfl rfl
  refine PyProof.Rows.callWith_type1 (PyProof.Rows.args_cons (thn (ha.run pins s σ H _ I h) fun v s1 ⟨x, H1, I1, r1, q1⟩ => PyProof.Rows.args_nil ?_) na) na rfl
  obtain ⟨l, zs, e, hq, h1, q1⟩ := q1
  cases e
  cases r1
  obtain ⟨its, r, pl, hz⟩ := I1.list hq
  refine call_setZ (I1.ok.hd hc) pl.isList (by simpa using strs_are r) h1 fun h' tk hS hk => PyProof.Rows.args_nil ?_
  obtain ⟨S, at_, F, _⟩ := hS
  have I2 : Inv X pins σ H1 { s1 with heap := h', toks := tk } := I1.kept fun b o e => hk b o (Heap.lt_size e) e
  have le := cntZ_le zs.reverse
  have sz : S.1.size = cntZ zs.reverse := F.sz.trans (once_len _)
  rw [List.length_reverse] at le
  exact call_len_set at_ ⟨rfl, rfl, rfl⟩ rfl F.fit (by rw [sz]; omega) ⟨.int (cntZ zs.reverse : Nat), H1, I2.tok _, ⟨_, by rw [sz]⟩, q1⟩
def dLenSetZ : List D → Option W
  | [a] => match a.u with
    | .lst ds => (strsOf ds).bind fun zs => if zs.length < 4000 then some (.cl (.int (cntZ zs.reverse : Nat))) else none
    | _ => none
  | _ => none
theorem o_lenSetZ {K : PySem.W.Frag} : OpN K (rLenSetZ K) dLenSetZ := fun κ M H xs ds w Q hM nr e q => by
  unfold dLenSetZ at e
  split at e
  · obtain ⟨v, rfl, n⟩ := nra1 nr
    rename_i a0
    split at e
    · rename_i ds hd
      obtain ⟨zs, h1, e⟩ := Option.bind_eq_some_iff.mp e
      split at e
      · rename_i hl
        cases e
        obtain ⟨a, xs, rfl, s1, r1⟩ := nr_lst n hd
        have := repA_strs r1 h1
        subst this
        exact ⟨a, zs, rfl, .inl (.inl s1), hl, q _ _ Ex.refl (.cl (.int _))⟩
      · cases e
    · cases e
  · cases e
end CM
namespace CM
open PySem PySem.Spec PyProof.Rows L2 SL
section
variable {ρ : List Sl} {h h' h0 g g' : Tb} {P : Ps W} {X : Px} {a b e : Mo W} {es : Mo (List W)} {C n : Str} {m : Fnm} {dvs dd : List D} {keep : Bool} {d d' d0 : D} {ks : List Kd} {i j k : Nat} {it : Mo ItM} {gt : Tg} {vs : List Nat} {zs : List Str}
theorem okE_alt2 (e : a ρ h = none) (q : okE (b ρ h) P X) : okE (mAlt a b ρ h) P X := by
  obtain ⟨r, e2, p⟩ := q
  exact ⟨r, by unfold mAlt; rw [e]; exact e2, p⟩
theorem mVar_eq (e : ρ[k]? = some (.cl d)) : mVar k ρ h = some (.ok (.cl d) ρ h) := by
  unfold mVar
  rw [e]
theorem w_split {z s : Str} {Q : W → Prop} (h1 : (s.length == 0) = false) (h2 : z.length + 2 ≤ 100000) (q : Q (W.fr (LS (Txt.split z s)))) : okW (fSplit z [.str s]) Q := ⟨_, by
  show (if (s.length == 0) = false ∧ z.length + 2 ≤ 100000 then some (W.fr ((Txt.split z s).map .str)) else none) = _
  rw [if_pos ⟨h1, h2⟩], q⟩
end
end CM
namespace CM
open PySem PySem.Spec PyProof.Rows L2 SL
section
variable {ρ : List Sl} {h : Tb} {P : Ps W} {X : Px} {A B : Int} {i j : Int} {b n k : Nat} {d e : D} {ds cs xs ys : List D}
local macro_rules | `(tactic| walk_at "hv") => `(tactic| first | rfl | assumption | (exact (by assumption : _)))
local macro_rules | `(tactic| walk_at "p1") => `(tactic| first
  | with_reducible refine CM.okS_seq ?_ | with_reducible refine CM.okS_next ?_ | with_reducible refine CM.okS_asg ?_ | with_reducible refine CM.okS_ret ?_ | with_reducible refine CM.okS_drop ?_ | with_reducible refine CM.okS_aug ?_ | with_reducible refine CM.okS_cnt ?_ | with_reducible refine CM.okS_fg ?_ | with_reducible refine CM.okS_retN ?_
  | with_reducible refine CM.okE_op ?_ | with_reducible refine CM.okE_cb ?_ | with_reducible refine CM.okE_cons ?_ | with_reducible refine CM.okE_nil ?_ | with_reducible refine CM.okB_not ?_ | with_reducible refine CM.okE_c ?_ | with_reducible refine CM.okE_fr ?_ | with_reducible refine CM.okE_ce ?_ | with_reducible refine CM.okE_notV ?_ | with_reducible refine CM.okE_un ?_
  | with_reducible refine CM.okE_sl ?_ | with_reducible refine CM.okE_nopart ?_
  | ((with_reducible refine' CM.okE_var ?hv ?_); (case hv => rfl))
  | ((with_reducible refine' CM.okE_part (CM.okE_var ?hv ⟨_, ?hv2, ?_⟩)); (case hv => rfl); (case hv2 => rfl))
  | ((with_reducible refine' CM.okE_part (CM.okE_c ⟨_, ?hv2, ?_⟩)); (case hv2 => rfl))
  | ((with_reducible refine' CM.okW_eq (w := _) ?hv ?_); (case hv => (with_reducible rfl)))
  | ((with_reducible refine' CM.okW_deref ?hv ?_); (case hv => walk_at "hv")) | ((with_reducible refine' CM.okW_derefs ?hv ?_); (case hv => rfl)) | ((with_reducible refine' CM.okW_derefC ?hv ?_); (case hv => walk_at "hv")) | ((with_reducible refine' CM.okW_lstAt ?hv ?_); (case hv => walk_at "hv"))
  | with_reducible refine CM.w_add ?_ | with_reducible refine CM.w_sub ?_ | with_reducible refine CM.w_lt ?_ | with_reducible refine CM.w_le ?_ | with_reducible refine CM.w_gt ?_ | with_reducible refine CM.w_ge ?_ | with_reducible refine CM.w_addI ?_
  | with_reducible refine CM.w_mod (by omega) ?_ | with_reducible refine CM.w_div (by omega) (by rw [CM.big_eq]; omega) ?_ | with_reducible refine CM.w_mul (by rw [CM.big_eq]; omega) (by rw [CM.big_eq]; omega) (by rw [CM.big_eq]; omega) (by rw [CM.big_eq]; omega) ?_ | with_reducible refine CM.w_sq (by omega) (by omega) ?_
  | with_reducible refine CM.w_max2 ?_ | with_reducible refine CM.w_min2 ?_ | with_reducible refine CM.w_lenL ?_ | with_reducible refine CM.w_lenT ?_ | with_reducible refine CM.w_lenC ?_ | with_reducible refine CM.w_listL ?_ | with_reducible refine CM.w_listT ?_ | with_reducible refine CM.w_tupL ?_ | with_reducible refine CM.w_tupT ?_
  | ((with_reducible refine CM.okG_setC ?_); (try dsimp only [List.set, CM.fzW]))
  | ((with_reducible refine' CM.okW_ix ?hv ?_); (case hv => rfl))
  | ((with_reducible refine' CM.okB_test (CM.okE_eqn ⟨_, ?hv, ?_⟩)); (case hv => rfl))
  | ((with_reducible refine' CM.okB_testd ⟨_, ?hv, ?_⟩); (case hv => rfl)))
local macro_rules | `(tactic| walk_at "p") => `(tactic| repeat walk_at "p1")
end
end CM
namespace SL
open PySem PySem.Spec PyProof.Rows L2
end SL
namespace CM
open PySem PySem.Spec PyProof.Rows L2 SL
end CM
namespace CM
open PySem PySem.Spec PyProof.Rows L2 SL
end CM
namespace CM
open PySem PySem.Spec PyProof.Rows L2 SL
end CM
namespace CM
open PySem PySem.Spec PyProof.Rows L2 SL
end CM
namespace SL
open PySem PySem.Spec PyProof.Rows L2
theorem count_texts {k : Str} {us : List Value} {ys : List Str} (are : StrsAre us ys) : us.countP (isStrOf k) = ys.count k := by
  induction are with
  | nil => rfl
  | cons y t _ ih => rw [List.countP_cons, ih, List.count_cons]; rfl
section
variable {X : Cx} {pins : List (Addr × Obj)} {s : Shared} {σ : L2.St} {H : Hp} {p : Addr} {xs : List V}
/-- a list as the builtins of lists read it -/
theorem list_read (I : Inv X pins σ H s) (held : SqL X.K H p xs) : ∃ its n dd sl, Vals xs its ∧ xs.length ≤ sizeLine ∧ s.heap.get? p = some { cls := .type "list", dict := dd, data := .seq its.toArray n, slots := sl } := by
  obtain ⟨its, rv, ⟨⟨cl, dd, dt, sl⟩, n, at_, c, _, d⟩, few⟩ := I.list held
  obtain rfl : cl = .type "list" := c
  obtain rfl : dt = .seq its.toArray n := d
  exact ⟨its, n, dd, sl, rv, few, at_⟩
def rCntS (K : PySem.W.Frag) : V → List V → Hp → VK → Prop := fun x xs H Q => ∃ (p : Addr) (ys : List Str) (k : Str), x = .ref p ∧ xs = [.str k] ∧ SqL K H p (ys.map V.str) ∧ Q (.int (ys.count k : Nat)) H
theorem mt_countS : MtR X "list.count" (rCntS X.K) := by
  rintro pins s σ H _ _ v us Q I rx rxs ⟨p, ys, k, rfl, rfl, held, q⟩
  obtain rfl : v = .ref p := rx
  obtain ⟨u, rfl, ru⟩ := rxs.one
  obtain ⟨t, rfl⟩ := ru
  obtain ⟨its, n, dd, sl, rv, _, at_⟩ := list_read I held
  have same := eq_isStrOf k t rv.strs
  refine call_meets PySem.F.slot_list_count ⟨_, at_, rfl⟩ PySem.F.entry_list_count (PySem.F.args_list_count_2 _ _) (SeqAt.list_countAt p its.toArray n dd sl (.str k t) (isStrOf k)) ⟨at_, fun y hy => (same y (Array.mem_toList_iff.2 hy)).at _ _, ?_⟩
  exact ⟨.int (ys.count k : Nat), H, I.tok _, ⟨s.toks, by rw [← count_texts rv.strs]⟩, q⟩
end
end SL
namespace CM
open PySem PySem.Spec PyProof.Rows L2 SL
section
variable {f : PySem.W.Frag} {WW : WX} {ta tb : TE} {ma mb : Mo W}
/-- xs.count(z), texts -/
def mCntS (a b : Mo W) : Mo W := fun ρ h => bindR (a ρ h) fun w ρ h => (deref h w).bind fun d => match d.u with
  | .lst _ => bindR (b ρ h) fun y ρ h => (deref h w).bind fun d => (deref h y).bind fun e => match d.u, e.u with
    | .lst cs, .str z => (strsOf cs).map fun cs => .ok (.cl (.int (cs.count z : Nat))) ρ h
    | _, _ => none
  | _ => none
theorem sim_cntS (ha : SimE f WW ta ma) (hb : SimE f WW tb mb) : SimE f WW (tBM f "list" (rCntS f) ta (tCons tb tNil)) (mCntS ma mb) := fun F σ H ρ h st x Q E e p => by
  rcases bindR_some e with ⟨w1, ρ1, h1, e1, e⟩ | ⟨C', fs, ρ1, h1, e1, rfl⟩
  case inr => exact ha F σ H ρ h st _ _ E e1 p
  refine ha F σ H ρ h st _ _ E e1 fun v1 H1 ⟨κ, E1⟩ => ?_
  obtain ⟨d, q1, e⟩ := Option.bind_eq_some_iff.1 e
  split at e
  case h_2 => cases e
  next ds0 u0 =>
    obtain ⟨a, xs, rfl, s1, r1⟩ := nr_lst (E1.near (List.mem_cons_self ..) q1) u0
    refine ⟨.inl ⟨rfl, xs, .inl (.inl s1)⟩, ?_⟩
    rcases bindR_some e with ⟨w2, ρ2, h2, e2, e⟩ | ⟨C', fs, ρ2, h2, e2, rfl⟩
    case inr => exact hb F σ H1 ρ1 h1 _ _ _ ⟨κ, E1⟩ e2 (ExR.up p)
    refine hb F σ H1 ρ1 h1 _ _ _ ⟨κ, E1⟩ e2 fun v2 H2 ⟨κ2, E2⟩ => ?_
    obtain ⟨d2, q2, e⟩ := Option.bind_eq_some_iff.1 e
    obtain ⟨d3, q3, e⟩ := Option.bind_eq_some_iff.1 e
    split at e
    case h_2 => cases e
    next cs z u2 u3 =>
      obtain ⟨zs, told, rfl⟩ := Option.map_eq_some_iff.1 e
      obtain ⟨a2, ys, same, s2, r2⟩ := nr_lst (E2.near (List.mem_cons_of_mem _ (List.mem_cons_self ..)) q2) u2
      cases same
      obtain rfl := nr_str (E2.near (List.mem_cons_self ..) q3) u3
      obtain rfl := strs_of r2 told
      exact ⟨a, zs, z, rfl, rfl, .inl (.inl s2), p _ _ ⟨κ2, (E2.pop.pop).pushC (.int _)⟩⟩
/-- x.partition(y): the three parts -/
def fPart (x : Str) : List D → Option W
  | [b] => match b.u with
    | .str y => if (y.length == 0) = false ∧ x.length ≤ 100000 then some (.cl (.tup [.str (Txt.partition x y).1, .str (Txt.partition x y).2.1, .str (Txt.partition x y).2.2])) else none
    | _ => none
  | _ => none
/-- what is asked of x.partition(y) -/
def rPart : V → List V → Hp → VK → Prop := fun x xs H Q => ∃ a b, x = .str a ∧ xs = [.str b] ∧ (b.length == 0) = false ∧ a.length ≤ sizeLine ∧
  ∀ p, H p = none → Q (.ref p) (upd H p (.tup ([(Txt.partition a b).1, (Txt.partition a b).2.1, (Txt.partition a b).2.2].map V.str)))
theorem mt_part {X : Cx} : MtR X "str.partition" rPart := fun pins s σ H x xs v us Q I rx rs h => mt_partition pins s σ H x xs v us Q I rx rs h
theorem o_part : OpS f rPart fPart := fun κ M H x xs ds w Q away near e to => by
  unfold fPart at e
  split at e
  case h_2 => cases e
  obtain ⟨v, rfl, n⟩ := nra1 near
  split at e
  case h_2 => cases e
  next y u =>
    split at e
    case isFalse => cases e
    next ok =>
      cases e
      obtain rfl := nr_str n u
      exact ⟨x, y, rfl, rfl, ok.1, Nat.le_trans ok.2 (by decide), fun p free => to _ _ (Ex.new free) (Nw.tup free (away p free) (RepA.strs [_, _, _]))⟩
end
end CM
namespace SL
open PySem PySem.Spec PyProof.Rows L2
theorem perm_of_all {α : Type} [BEq α] [LawfulBEq α] : ∀ {xs ys : List α}, xs.Nodup → (∀ x ∈ xs, x ∈ ys) → ys.length ≤ xs.length → xs.Perm ys
  | [], ys, _, _, le => by
    obtain rfl : ys = [] := List.eq_nil_of_length_eq_zero (Nat.le_zero.1 le)
    exact .nil
  | x :: xs, ys, nd, sub, le => by
    obtain ⟨out, nd⟩ := List.nodup_cons.1 nd
    have here := sub x (List.mem_cons_self ..)
    refine (List.Perm.cons x (perm_of_all nd (fun z hz => ?_) ?_)).trans (List.perm_cons_erase here).symm
    · exact (List.mem_erase_of_ne (a := z) (b := x) fun e => out (by rw [← e]; exact hz)).2 (sub z (List.mem_cons_of_mem _ hz))
    · rw [List.length_erase_of_mem here]
      rw [List.length_cons] at le
      omega
theorem texts_of : ∀ {vs : List Value}, (∀ v ∈ vs, ∃ k t, v = .str k t) → ∃ zs, StrsAre vs zs
  | [], _ => ⟨[], .nil⟩
  | v :: vs, h => by
    obtain ⟨k, t, rfl⟩ := h v (List.mem_cons_self ..)
    obtain ⟨zs, are⟩ := texts_of fun u hu => h u (List.mem_cons_of_mem _ hu)
    exact ⟨k :: zs, .cons k t are⟩
theorem text_in {k : Str} {t : Tok} {vs : List Value} {zs : List Str} (are : StrsAre vs zs) (here : Value.str k t ∈ vs) : k ∈ zs := by
  induction are with
  | nil => cases here
  | cons y u _ ih =>
    rcases List.mem_cons.1 here with e | e
    · cases e
      exact List.mem_cons_self ..
    · exact List.mem_cons_of_mem _ (ih e)
section
variable {prog : Program} {w : World} {A : Around} {E : Value → Shared → Prop} {s : Shared}
/-- the texts of a set, gathered -/
theorem gather_set {D : Addr} {ks : List Str} {Q : List Value → Shared → Prop} (calm : A.handled = none) (held : TSet prog w s.heap D ks) (few : ks.length < 4000)
    (to : ∀ s1 vs ys, StrsAre vs ys → ys.Perm (onceZ ks) → (∀ b o, s.heap.get? b = some o → s1.heap.get? b = some o) → s1.gens = s.gens → s1.os = s.os → Q vs s1) : wpAny (model prog w) A (collect (.ref D)) Q E s := by
  obtain ⟨S, at_, F, up, led⟩ := held
  have le : (onceZ ks).length ≤ ks.length := once_len ks ▸ cntZ_le ks
  have sz : S.1.size = (onceZ ks).length := F.sz
  refine collect_set (es := S.1) (ep := S.2.1) (t := S.2.2) calm ⟨_, at_, rfl, rfl⟩ F.fit (by unfold scanBound; omega) up led fun s1 vs old _ g o p => ?_
  have told : ∀ e ∈ S.1.toList, ∃ k t, e.2 = .str k t := fun e he => by
    obtain ⟨⟨k, is, _⟩, _⟩ := F.el e he
    obtain ⟨t, q⟩ := Value.isStrOf_shape is
    exact ⟨k, t, q⟩
  obtain ⟨zs, are⟩ := texts_of (vs := vs) fun v hv => by
    obtain ⟨e, he, rfl⟩ := List.mem_map.1 (p.mem_iff.1 hv)
    exact told e he
  refine to s1 vs zs are (perm_of_all (once_nodup ks) (fun k hk => ?_) ?_).symm old g o
  · obtain ⟨e, he, is⟩ := (F.mem k).1 hk
    obtain ⟨t, q⟩ := Value.isStrOf_shape is
    exact text_in are (p.mem_iff.2 (List.mem_map.2 ⟨e, he, q⟩))
  · rw [← are.len_eq, p.length_eq, List.length_map, Array.length_toList, sz]
    exact Nat.le_refl _
/-- sorted(x) of texts, however they are gathered -/
theorem sorted_texts {l : Addr} {zs : List Str} {Q : Value → Shared → Prop} (few : zs.length < 4000)
    (gather : ∀ {E' : Value → Shared → Prop} {Q' : List Value → Shared → Prop}, (∀ s1 vs ys, StrsAre vs ys → ys.Perm zs → (∀ b o, s.heap.get? b = some o → s1.heap.get? b = some o) → s1.gens = s.gens → s1.os = s.os → Q' vs s1) → wpAny (model prog w) A.in1 (collect (.ref l)) Q' E' s)
    (to : ∀ (s1 : Shared) (h2 : Heap) (c : Nat) (out : Array Value) (ys : List Str), (∀ b o, s.heap.get? b = some o → s1.heap.get? b = some o) → (∀ b o, s.heap.get? b = some o → h2.get? b = some o) → s1.gens = s.gens → s1.os = s.os →
      h2.get? s1.heap.objs.size = some (seqObj "list" out c) → StrsAre out.toList ys → ys.Perm zs → sortedS ys = true → Q (.ref s1.heap.objs.size) { s1 with heap := h2 }) : wpAny (model prog w) A (call (.builtin "sorted") [.ref l]) Q E s := by
  refine Calls.call_function_entry kind_sorted plain_sorted entry_sorted (args_sorted1 _) ?_
  show wpAny _ _ (checkCount "sorted" 1 1 _ >>= _) _ _ _
  refine wpAny_bind (wpAny_pure (wpAny_bind (gather fun s1 vs ys are p old g o => ?_)))
  have room : vs.length ≤ sizeLine := by rw [are.len_eq, p.length_eq, sizeLine_eq]; omega
  refine wpAny_bind (wpAny_newList ?_ room)
  have new : (s1.heap.push (seqObj "list" vs.toArray 0)).get? s1.heap.objs.size = some (seqObj "list" vs.toArray 0) := Heap.get?_push_size _ rfl
  refine wpAny_bind (wpAny_holding (wpAny_call_entry slot_list_sort ⟨_, new, rfl⟩ entry_list_sort (list_sort_treeKAny strKind_oneLt new are.keysOf (fun v₁ v₂ rest e => keyKind_strs (e ▸ are)) room fun st' hp hs' => ⟨_, rfl, ?_⟩) (args_list_sort _)))
  obtain ⟨zs2, a1, a2, a3⟩ := sorted_out_str are hp hs'
  obtain ⟨c, there⟩ := sortedHeap_at (vs := vs) (out := (arrOf st').map (·.2)) new
  refine wpAny_pure ⟨_, rfl, to s1 _ c _ zs2 old (fun b o e => ?_) g o there a1 (a2.trans p) a3⟩
  have lt : b < s1.heap.objs.size := Heap.lt_size (old b o e)
  exact (sortedHeap_old (Nat.ne_of_lt lt) (by rw [size_push']; exact Nat.lt_succ_of_lt lt)).trans (Heap.get?_push_of_some _ (old b o e))
end
section
variable {X : Cx} {pins : List (Addr × Obj)} {σ : L2.St} {H : Hp} {s : Shared}
/-- the sorted list is tracked -/
theorem track_sorted {s1 : Shared} {h2 : Heap} {c : Nat} {out : Array Value} {ys : List Str} (I : Inv X pins σ H s) (old : ∀ b o, s.heap.get? b = some o → s1.heap.get? b = some o) (old2 : ∀ b o, s.heap.get? b = some o → h2.get? b = some o) (g : s1.gens = s.gens) (o : s1.os = s.os)
    (there : h2.get? s1.heap.objs.size = some (seqObj "list" out c)) (are : StrsAre out.toList ys) (few : ys.length < 4000) : H s1.heap.objs.size = none ∧ Inv X pins σ (upd H s1.heap.objs.size (.lst (ys.map V.str))) { s1 with heap := h2 } := by
  have off : H s1.heap.objs.size = none := (I.hok.kept old).fresh (Nat.le_refl _)
  have free : s.heap.get? s1.heap.objs.size = none := by
    cases q : s.heap.get? s1.heap.objs.size with
    | none => rfl
    | some o => exact absurd (Heap.lt_size (old _ o q)) (Nat.lt_irrefl _)
  have size : (ys.map V.str).length ≤ sizeLine := by rw [List.length_map, sizeLine_eq]; omega
  rcases s1 with ⟨a1, a2, a3, a4, a5⟩
  obtain rfl : a2 = s.gens := g
  obtain rfl : a5 = s.os := o
  have J : Inv X pins σ (upd H a1.objs.size (.lst (ys.map V.str))) { s with heap := h2, gens := s.gens, drawn := a3, toks := a4 } := I.call (ch := []) (g' := s.gens) (d' := a3) (t' := a4) (Un.laidN old2 free off) (I.hok.laidN old2 off ⟨size, out.toList, c, vals_of_strs are, there⟩) I.bare (fun _ z => nomatch z)
  exact ⟨off, J⟩
def rSrtZ (K : PySem.W.Frag) : List V → Hp → VK → Prop := fun vs H Q => ∃ (l : Addr) (zs : List Str), vs = [V.ref l] ∧ SqL K H l (zs.map V.str) ∧ zs.length < 4000 ∧
  ∀ (ys : List Str) (p : Addr), ys.Perm zs → sortedS ys = true → H p = none → Q (.ref p) (upd H p (.lst (ys.map V.str)))
theorem call_srtZ : CallR X (.builtin "sorted") (rSrtZ X.K) := by
  rintro pins s σ H vs us Q I r ⟨l, zs, rfl, held, few, q⟩
  obtain ⟨its, rv, pl, _⟩ := I.list held
  have are : StrsAre its zs := rv.strs
  rw [Vals.ref1 r]
  refine sorted_texts few (fun {_ _} to => collect_list pl.isList (to _ _ zs are (.refl _) (fun b o e => ?_) rfl rfl) (by rw [are.len_eq, sizeLine_eq]; omega)) fun s1 h2 c out ys old old2 g o there a1 a2 a3 => ?_
  · rw [Heap.get?_update_other _ _ (Nat.ne_of_gt (Heap.lt_size e))]
    exact Heap.get?_push_of_some _ e
  · obtain ⟨off, J⟩ := track_sorted I old old2 g o there a1 (a2.length_eq ▸ few)
    exact ⟨.ref _, _, J, rfl, q ys _ a2 a3 off⟩
def rSrtSetZ (K : PySem.W.Frag) : List V → Hp → VK → Prop := fun vs H Q => ∃ (l : Addr) (zs : List Str), vs = [V.ref l] ∧ SqL K H l (zs.map V.str) ∧ zs.length < 4000 ∧
  ∀ (ys : List Str) (p : Addr), ys.Perm (onceZ zs.reverse) → sortedS ys = true → H p = none → Q (.ref p) (upd H p (.lst (ys.map V.str)))
theorem pe_srtSetZ {a : Expr} {ta : TE} {p p2 q pos : Pos} (hc : X.calm = true) (hg : Gl X "sorted") (hm : X.mg "sorted" = none) (hg2 : Gl X "set") (hm2 : X.mg "set" = none) (ha : PE X a ta)
    (na : starEach [a] X.env = (false, eval a X.env) :: starEach [] X.env := by rfl) : PE X (.Call (.Name "sorted" p) [.Call (.Name "set" p2) [a] [] q] [] pos) (tCB (rSrtSetZ X.K) (tCons ta tNil)) := by
  refine ⟨fun pins s σ H Q I h => Call_ (ld_blt I hg hm boot_sorted ?_)⟩
  refine PyProof.Rows.callWith_builtin1 (PyProof.Rows.args_cons (Call_ (ld_blt I hg2 hm2 boot_set ?_)) rfl) rfl rfl
  refine PyProof.Rows.callWith_type1 (PyProof.Rows.args_cons (thn (ha.run pins s σ H _ I h) fun v s1 ⟨x, H1, I1, r1, l, zs, same, held, few, q⟩ => PyProof.Rows.args_nil ?_) na) na rfl
  cases same
  obtain rfl : v = .ref l := r1
  obtain ⟨its, r, pl, _⟩ := I1.list held
  refine call_setZ (I1.ok.hd hc) pl.isList (by simpa using r.strs) few fun h' tk hS hk => PyProof.Rows.args_nil ?_
  have I2 : Inv X pins σ H1 { s1 with heap := h', toks := tk } := I1.kept fun b o e => hk b o (Heap.lt_size e) e
  have few2 : zs.reverse.length < 4000 := (List.length_reverse ..).symm ▸ few
  have less : (onceZ zs.reverse).length < 4000 := Nat.lt_of_le_of_lt (once_len zs.reverse ▸ cntZ_le _) few2
  refine sorted_texts less (fun {_ _} to => gather_set (A := X.A.in1) (I1.ok.hd hc) hS few2 to) fun s2 h2 c out ys old old2 g o there a1 a2 a3 => ?_
  obtain ⟨off, J⟩ := track_sorted I2 old old2 g o there a1 (a2.length_eq ▸ less)
  exact ⟨.ref _, _, J, rfl, q ys _ a2 a3 off⟩
end
end SL
namespace CM
open PySem PySem.Spec PyProof.Rows L2 SL
/-- sorted(xs), texts -/
def dSrtZ : List D → Option W
  | [a] => match a.u with
    | .lst ds => (strsOf ds).bind fun zs => if zs.length < 4000 then some (.fr ((sortS zs).map .str)) else none
    | _ => none
  | _ => none
/-- sorted(set(xs)), texts -/
def dSrtSetZ : List D → Option W
  | [a] => match a.u with
    | .lst ds => (strsOf ds).bind fun zs => if zs.length < 4000 then some (.fr ((sortS (onceZ zs.reverse)).map .str)) else none
    | _ => none
  | _ => none
theorem sorted_one {ys zs : List Str} (p : ys.Perm zs) (h : sortedS ys = true) : ys = sortS zs := perm_eq (fun _ _ => leS_antisymm) (p.trans (sortS_perm zs).symm) (sortedS_pw h) (sortS_sorted zs)
theorem o_srtZ {K : PySem.W.Frag} : OpN K (rSrtZ K) dSrtZ := fun κ M H xs ds w Q hM near e to => by
  unfold dSrtZ at e
  split at e
  case h_2 => cases e
  obtain ⟨v, rfl, n⟩ := nra1 near
  split at e
  case h_2 => cases e
  next cs u =>
    obtain ⟨zs, told, e⟩ := Option.bind_eq_some_iff.1 e
    split at e
    case isFalse => cases e
    next few =>
      cases e
      obtain ⟨a, ys, rfl, held, r⟩ := nr_lst n u
      obtain rfl := strs_of r told
      refine ⟨a, zs, rfl, .inl (.inl held), few, fun ys p perm up free => ?_⟩
      rw [sorted_one perm up]
      exact to _ _ (Ex.new free) (Nw.new free (RepA.strs _))
theorem o_srtSetZ {K : PySem.W.Frag} : OpN K (rSrtSetZ K) dSrtSetZ := fun κ M H xs ds w Q hM near e to => by
  unfold dSrtSetZ at e
  split at e
  case h_2 => cases e
  obtain ⟨v, rfl, n⟩ := nra1 near
  split at e
  case h_2 => cases e
  next cs u =>
    obtain ⟨zs, told, e⟩ := Option.bind_eq_some_iff.1 e
    split at e
    case isFalse => cases e
    next few =>
      cases e
      obtain ⟨a, ys, rfl, held, r⟩ := nr_lst n u
      obtain rfl := strs_of r told
      refine ⟨a, zs, rfl, .inl (.inl held), few, fun ys p perm up free => ?_⟩
      rw [sorted_one perm up]
      exact to _ _ (Ex.new free) (Nw.new free (RepA.strs _))
abbrev DMix (K : PySem.W.Frag) (C : Str) (m : Fnm) : Eqv := fun x y H => DOwn K C m x y H ∨ DFlat x y H
theorem op_eqL {X : Cx} {CX : CXT} {n : Nat} {C : Str} {m : Fnm} {f : Addr} {fd : FuncData} {ps : List Str} (F : FnOk X.prog X.w X.K X.mg X.base CX n f fd ps (spM X.K m)) (hs : PySem.W.findIn X.K (.ref (He.ga X.K C)) "__eq__" = some (some (.ref f))) (hf : PySem.W.isFn X.K (.ref f) = true)
    (hb : Binds X.K fd ps []) (hx : Passes CX X E0) (hr : Room (n + 1) X.A) : OpR X (compareOp .Eq) (rEqG (DList (DMix X.K C m))) :=
  op_eqG (rcG_list (Mon.or (mon_ins saysEq_mon) mon_flat) (EqG.or (eqG_ins (E := E0) (FnOk_imp F fun _ _ _ _ h => spEq_of h) hs hf hb hx) (eqG_flat.mono (Nat.zero_le _)))) hr
open Classical in
noncomputable def mixAll (C : Str) (m : Fnm) : List D → List D → Bool
  | [], [] => true
  | d :: ds, e :: es => match d.u, e.u with
    | .str x, .str y => decide (x = y) && mixAll C m ds es
    | _, _ => (insOf C d.u).isSome && ((insOf C e.u).isSome && (decide (m [d, e] [] = some (.rt (.cl (.bl true)) [])) && (below 0 d && (below 0 e && mixAll C m ds es))))
  | _, _ => false
noncomputable def dEqL (C : Str) (m : Fnm) (a b : D) : Option W := match a.u, b.u with
  | .lst ds, .lst es => if mixAll C m ds es = true then some (.cl (.bl true)) else none
  | _, _ => none
theorem mixAll_prs {f : PySem.W.Frag} {κ M : List Addr} {H : Hp} {C : Str} {m : Fnm} : ∀ {xs ys : List V} {ds es : List D}, RepA M ⟨f, κ⟩ H xs ds → RepA M ⟨f, κ⟩ H ys es → mixAll C m ds es = true → Prs (DMix f C m) xs ys H
  | _, _, _, _, .nil, .nil, _ => Prs.nil
  | _, _, _, _, .cons h a, .cons h2 a2, e => by
    unfold mixAll at e
    split at e
    · rename_i u1 u2
      obtain ⟨same, rest⟩ := Bool.and_eq_true_iff.1 e
      obtain rfl := nr_str (.cl h) u1
      obtain rfl := nr_str (.cl h2) u2
      obtain rfl := of_decide_eq_true same
      exact Prs.cons (.inr ⟨rfl, rfl, by simp [eqV]⟩) (mixAll_prs a a2 rest)
    · simp only [Bool.and_eq_true, decide_eq_true_eq] at e
      obtain ⟨e1, e2, e3, e5, e6, e4⟩ := e
      obtain ⟨_, i1⟩ := Option.isSome_iff_exists.1 e1
      obtain ⟨_, i2⟩ := Option.isSome_iff_exists.1 e2
      obtain ⟨a1, dx, vs, rfl, q1, _⟩ := nr_ins (.cl h) i1
      obtain ⟨b1, dy, ws, rfl, q2, _⟩ := nr_ins (.cl h2) i2
      have r1 : Rep [] ⟨f, [] ++ κ⟩ H (.ref a1) _ := h.mono fun _ z => absurd z List.not_mem_nil
      have r2 : Rep [] ⟨f, [] ++ κ⟩ H (.ref b1) _ := h2.mono fun _ z => absurd z List.not_mem_nil
      exact Prs.cons (.inl ⟨a1, b1, dx, dy, vs, ws, rfl, rfl, q1, q2, _, _, r1.dn e5, r2.dn e6, e3⟩) (mixAll_prs a a2 e4)
  | _, _, _, _, .nil, .cons _ _, e => by cases e
  | _, _, _, _, .cons _ _, .nil, e => by cases e
theorem o_eqL {f : PySem.W.Frag} {C : Str} {m : Fnm} : Op2 f (rEqG (DList (DMix f C m))) (dEqL C m) := fun κ M H x y dx dy w Q hM nx ny e q => by
  unfold dEqL at e
  split at e
  case h_2 => cases e
  next u1 u2 =>
    split at e
    case isFalse => cases e
    next all =>
      cases e
      obtain ⟨a, xs, rfl, s1, r1⟩ := nr_lst nx u1
      obtain ⟨b, ys, rfl, s2, r2⟩ := nr_lst ny u2
      exact ⟨⟨a, b, xs, ys, rfl, rfl, s1, s2, mixAll_prs r1 r2 all⟩, fun H' e => q _ _ (ext_ex e) (.cl (.bl _))⟩
end CM
namespace K09
open PySem PySem.Spec PyProof.Rows L2 SL CM
noncomputable def b_parse_shape : MS := (sSeq (sIf (mNot (mTru (mCB (dIsi (.ty "str") (tabK KS (.ty "str"))) (mCons (mVar 0) (mCons (mC (.ty "str")) mNil))))) (sRaise "InvalidText" ["value"] (mCons (mFr (mVar 0)) mNil)) sNext)
    (sSeq (sAsg (mBS fPart (mVar 0) (mCons (mC (.str ":")) mNil)) (gTupM 3 (gsCons (gSetC 1) (gsCons (gSetC 2) (gsCons (gSetC 3) gsNil)))))
    (sSeq (sAsg (mIf (mTest (mOp dEq (mVar 1) (mC (.str "-")))) (mLst mNil) (mBS fSplit (mVar 1) (mCons (mC (.str "+")) mNil))) (gSetC 4))
    (sSeq (sAsg (mOp dAdd (mVar 4) (mIf (mTest (mOp dNe (mVar 2) (mC (.str "")))) (mLst (mCons (mVar 3) mNil)) (mLst mNil))) (gSetC 5))
    (sSeq (sIf (mOr (mNot (mTru (mCB dAll (mCons (mLc (mIU (mVar 5)) (gSetC 6) mYes (callN (CP.m_is_name KS false) (mCons (mFr (mVar 6)) mNil)) [6]) mNil)))) (mTest (mOp dGt (mCB dLen (mCons (mVar 5) mNil)) (mC (.int (5)))))) (sRaise "InvalidText" ["value"] (mCons (mFr (mVar 0)) mNil)) sNext)
    (sSeq (sIf (mOr (mTest (mOp dNe (mVar 4) (mCB dSrt (mCons (mVar 4) mNil)))) (mTru (mCB dAny (mCons (mLc (mIU (mVar 5)) (gSetC 6) mYes (mOp dGt (mCntS (mVar 5) (mVar 6)) (mC (.int 1))) [6]) mNil)))) (sRaise "InvalidText" ["value"] (mCons (mFr (mVar 0)) mNil)) sNext)
    (sRet (mMake false "Shape" (CP.m_Shape_D_init_D KS false) [] (mCons (mFr (mVar 4)) (mCons (mFr (mIf (mTest (mOp dNe (mVar 2) (mC (.str "")))) (mVar 3) (mC .non))) mNil))))))))))
noncomputable def m_parse_shape : Fnm := fnM false 1 6 b_parse_shape
noncomputable def b_l_law_cell : MS := (sSeq (sIf (mTest (mOp dLt (mVar 1) (mCB dLen (mCons (mVar 0) mNil)))) (sRet (mOp dIx (mVar 0) (mVar 1))) sNext)
    (sRet (mOp dAdd (mOp dMul (mC (.int 15490337)) (mVar 1)) (mC (.int 107)))))
noncomputable def m_l_law_cell : Fnm := fnM false 2 0 b_l_law_cell
noncomputable def b_l_law_bag : MS := (sRet (mLst (mCons (mCB dMax2 (mCons (mC (.int 0)) (mCons (mOp dSub (mVar 0) (mOp dPow (mC (.int 10)) (mC (.int 18)))) mNil))) (mCons (mOp dMod (mVar 0) (mC (.int 2147483629))) (mCons (mC (.int 0)) mNil)))))
noncomputable def m_l_law_bag : Fnm := fnM false 1 0 b_l_law_bag
noncomputable def b_l_law_take : MS := (sSeq (sIf (mTest (mOp dGt (mOp dIx (mVar 0) (mC (.int 0))) (mC (.int 0)))) (sSeq (sAsg (mOp dMod (mOp dIx (mVar 0) (mC (.int 0))) (mVar 1)) (gSetC 3))
    (sSeq (sAsg (mOp dDiv (mOp dIx (mVar 0) (mC (.int 0))) (mVar 1)) (gSubL (mVar 0) (mC (.int 0))))
    (sRet (mVar 3)))) sNext)
    (sSeq (sAsg (mOp dAdd (mOp dIx (mVar 0) (mC (.int 2))) (mC (.int 1))) (gSubL (mVar 0) (mC (.int 2))))
    (sSeq (sAsg (mOp dMod (mOp dPow (mOp dAdd (mOp dAdd (mOp dIx (mVar 0) (mC (.int 1))) (mOp dMul (mC (.int 15490337)) (mOp dIx (mVar 0) (mC (.int 2))))) (mC (.int 107))) (mC (.int 5))) (mC (.int 2147483647))) (gSetC 2))
    (sSeq (sAsg (mOp dMod (mOp dPow (mOp dAdd (mVar 2) (mOp dMul (mC (.int 104297)) (mOp dIx (mVar 0) (mC (.int 2))))) (mC (.int 3))) (mC (.int 2147483587))) (gSetC 2))
    (sRet (mOp dMod (mOp dDiv (mVar 2) (mC (.int 16))) (mVar 1)))))))
noncomputable def m_l_law_take : Fnm := fnM false 2 2 b_l_law_take
noncomputable def b_l_law_names : MS := (sSeq (sAsg (mC (.str "abcdefghijklmnopqrstuvwxyz")) (gSetC 2))
    (sSeq (sFg [8] (sAsg (mBS fJoin (mC (.str "")) (mCons (mLc (mRng1 (mCons (mC (.int 7)) mNil)) (gSetC 8) mYes (mOp dIx (mVar 2) (callN m_l_law_take (mCons (mCe (mVar 0)) (mCons (mFr (mC (.int 26))) mNil)))) [8]) mNil)) (gSetC 3)))
    (sSeq (sPar3 false false false 4 5 6 (mCons (callN m_l_law_take (mCons (mCe (mVar 0)) (mCons (mFr (mC (.int 8))) mNil))) (mCons (callN m_l_law_take (mCons (mCe (mVar 0)) (mCons (mFr (mC (.int 26))) mNil))) (mCons (mOp dIx (mLst (mCons (mC (.int 1)) (mCons (mC (.int 3)) (mCons (mC (.int 5)) (mCons (mC (.int 7)) (mCons (mC (.int 9)) (mCons (mC (.int 11)) (mCons (mC (.int 15)) (mCons (mC (.int 17)) mNil))))))))) (callN m_l_law_take (mCons (mCe (mVar 0)) (mCons (mFr (mC (.int 8))) mNil)))) mNil))))
    (sSeq (sAsg (mLst mNil) (gSet 7))
    (sSeq (sFor (mRng1 (mCons (mVar 1) mNil)) (gSetC 8) (sSeq (sAsg (mOp dAdd (mSl (mVar 3) mNoPart (mPart (mVar 4))) (mOp dIx (mVar 2) (mOp dMod (mOp dAdd (mVar 5) (mOp dMul (mVar 6) (mVar 8))) (mC (.int 26))))) (gSetC 9))
    (sDrop (mMut fAppend (mVar 7) (mCons (mOp dAdd (mVar 9) (mSl (mVar 3) (mPart (mVar 4)) (mPart (mOp dAdd (mVar 4) (callN m_l_law_take (mCons (mCe (mVar 0)) (mCons (mFr (mOp dSub (mC (.int 8)) (mVar 4))) mNil))))))) mNil)))))
    (sSeq (sIf (mAnd (mTest (mOp dGt (mVar 1) (mC (.int 1)))) (mAnd (mTest (mOp dLt (mCB dLen (mCons (mOp dIx (mVar 7) (mC (.int 0))) mNil)) (mC (.int 8)))) (mTest (mOp dEq (callN m_l_law_take (mCons (mCe (mVar 0)) (mCons (mFr (mC (.int 3))) mNil))) (mC (.int 0)))))) (sAsg (mOp dAdd (mOp dIx (mVar 7) (mC (.int 0))) (mOp dIx (mVar 2) (callN m_l_law_take (mCons (mCe (mVar 0)) (mCons (mFr (mC (.int 26))) mNil))))) (gSubL (mVar 7) (mC (.int 1)))) sNext)
    (sRet (mVar 7))))))))
noncomputable def m_l_law_names : Fnm := fnM false 2 8 b_l_law_names
noncomputable def b_l_law_pick : MS := (sSeq (sPar true true 3 4 (mCons (mLstRg (mVar 1)) (mCons (mLst mNil) mNil)))
    (sSeq (sFor (mRng1 (mCons (callN m_l_law_take (mCons (mCe (mVar 0)) (mCons (mFr (mOp dAdd (mCB dMin2 (mCons (mVar 1) (mCons (mVar 2) mNil))) (mC (.int 1)))) mNil))) mNil)) (gSetC 5) (sDrop (mMut fAppend (mVar 4) (mCons (mMut fPopAt (mVar 3) (mCons (callN m_l_law_take (mCons (mCe (mVar 0)) (mCons (mFr (mCB dLen (mCons (mVar 3) mNil))) mNil))) mNil)) mNil))))
    (sSeq (sIf (mOr (mTest (mOp dEq (mVar 3) (mLst mNil))) (mOr (mTest (mOp dGt (mCB dLen (mCons (mVar 4) mNil)) (mC (.int 4)))) (mTest (mOp dEq (callN m_l_law_take (mCons (mCe (mVar 0)) (mCons (mFr (mC (.int 2))) mNil))) (mC (.int 0)))))) (sRet (mTup (mCons (mCB dSrt (mCons (mVar 4) mNil)) (mCons (mC .non) mNil)))) sNext)
    (sRet (mTup (mCons (mCB dSrt (mCons (mVar 4) mNil)) (mCons (mOp dIx (mVar 3) (callN m_l_law_take (mCons (mCe (mVar 0)) (mCons (mFr (mCB dLen (mCons (mVar 3) mNil))) mNil)))) mNil)))))))
noncomputable def m_l_law_pick : Fnm := fnM false 3 3 b_l_law_pick
noncomputable def b_l_law_near : MS := (sSeq (sAsg (mTup (mCons (mCe (mCB dList (mCons (mOp dIx (mVar 2) (mC (.int 0))) mNil))) (mCons (mFr (mOp dIx (mVar 2) (mC (.int 1)))) mNil))) (gTupM 2 (gsCons (gSet 3) (gsCons (gSetC 4) gsNil))))
    (sSeq (sAsg (mLc (mRng1 (mCons (mVar 1) mNil)) (gSetC 7) (mTest (mOp dNi (mVar 7) (mVar 3))) (mVar 7) [7]) (gSetC 5))
    (sSeq (sAsg (callN m_l_law_take (mCons (mCe (mVar 0)) (mCons (mFr (mC (.int 4))) mNil))) (gSetC 6))
    (sSeq (sIf (mAnd (mTest (mOp dLt (mVar 6) (mC (.int 2)))) (mTest (mOp dNe (mVar 5) (mLst mNil)))) (sAsg (mCB dSrt (mCons (mOp dAdd (mVar 3) (mLst (mCons (mOp dIx (mVar 5) (callN m_l_law_take (mCons (mCe (mVar 0)) (mCons (mFr (mCB dLen (mCons (mVar 5) mNil))) mNil)))) mNil))) mNil)) (gSet 3)) sNext)
    (sSeq (sIf (mAnd (mTest (mOp dEq (mVar 6) (mC (.int 2)))) (mTest (mOp dNe (mVar 3) (mLst mNil)))) (sDrop (mMut fPopAt (mVar 3) (mCons (callN m_l_law_take (mCons (mCe (mVar 0)) (mCons (mFr (mCB dLen (mCons (mVar 3) mNil))) mNil))) mNil))) sNext)
    (sSeq (sAsg (mLc (mRng1 (mCons (mVar 1) mNil)) (gSetC 7) (mTest (mOp dNi (mVar 7) (mVar 3))) (mVar 7) [7]) (gSetC 5))
    (sSeq (sIf (mOr (mTest (mOp dIn (mVar 4) (mVar 3))) (mTest (mOp dEq (mVar 6) (mC (.int 3))))) (sAsg (mC .non) (gSetC 4)) sNext)
    (sSeq (sIf (mAnd (mTest (mOp dNe (mVar 5) (mLst mNil))) (mTest (mOp dEq (callN m_l_law_take (mCons (mCe (mVar 0)) (mCons (mFr (mC (.int 3))) mNil))) (mC (.int 0))))) (sAsg (mOp dIx (mVar 5) (callN m_l_law_take (mCons (mCe (mVar 0)) (mCons (mFr (mCB dLen (mCons (mVar 5) mNil))) mNil)))) (gSetC 4)) sNext)
    (sRet (mTup (mCons (mSl (mVar 3) mNoPart (mPart (mC (.int 5)))) (mCons (mIf (mTest (mOp dLt (mCB dLen (mCons (mVar 3) mNil)) (mC (.int 5)))) (mVar 4) (mC .non)) mNil))))))))))))
noncomputable def m_l_law_near : Fnm := fnM false 3 5 b_l_law_near
noncomputable def b_l_law_parts : MS := (sSeq (sPar3 true true false 3 4 5 (mCons (mLst mNil) (mCons (mLst mNil) (mCons (callN m_l_law_take (mCons (mCe (mVar 0)) (mCons (mFr (mC (.int 3))) mNil))) mNil))))
    (sSeq (sFor (mRng1 (mCons (mVar 2) mNil)) (gSetC 6) (sSeq (sAsg (callN m_l_law_pick (mCons (mCe (mVar 0)) (mCons (mFr (mVar 1)) (mCons (mFr (mC (.int 5))) mNil)))) (gSetC 7))
    (sSeq (sIf (mAnd (mTest (mOp dGt (mVar 5) (mC (.int 0)))) (mAnd (mTest (mOp dNe (mVar 4) (mLst mNil))) (mTest (mOp dGt (callN m_l_law_take (mCons (mCe (mVar 0)) (mCons (mFr (mC (.int 3))) mNil))) (mC (.int 0)))))) (sAsg (callN m_l_law_near (mCons (mCe (mVar 0)) (mCons (mFr (mVar 1)) (mCons (mFr (mOp dIx (mVar 4) (callN m_l_law_take (mCons (mCe (mVar 0)) (mCons (mFr (mCB dLen (mCons (mVar 4) mNil))) mNil))))) mNil)))) (gSetC 7)) sNext)
    (sSeq (sDrop (mMut fAppend (mVar 4) (mCons (mVar 7) mNil)))
    (sIf (mAnd (mTest (mOp dNiD (mVar 7) (mVar 3))) (mTest (mOp dGt (callN m_l_law_take (mCons (mCe (mVar 0)) (mCons (mFr (mC (.int 5))) mNil))) (mC (.int 0))))) (sDrop (mMut fAppend (mVar 3) (mCons (mVar 7) mNil))) sNext)))))
    (sRet (mVar 3))))
noncomputable def m_l_law_parts : Fnm := fnM false 3 5 b_l_law_parts
noncomputable def b_l_law_shape : MS := (sSeq (sPar true true 3 4 (mCons (mCB dList (mCons (mOp dIx (mVar 2) (mC (.int 0))) mNil)) (mCons (mLst mNil) mNil)))
    (sSeq (sFor (mRng1 (mCons (mCB dLen (mCons (mVar 3) mNil)) mNil)) (gSetC 5) (sDrop (mMut fAppend (mVar 4) (mCons (mOp dIx (mVar 1) (mMut fPopAt (mVar 3) (mCons (callN m_l_law_take (mCons (mCe (mVar 0)) (mCons (mFr (mCB dLen (mCons (mVar 3) mNil))) mNil))) mNil))) mNil))))
    (sRet (mMake false "Shape" (CP.m_Shape_D_init_D KS false) [] (mCons (mFr (mOp dIx (mLst (mCons (mVar 4) (mCons (mCB dTuple (mCons (mVar 4) mNil)) mNil))) (callN m_l_law_take (mCons (mCe (mVar 0)) (mCons (mFr (mC (.int 2))) mNil))))) (mCons (mFr (mIf (mTest (mOp dIs (mOp dIx (mVar 2) (mC (.int 1))) (mC .non))) (mC .non) (mOp dIx (mVar 1) (mOp dIx (mVar 2) (mC (.int 1)))))) mNil))))))
noncomputable def m_l_law_shape : Fnm := fnM false 3 3 b_l_law_shape
noncomputable def b_l_law_is_name : MS := (sSeq (sAsg (mLc (mIU (mVar 0)) (gSetC 2) (mTest (mOp dNi (mVar 2) (mC (.str "abcdefghijklmnopqrstuvwxyz")))) (mVar 2) [2]) (gSetC 1))
    (sRet (mAndV (mChain dLe dLe (mC (.int 1)) (mCB dLen (mCons (mVar 0) mNil)) (mC (.int 8))) (mOp dEq (mVar 1) (mLst mNil)))))
noncomputable def m_l_law_is_name : Fnm := fnM false 1 2 b_l_law_is_name
noncomputable def b_l_law_read : MS := (sSeq (sAsg (mBS fSplit (mVar 0) (mCons (mC (.str ":")) mNil)) (gSetC 1))
    (sSeq (sAsg (mIf (mTest (mOp dEq (mOp dIx (mVar 1) (mC (.int 0))) (mC (.str "-")))) (mLst mNil) (mBS fSplit (mOp dIx (mVar 1) (mC (.int 0))) (mCons (mC (.str "+")) mNil))) (gSetC 2))
    (sSeq (sAsg (mOp dAdd (mVar 2) (mSl (mVar 1) (mPart (mC (.int 1))) mNoPart)) (gSetC 3))
    (sSeq (sIf (mOr (mTest (mOp dGt (mCB dLen (mCons (mVar 1) mNil)) (mC (.int 2)))) (mTest (mOp dNe (mLc (mIU (mVar 3)) (gSetC 4) (mNot (mTru (callN m_l_law_is_name (mCons (mFr (mVar 4)) mNil)))) (mVar 4) [4]) (mLst mNil)))) (sRet (mC .non)) sNext)
    (sSeq (sIf (mOr (mTest (mOp dNe (mVar 2) (mCB dSrtSetZ (mCons (mVar 2) mNil)))) (mOr (mTest (mOp dNe (mCB dLenSetZ (mCons (mVar 3) mNil)) (mCB dLen (mCons (mVar 3) mNil)))) (mTest (mOp dGt (mCB dLen (mCons (mVar 3) mNil)) (mC (.int 5)))))) (sRet (mC .non)) sNext)
    (sRet (mLst (mCons (mVar 2) (mCons (mIf (mTest (mOp dEq (mCB dLen (mCons (mVar 1) mNil)) (mC (.int 2)))) (mOp dIx (mVar 1) (mC (.int 1))) (mC .non)) mNil)))))))))
noncomputable def m_l_law_read : Fnm := fnM false 1 4 b_l_law_read
noncomputable def b_l_law_caught : MS := (sTry 1 ["InvalidText"] (sRet (mLst (mCons (mC (.str "told")) (mCons (callM m_parse_shape (mCons (mFr (mVar 0)) mNil)) mNil)))) (("InvalidText", (xLst (xCons (fun _ => some (.cl (.str "text"))) (xCons (xFld "value") (fun _ => some []))))) :: []))
noncomputable def m_l_law_caught : Fnm := fnM false 1 1 b_l_law_caught
noncomputable def b_l_law_right : MS := (sSeq (sPar false false 1 2 (mCons (callN m_l_law_read (mCons (mFr (mVar 0)) mNil)) (mCons (callN m_l_law_caught (mCons (mFr (mVar 0)) mNil)) mNil)))
    (sSeq (sIf (mTest (mOp dIs (mVar 1) (mC .non))) (sRet (mOp dEq (mVar 2) (mLst (mCons (mC (.str "text")) (mCons (mVar 0) mNil))))) sNext)
    (sRet (mAndV (mOp (dEqL "Shape" (CP.m_Shape_D_eq_D KS false)) (mVar 2) (mLst (mCons (mC (.str "told")) (mCons (mMake false "Shape" (CP.m_Shape_D_init_D KS false) [] (mCons (mFr (mOp dIx (mVar 1) (mC (.int 0)))) (mCons (mFr (mOp dIx (mVar 1) (mC (.int 1)))) mNil))) mNil)))) (mOp dEq (mStrO "Shape" (CP.m_Shape_D_str_D KS false) (mCons (mOp dIx (mVar 2) (mC (.int 1))) mNil)) (mVar 0))))))
noncomputable def m_l_law_right : Fnm := fnM false 1 2 b_l_law_right
noncomputable def b_l_law_spoilt : MS := (sSeq (sAsg (mBS fPart (mVar 2) (mCons (mC (.str ":")) mNil)) (gTupM 3 (gsCons (gSetC 3) (gsCons (gSetC 4) (gsCons (gSetC 5) gsNil)))))
    (sSeq (sPar true false 6 7 (mCons (mBS fSplit (mVar 3) (mCons (mC (.str "+")) mNil)) (mCons (callN m_l_law_take (mCons (mCe (mVar 0)) (mCons (mFr (mC (.int 8))) mNil))) mNil)))
    (sSeq (sPar false false 8 9 (mCons (callN m_l_law_take (mCons (mCe (mVar 0)) (mCons (mFr (mCB dLen (mCons (mVar 6) mNil))) mNil))) (mCons (callN m_l_law_take (mCons (mCe (mVar 0)) (mCons (mFr (mCB dLen (mCons (mVar 6) mNil))) mNil))) mNil)))
    (sSeq (sAsg (callN m_l_law_take (mCons (mCe (mVar 0)) (mCons (mFr (mOp dAdd (mCB dLen (mCons (mVar 2) mNil)) (mC (.int 1)))) mNil))) (gSetC 10))
    (sSeq (sAsg (mOp dIx (mC (.str "abz+:-A 1_~\n")) (callN m_l_law_take (mCons (mCe (mVar 0)) (mCons (mFr (mC (.int 12))) mNil)))) (gSetC 11))
    (sSeq (sIf (mTest (mOp dEq (mVar 7) (mC (.int 0)))) (sRet (mOp dAdd (mOp dAdd (mSl (mVar 2) mNoPart (mPart (mVar 10))) (mVar 11)) (mSl (mVar 2) (mPart (mVar 10)) mNoPart))) sNext)
    (sSeq (sIf (mTest (mOp dEq (mVar 7) (mC (.int 1)))) (sRet (mOp dAdd (mSl (mVar 2) mNoPart (mPart (mVar 10))) (mSl (mVar 2) (mPart (mOp dAdd (mVar 10) (mC (.int 1)))) mNoPart))) sNext)
    (sSeq (sIf (mTest (mOp dEq (mVar 7) (mC (.int 2)))) (sRet (mOp dAdd (mOp dAdd (mSl (mVar 2) mNoPart (mPart (mVar 10))) (mVar 11)) (mSl (mVar 2) (mPart (mOp dAdd (mVar 10) (mC (.int 1)))) mNoPart))) sNext)
    (sSeq (sIf (mTest (mOp dEq (mVar 7) (mC (.int 3)))) (sAsg (mLst (mCons (mOp dIx (mOp dAdd (mVar 1) (mLst (mCons (mOp dIx (mVar 6) (mVar 9)) (mCons (mC (.str "abcdefghi")) (mCons (mC (.str "")) (mCons (mC (.str "-")) mNil)))))) (callN m_l_law_take (mCons (mCe (mVar 0)) (mCons (mFr (mOp dAdd (mCB dLen (mCons (mVar 1) mNil)) (mC (.int 4)))) mNil)))) mNil)) (gSlcL (mVar 6) (mPart (mVar 8)) (mPart (mVar 8)))) sNext)
    (sSeq (sIf (mTest (mOp dEq (mVar 7) (mC (.int 4)))) (sAsg (mTup (mCons (mFr (mOp dIx (mVar 6) (mVar 9))) (mCons (mFr (mOp dIx (mVar 6) (mVar 8))) mNil))) (gTupM 2 (gsCons (gSubL (mVar 6) (mVar 8)) (gsCons (gSubL (mVar 6) (mVar 9)) gsNil)))) sNext)
    (sSeq (sIf (mTest (mOp dEq (mVar 7) (mC (.int 5)))) (sDrop (mMut fPopAt (mVar 6) (mCons (mVar 8) mNil))) sNext)
    (sSeq (sIf (mTest (mOp dEq (mVar 7) (mC (.int 6)))) (sRet (mOp dAdd (mVar 3) (mOp dIx (mLst (mCons (mOp dAdd (mC (.str ":")) (mOp dIx (mVar 1) (mC (.int 0)))) (mCons (mC (.str ":")) (mCons (mC (.str "")) (mCons (mOp dAdd (mC (.str ":")) (mOp dIx (mVar 6) (mVar 9))) mNil))))) (callN m_l_law_take (mCons (mCe (mVar 0)) (mCons (mFr (mC (.int 4))) mNil)))))) sNext)
    (sSeq (sIf (mTest (mOp dEq (mVar 7) (mC (.int 7)))) (sAsg (mSl (mCB dSrtZ (mCons (mOp dAdd (mVar 6) (mVar 1)) mNil)) mNoPart (mPart (callN m_l_law_take (mCons (mCe (mVar 0)) (mCons (mFr (mC (.int 7))) mNil))))) (gSet 6)) sNext)
    (sRet (mOp dAdd (mOp dAdd (mBS fJoin (mC (.str "+")) (mCons (mVar 6) mNil)) (mVar 4)) (mVar 5))))))))))))))))
noncomputable def m_l_law_spoilt : Fnm := fnM false 3 9 b_l_law_spoilt
noncomputable def b_law : MS := (sSeq (sFor (mRng1 (mCons (mCB dMax2 (mCons (mC (.int 2)) (mCons (mCB dMin2 (mCons (mC (.int 8)) (mCons (mCB dLen (mCons (mVar 0) mNil)) mNil))) mNil))) mNil)) (gSetC 1) (sSeq (sAsg (callN m_l_law_bag (mCons (mFr (callN m_l_law_cell (mCons (mFr (mVar 0)) (mCons (mFr (mVar 1)) mNil)))) mNil)) (gSet 2))
    (sSeq (sAsg (callN m_l_law_names (mCons (mCe (mVar 2)) (mCons (mFr (mOp dAdd (mC (.int 1)) (callN m_l_law_take (mCons (mCe (mVar 2)) (mCons (mFr (mC (.int 8))) mNil))))) mNil))) (gSetC 3))
    (sSeq (sFor (mIU (mOp dAdd (callN m_l_law_parts (mCons (mCe (mVar 2)) (mCons (mFr (mCB dLen (mCons (mVar 3) mNil))) (mCons (mFr (mC (.int 5))) mNil)))) (mLst (mCons (mTup (mCons (mLst mNil) (mCons (mC .non) mNil))) mNil)))) (gSetC 4) (sSeq (sAsg (mCB dSrt (mCons (mLc (mIU (mOp dIx (mVar 4) (mC (.int 0)))) (gSetC 11) mYes (mOp dIx (mVar 3) (mVar 11)) [11]) mNil)) (gSetC 6))
    (sSeq (sAsg (mOp dAdd (mIf (mTest (mOp dNe (mVar 6) (mLst mNil))) (mBS fJoin (mC (.str "+")) (mCons (mVar 6) mNil)) (mC (.str "-"))) (mIf (mTest (mOp dIs (mOp dIx (mVar 4) (mC (.int 1))) (mC .non))) (mC (.str "")) (mOp dAdd (mC (.str ":")) (mOp dIx (mVar 3) (mOp dIx (mVar 4) (mC (.int 1))))))) (gSetC 7))
    (sSeq (sIf (mOr (mTest (mOp dNe (mStrO "Shape" (CP.m_Shape_D_str_D KS false) (mCons (callN m_l_law_shape (mCons (mCe (mVar 2)) (mCons (mFr (mVar 3)) (mCons (mFr (mVar 4)) mNil)))) mNil)) (mVar 7))) (mNot (mTru (callN m_l_law_right (mCons (mFr (mVar 7)) mNil))))) (sRet (mC (.bl false))) sNext)
    (sSeq (sFor (mRng1 (mCons (mC (.int 6)) mNil)) (gSetC 8) (sSeq (sAsg (callN m_l_law_spoilt (mCons (mCe (mVar 2)) (mCons (mFr (mVar 3)) (mCons (mFr (mVar 7)) mNil)))) (gSetC 10))
    (sIf (mOr (mNot (mTru (callN m_l_law_right (mCons (mFr (mVar 10)) mNil)))) (mNot (mTru (callN m_l_law_right (mCons (mFr (callN m_l_law_spoilt (mCons (mCe (mVar 2)) (mCons (mFr (mVar 3)) (mCons (mFr (mVar 10)) mNil))))) mNil))))) (sRet (mC (.bl false))) sNext)))
    (sIf (mOr (mNot (mTru (callN m_l_law_right (mCons (mFr (mOp dAdd (mVar 7) (mC (.str "\n")))) mNil)))) (mNot (mTru (callN m_l_law_right (mCons (mFr (mOp dAdd (mC (.str " ")) (mVar 7))) mNil))))) (sRet (mC (.bl false))) sNext))))))
    (sSeq (sFor (mIU (mLst (mCons (mC .non) (mCons (mC (.bl true)) (mCons (mC (.int 0)) (mCons (mCe (mLst mNil)) (mCons (mTup (mCons (mC (.str "a")) mNil)) (mCons mDNew (mCons (mMake false "Shape" (CP.m_Shape_D_init_D KS false) [D.non] (mCons (mFr (mLst (mCons (mC (.str "a")) mNil))) mNil)) (mCons (mOp dPow (mC (.int 10)) (mC (.int 29))) (mCons (mCe (mLst (mCons (mC (.str "a")) mNil))) mNil))))))))))) (gSet 5) (sSeq (sAsg (callN m_l_law_caught (mCons (mFr (mVar 5)) mNil)) (gSetC 9))
    (sSeq (sIf (mTru (mCB (dIsi (.ty "list") (tabK KS (.ty "list"))) (mCons (mVar 5) (mCons (mC (.ty "list")) mNil)))) (sDrop (mMut fAppend (mVar 5) (mCons (mC (.str "late")) mNil))) sNext)
    (sIf (mOr (mTest (mOp dNe (mOp dIx (mVar 9) (mC (.int 0))) (mC (.str "text")))) (mTest (mOp dNe (mAlt (mCB dReprX (mCons (mOp dIx (mVar 9) (mC (.int 1))) mNil)) (mStrO "Shape" (CP.m_Shape_D_repr_D KS false) (mCons (mOp dIx (mVar 9) (mC (.int 1))) mNil))) (mAlt (mCB dReprX (mCons (mVar 5) mNil)) (mStrO "Shape" (CP.m_Shape_D_repr_D KS false) (mCons (mVar 5) mNil)))))) (sRet (mC (.bl false))) sNext))))
    (sFg [7] (sIf (mTest (mOp dNe (mLc (mIU (mLst (mCons (mC (.str "")) (mCons (mC (.str ":")) (mCons (mC (.str "-:")) (mCons (mC (.str "+")) (mCons (mC (.str "a+")) (mCons (mC (.str "a+-")) (mCons (mC (.str "--")) mNil))))))))) (gSetC 7) (mNot (mTru (callN m_l_law_right (mCons (mFr (mVar 7)) mNil)))) (mVar 7) [7]) (mLst mNil))) (sRet (mC (.bl false))) sNext)))))))
    (sRet (mC (.bl true))))
noncomputable def m_law : Fnm := fnM false 1 11 b_law
end K09
namespace K09
open PySem PySem.Spec PyProof.Rows L2 SL CM
theorem ksok : KsOk KS := ⟨by decide +kernel, by decide +kernel, by decide +kernel⟩
theorem ownS : Kd.own "Shape" ∈ KS := by decide +kernel
theorem first_in {c : Nat} : ∀ {a : List Nat}, c ∈ a → ∃ p q, a = p ++ c :: q ∧ c ∉ p
  | d :: a, h => by
    by_cases e : c = d
    · exact ⟨[], a, by rw [e]; rfl, List.not_mem_nil⟩
    · obtain ⟨p, q, rfl, out⟩ := first_in (a := a) ((List.mem_cons.1 h).resolve_left e)
      exact ⟨d :: p, q, rfl, fun z => (List.mem_cons.1 z).elim e out⟩
theorem colon_eq : (":" : Str) = SX.S [58] := by decide +kernel
theorem emp_eq : ("" : Str) = SX.S [] := by decide +kernel
theorem split_no {a : List Nat} (h : 58 ∉ a) : Txt.split (SX.S a) ":" = [SX.S a] := by
  rw [colon_eq, SX.split_S (List.cons_ne_nil _ _) (by decide)]
  have e := SX.spl_join (c := 58) (sep := []) (parts := [a]) (List.cons_ne_nil _ _) (fun p hp => by rw [List.mem_singleton.1 hp]; exact h)
  exact congrArg (List.map SX.S) e
theorem split_at {p q : List Nat} (h : 58 ∉ p) : Txt.split (SX.S (p ++ 58 :: q)) ":" = SX.S p :: Txt.split (SX.S q) ":" := by
  rw [colon_eq, SX.split_S (List.cons_ne_nil _ _) (by decide), SX.split_S (List.cons_ne_nil _ _) (by decide)]
  exact congrArg (List.map SX.S) (SX.spl_free (sep := [58]) q (List.cons_ne_nil _ _) (SX.free_head h))
theorem cut_cases (x : Str) : (Txt.partition x ":" = (x, ("" : Str), ("" : Str)) ∧ Txt.split x ":" = [x]) ∨
    ∃ h t r, Txt.partition x ":" = (h, (":" : Str), t) ∧ x = h ++ ((":" : Str) ++ t) ∧ Txt.split x ":" = h :: r ∧ (r = [t] ∨ (2 ≤ r.length ∧ nmB t = false)) := by
  obtain ⟨a, rfl⟩ : ∃ a, x = SX.S a := ⟨x.cps.toList, (SX.S_tl x).symm⟩
  by_cases h : 58 ∈ a
  · obtain ⟨p, q, rfl, out⟩ := first_in h
    refine .inr ⟨SX.S p, SX.S q, Txt.split (SX.S q) ":", ?_, ?_, split_at out, ?_⟩
    · have e := SX.partition_some (b := [58]) (List.cons_ne_nil _ _) (SX.par_head (sep := []) q out)
      rw [← colon_eq] at e
      exact e
    · rw [colon_eq, SX.S_cat, SX.S_cat]
      rfl
    · by_cases h2 : 58 ∈ q
      · obtain ⟨p2, q2, rfl, out2⟩ := first_in h2
        refine .inr ⟨?_, ?_⟩
        · rw [split_at out2, List.length_cons]
          have := PyProof.Rows.split_pos (SX.S q2) ":"
          omega
        · refine Bool.eq_false_iff.2 fun z => ?_
          have := (nmB_iff.1 z).2.2 58 (show 58 ∈ p2 ++ 58 :: q2 from List.mem_append_right _ (List.mem_cons_self ..))
          revert this
          decide +kernel
      · exact .inl (split_no h2)
  · refine .inl ⟨?_, split_no h⟩
    have e := SX.partition_none (b := [58]) (List.cons_ne_nil _ _) (SX.par_head_none (sep := []) h)
    rw [← colon_eq, ← emp_eq] at e
    exact e
/-- the parts of a text -/
def hd (x : Str) : Str := (Txt.partition x ":").1
def fxOf (z : Str) : List Str := if z = "-" then [] else Txt.split z "+"
def spOf (x : Str) : Option Str := if (Txt.partition x ":").2.1 = "" then none else some (Txt.partition x ":").2.2
def fxs (x : Str) : List Str := fxOf (hd x)
def nms (x : Str) : List Str := fxs x ++ (spOf x).toList
/-- may the text be read -/
def Rd (x : Str) : Prop := (nms x).length ≤ 5 ∧ (nms x).Nodup ∧ (∀ w ∈ nms x, nmB w = true) ∧ fxs x = sortS (fxs x)
instance (x : Str) : Decidable (Rd x) := by
  unfold Rd
  exact inferInstance
theorem asc_add {a b : Str} : Asc (a ++ b) ↔ Asc a ∧ Asc b := by
  obtain ⟨x, rfl⟩ := S_of a
  obtain ⟨y, rfl⟩ := S_of b
  rw [S_add]
  exact ⟨fun h => ⟨fun c hc => h c (List.mem_append_left _ hc), fun c hc => h c (List.mem_append_right _ hc)⟩, fun h c hc => (List.mem_append.1 hc).elim (h.1 c) (h.2 c)⟩
theorem mem_joinL {S : List Nat} {c : Nat} : ∀ {ps : List (List Nat)} {p : List Nat}, p ∈ ps → c ∈ p → c ∈ TL.joinL S ps
  | [q], p, hp, hc => by
    rw [List.mem_singleton.mp hp] at hc
    exact hc
  | q :: r :: ps, p, hp, hc => by
    show c ∈ q ++ (S ++ TL.joinL S (r :: ps))
    rcases List.mem_cons.mp hp with rfl | hp
    · exact List.mem_append_left _ hc
    · exact List.mem_append_right _ (List.mem_append_right _ (mem_joinL hp hc))
theorem split_asc {z w y : Str} (hz : Asc z) (hw : w ∈ Txt.split z y) : Asc w := fun c hc => by
  refine hz c ?_
  have e : Str.join y (Txt.split z y) = z := PySem.StrLaws.join_split z y
  have e2 := TL.tl_join y (Txt.split z y)
  rw [e] at e2
  show c ∈ TL.tl z
  rw [e2]
  exact mem_joinL (List.mem_map.mpr ⟨w, hw, rfl⟩) hc
theorem le_sum : ∀ {ws : List Str} {w : Str}, w ∈ ws → w.length ≤ (ws.map (·.length)).sum
  | a :: ws, w, h => by
    rw [List.map_cons, List.sum_cons]
    rcases List.mem_cons.mp h with rfl | h
    · omega
    · have := le_sum h
      omega
theorem split_len {z w y : Str} (hy : 1 ≤ y.length) (hw : w ∈ Txt.split z y) : w.length ≤ z.length := by
  have h1 := PyProof.Rows.split_weight z y hy
  have h2 := le_sum hw
  have h3 := PyProof.Rows.split_pos z y
  omega
/-- a text's parts are shorter, and of the same signs -/
theorem parts_of (x : Str) (hx : Asc x) : (hd x).length ≤ x.length ∧ Asc (hd x) ∧ ∀ t, spOf x = some t → t.length ≤ x.length ∧ Asc t := by
  have f := fact_partition x ":"
  have e := PySem.StrLaws.partition_sum x ":"
  rw [← e] at hx
  obtain ⟨a1, a3⟩ := asc_add.1 hx
  obtain ⟨a1, a2⟩ := asc_add.1 a1
  refine ⟨f.1, a1, fun t et => ?_⟩
  unfold spOf at et
  split at et
  · cases et
  · cases et
    exact ⟨f.2.2, a3⟩
theorem fx_of {z w : Str} (hz : Asc z) (hw : w ∈ fxOf z) : Asc w ∧ w.length ≤ z.length := by
  unfold fxOf at hw
  split at hw
  · cases hw
  · exact ⟨split_asc hz hw, split_len (by decide +kernel) hw⟩
theorem fx_len (z : Str) : (fxOf z).length ≤ z.length + 2 := by
  unfold fxOf
  split
  · exact Nat.zero_le _
  · exact PyProof.Rows.split_le z "+"
theorem nms_of {x w : Str} (hx : Asc x) (hw : w ∈ nms x) : Asc w ∧ w.length ≤ x.length := by
  obtain ⟨l1, a1, q⟩ := parts_of x hx
  rcases List.mem_append.1 hw with h | h
  · obtain ⟨a, b⟩ := fx_of a1 h
    exact ⟨a, by omega⟩
  · obtain ⟨l, a⟩ := q w (Option.mem_toList.1 h)
    exact ⟨a, l⟩
theorem nms_len (x : Str) : (fxs x).length ≤ x.length + 2 ∧ (nms x).length ≤ x.length + 3 := by
  have f := fact_partition x ":"
  have l : (hd x).length ≤ x.length := f.1
  have l2 := fx_len (hd x)
  refine ⟨by unfold fxs; omega, ?_⟩
  unfold nms fxs
  rw [List.length_append]
  have : (spOf x).toList.length ≤ 1 := by cases spOf x <;> simp
  omega
/-- the text of the shape that is read is the text -/
theorem read_back {x : Str} (r : Rd x) : shT (fxs x) (spOf x) = x := by
  have e : shH (fxs x) = hd x := by
    unfold shH fxs fxOf
    by_cases c : hd x = "-"
    · rw [if_pos c, if_pos rfl, c]
    · rw [if_neg c, if_neg fun z => ?_]
      · exact (TL.join_eq _ _).trans (PySem.StrLaws.join_split (hd x) "+")
      · have := PyProof.Rows.split_pos (hd x) "+"
        rw [z] at this
        exact absurd this (by decide)
  unfold shT
  rw [← r.2.2.2, e]
  unfold spOf hd
  rcases cut_cases x with ⟨q, _⟩ | ⟨h, t, _, q, eq, _⟩
  · rw [q, if_pos rfl]
    show x ++ ("" : Str) = x
    obtain ⟨y, rfl⟩ := S_of x
    rw [show ("" : Str) = S [] from by decide +kernel, S_add, List.append_nil]
  · have ne : ¬ ((":" : Str) = "") := by decide +kernel
    rw [q]
    dsimp only
    rw [if_neg ne]
    exact eq.symm
theorem rd_ok {x : Str} (r : Rd x) : ShOk (fxs x) (spOf x) where
  nm := fun z hz => nmB_iff.1 (r.2.2.1 z (List.mem_append_left _ hz))
  nd := (List.nodup_append.1 r.2.1).1
  len := by
    have := r.1
    unfold nms at this
    rw [List.length_append] at this
    omega
  sp := fun z hz => by
    have hm : z ∈ (spOf x).toList := Option.mem_toList.2 hz
    have l := r.1
    unfold nms at l
    rw [List.length_append, hz] at l
    refine ⟨nmB_iff.1 (r.2.2.1 z (List.mem_append_right _ hm)), fun c => (List.nodup_append.1 r.2.1).2.2 z c z hm rfl, ?_⟩
    have l : (fxs x).length + 1 ≤ 5 := l
    omega
end K09
namespace K09
open PySem PySem.Spec PyProof.Rows L2 SL CM
theorem nodup_count : ∀ {l : List Str}, (∀ w ∈ l, l.count w ≤ 1) ↔ l.Nodup
  | [] => ⟨fun _ => .nil, fun _ w h => absurd h List.not_mem_nil⟩
  | k :: l => by
    rw [List.nodup_cons, ← nodup_count (l := l)]
    constructor
    · intro h
      have h0 := h k (List.mem_cons_self ..)
      rw [List.count_cons_self] at h0
      refine ⟨List.count_eq_zero.1 (by omega), fun w hw => Nat.le_trans List.count_le_count_cons (h w (List.mem_cons_of_mem _ hw))⟩
    · rintro ⟨out, h⟩ w hw
      rcases List.mem_cons.1 hw with rfl | hw
      · rw [List.count_cons_self, List.count_eq_zero.2 out]
        exact Nat.le_refl _
      · rw [List.count_cons_of_ne (show k ≠ w from fun e => out (by rw [e]; exact hw))]
        exact h w hw
section
variable {ρ : List Sl} {h h0 h1 g : Tb} {N : List Sl → Tb → Prop} {T : Ps W} {L : Bool → List Sl → Tb → Prop} {X : Px} {b n k i j len m : Nat} {zs ws : List Str} {d d0 d1 e0 t p s e y v c : D} {gt : Tg} {body : MS} {ck : List (Nat × D)} {ds ps : List D} {x z : Str}
local macro_rules | `(tactic| walk_at "hv") => `(tactic| first | rfl | assumption | (exact (by assumption : _)))
local macro_rules | `(tactic| walk_at "p1") => `(tactic| first
  | with_reducible refine CM.okS_seq ?_ | with_reducible refine CM.okS_next ?_ | with_reducible refine CM.okS_asg ?_ | with_reducible refine CM.okS_ret ?_ | with_reducible refine CM.okS_drop ?_ | with_reducible refine CM.okS_aug ?_ | with_reducible refine CM.okS_cnt ?_ | with_reducible refine CM.okS_fg ?_ | with_reducible refine CM.okS_retN ?_
  | with_reducible refine CM.okE_op ?_ | with_reducible refine CM.okE_cb ?_ | with_reducible refine CM.okE_cons ?_ | with_reducible refine CM.okE_nil ?_ | with_reducible refine CM.okB_not ?_ | with_reducible refine CM.okE_c ?_ | with_reducible refine CM.okE_fr ?_ | with_reducible refine CM.okE_ce ?_ | with_reducible refine CM.okE_notV ?_ | with_reducible refine CM.okE_un ?_
  | with_reducible refine CM.okE_sl ?_ | with_reducible refine CM.okE_nopart ?_
  | ((with_reducible refine' CM.okE_var ?hv ?_); (case hv => rfl))
  | ((with_reducible refine' CM.okE_part (CM.okE_var ?hv ⟨_, ?hv2, ?_⟩)); (case hv => rfl); (case hv2 => rfl))
  | ((with_reducible refine' CM.okE_part (CM.okE_c ⟨_, ?hv2, ?_⟩)); (case hv2 => rfl))
  | ((with_reducible refine' CM.okW_eq (w := _) ?hv ?_); (case hv => (with_reducible rfl)))
  | ((with_reducible refine' CM.okW_deref ?hv ?_); (case hv => walk_at "hv")) | ((with_reducible refine' CM.okW_derefs ?hv ?_); (case hv => rfl)) | ((with_reducible refine' CM.okW_derefC ?hv ?_); (case hv => walk_at "hv")) | ((with_reducible refine' CM.okW_lstAt ?hv ?_); (case hv => walk_at "hv"))
  | with_reducible refine CM.w_add ?_ | with_reducible refine CM.w_sub ?_ | with_reducible refine CM.w_lt ?_ | with_reducible refine CM.w_le ?_ | with_reducible refine CM.w_gt ?_ | with_reducible refine CM.w_ge ?_ | with_reducible refine CM.w_addI ?_
  | with_reducible refine CM.w_mod (by omega) ?_ | with_reducible refine CM.w_div (by omega) (by rw [CM.big_eq]; omega) ?_ | with_reducible refine CM.w_mul (by rw [CM.big_eq]; omega) (by rw [CM.big_eq]; omega) (by rw [CM.big_eq]; omega) (by rw [CM.big_eq]; omega) ?_ | with_reducible refine CM.w_sq (by omega) (by omega) ?_
  | with_reducible refine CM.w_max2 ?_ | with_reducible refine CM.w_min2 ?_ | with_reducible refine CM.w_lenL ?_ | with_reducible refine CM.w_lenT ?_ | with_reducible refine CM.w_lenC ?_ | with_reducible refine CM.w_listL ?_ | with_reducible refine CM.w_listT ?_ | with_reducible refine CM.w_tupL ?_ | with_reducible refine CM.w_tupT ?_
  | ((with_reducible refine CM.okG_setC ?_); (try dsimp only [List.set, CM.fzW]))
  | ((with_reducible refine' CM.okW_ix ?hv ?_); (case hv => rfl))
  | ((with_reducible refine' CM.okB_test (CM.okE_eqn ⟨_, ?hv, ?_⟩)); (case hv => rfl))
  | ((with_reducible refine' CM.okB_testd ⟨_, ?hv, ?_⟩); (case hv => rfl)))
local macro_rules | `(tactic| walk_at "p") => `(tactic| repeat walk_at "p1")
theorem okG_tup3 {g1 g2 g3 : Tg} {x y w : D} {N : List Sl → Tb → Prop} (q : okG (g1 (.cl x) ρ h) fun ρ h => okG (g2 (.cl y) ρ h) fun ρ h => okG (g3 (.cl w) ρ h) N) : okG (gTupM 3 (gsCons g1 (gsCons g2 (gsCons g3 gsNil))) (.cl (.tup [x, y, w])) ρ h) N := by
  obtain ⟨y1, e1, y2, e2, y3, e3, p⟩ := q
  refine ⟨y3, ?_, p⟩
  show (g1 (.cl x) ρ h).bind (fun z => (g2 (.cl y) z.1 z.2).bind fun z => (g3 (.cl w) z.1 z.2).bind fun z => some z) = some y3
  rw [e1, Option.bind_some, e2, Option.bind_some, e3]
  rfl
theorem w_part {x y : Str} {Q : W → Prop} (h1 : (y.length == 0) = false) (h2 : x.length ≤ 100000) (q : Q (.cl (.tup [.str (Txt.partition x y).1, .str (Txt.partition x y).2.1, .str (Txt.partition x y).2.2]))) : okW (fPart x [.str y]) Q := ⟨_, if_pos ⟨h1, h2⟩, q⟩
theorem cnt_at {i j : Nat} (e1 : ρ[i]? = some (.cl (.lst (LS zs)))) (e2 : ρ[j]? = some (.cl (.str z))) : mCntS (mVar i) (mVar j) ρ h = some (.ok (.cl (.int (zs.count z : Nat))) ρ h) := by
  unfold mCntS
  rw [mVar_eq e1]
  show bindR (mVar j ρ h) _ = _
  rw [mVar_eq e2]
  show (strsOf (LS zs)).map _ = _
  rw [strsOf_map]
  rfl
theorem is_txt {P : Ps W} (hρ : ρ[i]? = some (.cl (.str z))) (q : P (.cl (.bl true)) ρ h) : okE (mCB (dIsi (.ty "str") (tabK KS (.ty "str"))) (mCons (mVar i) (mCons (mC (.ty "str")) mNil)) ρ h) P X :=
  okE_cb (okE_cons (okE_var hρ (okE_cons (okE_c (okE_nil (okW_eq rfl (w_isi (k := .b "str") (decide_eq_true (rfl : ("str" : String) = "str")) rfl (by decide +kernel) (by
    rw [show insK (.b "str") (.ty "str") = true from by decide +kernel]
    exact q))))))))
/-- names made of the head, and of what stands behind the colon -/
theorem parse_ok {P : W → Tb → Prop} {X : Str → List (Str × D) → Tb → Prop} (hx : Asc x) (hl : x.length ≤ 3000) (p : Rd x → P (.nw (shD (fxs x) (spOf x))) h) (q : ¬ Rd x → X "InvalidText" [("value", .str x)] h) : okF (m_parse_shape [.str x] h) P X := by
  unfold m_parse_shape
  refine okF_fn rfl ?_
  show okS (b_parse_shape [.cl (.str x), .un, .un, .un, .un, .un, .un] h) _ _ _ _
  unfold b_parse_shape
  obtain ⟨l1, a1, l2⟩ := parts_of x hx
  have ln := nms_len x
  have bad : ∀ {N : List Sl → Tb → Prop} {ρ : List Sl}, ρ[0]? = some (.cl (.str x)) → ¬ Rd x → okS (sRaise "InvalidText" ["value"] (mCons (mFr (mVar 0)) mNil) ρ h) N (fun w ρ h'' => okW (cutF false h w h'') fun x => P x.1 x.2) (fun _ _ _ => False) (fun C fs ρ h'' => okW (cutX false h fs h'') fun x => X C fs x) := fun {N ρ} e c =>
    okS_raise (okE_cons (okE_fr (okE_var e (okE_nil ⟨rfl, cutX_same rfl (q c)⟩))))
  refine okS_seq (okS_no (okB_not (okB_tru (is_txt rfl ⟨_, true, rfl, rfl, rfl, okS_next ?_⟩))))
  refine okS_seq (okS_asg (okE_bs (okE_var rfl ⟨_, rfl, okE_cons (okE_c (okE_nil (okW_eq rfl (w_part (by decide +kernel) (by omega) (okG_tup3 (okG_setC (okG_setC (okG_setC ?_))))))))⟩)))
  generalize hc : (Txt.partition x ":").2.1 = co
  generalize ht : (Txt.partition x ":").2.2 = t
  show okS ((_ : MS) [.cl (.str x), .cl (.str (hd x)), .cl (.str co), .cl (.str t), .un, .un, .un] h) _ _ _ _
  have esp : spOf x = if co = "" then none else some t := by
    unfold spOf
    rw [hc, ht]
  refine okS_seqM (fun ρ h' => ρ = [.cl (.str x), .cl (.str (hd x)), .cl (.str co), .cl (.str t), .cl (.lst (LS (fxs x))), .un, .un] ∧ h' = h) (okS_asg (okE_if (okB_test (okE_op (okE_var rfl (okE_c (okW_eq rfl (okW_eq rfl (w_eq (c := decide (hd x = "-")) rfl ⟨_, rfl, fun e => ?_, fun e => ?_⟩)))))))) ) ?_
  · refine okE_eq (w := W.fr []) rfl (okG_setC ⟨?_, rfl⟩)
    unfold fxs fxOf
    rw [if_pos (of_decide_eq_true e)]
    rfl
  · refine okE_bs (okE_var rfl ⟨_, rfl, okE_cons (okE_c (okE_nil (okW_eq rfl (w_split (by decide +kernel) (by omega) (okG_setC ⟨?_, rfl⟩)))))⟩)
    unfold fxs fxOf
    rw [if_neg (of_decide_eq_false e)]
    rfl
  rintro ρ h' ⟨rfl, rfl⟩
  refine okS_seqM (fun ρ h2 => ρ = [.cl (.str x), .cl (.str (hd x)), .cl (.str co), .cl (.str t), .cl (.lst (LS (fxs x))), .cl (.lst (LS (nms x))), .un] ∧ h2 = h') (okS_asg (okE_op (okE_var rfl (okE_if (okB_test (okE_op (okE_var rfl (okE_c (okW_eq rfl (okW_eq rfl (w_ne (c := decide (co = "")) rfl ⟨_, rfl, fun e => ?_, fun e => ?_⟩)))))))))) ) ?_
  · have e : ¬ co = "" := by simpa using e
    refine okE_lst (okE_cons (okE_var rfl (okE_nil ⟨Nat.le_of_ble_eq_true rfl, okW_eq rfl (okW_eq rfl (w_addLL (zs := fxs x) (ws := [t]) (by show (fxs x).length + 1 ≤ _; omega) (okG_setC ⟨?_, rfl⟩)))⟩)))
    unfold nms
    rw [esp, if_neg e]
    rfl
  · have e : co = "" := by simpa using e
    refine okE_lst (okE_nil ⟨Nat.le_of_ble_eq_true rfl, okW_eq rfl (okW_eq rfl (w_addLL (zs := fxs x) (ws := []) (by show (fxs x).length + 0 ≤ _; omega) (okG_setC ⟨?_, rfl⟩)))⟩)
    unfold nms
    rw [esp, if_pos e]
    rfl
  rintro ρ h2 ⟨rfl, rfl⟩
  have hlw : (LS (nms x)).length = (nms x).length := List.length_map ..
  have walk : ∀ {ρ : List Sl}, ρ[5]? = some (.cl (.lst (LS (nms x)))) → ∀ {P : Ps ItM} {X : Px}, P ⟨LS (nms x), []⟩ ρ h2 → okE (mIU (mVar 5) ρ h2) P X := fun {ρ} e {P X} q => okE_iU (okE_var e (okW_eq rfl (okW_eq rfl ⟨by rw [hlw]; omega, q⟩)))
  refine okS_seq (okS_if (okB_or (okB_not (okB_tru (okE_cb (okE_cons (okE_lc1 (ds := LS (nms x)) (fun j h' acc => h' = h2 ∧ acc = ((nms x).take j).map fun w => D.bl (nmB w)) rfl ?_ ?_ ?_)))))))
  · exact walk rfl ⟨rfl, rfl, rfl, rfl⟩
  · rintro j d h' acc hj ⟨rfl, rfl⟩
    obtain ⟨w, hw2, rfl⟩ := strs_at hj
    obtain ⟨hj2, ej⟩ := List.getElem?_eq_some_iff.mp hw2
    have hm : w ∈ nms x := List.mem_of_getElem? hw2
    refine okE_call (okE_cons (okE_fr (okE_var rfl (okE_nil (is_name_ok (d := .str w) (k := .b "str") rfl rfl (by decide +kernel) (fun y e => by cases e; exact Nat.le_trans (nms_of hx hm).2 (by omega)) ⟨rfl, rfl, ?_⟩)))))
    rw [List.take_succ_eq_append_getElem hj2, ej, List.map_append]
    rfl
  rintro h' acc ⟨eh, rfl⟩
  subst h'
  rw [hlw, List.take_of_length_le (Nat.le_refl _)]
  refine okE_nil (okW_eq rfl (okW_eq (w := .cl (.bl ((nms x).all nmB))) ?_ ⟨_, _, rfl, rfl, fun q3 => ⟨fun _ => bad rfl fun r => ?_, (fun z => nomatch z)⟩, fun q3 => ?_⟩))
  · show (blsOf ((nms x).map fun w => D.bl (nmB w))).map (fun bs => W.cl (.bl (bs.all id))) = _
    have e : ((nms x).map fun w => D.bl (nmB w)) = ((nms x).map nmB).map D.bl := by
      rw [List.map_map]
      rfl
    rw [e, blsOf_map, Option.map_some, List.all_map]
    rfl
  · have : (nms x).all nmB = true := List.all_eq_true.mpr r.2.2.1
    rw [this] at q3
    cases q3
  have hall : ∀ w ∈ nms x, nmB w = true := by
    cases q : (nms x).all nmB with
    | true => exact List.all_eq_true.mp q
    | false => rw [q] at q3; cases q3
  refine okB_test (okE_op (okE_cb (okE_cons (okE_var rfl (okE_nil (okW_eq rfl (w_lenL (okE_c (okW_eq rfl (okW_eq rfl (w_gt ⟨_, rfl, fun q2 => bad rfl fun r => ?_, fun q2 => okS_next ?_⟩)))))))))))
  · have := of_decide_eq_true q2
    have := r.1
    omega
  have q2 : (nms x).length ≤ 5 := by
    have := of_decide_eq_false q2
    omega
  have hf5 : (fxs x).length ≤ 5 := by
    have : (nms x).length = (fxs x).length + (spOf x).toList.length := List.length_append
    omega
  have hfa : Ascs (fxs x) := fun w hw => (nms_of hx (List.mem_append_left _ hw)).1
  refine okS_seq (okS_if (okB_or (okB_test (okE_op (okE_var rfl (okE_cb (okE_cons (okE_var rfl (okE_nil (okW_eq rfl (w_srt (zs := fxs x) (by omega) (okW_eq rfl (okW_eq rfl (w_ne (dEqB_L hfa fun w hw => hfa w (sortS_mem.1 hw)) ⟨_, rfl, fun e => ⟨fun _ => bad rfl fun r => ?_, (fun z => nomatch z)⟩, fun e => ?_⟩))))))))))))))
  · have e : ¬ fxs x = sortS (fxs x) := by simpa using e
    exact e r.2.2.2
  have es : fxs x = sortS (fxs x) := by simpa using e
  refine okB_tru (okE_cb (okE_cons (okE_lc1 (ds := LS (nms x)) (fun j h' acc => h' = h2 ∧ acc = ((nms x).take j).map fun w => D.bl (decide (1 < (nms x).count w))) rfl ?_ ?_ ?_)))
  · exact walk rfl ⟨rfl, rfl, rfl, rfl⟩
  · rintro j d h' acc hj ⟨rfl, rfl⟩
    obtain ⟨w, hw2, rfl⟩ := strs_at hj
    obtain ⟨hj2, ej⟩ := List.getElem?_eq_some_iff.mp hw2
    refine okE_op (okE_eq (cnt_at (zs := nms x) rfl rfl) (okE_c (okW_eq rfl (okW_eq rfl (w_gt ⟨rfl, rfl, ?_⟩)))))
    rw [List.take_succ_eq_append_getElem hj2, ej, List.map_append]
    show _ ++ [D.bl (decide ((1 : Int) < ((nms x).count w : Nat)))] = _ ++ [D.bl (decide (1 < (nms x).count w))]
    rw [show decide ((1 : Int) < (((nms x).count w : Nat) : Int)) = decide (1 < (nms x).count w) from decide_eq_decide.2 (by omega)]
  rintro h' acc ⟨eh, rfl⟩
  subst h'
  rw [hlw, List.take_of_length_le (Nat.le_refl _)]
  refine okE_nil (okW_eq rfl (okW_eq (w := .cl (.bl ((nms x).any fun w => decide (1 < (nms x).count w)))) ?_ ⟨_, _, rfl, rfl, fun q4 => bad rfl fun r => ?_, fun q4 => okS_next ?_⟩))
  · show (blsOf ((nms x).map fun w => D.bl (decide (1 < (nms x).count w)))).map (fun bs => W.cl (.bl (bs.any id))) = _
    have e : ((nms x).map fun w => D.bl (decide (1 < (nms x).count w))) = ((nms x).map fun w => decide (1 < (nms x).count w)).map D.bl := by
      rw [List.map_map]
      rfl
    rw [e, blsOf_map, Option.map_some, List.any_map]
    rfl
  · obtain ⟨w, hw, c⟩ := List.any_eq_true.1 q4
    have := nodup_count.2 r.2.1 w hw
    have := of_decide_eq_true c
    omega
  have nd : (nms x).Nodup := nodup_count.1 fun w hw => by
    have := List.any_eq_false.1 q4 w hw
    simp only [decide_eq_true_eq] at this
    omega
  have r : Rd x := ⟨q2, nd, hall, es⟩
  refine okS_ret (okE_shape ksok (okE_cons (okE_fr (okE_var rfl (okE_cons (okE_fr (okE_if (okB_test (okE_op (okE_var rfl (okE_c (okW_eq rfl (okW_eq rfl (w_ne (c := decide (co = "")) rfl ⟨_, rfl, fun e => okE_var rfl ?_, fun e => okE_c ?_⟩))))))))))))))
  · have e : ¬ co = "" := by simpa using e
    rw [if_neg e] at esp
    exact okE_nil ⟨_, _, fxs x, spOf x, by rw [esp]; rfl, rfl, rfl, rd_ok r, cut_same rfl (p r)⟩
  · have e : co = "" := by simpa using e
    rw [if_pos e] at esp
    exact okE_nil ⟨_, _, fxs x, spOf x, by rw [esp]; rfl, rfl, rfl, rd_ok r, cut_same rfl (p r)⟩
end
end K09
namespace K09
open PySem PySem.Spec PyProof.Rows L2 SL CM
theorem cnt_nodup : ∀ {l : List Str}, l.Nodup → cntZ l = l.length
  | [], _ => rfl
  | k :: l, h => by
    have h := List.nodup_cons.mp h
    rw [cntZ_cons, if_neg h.1, cnt_nodup h.2, List.length_cons]
theorem cnt_lt : ∀ {l : List Str}, ¬ l.Nodup → cntZ l < l.length
  | [], h => absurd List.nodup_nil h
  | k :: l, h => by
    rw [cntZ_cons, List.length_cons]
    have := cntZ_le l
    by_cases c : k ∈ l
    · rw [if_pos c]
      omega
    · rw [if_neg c]
      have := cnt_lt (l := l) fun n => h (List.nodup_cons.mpr ⟨c, n⟩)
      omega
theorem once_id : ∀ {l : List Str}, l.Nodup → onceZ l = l
  | [], _ => rfl
  | k :: l, h => by
    have h := List.nodup_cons.mp h
    rw [onceZ_cons, if_neg h.1, once_id h.2]
section
variable {ρ : List Sl} {h h0 h1 g : Tb} {N : List Sl → Tb → Prop} {T : Ps W} {L : Bool → List Sl → Tb → Prop} {X : Px} {b n k i j len m : Nat} {zs ws : List Str} {d d0 d1 e0 t p s e y v c : D} {gt : Tg} {body : MS} {ck : List (Nat × D)} {ds ps : List D} {x z : Str}
local macro_rules | `(tactic| walk_at "hv") => `(tactic| first | rfl | assumption | (exact (by assumption : _)))
local macro_rules | `(tactic| walk_at "p1") => `(tactic| first
  | with_reducible refine CM.okS_seq ?_ | with_reducible refine CM.okS_next ?_ | with_reducible refine CM.okS_asg ?_ | with_reducible refine CM.okS_ret ?_ | with_reducible refine CM.okS_drop ?_ | with_reducible refine CM.okS_aug ?_ | with_reducible refine CM.okS_cnt ?_ | with_reducible refine CM.okS_fg ?_ | with_reducible refine CM.okS_retN ?_
  | with_reducible refine CM.okE_op ?_ | with_reducible refine CM.okE_cb ?_ | with_reducible refine CM.okE_cons ?_ | with_reducible refine CM.okE_nil ?_ | with_reducible refine CM.okB_not ?_ | with_reducible refine CM.okE_c ?_ | with_reducible refine CM.okE_fr ?_ | with_reducible refine CM.okE_ce ?_ | with_reducible refine CM.okE_notV ?_ | with_reducible refine CM.okE_un ?_
  | with_reducible refine CM.okE_sl ?_ | with_reducible refine CM.okE_nopart ?_
  | ((with_reducible refine' CM.okE_var ?hv ?_); (case hv => rfl))
  | ((with_reducible refine' CM.okE_part (CM.okE_var ?hv ⟨_, ?hv2, ?_⟩)); (case hv => rfl); (case hv2 => rfl))
  | ((with_reducible refine' CM.okE_part (CM.okE_c ⟨_, ?hv2, ?_⟩)); (case hv2 => rfl))
  | ((with_reducible refine' CM.okW_eq (w := _) ?hv ?_); (case hv => (with_reducible rfl)))
  | ((with_reducible refine' CM.okW_deref ?hv ?_); (case hv => walk_at "hv")) | ((with_reducible refine' CM.okW_derefs ?hv ?_); (case hv => rfl)) | ((with_reducible refine' CM.okW_derefC ?hv ?_); (case hv => walk_at "hv")) | ((with_reducible refine' CM.okW_lstAt ?hv ?_); (case hv => walk_at "hv"))
  | with_reducible refine CM.w_add ?_ | with_reducible refine CM.w_sub ?_ | with_reducible refine CM.w_lt ?_ | with_reducible refine CM.w_le ?_ | with_reducible refine CM.w_gt ?_ | with_reducible refine CM.w_ge ?_ | with_reducible refine CM.w_addI ?_
  | with_reducible refine CM.w_mod (by omega) ?_ | with_reducible refine CM.w_div (by omega) (by rw [CM.big_eq]; omega) ?_ | with_reducible refine CM.w_mul (by rw [CM.big_eq]; omega) (by rw [CM.big_eq]; omega) (by rw [CM.big_eq]; omega) (by rw [CM.big_eq]; omega) ?_ | with_reducible refine CM.w_sq (by omega) (by omega) ?_
  | with_reducible refine CM.w_max2 ?_ | with_reducible refine CM.w_min2 ?_ | with_reducible refine CM.w_lenL ?_ | with_reducible refine CM.w_lenT ?_ | with_reducible refine CM.w_lenC ?_ | with_reducible refine CM.w_listL ?_ | with_reducible refine CM.w_listT ?_ | with_reducible refine CM.w_tupL ?_ | with_reducible refine CM.w_tupT ?_
  | ((with_reducible refine CM.okG_setC ?_); (try dsimp only [List.set, CM.fzW]))
  | ((with_reducible refine' CM.okW_ix ?hv ?_); (case hv => rfl))
  | ((with_reducible refine' CM.okB_test (CM.okE_eqn ⟨_, ?hv, ?_⟩)); (case hv => rfl))
  | ((with_reducible refine' CM.okB_testd ⟨_, ?hv, ?_⟩); (case hv => rfl)))
local macro_rules | `(tactic| walk_at "p") => `(tactic| repeat walk_at "p1")
theorem name_ok {P : W → Tb → Prop} {X : Str → List (Str × D) → Tb → Prop} (hz : Asc z) (hl : z.length ≤ 3000) (p : P (.cl (.bl (nmB z))) h) : okF (m_l_law_is_name [.str z] h) P X := by
  unfold m_l_law_is_name
  refine okF_fn rfl ?_
  show okS (b_l_law_is_name [.cl (.str z), .un, .un] h) _ _ _ _
  unfold b_l_law_is_name
  have hl2 : z.cps.toList.length ≤ 3000 := by
    rw [← SL.len_str]
    exact hl
  refine okS_seq (okS_asg (okE_lcF (ds := z.cps.toList.map fun c => D.str ⟨#[c]⟩) (fun j h' acc => h' = h ∧ acc = LS (((z.cps.toList.take j).filter fun c => !decide (c ∈ lets)).map fun c => (⟨#[c]⟩ : Str))) rfl ?_ ?_ ?_))
  · exact okE_iU (okE_var rfl (okW_eq rfl (okW_eq rfl ⟨by rw [List.length_map]; omega, rfl, rfl, rfl, rfl⟩)))
  · rintro j d h' acc hj ⟨rfl, rfl⟩
    rw [List.getElem?_map] at hj
    cases hc : z.cps.toList[j]? with
    | none => rw [hc] at hj; cases hj
    | some c =>
      rw [hc] at hj
      cases hj
      obtain ⟨hj2, e⟩ := List.getElem?_eq_some_iff.mp hc
      have et : (z.cps.toList.take (j + 1)).filter (fun c => !decide (c ∈ lets)) = (z.cps.toList.take j).filter (fun c => !decide (c ∈ lets)) ++ (if !decide (c ∈ lets) then [c] else []) := by
        rw [List.take_succ_eq_append_getElem hj2, e, List.filter_append]
        congr 1
        by_cases k : c ∈ lets <;> simp [k]
      refine okB_test (okE_op (okE_var rfl (okE_c (okW_eq rfl (okW_eq rfl ⟨.cl (.bl (!decide (c ∈ lets))), ?_, _, rfl, rfl, fun e => okE_var rfl ⟨rfl, rfl, ?_⟩, fun e => ⟨rfl, ?_⟩⟩)))))
      · show (dInB (.str ⟨#[c]⟩) (.str _)).map (fun b => W.cl (.bl (!b))) = _
        rw [letters_eq]
        show some (W.cl (.bl (!decide (c ∈ (S lets).cps.toList)))) = _
        rw [S_cps]
      · rw [et, e]
        simp [fzW]
      · rw [et, e]
        simp
  rintro h' acc ⟨eh, rfl⟩
  subst h'
  rw [List.length_map, List.take_of_length_le (Nat.le_refl _)]
  generalize hF : z.cps.toList.filter (fun c => !decide (c ∈ lets)) = F
  have hA : Ascs (F.map fun c => (⟨#[c]⟩ : Str)) := fun y hy => by
    obtain ⟨c, hc, rfl⟩ := List.mem_map.mp hy
    rw [← hF] at hc
    intro c' hc'
    have : c' = c := by simpa using hc'
    rw [this]
    exact hz c (List.mem_filter.mp hc).1
  refine okG_setC ?_
  dsimp only [List.set, fzW]
  refine okS_ret (okE_andV (okB_test (okE_chain (okE_c (okE_cb (okE_cons (okE_var rfl (okE_nil (okW_eq rfl (w_lenS' rfl (by omega) (okW_eq rfl (okW_eq rfl ⟨_, rfl, fun h0 => ?_, fun h0 => ?_⟩))))))))))))
  · have h0 : 1 ≤ z.cps.toList.length := by
      have := of_decide_eq_true h0
      omega
    refine okE_c (okW_eq rfl (okW_eq rfl (w_le ⟨_, rfl, fun h8 => ?_, fun h8 => ?_⟩)))
    · have h8 : z.cps.toList.length ≤ 8 := by
        have := of_decide_eq_true h8
        omega
      have hF2 : F = [] ↔ nmB z = true := by
        rw [← hF, List.filter_eq_nil_iff, nmB_iff]
        exact ⟨fun q => ⟨h0, h8, fun c hc => by simpa using q c hc⟩, fun q c hc => by simpa using q.2.2 c hc⟩
      refine okE_op (okE_var rfl (okE_lst (okE_nil ⟨Nat.le_of_ble_eq_true rfl, okW_eq rfl (okW_eq rfl (w_eq (dEqB_L (ws := []) hA (fun _ z => absurd z List.not_mem_nil)) (cut_same rfl ?_)))⟩)))
      have : decide ((F.map fun c => (⟨#[c]⟩ : Str)) = []) = nmB z := by
        have e1 : (F.map fun c => (⟨#[c]⟩ : Str)) = [] ↔ nmB z = true := List.map_eq_nil_iff.trans hF2
        by_cases q : nmB z = true
        · rw [decide_eq_true (e1.mpr q), q]
        · rw [decide_eq_false (fun c => q (e1.mp c)), Bool.eq_false_iff.mpr q]
      rw [this]
      exact p
    · have h8 : ¬ z.cps.toList.length ≤ 8 := by
        have := of_decide_eq_false h8
        omega
      refine cut_same rfl ?_
      have : nmB z = false := by
        unfold nmB
        rw [decide_eq_false h8, Bool.and_false, Bool.false_and]
      rw [this] at p
      exact p
  · have h0 : ¬ 1 ≤ z.cps.toList.length := by
      have := of_decide_eq_false h0
      omega
    refine ⟨false, rfl, (fun e => nomatch e), fun _ => cut_same rfl ?_⟩
    have : nmB z = false := by
      unfold nmB
      rw [decide_eq_false h0, Bool.false_and, Bool.false_and]
    rw [this] at p
    exact p
theorem w_srtSetZ {zs : List Str} {Q : W → Prop} (h : zs.length < 4000) (q : Q (W.fr (LS (sortS (onceZ zs.reverse))))) : okW (dSrtSetZ [.lst (LS zs)]) Q := ⟨_, by
  show (strsOf (LS zs)).bind (fun zs => if zs.length < 4000 then some (W.fr ((sortS (onceZ zs.reverse)).map .str)) else none) = _
  rw [strsOf_map, Option.bind_some, if_pos h], q⟩
theorem w_lenSetZ {zs : List Str} {Q : W → Prop} (h : zs.length < 4000) (q : Q (.cl (.int (cntZ zs.reverse : Nat)))) : okW (dLenSetZ [.lst (LS zs)]) Q := ⟨_, by
  show (strsOf (LS zs)).bind (fun zs => if zs.length < 4000 then some (W.cl (.int (cntZ zs.reverse : Nat))) else none) = _
  rw [strsOf_map, Option.bind_some, if_pos h], q⟩
theorem rev_nodup {zs : List Str} : zs.reverse.Nodup ↔ zs.Nodup := (List.reverse_perm _).nodup_iff
/-- what the law reads of a text -/
theorem read_ok {P : W → Tb → Prop} {X : Str → List (Str × D) → Tb → Prop} (hx : Asc x) (hl : x.length ≤ 3000) (p : Rd x → P (W.fr [.lst (LS (fxs x)), spD (spOf x)]) h) (q : ¬ Rd x → P (.cl .non) h) : okF (m_l_law_read [.str x] h) P X := by
  unfold m_l_law_read
  refine okF_fn rfl ?_
  show okS (b_l_law_read [.cl (.str x), .un, .un, .un, .un] h) _ _ _ _
  unfold b_l_law_read
  have ln := nms_len x
  have lp : (Txt.split x ":").length ≤ x.length + 2 := PyProof.Rows.split_le x ":"
  -- the parts
  have parts : ∃ r, Txt.split x ":" = hd x :: r ∧ ((r = (spOf x).toList) ∨ (2 ≤ r.length ∧ ¬ Rd x)) := by
    have ne : ¬ ((":" : Str) = "") := by decide +kernel
    rcases cut_cases x with ⟨e, e2⟩ | ⟨h, t, r, e, e2, e3, e4⟩
    · refine ⟨[], ?_, .inl ?_⟩
      · unfold hd
        rw [e, e2]
      · unfold spOf
        rw [e]
        dsimp only
        rw [if_pos rfl]
        rfl
    · have es : spOf x = some t := by
        unfold spOf
        rw [e]
        dsimp only
        rw [if_neg ne]
      refine ⟨r, ?_, ?_⟩
      · unfold hd
        rw [e, e3]
      · rcases e4 with rfl | ⟨l, bad⟩
        · rw [es]
          exact .inl rfl
        · refine .inr ⟨l, fun c => ?_⟩
          have := c.2.2.1 t (List.mem_append_right _ (by rw [es]; exact List.mem_cons_self ..))
          rw [bad] at this
          cases this
  obtain ⟨r, er, cas⟩ := parts
  refine okS_seq (okS_asg (okE_bs (okE_var rfl ⟨_, rfl, okE_cons (okE_c (okE_nil (okW_eq rfl (w_split (by decide +kernel) (by omega) (okG_setC ?_)))))⟩)))
  rw [er]
  rw [er] at lp
  rw [List.length_cons] at lp
  show okS ((_ : MS) [.cl (.str x), .cl (.lst (LS (hd x :: r))), .un, .un, .un] h) _ _ _ _
  obtain ⟨l1, a1, l2⟩ := parts_of x hx
  have first : ∀ {ρ : List Sl} {P : Ps W} {X : Px}, ρ[1]? = some (.cl (.lst (LS (hd x :: r)))) → P (.cl (.str (hd x))) ρ h → okE (mOp dIx (mVar 1) (mC (.int 0)) ρ h) P X := fun {ρ P X} e q => okE_op (okE_var e (okE_c (okW_eq rfl (okW_eq rfl (w_ixL (i := 0) rfl q)))))
  refine okS_seqM (fun ρ h' => ρ = [.cl (.str x), .cl (.lst (LS (hd x :: r))), .cl (.lst (LS (fxs x))), .un, .un] ∧ h' = h) (okS_asg (okE_if (okB_test (okE_op (first rfl (okE_c (okW_eq rfl (okW_eq rfl (w_eq (c := decide (hd x = "-")) rfl ⟨_, rfl, fun e => ?_, fun e => ?_⟩)))))))) ) ?_
  · refine okE_eq (w := W.fr []) rfl (okG_setC ⟨?_, rfl⟩)
    unfold fxs fxOf
    rw [if_pos (of_decide_eq_true e)]
    rfl
  · refine okE_bs (first rfl ⟨_, rfl, okE_cons (okE_c (okE_nil (okW_eq rfl (w_split (by decide +kernel) (by omega) (okG_setC ⟨?_, rfl⟩)))))⟩)
    unfold fxs fxOf
    rw [if_neg (of_decide_eq_false e)]
    rfl
  rintro ρ h' ⟨rfl, rfl⟩
  refine okS_seq (okS_asg (okE_op (okE_var rfl (okE_sl (okE_var rfl (okE_part (okE_c ⟨1, rfl, okE_nopart (okW_eq rfl (okW_eq (w := W.fr (LS r)) ?_ (okW_eq rfl (okW_eq rfl (w_addLL (zs := fxs x) (ws := r) (by omega) (okG_setC ?_))))))⟩)))))))
  · show some (W.fr (cutL (LS (hd x :: r)) (some ((1 : Nat) : Int)) none)) = _
    rw [cut_drop]
    rfl
  dsimp only [List.set, fzW]
  have hlr : (LS (hd x :: r)).length = r.length + 1 := by rw [List.length_map, List.length_cons]
  rcases cas with rr | ⟨l3, nr⟩
  case inr =>
    refine okS_seq (okS_if (okB_or (okB_test (okE_op (okE_cb (okE_cons (okE_var rfl (okE_nil (okW_eq rfl (w_lenL (okE_c (okW_eq rfl (okW_eq rfl (w_gt ⟨_, rfl, fun _ => ⟨fun _ => okS_ret (okE_c (cut_same rfl (q nr))), (fun z => nomatch z)⟩, fun e => ?_⟩))))))))))))))
    have e := of_decide_eq_false e
    rw [hlr] at e
    omega
  have en : fxs x ++ r = nms x := by
    unfold nms
    rw [rr]
  rw [en]
  have lr : r.length ≤ 1 := by
    rw [rr]
    cases spOf x <;> simp
  have hlw : (LS (nms x)).length = (nms x).length := List.length_map ..
  refine okS_seq (okS_if (okB_or (okB_test (okE_op (okE_cb (okE_cons (okE_var rfl (okE_nil (okW_eq rfl (w_lenL (okE_c (okW_eq rfl (okW_eq rfl (w_gt ⟨_, rfl, fun e => ?_, fun _ => ?_⟩))))))))))))))
  · have e := of_decide_eq_true e
    rw [hlr] at e
    omega
  refine okB_test (okE_op (okE_lcF (ds := LS (nms x)) (fun j h2 acc => h2 = h' ∧ acc = LS (((nms x).take j).filter fun w => !nmB w)) rfl ?_ ?_ ?_))
  · exact okE_iU (okE_var rfl (okW_eq rfl (okW_eq rfl ⟨by rw [hlw]; omega, rfl, rfl, rfl, rfl⟩)))
  · rintro j d h2 acc hj ⟨rfl, rfl⟩
    obtain ⟨w, hw2, rfl⟩ := strs_at hj
    obtain ⟨hj2, ej⟩ := List.getElem?_eq_some_iff.mp hw2
    have hm : w ∈ nms x := List.mem_of_getElem? hw2
    have et : ((nms x).take (j + 1)).filter (fun w => !nmB w) = ((nms x).take j).filter (fun w => !nmB w) ++ (if !nmB w then [w] else []) := by
      rw [List.take_succ_eq_append_getElem hj2, ej, List.filter_append]
      congr 1
      by_cases k : nmB w = true <;> simp [k]
    refine okB_not (okB_tru (okE_call (okE_cons (okE_fr (okE_var rfl (okE_nil (name_ok (nms_of hx hm).1 (Nat.le_trans (nms_of hx hm).2 hl) ⟨_, _, rfl, rfl, rfl, fun e => okE_var rfl ⟨rfl, rfl, ?_⟩, fun e => ⟨rfl, ?_⟩⟩)))))))
    · rw [et, if_pos e]
      simp [fzW]
    · rw [et, if_neg (by rw [e]; exact (fun c => nomatch c)), List.append_nil]
  rintro h2 acc ⟨eh, rfl⟩
  subst h2
  rw [hlw, List.take_of_length_le (Nat.le_refl _)]
  have hA : Ascs ((nms x).filter fun w => !nmB w) := fun w hm => (nms_of hx (List.mem_filter.mp hm).1).1
  have hall : ((nms x).filter fun w => !nmB w) = [] ↔ ∀ w ∈ nms x, nmB w = true := by
    rw [List.filter_eq_nil_iff]
    exact ⟨fun q w hm => by simpa using q w hm, fun q w hm => by simpa using q w hm⟩
  refine okE_lst (okE_nil ⟨Nat.le_of_ble_eq_true rfl, okW_eq rfl (okW_eq rfl (w_ne (dEqB_L (ws := []) hA (fun _ z => absurd z List.not_mem_nil)) ⟨_, rfl, fun e => okS_ret (okE_c (cut_same rfl (q fun c => ?_))), fun e => okS_next ?_⟩))⟩)
  · have e : ¬ ((nms x).filter fun w => !nmB w) = [] := by simpa using e
    exact e (hall.2 c.2.2.1)
  have good : ∀ w ∈ nms x, nmB w = true := hall.1 (by simpa using e)
  have hfa : Ascs (fxs x) := fun w hw => (nms_of hx (List.mem_append_left _ hw)).1
  have hsa : Ascs (sortS (onceZ (fxs x).reverse)) := fun w hw => hfa w (List.mem_reverse.1 (mem_onceZ.1 (sortS_mem.1 hw)))
  have lf : (fxs x).length ≤ (nms x).length := by
    unfold nms
    rw [List.length_append]
    omega
  have no : ∀ {N : List Sl → Tb → Prop} {ρ : List Sl}, ¬ Rd x → okS (sRet (mC .non) ρ h') N (fun w ρ h'' => okW (cutF false h' w h'') fun x => P x.1 x.2) (fun _ _ _ => False) (fun C fs ρ h'' => okW (cutX false h' fs h'') fun x => X C fs x) := fun c => okS_ret (okE_c (cut_same rfl (q c)))
  refine okS_seq (okS_if (okB_or (okB_test (okE_op (okE_var rfl (okE_cb (okE_cons (okE_var rfl (okE_nil (okW_eq rfl (w_srtSetZ (zs := fxs x) (by omega) (okW_eq rfl (okW_eq rfl (w_ne (dEqB_L hfa hsa) ⟨_, rfl, fun e => ⟨fun _ => no fun c => ?_, (fun z => nomatch z)⟩, fun e => ?_⟩))))))))))))))
  · have e : ¬ fxs x = sortS (onceZ (fxs x).reverse) := by simpa using e
    refine e (c.2.2.2.trans (sortS_eq.2 ?_))
    rw [once_id (rev_nodup.2 (List.nodup_append.1 c.2.1).1)]
    exact (List.reverse_perm _).symm
  have es : fxs x = sortS (onceZ (fxs x).reverse) := by simpa using e
  refine okB_or (okB_test (okE_op (okE_cb (okE_cons (okE_var rfl (okE_nil (okW_eq rfl (w_lenSetZ (zs := nms x) (by omega) (okE_cb (okE_cons (okE_var rfl (okE_nil (okW_eq rfl (w_lenL (okW_eq rfl (okW_eq rfl (w_nei ⟨_, rfl, fun e => ⟨fun _ => no fun c => ?_, (fun z => nomatch z)⟩, fun e => ?_⟩)))))))))))))))))
  · have e : ¬ ((cntZ (nms x).reverse : Nat) : Int) = ((LS (nms x)).length : Nat) := by simpa using e
    refine e ?_
    rw [hlw, cnt_nodup (rev_nodup.2 c.2.1), List.length_reverse]
  have nd : (nms x).Nodup := by
    have e : ((cntZ (nms x).reverse : Nat) : Int) = ((LS (nms x)).length : Nat) := by simpa using e
    by_cases c : (nms x).Nodup
    · exact c
    · have := cnt_lt fun z => c (rev_nodup.1 z)
      rw [List.length_reverse] at this
      rw [hlw] at e
      omega
  refine okB_test (okE_op (okE_cb (okE_cons (okE_var rfl (okE_nil (okW_eq rfl (w_lenL (okE_c (okW_eq rfl (okW_eq rfl (w_gt ⟨_, rfl, fun e => no fun c => ?_, fun e => okS_next ?_⟩)))))))))))
  · have := of_decide_eq_true e
    have := c.1
    omega
  have r5 : Rd x := by
    have := of_decide_eq_false e
    refine ⟨by omega, nd, good, es.trans (sortS_eq.2 ?_)⟩
    rw [once_id (rev_nodup.2 (List.nodup_append.1 nd).1)]
    exact List.reverse_perm _
  have p := p r5
  refine okS_ret (okE_lst (okE_cons (okE_var rfl (okE_cons (okE_if (okB_test (okE_op (okE_cb (okE_cons (okE_var rfl (okE_nil (okW_eq rfl (w_lenL (okE_c (okW_eq rfl (okW_eq rfl (w_eqi ⟨_, rfl, fun e => ?_, fun e => ?_⟩)))))))))))))))))
  · have e := of_decide_eq_true e
    rw [hlr] at e
    cases hs : spOf x with
    | none =>
      rw [rr, hs] at e
      exact absurd e (by decide)
    | some t =>
      rw [hs] at rr p
      subst rr
      exact okE_op (okE_var rfl (okE_c (okW_eq rfl (okW_eq rfl (w_ixL (i := 1) rfl (okE_nil ⟨Nat.le_of_ble_eq_true rfl, cut_same rfl p⟩))))))
  · have e := of_decide_eq_false e
    rw [hlr] at e
    cases hs : spOf x with
    | none =>
      rw [hs] at p
      exact okE_c (okE_nil ⟨Nat.le_of_ble_eq_true rfl, cut_same rfl p⟩)
    | some t =>
      rw [rr, hs] at e
      exact absurd rfl e
end
end K09
namespace K09
open PySem PySem.Spec PyProof.Rows L2 SL CM
theorem asc_text : Asc ("text" : Str) := by
  have : ∀ c ∈ ("text" : Str).cps.toList, c < 128 := by decide +kernel
  exact this
theorem eq_self {fx : List Str} {sp : Option Str} (ok : ShOk fx sp) : CP.m_Shape_D_eq_D KS false [shD fx sp, shD fx sp] [] = some (.rt (.cl (.bl true)) []) := by
  have f : okF (CP.m_Shape_D_eq_D KS false [shD fx sp, shD fx sp] []) (fun w h => w = .cl (.bl true) ∧ h = []) noX := shape_eq ownS ok ok rfl rfl ⟨by simp, rfl⟩
  obtain ⟨w, o, e, rfl, rfl⟩ := f.rt
  exact e
open Classical in
theorem w_eqL {fx : List Str} {sp : Option Str} {a : Str} {Q : W → Prop} (ok : ShOk fx sp) (q : Q (.cl (.bl true))) : okW (dEqL "Shape" (CP.m_Shape_D_eq_D KS false) (.lst [.str a, shD fx sp]) (.lst [.str a, shD fx sp])) Q := by
  refine ⟨_, ?_, q⟩
  have i : insOf "Shape" (shD fx sp).u = some (shF fx sp) := insOf_eq
  have m : mixAll "Shape" (CP.m_Shape_D_eq_D KS false) [.str a, shD fx sp] [.str a, shD fx sp] = true := by
    show (decide (a = a) && ((insOf "Shape" (shD fx sp).u).isSome && ((insOf "Shape" (shD fx sp).u).isSome && (decide (CP.m_Shape_D_eq_D KS false [shD fx sp, shD fx sp] [] = some (.rt (.cl (.bl true)) [])) && (below 0 (shD fx sp) && (below 0 (shD fx sp) && true)))))) = true
    rw [i, decide_eq_true (eq_self ok), below_shD, decide_eq_true rfl]
    rfl
  show (if mixAll _ _ _ _ = true then some (W.cl (.bl true)) else none) = _
  rw [if_pos m]
section
variable {ρ : List Sl} {h h0 h1 g : Tb} {N : List Sl → Tb → Prop} {T : Ps W} {L : Bool → List Sl → Tb → Prop} {X : Px} {b n i j len m : Nat} {zs ws : List Str} {d d0 d1 e0 t p s e y v c : D} {gt : Tg} {body : MS} {ck : List (Nat × D)} {ds ps : List D} {x z : Str} {k : Kd}
local macro_rules | `(tactic| walk_at "hv") => `(tactic| first | rfl | assumption | (exact (by assumption : _)))
local macro_rules | `(tactic| walk_at "p1") => `(tactic| first
  | with_reducible refine CM.okS_seq ?_ | with_reducible refine CM.okS_next ?_ | with_reducible refine CM.okS_asg ?_ | with_reducible refine CM.okS_ret ?_ | with_reducible refine CM.okS_drop ?_ | with_reducible refine CM.okS_aug ?_ | with_reducible refine CM.okS_cnt ?_ | with_reducible refine CM.okS_fg ?_ | with_reducible refine CM.okS_retN ?_
  | with_reducible refine CM.okE_op ?_ | with_reducible refine CM.okE_cb ?_ | with_reducible refine CM.okE_cons ?_ | with_reducible refine CM.okE_nil ?_ | with_reducible refine CM.okB_not ?_ | with_reducible refine CM.okE_c ?_ | with_reducible refine CM.okE_fr ?_ | with_reducible refine CM.okE_ce ?_ | with_reducible refine CM.okE_notV ?_ | with_reducible refine CM.okE_un ?_
  | with_reducible refine CM.okE_sl ?_ | with_reducible refine CM.okE_nopart ?_
  | ((with_reducible refine' CM.okE_var ?hv ?_); (case hv => rfl))
  | ((with_reducible refine' CM.okE_part (CM.okE_var ?hv ⟨_, ?hv2, ?_⟩)); (case hv => rfl); (case hv2 => rfl))
  | ((with_reducible refine' CM.okE_part (CM.okE_c ⟨_, ?hv2, ?_⟩)); (case hv2 => rfl))
  | ((with_reducible refine' CM.okW_eq (w := _) ?hv ?_); (case hv => (with_reducible rfl)))
  | ((with_reducible refine' CM.okW_deref ?hv ?_); (case hv => walk_at "hv")) | ((with_reducible refine' CM.okW_derefs ?hv ?_); (case hv => rfl)) | ((with_reducible refine' CM.okW_derefC ?hv ?_); (case hv => walk_at "hv")) | ((with_reducible refine' CM.okW_lstAt ?hv ?_); (case hv => walk_at "hv"))
  | with_reducible refine CM.w_add ?_ | with_reducible refine CM.w_sub ?_ | with_reducible refine CM.w_lt ?_ | with_reducible refine CM.w_le ?_ | with_reducible refine CM.w_gt ?_ | with_reducible refine CM.w_ge ?_ | with_reducible refine CM.w_addI ?_
  | with_reducible refine CM.w_mod (by omega) ?_ | with_reducible refine CM.w_div (by omega) (by rw [CM.big_eq]; omega) ?_ | with_reducible refine CM.w_mul (by rw [CM.big_eq]; omega) (by rw [CM.big_eq]; omega) (by rw [CM.big_eq]; omega) (by rw [CM.big_eq]; omega) ?_ | with_reducible refine CM.w_sq (by omega) (by omega) ?_
  | with_reducible refine CM.w_max2 ?_ | with_reducible refine CM.w_min2 ?_ | with_reducible refine CM.w_lenL ?_ | with_reducible refine CM.w_lenT ?_ | with_reducible refine CM.w_lenC ?_ | with_reducible refine CM.w_listL ?_ | with_reducible refine CM.w_listT ?_ | with_reducible refine CM.w_tupL ?_ | with_reducible refine CM.w_tupT ?_
  | ((with_reducible refine CM.okG_setC ?_); (try dsimp only [List.set, CM.fzW]))
  | ((with_reducible refine' CM.okW_ix ?hv ?_); (case hv => rfl))
  | ((with_reducible refine' CM.okB_test (CM.okE_eqn ⟨_, ?hv, ?_⟩)); (case hv => rfl))
  | ((with_reducible refine' CM.okB_testd ⟨_, ?hv, ?_⟩); (case hv => rfl)))
local macro_rules | `(tactic| walk_at "p") => `(tactic| repeat walk_at "p1")
theorem text_hands {w : D} {ρ : List Sl} : hands "InvalidText" [(("value" : Str), w)] ρ h (("InvalidText", (xLst (xCons (fun _ => some (.cl (.str "text"))) (xCons (xFld "value") (fun _ => some []))))) :: []) = some (.rt (W.fr [.str "text", w]) ρ h) := by
  unfold hands
  rw [if_pos rfl]
  have e : xFld "value" [(("value" : Str), w)] = some (.cl w) := by
    unfold xFld
    rw [List.lookup_cons]
    simp
  show ((xLst (xCons (fun _ => some (.cl (.str "text"))) (xCons (xFld "value") (fun _ => some [])))) [(("value" : Str), w)]).map (fun w => Out.rt w ρ h) = _
  unfold xLst xCons
  rw [e]
  rfl
theorem caught_ok {P : W → Tb → Prop} {X : Str → List (Str × D) → Tb → Prop} (hx : Asc x) (hl : x.length ≤ 3000) (p : Rd x → P (W.fr [.str "told", shD (fxs x) (spOf x)]) h) (q : ¬ Rd x → P (W.fr [.str "text", .str x]) h) : okF (m_l_law_caught [.str x] h) P X := by
  unfold m_l_law_caught
  refine okF_fn rfl ?_
  show okS (b_l_law_caught [.cl (.str x), .un] h) _ _ _ _
  unfold b_l_law_caught
  refine okS_try (okS_ret (okE_lst (okE_cons (okE_c (okE_cons (okE_callX (okE_cons (okE_fr (okE_var rfl (okE_nil (parse_ok hx hl (fun r => okE_nil ⟨Nat.le_of_ble_eq_true rfl, cut_same rfl (p r)⟩) (fun r => ?_))))))))))))
  exact ⟨rfl, List.mem_cons_self .., okW_eq text_hands (cut_same rfl (q r))⟩
/-- a thing that is no text -/
theorem caught_odd {P : W → Tb → Prop} {X : Str → List (Str × D) → Tb → Prop} (hd : deref h (.cl v) = some e) (hk : kd e.u = some k) (hm : k ∈ KS) (hn : k ≠ .b "str") (q : P (W.fr [.str "text", v]) h) : okF (m_l_law_caught [v] h) P X := by
  unfold m_l_law_caught
  refine okF_fn rfl ?_
  show okS (b_l_law_caught [.cl v, .un] h) _ _ _ _
  unfold b_l_law_caught
  refine okS_try (okS_ret (okE_lst (okE_cons (okE_c (okE_cons (okE_callX (okE_cons (okE_fr (okE_var rfl (okE_nil ?_))))))))))
  unfold m_parse_shape
  refine okF_fn rfl ?_
  show okS (b_parse_shape [.cl v, .un, .un, .un, .un, .un, .un] h) _ _ _ _
  unfold b_parse_shape
  have hi : insK k (.ty "str") = false := by
    have : ∀ k ∈ KS, k ≠ .b "str" → insK k (.ty "str") = false := by decide +kernel
    exact this k hm hn
  refine okS_seq (okS_if (okB_not (okB_tru (okE_cb (okE_cons (okE_var rfl (okE_cons (okE_c (okE_nil (okW_d2 hd rfl (w_isi (k := k) rfl hk hm ⟨_, _, rfl, rfl, fun _ => okS_raise (okE_cons (okE_fr (okE_var rfl (okE_nil ⟨rfl, cutX_same rfl ?_⟩)))), fun c => ?_⟩)))))))))))
  · exact ⟨rfl, List.mem_cons_self .., okW_eq text_hands (cut_same rfl q)⟩
  · rw [hi] at c
    cases c
/-- whatever the text, the program answers as the law reads -/
theorem right_ok {P : W → Tb → Prop} {X : Str → List (Str × D) → Tb → Prop} (hx : Asc x) (hl : x.length ≤ 3000) (p : P (.cl (.bl true)) h) : okF (m_l_law_right [.str x] h) P X := by
  unfold m_l_law_right
  refine okF_fn rfl ?_
  show okS (b_l_law_right [.cl (.str x), .un, .un] h) _ _ _ _
  unfold b_l_law_right
  by_cases r : Rd x
  · have ok := rd_ok r
    refine okS_seq (okS_par (okE_cons (okE_call (okE_cons (okE_fr (okE_var rfl (okE_nil (read_ok hx hl (fun _ => okE_cons (okE_call (okE_cons (okE_fr (okE_var rfl (okE_nil (caught_ok hx hl (fun _ => okE_nil ⟨_, _, rfl, ?_⟩) (fun c => absurd r c)))))))) (fun c => absurd r c)))))))))
    show okS ((_ : MS) [.cl (.str x), .cl (.lst [.lst (LS (fxs x)), spD (spOf x)]), .cl (.lst [.str "told", shD (fxs x) (spOf x)])] h) _ _ _ _
    refine okS_seq (okS_no (okB_test (okE_op (okE_var rfl (okE_c (okW_eq rfl (okW_eq rfl (okW_eq (w := .cl (.bl false)) rfl ⟨_, rfl, rfl, okS_next ?_⟩))))))))
    refine okS_ret (okE_andV (okB_test (okE_op (okE_var rfl (okE_lst (okE_cons (okE_c (okE_cons (okE_shape ksok (okE_cons (okE_fr (okE_op (okE_var rfl (okE_c (okW_eq rfl (okW_eq rfl (w_ixL (i := 0) rfl ?_)))))))))))))))))
    refine okE_cons (okE_fr (okE_op (okE_var rfl (okE_c (okW_eq rfl (okW_eq rfl (w_ixL (i := 1) rfl (okE_nil ⟨_, _, fxs x, spOf x, rfl, rfl, rfl, ok, ?_⟩))))))))
    refine okE_nil ⟨Nat.le_of_ble_eq_true rfl, okW_eq rfl (okW_eq rfl (w_eqL ok ⟨_, rfl, fun _ => ?_, (fun e => nomatch e)⟩))⟩
    refine okE_op (okE_strO (okE_cons (okE_op (okE_var rfl (okE_c (okW_eq rfl (okW_eq rfl (w_ixL (i := 1) rfl (okE_nil ⟨_, _, rfl, rfl, shape_str ok rfl ⟨rfl, ?_⟩⟩)))))))))
    refine okE_var rfl (okW_eq rfl (okW_eq rfl (w_eq (c := decide (shT (fxs x) (spOf x) = x)) rfl (cut_same rfl ?_))))
    rw [decide_eq_true (read_back r)]
    exact p
  · refine okS_seq (okS_par (okE_cons (okE_call (okE_cons (okE_fr (okE_var rfl (okE_nil (read_ok hx hl (fun c => absurd c r) (fun _ => okE_cons (okE_call (okE_cons (okE_fr (okE_var rfl (okE_nil (caught_ok hx hl (fun c => absurd c r) (fun _ => okE_nil ⟨_, _, rfl, ?_⟩))))))))))))))))
    show okS ((_ : MS) [.cl (.str x), .cl .non, .cl (.lst [.str "text", .str x])] h) _ _ _ _
    have ha : Ascs ["text", x] := fun w hw => by
      rcases List.mem_cons.1 hw with rfl | hw
      · exact asc_text
      · rw [List.mem_singleton.1 hw]
        exact hx
    refine okS_seq (okS_yes (okB_test (okE_op (okE_var rfl (okE_c (okW_eq rfl (okW_eq rfl (okW_eq (w := .cl (.bl true)) rfl ⟨_, rfl, rfl, ?_⟩))))))))
    refine okS_ret (okE_op (okE_var rfl (okE_lst (okE_cons (okE_c (okE_cons (okE_var rfl (okE_nil ⟨Nat.le_of_ble_eq_true rfl, okW_eq rfl (okW_eq rfl (w_eq (dEqB_L (zs := ["text", x]) (ws := ["text", x]) ha ha) (cut_same rfl ?_)))⟩))))))))
    rw [decide_eq_true rfl]
    exact p
end
end K09
namespace K09
open PySem PySem.Spec PyProof.Rows L2 SL CM
/-- a text of plain signs, N at most -/
def Tt (N : Nat) (z : Str) : Prop := Asc z ∧ z.length ≤ N
theorem Tt.add {a c : Nat} {x y : Str} (hx : Tt a x) (hy : Tt c y) : Tt (a + c) (x ++ y) := ⟨asc_add.2 ⟨hx.1, hy.1⟩, by
  rw [CM.len_add]
  have := hx.2
  have := hy.2
  omega⟩
theorem Tt.cut {a : Nat} {z : Str} {lo hi : Option Int} (h : Tt a z) : Tt a (cutS z lo hi) := by
  obtain ⟨l, rfl⟩ := S_of z
  refine ⟨fun c hc => ?_, ?_⟩
  · exact h.1 c (List.mem_of_mem_drop (List.mem_of_mem_take hc))
  · have h2 := h.2
    rw [S_len] at h2
    show (S ((l.drop _).take _)).length ≤ a
    rw [S_len, List.length_take, List.length_drop]
    omega
theorem Tt.mono {a c : Nat} {z : Str} (h : Tt a z) (k : a ≤ c) : Tt c z := ⟨h.1, Nat.le_trans h.2 k⟩
theorem tt_lit {a : Nat} {z : Str} (h : (z.cps.toList.all fun c => decide (c < 128)) = true) (k : z.length ≤ a) : Tt a z := ⟨fun c hc => of_decide_eq_true (List.all_eq_true.mp h c hc), k⟩
theorem tt_nm {z : Str} (h : Nm z) : Tt 8 z := ⟨h.asc, len_nm h⟩
def ln (ws : List Str) : Nat := (ws.map (·.length)).sum + ws.length
theorem ln_cons (w : Str) (ws : List Str) : ln (w :: ws) = w.length + 1 + ln ws := by
  unfold ln
  rw [List.map_cons, List.sum_cons, List.length_cons]
  omega
theorem ln_app : ∀ (xs ys : List Str), ln (xs ++ ys) = ln xs + ln ys
  | [], ys => by rw [List.nil_append]; exact (Nat.zero_add _).symm
  | x :: xs, ys => by
    rw [List.cons_append, ln_cons, ln_cons, ln_app xs ys]
    omega
theorem ln_perm {xs ys : List Str} (p : xs.Perm ys) : ln xs = ln ys := by
  induction p with
  | nil => rfl
  | cons x _ ih => rw [ln_cons, ln_cons, ih]
  | swap x y l => rw [ln_cons, ln_cons, ln_cons, ln_cons]; omega
  | trans _ _ h1 h2 => exact h1.trans h2
theorem ln_sub {xs ys : List Str} (p : xs.Sublist ys) : ln xs ≤ ln ys := by
  induction p with
  | slnil => exact Nat.le_refl _
  | cons x _ ih => rw [ln_cons]; omega
  | cons_cons x _ ih => rw [ln_cons, ln_cons]; omega
theorem ln_set : ∀ (ws : List Str) (i : Nat) (v : Str) (hi : i < ws.length), ln (ws.set i v) + ws[i].length = ln ws + v.length
  | w :: ws, 0, v, _ => by
    rw [List.set_cons_zero, ln_cons, ln_cons]
    show v.length + 1 + ln ws + w.length = _
    omega
  | w :: ws, i + 1, v, h => by
    rw [List.set_cons_succ, ln_cons, ln_cons]
    have h2 : i < ws.length := Nat.lt_of_succ_lt_succ h
    have := ln_set ws i v h2
    show w.length + 1 + ln (ws.set i v) + ws[i].length = _
    omega
theorem ln_mem : ∀ {ws : List Str} {w : Str}, w ∈ ws → w.length + 1 ≤ ln ws
  | a :: ws, w, h => by
    rw [ln_cons]
    rcases List.mem_cons.mp h with rfl | h
    · omega
    · have := ln_mem h
      omega
/-- words of plain signs, their lengths and their number K at most -/
structure Wd (K : Nat) (ws : List Str) : Prop where
  asc : ∀ w ∈ ws, Asc w
  sum : ln ws ≤ K
theorem len_ln (ws : List Str) : ws.length ≤ ln ws := by
  unfold ln
  omega
section
variable {K M a i j : Nat} {ws vs : List Str} {v z : Str}
theorem Wd.few (q : Wd K ws) : ws.length ≤ K := Nat.le_trans (len_ln ws) q.sum
theorem Wd.mono (q : Wd K ws) (h : K ≤ M) : Wd M ws := ⟨q.asc, Nat.le_trans q.sum h⟩
theorem wd_split (h : Tt M z) : Wd (M + 1) (Txt.split z "+") := ⟨fun w hw => split_asc h.1 hw, by
  have := PyProof.Rows.split_weight z "+" (by decide +kernel)
  have := h.2
  unfold ln
  omega⟩
theorem Wd.ins (q : Wd K ws) (h : Tt a v) : Wd (K + a + 1) (ws.take i ++ [v] ++ ws.drop i) where
  asc := fun w hw => by
    rcases List.mem_append.1 hw with hw | hw
    · rcases List.mem_append.1 hw with hw | hw
      · exact q.asc w (List.mem_of_mem_take hw)
      · rw [List.mem_singleton.1 hw]
        exact h.1
    · exact q.asc w (List.mem_of_mem_drop hw)
  sum := by
    have e : ln ws = ln (ws.take i) + ln (ws.drop i) := by rw [← ln_app, List.take_append_drop]
    rw [ln_app, ln_app, ln_cons]
    have := q.sum
    have := h.2
    show ln (ws.take i) + (v.length + 1 + 0) + ln (ws.drop i) ≤ _
    omega
theorem Wd.sub (q : Wd K ws) (h : vs.Sublist ws) : Wd K vs := ⟨fun w hw => q.asc w (h.subset hw), Nat.le_trans (ln_sub h) q.sum⟩
theorem Wd.perm (q : Wd K ws) (h : vs.Perm ws) : Wd K vs := ⟨fun w hw => q.asc w (h.mem_iff.1 hw), Nat.le_trans (Nat.le_of_eq (ln_perm h)) q.sum⟩
theorem Wd.app (q : Wd K ws) (r : Wd M vs) : Wd (K + M) (ws ++ vs) := ⟨fun w hw => (List.mem_append.1 hw).elim (q.asc w) (r.asc w), by
  rw [ln_app]
  have := q.sum
  have := r.sum
  omega⟩
theorem Wd.swap (q : Wd K ws) (hi : i < ws.length) (hj : j < ws.length) : Wd K ((ws.set i ws[j]).set j ws[i]) where
  asc := fun w hw => by
    rcases List.mem_or_eq_of_mem_set hw with hw | rfl
    · rcases List.mem_or_eq_of_mem_set hw with hw | rfl
      · exact q.asc w hw
      · exact q.asc _ (List.getElem_mem hj)
    · exact q.asc _ (List.getElem_mem hi)
  sum := by
    have hj2 : j < (ws.set i ws[j]).length := by rw [List.length_set]; exact hj
    have e1 := ln_set ws i ws[j] hi
    have e2 := ln_set (ws.set i ws[j]) j ws[i] hj2
    have e3 : (ws.set i ws[j])[j] = ws[j] := by
      rw [List.getElem_set]
      split <;> rfl
    rw [e3] at e2
    have := q.sum
    omega
theorem wd_names (h : ∀ z ∈ ws, Nm z) (hl : ws.length ≤ 8) : Wd 72 ws := by
  refine ⟨fun w hw => (h w hw).asc, ?_⟩
  have : ∀ {vs : List Str}, (∀ z ∈ vs, Nm z) → ln vs ≤ 9 * vs.length := by
    intro vs
    induction vs with
    | nil => intro _; exact Nat.le_refl _
    | cons v vs ih =>
      intro q
      have := ih fun z hz => q z (List.mem_cons_of_mem _ hz)
      have := len_nm (q v (List.mem_cons_self ..))
      rw [ln_cons, List.length_cons]
      omega
  have := this h
  omega
theorem mem_join {S : List Nat} {c : Nat} : ∀ {ps : List (List Nat)}, c ∈ TL.joinL S ps → c ∈ S ∨ ∃ p ∈ ps, c ∈ p
  | [q], hc => .inr ⟨q, List.mem_cons_self .., hc⟩
  | q :: r :: ps, hc => by
    rcases List.mem_append.mp (show c ∈ q ++ (S ++ TL.joinL S (r :: ps)) from hc) with hc | hc
    · exact .inr ⟨q, List.mem_cons_self .., hc⟩
    rcases List.mem_append.mp hc with hc | hc
    · exact .inl hc
    · rcases mem_join hc with h | ⟨p, hp, h⟩
      · exact .inl h
      · exact .inr ⟨p, List.mem_cons_of_mem _ hp, h⟩
theorem Wd.join (q : Wd K ws) : Tt K (Txt.join "+" ws) := by
  rw [TL.join_eq]
  refine ⟨fun c hc => ?_, ?_⟩
  · have hc : c ∈ TL.tl (Str.join "+" ws) := hc
    rw [TL.tl_join] at hc
    rcases mem_join hc with h | ⟨p, hp, h⟩
    · have : ∀ c ∈ TL.tl ("+" : Str), c < 128 := by decide +kernel
      exact this c h
    · obtain ⟨z, hm, rfl⟩ := List.mem_map.mp hp
      exact q.asc z hm c h
  · have h1 := PySem.StrLaws.join_length_le "+" ws
    have h3 : ("+" : Str).length = 1 := by decide +kernel
    have := q.sum
    unfold ln at this
    have h1 : (Str.join "+" ws).length ≤ (ws.map (·.length)).sum + ws.length * 1 := h1
    omega
theorem w_joinW {Q : W → Prop} (q : Wd K ws) (hK : K ≤ 100000) (p : Q (.cl (.str (Txt.join "+" ws)))) : okW (fJoin "+" [.lst (LS ws)]) Q := by
  refine ⟨_, ?_, p⟩
  show ((strsOf (LS ws)).bind fun zs => if (zs.map (·.length)).sum + zs.length * ((("+" : Str)).length) ≤ 16777216 then some (W.cl (.str (Txt.join "+" zs))) else none) = _
  have h3 : ("+" : Str).length = 1 := by decide +kernel
  have := q.sum
  unfold ln at this
  rw [strsOf_map, Option.bind_some, h3, if_pos (by omega)]
theorem w_addT {x y : Str} {Q : W → Prop} (h : x.length + y.length ≤ 100000) (q : Q (.cl (.str (x ++ y)))) : okW (dAdd (.str x) (.str y)) Q := ⟨_, by
  show (if x.length + y.length ≤ 100000 then some (W.cl (.str (x ++ y))) else none) = _
  rw [if_pos h], q⟩
theorem w_cutT {lo hi : Option Int} {Q : W → Prop} (h : z.length ≤ 100000) (q : Q (.cl (.str (cutS z lo hi)))) : okW (dSl (.str z) lo hi) Q := ⟨_, by
  show (if z.length ≤ 100000 then some (W.cl (.str (cutS z lo hi))) else none) = _
  rw [if_pos h], q⟩
theorem w_lenZ {Q : W → Prop} (h : z.length ≤ 100000) (q : Q (.cl (.int z.length))) : okW (dLen [.str z]) Q := ⟨_, by
  show (if z.length ≤ 100000 then some (W.cl (.int z.length)) else none) = _
  rw [if_pos h], q⟩
theorem w_srtZ {Q : W → Prop} (h : ws.length < 4000) (q : Q (W.fr (LS (sortS ws)))) : okW (dSrtZ [.lst (LS ws)]) Q := ⟨_, by
  show (strsOf (LS ws)).bind (fun zs => if zs.length < 4000 then some (W.fr ((sortS zs).map .str)) else none) = _
  rw [strsOf_map, Option.bind_some, if_pos h], q⟩
def mks : List Nat := [97, 98, 122, 43, 58, 45, 65, 32, 49, 95, 126, 10]
theorem mks_eq : ("abz+:-A 1_~\n" : Str) = S mks := by decide +kernel
theorem w_mark {v : Int} {Q : W → Prop} (v0 : 0 ≤ v) (v1 : v < 12) (q : ∀ z, Tt 1 z → Q (.cl (.str z))) : okW (dIx (.str "abz+:-A 1_~\n") (.int v)) Q := by
  obtain ⟨v, rfl⟩ := Int.eq_ofNat_of_zero_le v0
  have hv : v < mks.length := by show v < 12; omega
  refine ⟨.cl (.str (S [mks[v]])), ?_, q _ ⟨fun c hc => ?_, by rw [S_len]; exact Nat.le_refl _⟩⟩
  · rw [mks_eq]
    show (if (S mks).length ≤ 100000 then (atI (S mks).cps.toList (v : Int)).map (fun c => W.cl (.str ⟨#[c]⟩)) else none) = _
    rw [if_pos (by decide +kernel), S_cps, atI_nat (List.getElem?_eq_getElem hv)]
    rfl
  · have : ∀ c ∈ mks, c < 128 := by decide
    rw [List.mem_singleton.mp hc]
    exact this _ (List.getElem_mem hv)
end
end K09
namespace K09
open PySem PySem.Spec PyProof.Rows L2 SL CM
section
variable {ρ : List Sl} {h h0 h1 h2 g : Tb} {N : List Sl → Tb → Prop} {T : Ps W} {L : Bool → List Sl → Tb → Prop} {X : Px} {b n i j len m M c : Nat} {ns ws : List Str} {d d0 d1 e0 t p s e v : D} {hd co tl z sg : Str} {w a r sp k : Int}
local macro_rules | `(tactic| walk_at "hv") => `(tactic| first | rfl | assumption | (exact (by assumption : _)))
local macro_rules | `(tactic| walk_at "p1") => `(tactic| first
  | with_reducible refine CM.okS_seq ?_ | with_reducible refine CM.okS_next ?_ | with_reducible refine CM.okS_asg ?_ | with_reducible refine CM.okS_ret ?_ | with_reducible refine CM.okS_drop ?_ | with_reducible refine CM.okS_aug ?_ | with_reducible refine CM.okS_cnt ?_ | with_reducible refine CM.okS_fg ?_ | with_reducible refine CM.okS_retN ?_
  | with_reducible refine CM.okE_op ?_ | with_reducible refine CM.okE_cb ?_ | with_reducible refine CM.okE_cons ?_ | with_reducible refine CM.okE_nil ?_ | with_reducible refine CM.okB_not ?_ | with_reducible refine CM.okE_c ?_ | with_reducible refine CM.okE_fr ?_ | with_reducible refine CM.okE_ce ?_ | with_reducible refine CM.okE_notV ?_ | with_reducible refine CM.okE_un ?_
  | with_reducible refine CM.okE_sl ?_ | with_reducible refine CM.okE_nopart ?_
  | ((with_reducible refine' CM.okE_var ?hv ?_); (case hv => rfl))
  | ((with_reducible refine' CM.okE_part (CM.okE_var ?hv ⟨_, ?hv2, ?_⟩)); (case hv => rfl); (case hv2 => rfl))
  | ((with_reducible refine' CM.okE_part (CM.okE_c ⟨_, ?hv2, ?_⟩)); (case hv2 => rfl))
  | ((with_reducible refine' CM.okW_eq (w := _) ?hv ?_); (case hv => (with_reducible rfl)))
  | ((with_reducible refine' CM.okW_deref ?hv ?_); (case hv => walk_at "hv")) | ((with_reducible refine' CM.okW_derefs ?hv ?_); (case hv => rfl)) | ((with_reducible refine' CM.okW_derefC ?hv ?_); (case hv => walk_at "hv")) | ((with_reducible refine' CM.okW_lstAt ?hv ?_); (case hv => walk_at "hv"))
  | with_reducible refine CM.w_add ?_ | with_reducible refine CM.w_sub ?_ | with_reducible refine CM.w_lt ?_ | with_reducible refine CM.w_le ?_ | with_reducible refine CM.w_gt ?_ | with_reducible refine CM.w_ge ?_ | with_reducible refine CM.w_addI ?_
  | with_reducible refine CM.w_mod (by omega) ?_ | with_reducible refine CM.w_div (by omega) (by rw [CM.big_eq]; omega) ?_ | with_reducible refine CM.w_mul (by rw [CM.big_eq]; omega) (by rw [CM.big_eq]; omega) (by rw [CM.big_eq]; omega) (by rw [CM.big_eq]; omega) ?_ | with_reducible refine CM.w_sq (by omega) (by omega) ?_
  | with_reducible refine CM.w_max2 ?_ | with_reducible refine CM.w_min2 ?_ | with_reducible refine CM.w_lenL ?_ | with_reducible refine CM.w_lenT ?_ | with_reducible refine CM.w_lenC ?_ | with_reducible refine CM.w_listL ?_ | with_reducible refine CM.w_listT ?_ | with_reducible refine CM.w_tupL ?_ | with_reducible refine CM.w_tupT ?_
  | ((with_reducible refine CM.okG_setC ?_); (try dsimp only [List.set, CM.fzW]))
  | ((with_reducible refine' CM.okW_ix ?hv ?_); (case hv => rfl))
  | ((with_reducible refine' CM.okB_test (CM.okE_eqn ⟨_, ?hv, ?_⟩)); (case hv => rfl))
  | ((with_reducible refine' CM.okB_testd ⟨_, ?hv, ?_⟩); (case hv => rfl)))
local macro_rules | `(tactic| walk_at "p") => `(tactic| repeat walk_at "p1")
theorem tk : Tk m_l_law_take := tk2 (A := 15490337) (B := 107) (C := 104297) (by decide) (by decide) (by decide) (by decide) (by decide) (by decide)
abbrev frS (b : Nat) (ns : List Str) (z hd co tl : Str) (c : Nat) (w a r sp : Int) (sg : Str) : List Sl := [.cl (.ce b), .cl (.lst (LS ns)), .cl (.str z), .cl (.str hd), .cl (.str co), .cl (.str tl), .cl (.ce c), .cl (.int w), .cl (.int a), .cl (.int r), .cl (.int sp), .cl (.str sg)]
noncomputable def endM : MS := sRet (mOp dAdd (mOp dAdd (mBS fJoin (mC (.str "+")) (mCons (mVar 6) mNil)) (mVar 4)) (mVar 5))
theorem no_way {m1 m2 : MS} (e : ρ[7]? = some (.cl (.int w))) (ne : w ≠ k) (q : okS (m2 ρ h) N T L X) : okS (sSeq (sIf (mTest (mOp dEq (mVar 7) (mC (.int k)))) m1 sNext) m2 ρ h) N T L X :=
  okS_seq (okS_no (okB_test (okE_op (okE_var e (okE_c (okW_eq rfl (okW_eq rfl (w_eqi ⟨_, rfl, decide_eq_false ne, okS_next q⟩))))))))
theorem yes_way {m1 m2 : MS} (e : ρ[7]? = some (.cl (.int k))) (q : okS (m1 ρ h) (fun ρ h => okS (m2 ρ h) N T L X) T L X) : okS (sSeq (sIf (mTest (mOp dEq (mVar 7) (mC (.int k)))) m1 sNext) m2 ρ h) N T L X :=
  okS_seq (okS_yes (okB_test (okE_op (okE_var e (okE_c (okW_eq rfl (okW_eq rfl (w_eqi ⟨_, rfl, decide_eq_true rfl, q⟩))))))))
theorem end_ok {K : Nat} (hl : h2.length = len) (hc : c = len + j) (hg : g[j]? = some (.lst (LS ws))) (q : Wd K ws) (hs : K + co.length + tl.length ≤ 90000) (ha : Asc co) (ha2 : Asc tl) (fin : ∀ y, Tt (K + co.length + tl.length) y → T (.cl (.str y)) (frS b ns z hd co tl c w a r sp sg) (h2 ++ g)) : okS (endM (frS b ns z hd co tl c w a r sp sg) (h2 ++ g)) N T L X := by
  unfold endM
  have at_ : deref (h2 ++ g) (.cl (.ce c)) = some (.lst (LS ws)) := by
    rw [hc]
    exact (tail_at hl).trans hg
  have j1 := q.join
  have j2 : Tt (K + co.length) (Txt.join "+" ws ++ co) := j1.add ⟨ha, Nat.le_refl _⟩
  have := j1.2
  have := j2.2
  refine okS_ret (okE_op (okE_op (okE_bs (okE_c ⟨_, rfl, okE_cons (okE_var rfl (okE_nil (okW_d1 at_ (w_joinW q (by omega) (okE_var rfl (okW_eq rfl (okW_eq rfl (w_addT (by omega) (okE_var rfl (okW_eq rfl (okW_eq rfl (w_addT (by omega) ?_))))))))))))⟩))))
  exact fin _ (j2.add ⟨ha2, Nat.le_refl _⟩)
theorem LS_take (xs : List Str) (i : Nat) : (LS xs).take i = LS (xs.take i) := List.map_take.symm
theorem LS_drop (xs : List Str) (i : Nat) : (LS xs).drop i = LS (xs.drop i) := List.map_drop.symm
theorem LS_set (xs : List Str) (i : Nat) (v : Str) : (LS xs).set i (.str v) = LS (xs.set i v) := List.map_set.symm
theorem LS_erase (xs : List Str) (i : Nat) : (LS xs).eraseIdx i = LS (xs.eraseIdx i) := by
  rw [List.eraseIdx_eq_take_drop_succ, List.eraseIdx_eq_take_drop_succ, LS_take, LS_drop]
  exact List.map_append.symm
theorem LS_app (xs ys : List Str) : LS xs ++ LS ys = LS (xs ++ ys) := List.map_append.symm
theorem ix_nat {i len : Nat} (h : i < len) : ixN len (i : Int) = some i := by
  unfold ixN
  rw [if_pos (by omega), if_pos (by omega)]
  rfl
theorem spoilt_ok {P : W → Tb → Prop} {X : Str → List (Str × D) → Tb → Prop} (hb : Bx b n h0 h) (hn : n ≤ 30000000) (hz : Tt M z) (hM : M ≤ 1000) (hns : ∀ w ∈ ns, Nm w) (hn1 : 1 ≤ ns.length) (hn8 : ns.length ≤ 8)
    (q : ∀ y h', Tt (3 * M + 100) y → Bx b (n + 10) h0 h' → P (.cl (.str y)) h') : okF (m_l_law_spoilt [.ce b, .lst (LS ns), .str z] h) P X := by
  have hbs := hb.self
  have hzl := hz.2
  unfold m_l_law_spoilt
  refine okF_fn rfl ?_
  show okS (b_l_law_spoilt [.cl (.ce b), .cl (.lst (LS ns)), .cl (.str z), .un, .un, .un, .un, .un, .un, .un, .un, .un] h) _ _ _ _
  unfold b_l_law_spoilt
  have fin : ∀ {y : Str} {h2 g : Tb} {a : Nat}, Tt a y → a ≤ 3 * M + 100 → Bx b (n + 10) h h2 → okW (cutF false h (.cl (.str y)) (h2 ++ g)) fun x => P x.1 x.2 := fun {y h2 g a} ht ha hb2 =>
    cut_app hb2.len (Bx.cut hbs hb2) (fun _ z => by cases z) below_str (q y h2 (ht.mono ha) (hb.trans hb2))
  refine okS_seq (okS_asg (okE_bs (okE_var rfl ⟨_, rfl, okE_cons (okE_c (okE_nil (okW_eq rfl (w_part (by decide +kernel) (by omega) (okG_tup3 (okG_setC (okG_setC (okG_setC ?_))))))))⟩)))
  have es := PySem.StrLaws.partition_sum z ":"
  generalize (Txt.partition z ":").1 = hd at es ⊢
  generalize (Txt.partition z ":").2.1 = co at es ⊢
  generalize (Txt.partition z ":").2.2 = tl at es ⊢
  have hs : hd.length + co.length + tl.length ≤ M := by
    rw [← es, CM.len_add, CM.len_add] at hzl
    exact hzl
  obtain ⟨a1, a3⟩ := asc_add.1 (es ▸ hz.1)
  obtain ⟨a1, a2⟩ := asc_add.1 a1
  have hhd : Tt hd.length hd := ⟨a1, Nat.le_refl _⟩
  have hw0 : Wd (hd.length + 1) (Txt.split hd "+") := wd_split hhd
  have hw1 := PyProof.Rows.split_pos hd "+"
  have hwf := hw0.few
  dsimp only [List.set, fzW]
  refine okS_seq (okS_par (okE_cons (okE_bs (okE_var rfl ⟨_, rfl, okE_cons (okE_c (okE_nil (okW_eq rfl (w_split (by decide +kernel) (by omega) (okE_cons (okE_tkc tk hbs rfl (by omega) (by decide) (by decide) fun w h2 w0 w1 hb2 => okE_nil ⟨_, _, rfl, ?_⟩))))))⟩))))
  generalize Txt.split hd "+" = ws at hw0 hw1 hwf ⊢
  have hl2 := hb2.len
  show okS _ _ _ _ _
  dsimp only [gPut, List.set, fzW]
  rw [hl2]
  have lenM : ∀ {X : Px} {ρ : List Sl} {h' : Tb}, ρ[6]? = some (.cl (.ce h.length)) → h'.length = h.length → okE (mCB dLen (mCons (mVar 6) mNil) ρ (h' ++ [.lst (LS ws)])) (fun w ρ' h2 => ρ' = ρ ∧ h2 = h' ++ [.lst (LS ws)] ∧ w = .cl (.int (ws.length : Int))) X := fun {X ρ h'} e hl => okE_cb (okE_cons (okE_var e (okE_nil (okW_derefC (tail_at0 hl) (w_lenL ⟨rfl, rfl, by rw [List.length_map]⟩)))))
  refine okS_seq (okS_par (okE_cons (okE_tkg (m := (ws.length : Int)) tk hb2 rfl (by omega) (lenM rfl hl2) (by omega) (by omega) fun a h3 a0 a1 hb3 => okE_cons (okE_tkg (m := (ws.length : Int)) tk hb3 rfl (by omega) (lenM rfl hb3.len) (by omega) (by omega) fun r h4 r0 r1 hb4 => okE_nil ⟨_, _, rfl, ?_⟩))))
  show okS _ _ _ _ _
  dsimp only [gPut, List.set, fzW]
  refine okS_seq (okS_asg (okE_tkg (m := (z.length : Int) + 1) tk hb4 rfl (by omega) ?_ (by omega) (by omega) fun sp h5 s0 s1 hb5 => okG_setC ?_))
  · exact okE_op (okE_cb (okE_cons (okE_var rfl (okE_nil (okW_eq rfl (w_lenZ (by omega) (okE_c (okW_eq rfl (okW_eq rfl (w_add ⟨rfl, rfl, rfl⟩))))))))))
  dsimp only [List.set, fzW]
  refine okS_seq (okS_asg (okE_op (okE_c (okE_tkcg tk hb5 rfl (by omega) (by decide) (by decide) fun v h6 v0 v1 hb6 => okW_eq rfl (okW_eq rfl (w_mark v0 v1 fun mk hmk => okG_setC ?_))))))
  dsimp only [List.set, fzW]
  show okS ((_ : MS) (frS b ns z hd co tl h.length w a r sp mk) (h6 ++ [.lst (LS ws)])) _ _ _ _
  have hl6 := hb6.len
  have hb7 : Bx b (n + 10) h h6 := hb6.mono (by omega)
  have hmkl := hmk.2
  have c1 : ∀ {lo hi : Option Int}, Tt M (cutS z lo hi) := hz.cut
  have cl : ∀ {lo hi : Option Int}, (cutS z lo hi).length ≤ M := fun {lo hi} => (c1 (lo := lo) (hi := hi)).2
  obtain ⟨a, rfl⟩ := Int.eq_ofNat_of_zero_le a0
  obtain ⟨r, rfl⟩ := Int.eq_ofNat_of_zero_le r0
  have ha : a < ws.length := by omega
  have hr : r < ws.length := by omega
  have cell : deref (h6 ++ [D.lst (LS ws)]) (.cl (.ce h.length)) = some (.lst (LS ws)) := tail_at0 hl6
  by_cases k0 : w = 0
  · subst k0
    refine yes_way rfl ?_
    refine okS_ret (okE_op (okE_op (okE_sl (okE_var rfl (okE_nopart (okE_part (okE_var rfl ⟨_, rfl, okW_eq rfl (w_cutT (by omega) (okE_var rfl (okW_eq rfl (okW_eq rfl (w_addT (by have := cl (lo := none) (hi := some sp); omega) ?_)))))⟩)))))))
    refine okE_sl (okE_var rfl (okE_part (okE_var rfl ⟨_, rfl, okE_nopart (okW_eq rfl (w_cutT (by omega) (okW_eq rfl (okW_eq rfl (w_addT ?_ (fin (((c1.add hmk).add c1)) (by omega) hb7))))))⟩)))
    have := ((c1 (lo := none) (hi := some sp)).add hmk).2
    have := cl (lo := some sp) (hi := none)
    omega
  refine no_way rfl k0 ?_
  by_cases k1 : w = 1
  · subst k1
    refine yes_way rfl ?_
    refine okS_ret (okE_op (okE_sl (okE_var rfl (okE_nopart (okE_part (okE_var rfl ⟨_, rfl, okW_eq rfl (w_cutT (by omega) ?_)⟩))))))
    refine okE_sl (okE_var rfl (okE_part (okE_op (okE_var rfl (okE_c (okW_eq rfl (okW_eq rfl (w_add ⟨_, rfl, okE_nopart (okW_eq rfl (w_cutT (by omega) (okW_eq rfl (okW_eq rfl (w_addT ?_ (fin (c1.add c1) (by omega) hb7))))))⟩))))))))
    have := cl (lo := none) (hi := some sp)
    have := cl (lo := some (sp + 1)) (hi := none)
    omega
  refine no_way rfl k1 ?_
  by_cases k2 : w = 2
  · subst k2
    refine yes_way rfl ?_
    refine okS_ret (okE_op (okE_op (okE_sl (okE_var rfl (okE_nopart (okE_part (okE_var rfl ⟨_, rfl, okW_eq rfl (w_cutT (by omega) (okE_var rfl (okW_eq rfl (okW_eq rfl (w_addT (by have := cl (lo := none) (hi := some sp); omega) ?_)))))⟩)))))))
    refine okE_sl (okE_var rfl (okE_part (okE_op (okE_var rfl (okE_c (okW_eq rfl (okW_eq rfl (w_add ⟨_, rfl, okE_nopart (okW_eq rfl (w_cutT (by omega) (okW_eq rfl (okW_eq rfl (w_addT ?_ (fin (((c1.add hmk).add c1)) (by omega) hb7))))))⟩))))))))
    have := ((c1 (lo := none) (hi := some sp)).add hmk).2
    have := cl (lo := some (sp + 1)) (hi := none)
    omega
  refine no_way rfl k2 ?_
  have tail : ∀ {N : List Sl → Tb → Prop} {w : Int} {c K i : Nat} {ws : List Str} {h2 g : Tb}, h2.length = h.length → c = h.length + i → g[i]? = some (.lst (LS ws)) → Wd K ws → K ≤ hd.length + M + 90 → Bx b (n + 10) h h2 → okS (endM (frS b ns z hd co tl c w a r sp mk) (h2 ++ g)) N (fun w ρ h'' => okW (cutF false h w h'') fun x => P x.1 x.2) (fun _ _ _ => False) (fun C fs ρ h'' => okW (cutX false h fs h'') fun x => X C fs x) := fun {N w c K i ws h2 g} hl hc hg hq hK hb2 =>
    end_ok hl hc hg hq (by omega) a2 a3 fun y hy => fin hy (by omega) hb2
  have er : (LS ws)[r]? = some (.str ws[r]) := by rw [List.getElem?_map, List.getElem?_eq_getElem hr]; rfl
  have ea : (LS ws)[a]? = some (.str ws[a]) := by rw [List.getElem?_map, List.getElem?_eq_getElem ha]; rfl
  have hrl : ws[r].length ≤ hd.length := by
    have := ln_mem (List.getElem_mem hr)
    have := hw0.sum
    omega
  have hra : Asc ws[r] := hw0.asc _ (List.getElem_mem hr)
  have hlw : (LS ws).length = ws.length := List.length_map ..
  by_cases k3 : w = 3
  · subst k3
    refine yes_way rfl ?_
    refine okS_asg (okE_lst (okE_cons (okE_op (okE_op (okE_var rfl (okE_lst (okE_cons (okE_op (okE_var rfl (okE_var rfl (okW_eq cell (okW_eq rfl (w_ixL (i := r) er (okE_cons (okE_c (okE_cons (okE_c (okE_cons (okE_c (okE_nil ⟨Nat.le_of_ble_eq_true rfl, okW_eq rfl (okW_eq rfl (w_addLL (zs := ns) (ws := [ws[r], "abcdefghi", "", "-"]) (by show ns.length + 4 ≤ _; omega) ?_))⟩))))))))))))))))))))
    refine okE_tkg (m := (ns.length : Int) + 4) tk hb6 rfl (by omega) ?_ (by omega) (by omega) fun v h7 v0 v1 hb8 => ?_
    · exact okE_op (okE_cb (okE_cons (okE_var rfl (okE_nil (okW_eq rfl (w_lenL (okE_c (okW_eq rfl (okW_eq rfl (w_add ⟨rfl, rfl, by rw [List.length_map]⟩))))))))))
    have hall : ∀ y ∈ ns ++ [ws[r], "abcdefghi", "", "-"], Tt (M + 9) y := fun y hy => by
      simp only [List.mem_append, List.mem_cons, List.not_mem_nil, or_false] at hy
      rcases hy with hy | rfl | rfl | rfl | rfl
      · exact (tt_nm (hns y hy)).mono (by omega)
      · exact ⟨hra, by omega⟩
      · exact (tt_lit (a := 9) (by decide +kernel) (by decide +kernel)).mono (by omega)
      · exact (tt_lit (a := 0) (by decide +kernel) (by decide +kernel)).mono (by omega)
      · exact (tt_lit (a := 1) (by decide +kernel) (by decide +kernel)).mono (by omega)
    have hv : v.toNat < (ns ++ [ws[r], "abcdefghi", "", "-"]).length := by
      rw [List.length_append]
      show v.toNat < ns.length + 4
      omega
    have hy := hall _ (List.getElem_mem hv)
    have ey : (LS (ns ++ [ws[r], "abcdefghi", "", "-"]))[v.toNat]? = some (.str (ns ++ [ws[r], "abcdefghi", "", "-"])[v.toNat]) := by rw [List.getElem?_map, List.getElem?_eq_getElem hv]; rfl
    generalize (ns ++ [ws[r], "abcdefghi", "", "-"])[v.toNat] = y at hy ey
    refine okW_eq rfl (okW_eq rfl (w_ixP v0 ey (okE_nil ⟨Nat.le_of_ble_eq_true rfl, ?_⟩)))
    have cell7 : (h7 ++ [D.lst (LS ws)])[h.length]? = some (.lst (LS ws)) := tail_at0 hb8.len
    refine okG_slc (ys := [.str y]) rfl (okE_var rfl (okE_part (okE_var rfl ⟨_, rfl, okE_part (okE_var rfl ⟨_, rfl, a, a, rfl, rfl, okW_lstAt cell7 ⟨Nat.le_refl _, by rw [hlw]; omega, by rw [hlw]; show ws.length + 1 ≤ _; omega, ?_⟩⟩)⟩)))
    dsimp only
    rw [tail_set0 hb8.len]
    refine no_way rfl (by decide) (no_way rfl (by decide) (no_way rfl (by decide) (no_way rfl (by decide) ?_)))
    refine tail (i := 0) (ws := ws.take a ++ [y] ++ ws.drop a) hb8.len rfl ?_ (hw0.ins hy) (by omega) (hb8.mono (by omega))
    show some (D.lst ((LS ws).take a ++ [.str y] ++ (LS ws).drop a)) = some (D.lst (LS (ws.take a ++ [y] ++ ws.drop a)))
    rw [LS_take, LS_drop, show ([.str y] : List D) = LS [y] from rfl, LS_app, LS_app]
  refine no_way rfl k3 ?_
  by_cases k4 : w = 4
  · subst k4
    refine yes_way rfl ?_
    refine okS_asg (okE_tup (okE_cons (okE_fr (okE_op (okE_var rfl (okE_var rfl (okW_eq cell (okW_eq rfl (w_ixL (i := r) er (okE_cons (okE_fr (okE_op (okE_var rfl (okE_var rfl (okW_eq cell (okW_eq rfl (w_ixL (i := a) ea (okE_nil ⟨Nat.le_of_ble_eq_true rfl, ?_⟩))))))))))))))))))
    have cell6 : (h6 ++ [D.lst (LS ws)])[h.length]? = some (.lst (LS ws)) := tail_at0 hl6
    refine okG_tup2 (okG_sub (okE_var rfl (okE_var rfl ⟨_, rfl, okW_lstAt cell6 (okW_eq (ix_nat (by rw [hlw]; exact ha)) ?_)⟩)))
    dsimp only [fzW]
    rw [tail_set0 hl6]
    have e1 : ([D.lst (LS ws)].set 0 (.lst ((LS ws).set a (.str ws[r])))) = [.lst (LS (ws.set a ws[r]))] := by
      rw [LS_set]
      rfl
    rw [e1]
    have cell8 : (h6 ++ [D.lst (LS (ws.set a ws[r]))])[h.length]? = some (.lst (LS (ws.set a ws[r]))) := tail_at0 hl6
    refine okG_sub (okE_var rfl (okE_var rfl ⟨_, rfl, okW_lstAt cell8 (okW_eq (ix_nat (by rw [List.length_map, List.length_set]; exact hr)) ?_)⟩))
    dsimp only [fzW]
    rw [tail_set0 hl6]
    refine no_way rfl (by decide) (no_way rfl (by decide) (no_way rfl (by decide) ?_))
    refine tail (i := 0) (ws := (ws.set a ws[r]).set r ws[a]) hl6 rfl ?_ (hw0.swap ha hr) (by omega) hb7
    show some (D.lst ((LS (ws.set a ws[r])).set r (.str ws[a]))) = some (D.lst (LS ((ws.set a ws[r]).set r ws[a])))
    rw [LS_set]
  refine no_way rfl k4 ?_
  by_cases k5 : w = 5
  · subst k5
    refine yes_way rfl ?_
    have cell6 : (h6 ++ [D.lst (LS ws)])[h.length]? = some (.lst (LS ws)) := tail_at0 hl6
    refine okS_drop (okE_mut (okE_var rfl (okW_lstAt cell6 (okE_cons (okE_var rfl (okE_nil (okW_lstAt cell6 (popAt_ok (by omega) (by rw [hlw]; omega) (by rw [hlw]; omega) fun hv => ?_))))))))
    dsimp only
    rw [tail_set0 hl6]
    refine no_way rfl (by decide) (no_way rfl (by decide) ?_)
    refine tail (i := 0) (ws := ws.eraseIdx a) hl6 rfl ?_ (hw0.sub (List.eraseIdx_sublist ..)) (by omega) hb7
    show some (D.lst ((LS ws).eraseIdx a)) = some (D.lst (LS (ws.eraseIdx a)))
    rw [LS_erase]
  refine no_way rfl k5 ?_
  by_cases k6 : w = 6
  · subst k6
    refine yes_way rfl ?_
    have l1 : Tt 1 (":" : Str) := tt_lit (by decide +kernel) (by decide +kernel)
    have l0 : Tt 0 ("" : Str) := tt_lit (by decide +kernel) (by decide +kernel)
    have n1 := l1.2
    have e0 : (LS ns)[0]? = some (.str ns[0]) := by rw [List.getElem?_map, List.getElem?_eq_getElem (by omega)]; rfl
    have t0 : Tt 8 ns[0] := tt_nm (hns _ (List.getElem_mem _))
    have tr : Tt hd.length ws[r] := ⟨hra, hrl⟩
    have n0 := t0.2
    refine okS_ret (okE_op (okE_var rfl (okE_op (okE_lst (okE_cons (okE_op (okE_c (okE_op (okE_var rfl (okE_c (okW_eq rfl (okW_eq rfl (w_ixL (i := 0) e0 (okW_eq rfl (okW_eq rfl (w_addT (by omega) (okE_cons (okE_c (okE_cons (okE_c (okE_cons (okE_op (okE_c (okE_op (okE_var rfl (okE_var rfl (okW_eq cell (okW_eq rfl (w_ixL (i := r) er (okW_eq rfl (okW_eq rfl (w_addT (by omega) (okE_nil ⟨Nat.le_of_ble_eq_true rfl, ?_⟩)))))))))))))))))))))))))))))))))
    refine okE_tkcg tk hb6 rfl (by omega) (by decide) (by decide) fun v h7 v0 v1 hb8 => ?_
    have all : ∀ d ∈ ([.str (":" ++ ns[0]), .str ":", .str "", .str (":" ++ ws[r])] : List D), ∃ z', d = .str z' ∧ Tt (M + 9) z' := fun d hd => by
      simp only [List.mem_cons, List.not_mem_nil, or_false] at hd
      rcases hd with rfl | rfl | rfl | rfl
      · exact ⟨_, rfl, (l1.add t0).mono (by omega)⟩
      · exact ⟨_, rfl, l1.mono (by omega)⟩
      · exact ⟨_, rfl, l0.mono (by omega)⟩
      · exact ⟨_, rfl, (l1.add tr).mono (by omega)⟩
    have hu : v.toNat < ([.str (":" ++ ns[0]), .str ":", .str "", .str (":" ++ ws[r])] : List D).length := by show v.toNat < 4; omega
    obtain ⟨z', ez, tz⟩ := all _ (List.getElem_mem hu)
    have nz := tz.2
    refine okW_eq rfl (okW_eq rfl (w_ixP (ds := ([.str (":" ++ ns[0]), .str ":", .str "", .str (":" ++ ws[r])] : List D)) v0 ((List.getElem?_eq_getElem hu).trans (congrArg some ez)) (okW_eq rfl (okW_eq rfl (w_addT (by omega) (fin (hhd.add tz) (by omega) (hb8.mono (by omega))))))))
  refine no_way rfl k6 ?_
  by_cases k7 : w = 7
  · subst k7
    refine yes_way rfl ?_
    refine okS_asg (okE_sl (okE_cb (okE_cons (okE_op (okE_var rfl (okE_var rfl (okW_eq cell (okW_eq rfl (w_addLL (zs := ws) (ws := ns) (by omega) (okE_nil (okW_eq rfl (w_srtZ (ws := ws ++ ns) (by rw [List.length_append]; omega) (okE_nopart (okE_part ?_))))))))))))))
    refine okE_tkcg tk hb6 rfl (by omega) (by decide) (by decide) fun v h7 v0 v1 hb8 => ?_
    obtain ⟨v, rfl⟩ := Int.eq_ofNat_of_zero_le v0
    refine ⟨_, rfl, okW_eq rfl (w_sl (okG_set ?_))⟩
    dsimp only [List.set]
    rw [cut_take, List.append_assoc, List.length_append, hb8.len]
    refine tail (i := 1) (ws := (sortS (ws ++ ns)).take v) hb8.len rfl ?_ (((hw0.app (wd_names hns hn8)).perm (sortS_perm _)).sub (List.take_sublist ..)) (by omega) (hb8.mono (by omega))
    show some (D.lst ((LS (sortS (ws ++ ns))).take v)) = some (D.lst (LS ((sortS (ws ++ ns)).take v)))
    rw [LS_take]
  refine no_way rfl k7 ?_
  exact tail (i := 0) hl6 rfl rfl hw0 (by omega) hb7
end
end K09
namespace K09
open PySem PySem.Spec PyProof.Rows L2 SL CM
section
variable {ρ : List Sl} {h h0 h1 h2 g : Tb} {N : List Sl → Tb → Prop} {T : Ps W} {L : Bool → List Sl → Tb → Prop} {X : Px} {b n i j len m M c : Nat} {ns : List Int} {d e v : D} {z : Str} {ls : List (List Nat)} {p : Pt} {s1 s4 s5 s6 s7 s8 s9 s10 : Sl}
local macro_rules | `(tactic| walk_at "hv") => `(tactic| first | rfl | assumption | (exact (by assumption : _)))
local macro_rules | `(tactic| walk_at "p1") => `(tactic| first
  | with_reducible refine CM.okS_seq ?_ | with_reducible refine CM.okS_next ?_ | with_reducible refine CM.okS_asg ?_ | with_reducible refine CM.okS_ret ?_ | with_reducible refine CM.okS_drop ?_ | with_reducible refine CM.okS_aug ?_ | with_reducible refine CM.okS_cnt ?_ | with_reducible refine CM.okS_fg ?_ | with_reducible refine CM.okS_retN ?_
  | with_reducible refine CM.okE_op ?_ | with_reducible refine CM.okE_cb ?_ | with_reducible refine CM.okE_cons ?_ | with_reducible refine CM.okE_nil ?_ | with_reducible refine CM.okB_not ?_ | with_reducible refine CM.okE_c ?_ | with_reducible refine CM.okE_fr ?_ | with_reducible refine CM.okE_ce ?_ | with_reducible refine CM.okE_notV ?_ | with_reducible refine CM.okE_un ?_
  | with_reducible refine CM.okE_sl ?_ | with_reducible refine CM.okE_nopart ?_
  | ((with_reducible refine' CM.okE_var ?hv ?_); (case hv => rfl))
  | ((with_reducible refine' CM.okE_part (CM.okE_var ?hv ⟨_, ?hv2, ?_⟩)); (case hv => rfl); (case hv2 => rfl))
  | ((with_reducible refine' CM.okE_part (CM.okE_c ⟨_, ?hv2, ?_⟩)); (case hv2 => rfl))
  | ((with_reducible refine' CM.okW_eq (w := _) ?hv ?_); (case hv => (with_reducible rfl)))
  | ((with_reducible refine' CM.okW_deref ?hv ?_); (case hv => walk_at "hv")) | ((with_reducible refine' CM.okW_derefs ?hv ?_); (case hv => rfl)) | ((with_reducible refine' CM.okW_derefC ?hv ?_); (case hv => walk_at "hv")) | ((with_reducible refine' CM.okW_lstAt ?hv ?_); (case hv => walk_at "hv"))
  | with_reducible refine CM.w_add ?_ | with_reducible refine CM.w_sub ?_ | with_reducible refine CM.w_lt ?_ | with_reducible refine CM.w_le ?_ | with_reducible refine CM.w_gt ?_ | with_reducible refine CM.w_ge ?_ | with_reducible refine CM.w_addI ?_
  | with_reducible refine CM.w_mod (by omega) ?_ | with_reducible refine CM.w_div (by omega) (by rw [CM.big_eq]; omega) ?_ | with_reducible refine CM.w_mul (by rw [CM.big_eq]; omega) (by rw [CM.big_eq]; omega) (by rw [CM.big_eq]; omega) (by rw [CM.big_eq]; omega) ?_ | with_reducible refine CM.w_sq (by omega) (by omega) ?_
  | with_reducible refine CM.w_max2 ?_ | with_reducible refine CM.w_min2 ?_ | with_reducible refine CM.w_lenL ?_ | with_reducible refine CM.w_lenT ?_ | with_reducible refine CM.w_lenC ?_ | with_reducible refine CM.w_listL ?_ | with_reducible refine CM.w_listT ?_ | with_reducible refine CM.w_tupL ?_ | with_reducible refine CM.w_tupT ?_
  | ((with_reducible refine CM.okG_setC ?_); (try dsimp only [List.set, CM.fzW]))
  | ((with_reducible refine' CM.okW_ix ?hv ?_); (case hv => rfl))
  | ((with_reducible refine' CM.okB_test (CM.okE_eqn ⟨_, ?hv, ?_⟩)); (case hv => rfl))
  | ((with_reducible refine' CM.okB_testd ⟨_, ?hv, ?_⟩); (case hv => rfl)))
local macro_rules | `(tactic| walk_at "p") => `(tactic| repeat walk_at "p1")
abbrev frL (ns : List Int) (s1 : Sl) (b : Nat) (ls : List (List Nat)) (s4 s5 s6 s7 s8 s9 s10 : Sl) : List Sl := [.cl (.scr ns), s1, .cl (.ce b), .cl (.lst (LS (ls.map S))), s4, s5, s6, s7, s8, s9, s10, .un]
noncomputable def textM : MS := (sSeq (sAsg (mCB dSrt (mCons (mLc (mIU (mOp dIx (mVar 4) (mC (.int 0)))) (gSetC 11) mYes (mOp dIx (mVar 3) (mVar 11)) [11]) mNil)) (gSetC 6))
    (sAsg (mOp dAdd (mIf (mTest (mOp dNe (mVar 6) (mLst mNil))) (mBS fJoin (mC (.str "+")) (mCons (mVar 6) mNil)) (mC (.str "-"))) (mIf (mTest (mOp dIs (mOp dIx (mVar 4) (mC (.int 1))) (mC .non))) (mC (.str "")) (mOp dAdd (mC (.str ":")) (mOp dIx (mVar 3) (mOp dIx (mVar 4) (mC (.int 1))))))) (gSetC 7)))
theorem text_short (c : Cols m ls) (u : PtU m p) : Tt 60 (shT (fxP ls p) (spP ls p)) := by
  have ok := u.sh c
  have hn : ∀ z ∈ sortS (fxP ls p), Nm z := fun z hz => ok.nm z (sortS_mem.mp hz)
  have j := join_plus hn
  have l5 := ok.len
  have h1 : Tt 46 (shH (sortS (fxP ls p))) := by
    unfold shH
    split
    · exact tt_lit (by decide +kernel) (by decide +kernel)
    · exact ⟨j.2, by rw [sortS_len] at j; omega⟩
  have h2 : Tt 9 (shE (spP ls p)) := by
    cases e : spP ls p with
    | none => exact tt_lit (by decide +kernel) (by decide +kernel)
    | some z => exact (tt_lit (a := 1) (z := (":" : Str)) (by decide +kernel) (by decide +kernel)).add (tt_nm (ok.sp z e).1)
  exact (h1.add h2).mono (by omega)
theorem text_ok (c : Cols m ls) (hm : m ≤ 8) (u : PtU m p) (hN : N (frL ns s1 b ls (.cl (partD p)) s5 (.cl (.lst (LS (sortS (fxP ls p))))) (.cl (.str (shT (fxP ls p) (spP ls p)))) s8 s9 s10) h) : okS (textM (frL ns s1 b ls (.cl (partD p)) s5 s6 s7 s8 s9 s10) h) N T L X := by
  have ok := u.sh c
  have l5 := ok.len
  have hl5 : p.1.length ≤ 5 := by
    have : (fxP ls p).length = p.1.length := List.length_map ..
    omega
  have hn : ∀ z ∈ sortS (fxP ls p), Nm z := fun z hz => ok.nm z (sortS_mem.mp hz)
  have sl := sortS_len (fxP ls p)
  unfold textM
  refine okS_seq (okS_asg (okE_cb (okE_cons (okE_lc1 (ds := PI p.1) (fun j h' acc => h' = h ∧ acc = LS ((p.1.take j).map (nm ls))) rfl ?_ ?_ ?_))))
  · exact okE_iU (okE_op (okE_var rfl (okE_c (okW_eq rfl (okW_eq rfl (w_ixT (i := 0) rfl (okW_eq rfl (okW_eq rfl ⟨by rw [PI_len]; omega, rfl, rfl, rfl, rfl⟩))))))))
  · rintro j d h' acc hj ⟨rfl, rfl⟩
    have hj2 : j < p.1.length := by
      have := (List.getElem?_eq_some_iff.mp hj).1
      rwa [PI_len] at this
    have e : d = .int ((p.1[j] : Nat) : Int) := by
      rw [PI_get hj2] at hj
      cases hj
      rfl
    subst e
    have lt : p.1[j] < m := u.lt _ (List.getElem_mem hj2)
    have at_ : (LS (ls.map S))[p.1[j]]? = some (.str (nm ls p.1[j])) := nm_at (by rw [c.1]; exact lt)
    refine okE_op (okE_var rfl (okE_var rfl (okW_eq rfl (okW_eq rfl (w_ixL at_ ⟨rfl, rfl, ?_⟩)))))
    rw [List.take_succ_eq_append_getElem hj2, List.map_append]
    simp [fzW]
  rintro h' acc ⟨eh, rfl⟩
  subst h'
  rw [PI_len, List.take_of_length_le (Nat.le_refl _)]
  refine okE_nil (okW_eq rfl (w_srt (zs := fxP ls p) (by omega) (okG_setC ?_)))
  dsimp only [List.set, fzW]
  refine okS_asg (okE_op (okE_if (okB_test (okE_op (okE_var rfl (okE_eq (w := W.fr (LS [])) rfl (okW_eq rfl (okW_eq rfl (w_ne (dEqB_L (Nm.sorted ok.nm) (fun _ z => absurd z List.not_mem_nil)) ⟨_, rfl, fun e => ?_, fun e => ?_⟩)))))))))
  all_goals
    have step : ∀ {P : Ps W} {w : W}, w = .cl (.str (shH (sortS (fxP ls p)))) → okE (mIf (mTest (mOp dIs (mOp dIx (mVar 4) (mC (.int 1))) (mC .non))) (mC (.str "")) (mOp dAdd (mC (.str ":")) (mOp dIx (mVar 3) (mOp dIx (mVar 4) (mC (.int 1))))) (frL ns s1 b ls (.cl (partD p)) s5 (.cl (.lst (LS (sortS (fxP ls p))))) s7 s8 s9 s10) h) (fun x ρ h' => x = .cl (.str (shE (spP ls p))) ∧ ρ = (frL ns s1 b ls (.cl (partD p)) s5 (.cl (.lst (LS (sortS (fxP ls p))))) s7 s8 s9 s10) ∧ h' = h) X := fun {P w} ew => by
      refine okE_if (okB_test (okE_op (okE_op (okE_var rfl (okE_c (okW_eq rfl (okW_eq rfl (w_ixT (i := 1) (d := oI p.2) rfl ?_))))))))
      refine okE_c ?_
      have esp : spP ls p = p.2.map (nm ls) := rfl
      cases hp : p.2 with
      | none =>
        refine okW_eq (w := .non) rfl (okW_eq rfl (okW_eq (w := .cl (.bl true)) rfl ⟨_, rfl, fun _ => okE_c ⟨?_, rfl, rfl⟩, (fun e => nomatch e)⟩))
        rw [esp, hp]
        rfl
      | some k =>
        have hk := u.sp k hp
        have at_ : (LS (ls.map S))[k]? = some (.str (nm ls k)) := nm_at (by rw [c.1]; exact hk.1)
        have hl := len_nm (nm_nm c hk.1)
        have e1 : ((":" : Str).length) = 1 := by decide +kernel
        refine okW_eq (w := .int (k : Int)) rfl (okW_eq rfl (okW_eq (w := .cl (.bl false)) rfl ⟨_, rfl, (fun e => nomatch e), fun _ => ?_⟩))
        refine okE_op (okE_c (okE_op (okE_var rfl (okE_op (okE_var rfl (okE_c (okW_eq rfl (okW_eq rfl (w_ixT (i := 1) (d := .int (k : Int)) ?_ (okW_eq rfl (okW_eq rfl (w_ixL at_ (okW_eq rfl (okW_eq rfl (w_addT (by omega) ⟨?_, rfl, rfl⟩)))))))))))))))
        · show some (oI p.2) = _
          rw [hp]
          rfl
        · rw [esp, hp]
          rfl
  · have e : sortS (fxP ls p) ≠ [] := by simpa using e
    refine okE_bs (okE_c ⟨_, rfl, okE_cons (okE_var rfl (okE_nil (okW_eq rfl (w_joinP hn (by omega) ?_))))⟩)
    have hh : shH (sortS (fxP ls p)) = Txt.join "+" (sortS (fxP ls p)) := by
      unfold shH
      rw [if_neg e]
    refine (step (P := fun _ _ _ => True) (w := .cl (.str (Txt.join "+" (sortS (fxP ls p))))) (by rw [hh])).mono ?_
    rintro x ρ h' ⟨rfl, rfl, rfl⟩
    rw [← hh]
    have t := text_short c u
    unfold shT at t hN
    have := t.2
    rw [CM.len_add] at this
    exact okW_eq rfl (okW_eq rfl (w_addT (by omega) (okG_setC hN)))
  · have e : sortS (fxP ls p) = [] := by simpa using e
    refine okE_c ?_
    have hh : shH (sortS (fxP ls p)) = "-" := by
      unfold shH
      rw [if_pos e]
    refine (step (P := fun _ _ _ => True) (w := .cl (.str "-")) (by rw [hh])).mono ?_
    rintro x ρ h' ⟨rfl, rfl, rfl⟩
    rw [← hh]
    have t := text_short c u
    unfold shT at t hN
    have := t.2
    rw [CM.len_add] at this
    exact okW_eq rfl (okW_eq rfl (w_addT (by omega) (okG_setC hN)))
end
end K09
namespace K09
open PySem PySem.Spec PyProof.Rows L2 SL CM
theorem sSeq_assoc (a b c : MS) : sSeq (sSeq a b) c = sSeq a (sSeq b c) := by
  funext ρ h
  unfold sSeq
  cases a ρ h with
  | none => rfl
  | some o => cases o <;> rfl
section
variable {ρ : List Sl} {h h0 h1 h2 g : Tb} {N : List Sl → Tb → Prop} {T : Ps W} {L : Bool → List Sl → Tb → Prop} {X : Px} {b n i j len m M c : Nat} {ns : List Int} {d e v : D} {z : Str} {ls : List (List Nat)} {p : Pt} {s1 s4 s5 s6 s7 s8 s9 s10 : Sl}
local macro_rules | `(tactic| walk_at "hv") => `(tactic| first | rfl | assumption | (exact (by assumption : _)))
local macro_rules | `(tactic| walk_at "p1") => `(tactic| first
  | with_reducible refine CM.okS_seq ?_ | with_reducible refine CM.okS_next ?_ | with_reducible refine CM.okS_asg ?_ | with_reducible refine CM.okS_ret ?_ | with_reducible refine CM.okS_drop ?_ | with_reducible refine CM.okS_aug ?_ | with_reducible refine CM.okS_cnt ?_ | with_reducible refine CM.okS_fg ?_ | with_reducible refine CM.okS_retN ?_
  | with_reducible refine CM.okE_op ?_ | with_reducible refine CM.okE_cb ?_ | with_reducible refine CM.okE_cons ?_ | with_reducible refine CM.okE_nil ?_ | with_reducible refine CM.okB_not ?_ | with_reducible refine CM.okE_c ?_ | with_reducible refine CM.okE_fr ?_ | with_reducible refine CM.okE_ce ?_ | with_reducible refine CM.okE_notV ?_ | with_reducible refine CM.okE_un ?_
  | with_reducible refine CM.okE_sl ?_ | with_reducible refine CM.okE_nopart ?_
  | ((with_reducible refine' CM.okE_var ?hv ?_); (case hv => rfl))
  | ((with_reducible refine' CM.okE_part (CM.okE_var ?hv ⟨_, ?hv2, ?_⟩)); (case hv => rfl); (case hv2 => rfl))
  | ((with_reducible refine' CM.okE_part (CM.okE_c ⟨_, ?hv2, ?_⟩)); (case hv2 => rfl))
  | ((with_reducible refine' CM.okW_eq (w := _) ?hv ?_); (case hv => (with_reducible rfl)))
  | ((with_reducible refine' CM.okW_deref ?hv ?_); (case hv => walk_at "hv")) | ((with_reducible refine' CM.okW_derefs ?hv ?_); (case hv => rfl)) | ((with_reducible refine' CM.okW_derefC ?hv ?_); (case hv => walk_at "hv")) | ((with_reducible refine' CM.okW_lstAt ?hv ?_); (case hv => walk_at "hv"))
  | with_reducible refine CM.w_add ?_ | with_reducible refine CM.w_sub ?_ | with_reducible refine CM.w_lt ?_ | with_reducible refine CM.w_le ?_ | with_reducible refine CM.w_gt ?_ | with_reducible refine CM.w_ge ?_ | with_reducible refine CM.w_addI ?_
  | with_reducible refine CM.w_mod (by omega) ?_ | with_reducible refine CM.w_div (by omega) (by rw [CM.big_eq]; omega) ?_ | with_reducible refine CM.w_mul (by rw [CM.big_eq]; omega) (by rw [CM.big_eq]; omega) (by rw [CM.big_eq]; omega) (by rw [CM.big_eq]; omega) ?_ | with_reducible refine CM.w_sq (by omega) (by omega) ?_
  | with_reducible refine CM.w_max2 ?_ | with_reducible refine CM.w_min2 ?_ | with_reducible refine CM.w_lenL ?_ | with_reducible refine CM.w_lenT ?_ | with_reducible refine CM.w_lenC ?_ | with_reducible refine CM.w_listL ?_ | with_reducible refine CM.w_listT ?_ | with_reducible refine CM.w_tupL ?_ | with_reducible refine CM.w_tupT ?_
  | ((with_reducible refine CM.okG_setC ?_); (try dsimp only [List.set, CM.fzW]))
  | ((with_reducible refine' CM.okW_ix ?hv ?_); (case hv => rfl))
  | ((with_reducible refine' CM.okB_test (CM.okE_eqn ⟨_, ?hv, ?_⟩)); (case hv => rfl))
  | ((with_reducible refine' CM.okB_testd ⟨_, ?hv, ?_⟩); (case hv => rfl)))
local macro_rules | `(tactic| walk_at "p") => `(tactic| repeat walk_at "p1")
/-- what right tells is True -/
theorem right_q {P : W → Tb → Prop} {X : Str → List (Str × D) → Tb → Prop} (hz : Tt 3000 z) (p : P (.cl (.bl true)) h) : okF (m_l_law_right [.str z] h) P X := right_ok hz.1 hz.2 p
noncomputable def lapM : MS := (sSeq (sAsg (callN m_l_law_spoilt (mCons (mCe (mVar 2)) (mCons (mFr (mVar 3)) (mCons (mFr (mVar 7)) mNil)))) (gSetC 10))
    (sIf (mOr (mNot (mTru (callN m_l_law_right (mCons (mFr (mVar 10)) mNil)))) (mNot (mTru (callN m_l_law_right (mCons (mFr (callN m_l_law_spoilt (mCons (mCe (mVar 2)) (mCons (mFr (mVar 3)) (mCons (mFr (mVar 10)) mNil))))) mNil))))) (sRet (mC (.bl false))) sNext))
theorem lap_ok (hb : Bx b n h0 h) (hn : n ≤ 20000000) (c : Cols m ls) (hm1 : 1 ≤ m) (hm : m ≤ 8) (hz : Tt 60 z) (hN : ∀ s10 h2, Bx b (n + 20) h0 h2 → N (frL ns s1 b ls s4 s5 s6 (.cl (.str z)) s8 s9 s10) h2) : okS (lapM (frL ns s1 b ls s4 s5 s6 (.cl (.str z)) s8 s9 s10) h) N T L X := by
  have hns : ∀ w ∈ ls.map S, Nm w := fun w hw => by
    obtain ⟨l, hl, rfl⟩ := List.mem_map.mp hw
    exact c.2.2 l hl
  have hl : (ls.map S).length = m := by rw [List.length_map]; exact c.1
  unfold lapM
  refine okS_seq (okS_asg (okE_call (okE_cons (okE_ce (okE_var rfl (okE_cons (okE_fr (okE_var rfl (okE_cons (okE_fr (okE_var rfl (okE_nil (spoilt_ok (ns := ls.map S) hb (by omega) hz (by omega) hns (by omega) (by omega) fun y h3 hy hb3 => okG_setC ?_)))))))))))))
  dsimp only [List.set, fzW]
  refine okS_no (okB_or (okB_not (okB_tru (okE_call (okE_cons (okE_fr (okE_var rfl (okE_nil (right_q (hy.mono (by omega)) ⟨.bl true, true, rfl, rfl, (fun e => nomatch e), fun _ => ?_⟩)))))))))
  refine okB_not (okB_tru (okE_call (okE_cons (okE_fr (okE_call (okE_cons (okE_ce (okE_var rfl (okE_cons (okE_fr (okE_var rfl (okE_cons (okE_fr (okE_var rfl (okE_nil (spoilt_ok (ns := ls.map S) hb3 (by omega) hy (by omega) hns (by omega) (by omega) fun y2 h4 hy2 hb4 => okE_nil (right_q (hy2.mono (by omega)) ⟨.bl true, true, rfl, rfl, rfl, okS_next (hN _ _ (hb4.mono (by omega)))⟩)))))))))))))))))
noncomputable def turnM : MS := (sSeq (sAsg (mCB dSrt (mCons (mLc (mIU (mOp dIx (mVar 4) (mC (.int 0)))) (gSetC 11) mYes (mOp dIx (mVar 3) (mVar 11)) [11]) mNil)) (gSetC 6))
    (sSeq (sAsg (mOp dAdd (mIf (mTest (mOp dNe (mVar 6) (mLst mNil))) (mBS fJoin (mC (.str "+")) (mCons (mVar 6) mNil)) (mC (.str "-"))) (mIf (mTest (mOp dIs (mOp dIx (mVar 4) (mC (.int 1))) (mC .non))) (mC (.str "")) (mOp dAdd (mC (.str ":")) (mOp dIx (mVar 3) (mOp dIx (mVar 4) (mC (.int 1))))))) (gSetC 7))
    (sSeq (sIf (mOr (mTest (mOp dNe (mStrO "Shape" (CP.m_Shape_D_str_D KS false) (mCons (callN m_l_law_shape (mCons (mCe (mVar 2)) (mCons (mFr (mVar 3)) (mCons (mFr (mVar 4)) mNil)))) mNil)) (mVar 7))) (mNot (mTru (callN m_l_law_right (mCons (mFr (mVar 7)) mNil))))) (sRet (mC (.bl false))) sNext)
    (sSeq (sFor (mRng1 (mCons (mC (.int 6)) mNil)) (gSetC 8) lapM)
    (sIf (mOr (mNot (mTru (callN m_l_law_right (mCons (mFr (mOp dAdd (mVar 7) (mC (.str "\n")))) mNil)))) (mNot (mTru (callN m_l_law_right (mCons (mFr (mOp dAdd (mC (.str " ")) (mVar 7))) mNil))))) (sRet (mC (.bl false))) sNext)))))
theorem assoc_seq {a c r : MS} (q : okS (sSeq (sSeq a c) r ρ h) N T L X) : okS (sSeq a (sSeq c r) ρ h) N T L X := by
  rw [sSeq_assoc] at q
  exact q
theorem turn_ok (hb : Bx b n h0 h) (hn : n ≤ 10000000) (c : Cols m ls) (hm1 : 1 ≤ m) (hm : m ≤ 8) (u : PtU m p) (hN : ∀ s6 s7 s8 s10 h2, Bx b (n + 200) h0 h2 → N (frL ns s1 b ls (.cl (partD p)) s5 s6 s7 s8 s9 s10) h2) : okS (turnM (frL ns s1 b ls (.cl (partD p)) s5 s6 s7 s8 s9 s10) h) N T L X := by
  have ok := u.sh c
  have ht := text_short c u
  unfold turnM
  refine assoc_seq (okS_seq (text_ok c hm u ?_))
  refine okS_seq (okS_no (okB_or (okB_test (okE_op (okE_strO (okE_cons (okE_call (okE_cons (okE_ce (okE_var rfl (okE_cons (okE_fr (okE_var rfl (okE_cons (okE_fr (okE_var rfl (okE_nil (shape_draw tk ksok rfl hb (by omega) c u fun h2 hb2 => okE_nil ⟨_, _, rfl, rfl, shape_str ok rfl ⟨rfl, ?_⟩⟩))))))))))))))))))
  refine okE_var rfl (okW_eq rfl (okW_eq rfl (w_ne (c := decide (shT (fxP ls p) (spP ls p) = shT (fxP ls p) (spP ls p))) rfl ⟨_, rfl, fun e => ?_, fun _ => ?_⟩)))
  · rw [decide_eq_true rfl] at e
    cases e
  refine okB_not (okB_tru (okE_call (okE_cons (okE_fr (okE_var rfl (okE_nil (right_q (ht.mono (by omega)) ⟨.bl true, true, rfl, rfl, rfl, okS_next ?_⟩)))))))
  generalize shT (fxP ls p) (spP ls p) = z at ht ⊢
  refine okS_seq (okS_for (okE_rng1 (okE_cons (okE_c (okE_nil (okW_eq rfl ⟨6, rfl, by decide, by decide, ?_⟩))))))
  refine okS_loop0 (fun j ρ h' => ∃ (s8 s10 : Sl), ρ = frL ns s1 b ls (.cl (partD p)) s5 (.cl (.lst (LS (sortS (fxP ls p))))) (.cl (.str z)) s8 s9 s10 ∧ Bx b (n + 10 + 20 * j) h0 h') _ 0 ⟨_, _, rfl, hb2.mono (by omega)⟩ ?_ ?_
  · rintro j d ρ h' hj ⟨s8, s10, rfl, hb3⟩
    have hjl := (List.getElem?_eq_some_iff.mp hj).1
    rw [List.length_map, List.length_range] at hjl
    have hjl : j < 6 := hjl
    rw [Nat.zero_add] at hb3 ⊢
    refine okG_setC ?_
    dsimp only [List.set, fzW]
    exact lap_ok hb3 (by omega) c hm1 hm ht fun s10 h4 hb4 => ⟨_, _, rfl, hb4.mono (by omega)⟩
  rintro ρ h' ⟨s8, s10, rfl, hb3⟩
  rw [Nat.zero_add] at hb3
  have hb4 : Bx b (n + 200) h0 h' := hb3.mono (by
    show n + 10 + 20 * ((List.range (6 : Int).toNat).map _).length ≤ _
    rw [List.length_map, List.length_range]
    show n + 10 + 20 * 6 ≤ _
    omega)
  have l1 : Tt 1 ("\n" : Str) := tt_lit (by decide +kernel) (by decide +kernel)
  have l2 : Tt 1 (" " : Str) := tt_lit (by decide +kernel) (by decide +kernel)
  have k0 := ht.2
  have k1 := l1.2
  have k2 := l2.2
  refine okS_no (okB_or (okB_not (okB_tru (okE_call (okE_cons (okE_fr (okE_op (okE_var rfl (okE_c (okW_eq rfl (okW_eq rfl (w_addT (by omega) (okE_nil (right_q ((ht.add l1).mono (by omega)) ⟨.bl true, true, rfl, rfl, (fun e => nomatch e), fun _ => ?_⟩))))))))))))))
  exact okB_not (okB_tru (okE_call (okE_cons (okE_fr (okE_op (okE_c (okE_var rfl (okW_eq rfl (okW_eq rfl (w_addT (by omega) (okE_nil (right_q ((l2.add ht).mono (by omega)) ⟨.bl true, true, rfl, rfl, rfl, okS_next (hN _ _ _ _ _ hb4)⟩))))))))))))
end
end K09
namespace K09
open PySem PySem.Spec PyProof.Rows L2 SL CM
noncomputable abbrev tellM (m : Mo W) : Mo W := (mAlt (mCB dReprX (mCons m mNil)) (mStrO "Shape" (CP.m_Shape_D_repr_D KS false) (mCons m mNil)))
/-- repr of d is the text s -/
def Shown (h : Tb) (d : D) (s : Str) : Prop := ∀ (m : Mo W) (ρ : List Sl), m ρ h = some (.ok (.cl d) ρ h) → tellM m ρ h = some (.ok (.cl (.str s)) ρ h)
theorem shown_plain {h : Tb} {d e : D} {s : Str} (hd : deref h (.cl d) = some e) (r : dReprX [e] = some (.cl (.str s))) : Shown h d s := fun m ρ hm => by
  have one : mCB dReprX (mCons m mNil) ρ h = some (.ok (.cl (.str s)) ρ h) := by
    obtain ⟨r', e', p⟩ : okE (mCB dReprX (mCons m mNil) ρ h) (fun w ρ' h' => w = .cl (.str s) ∧ ρ' = ρ ∧ h' = h) nox := okE_cb (okE_cons (okE_eq hm (okE_nil (okW_d1 hd ⟨_, r, rfl, rfl, rfl⟩))))
    cases r' with
    | ok w ρ' h' =>
      obtain ⟨rfl, rfl, rfl⟩ := p
      exact e'
    | ex C fs ρ h => exact p.elim
  show mAlt _ _ ρ h = _
  unfold mAlt
  rw [one]
theorem shown_shape {h : Tb} {fx : List Str} {sp : Option Str} (ok : ShOk fx sp) : ∃ s, Shown h (shD fx sp) s := by
  have f : okF (CP.m_Shape_D_repr_D KS false [shD fx sp] h) (fun w h' => ∃ s, w = .cl (.str s) ∧ h' = h) noX := shape_repr ok rfl fun z => ⟨z, rfl, rfl⟩
  obtain ⟨w, o, e, s, rfl, rfl⟩ := f.rt
  refine ⟨s, fun m ρ hm => ?_⟩
  have none_ : mCB dReprX (mCons m mNil) ρ o = none := by
    unfold mCB mCons
    rw [hm]
    have : pd (shD fx sp) = none := by simp only [shD, pd]
    show (dRepr [shD fx sp]).map (fun w => R.ok w ρ o) = none
    have e2 : dRepr [shD fx sp] = none := by
      show (pd (shD fx sp)).bind (fun x => if showsB x = true then some (W.cl (.str x.shown)) else none) = none
      rw [this]
      rfl
    rw [e2]
    rfl
  obtain ⟨r', e', p⟩ : okE (tellM m ρ o) (fun w ρ' h' => w = .cl (.str s) ∧ ρ' = ρ ∧ h' = o) nox := okE_alt2 none_ (okE_strO (okE_cons (okE_eq hm (okE_nil ⟨_, _, rfl, rfl, (⟨_, e, rfl, rfl, rfl, rfl⟩)⟩))))
  cases r' with
  | ok w ρ' h' =>
    obtain ⟨rfl, rfl, rfl⟩ := p
    exact e'
  | ex C fs ρ h => exact p.elim
section
variable {ρ : List Sl} {h h0 h1 h2 g : Tb} {N : List Sl → Tb → Prop} {T : Ps W} {L : Bool → List Sl → Tb → Prop} {X : Px} {b n i j len m M c : Nat} {ns : List Int} {d e v : D} {z : Str} {s0 s1 s2 s3 s4 s5 s6 s7 s8 s9 s10 : Sl} {k : Kd}
local macro_rules | `(tactic| walk_at "hv") => `(tactic| first | rfl | assumption | (exact (by assumption : _)))
local macro_rules | `(tactic| walk_at "p1") => `(tactic| first
  | with_reducible refine CM.okS_seq ?_ | with_reducible refine CM.okS_next ?_ | with_reducible refine CM.okS_asg ?_ | with_reducible refine CM.okS_ret ?_ | with_reducible refine CM.okS_drop ?_ | with_reducible refine CM.okS_aug ?_ | with_reducible refine CM.okS_cnt ?_ | with_reducible refine CM.okS_fg ?_ | with_reducible refine CM.okS_retN ?_
  | with_reducible refine CM.okE_op ?_ | with_reducible refine CM.okE_cb ?_ | with_reducible refine CM.okE_cons ?_ | with_reducible refine CM.okE_nil ?_ | with_reducible refine CM.okB_not ?_ | with_reducible refine CM.okE_c ?_ | with_reducible refine CM.okE_fr ?_ | with_reducible refine CM.okE_ce ?_ | with_reducible refine CM.okE_notV ?_ | with_reducible refine CM.okE_un ?_
  | with_reducible refine CM.okE_sl ?_ | with_reducible refine CM.okE_nopart ?_
  | ((with_reducible refine' CM.okE_var ?hv ?_); (case hv => rfl))
  | ((with_reducible refine' CM.okE_part (CM.okE_var ?hv ⟨_, ?hv2, ?_⟩)); (case hv => rfl); (case hv2 => rfl))
  | ((with_reducible refine' CM.okE_part (CM.okE_c ⟨_, ?hv2, ?_⟩)); (case hv2 => rfl))
  | ((with_reducible refine' CM.okW_eq (w := _) ?hv ?_); (case hv => (with_reducible rfl)))
  | ((with_reducible refine' CM.okW_deref ?hv ?_); (case hv => walk_at "hv")) | ((with_reducible refine' CM.okW_derefs ?hv ?_); (case hv => rfl)) | ((with_reducible refine' CM.okW_derefC ?hv ?_); (case hv => walk_at "hv")) | ((with_reducible refine' CM.okW_lstAt ?hv ?_); (case hv => walk_at "hv"))
  | with_reducible refine CM.w_add ?_ | with_reducible refine CM.w_sub ?_ | with_reducible refine CM.w_lt ?_ | with_reducible refine CM.w_le ?_ | with_reducible refine CM.w_gt ?_ | with_reducible refine CM.w_ge ?_ | with_reducible refine CM.w_addI ?_
  | with_reducible refine CM.w_mod (by omega) ?_ | with_reducible refine CM.w_div (by omega) (by rw [CM.big_eq]; omega) ?_ | with_reducible refine CM.w_mul (by rw [CM.big_eq]; omega) (by rw [CM.big_eq]; omega) (by rw [CM.big_eq]; omega) (by rw [CM.big_eq]; omega) ?_ | with_reducible refine CM.w_sq (by omega) (by omega) ?_
  | with_reducible refine CM.w_max2 ?_ | with_reducible refine CM.w_min2 ?_ | with_reducible refine CM.w_lenL ?_ | with_reducible refine CM.w_lenT ?_ | with_reducible refine CM.w_lenC ?_ | with_reducible refine CM.w_listL ?_ | with_reducible refine CM.w_listT ?_ | with_reducible refine CM.w_tupL ?_ | with_reducible refine CM.w_tupT ?_
  | ((with_reducible refine CM.okG_setC ?_); (try dsimp only [List.set, CM.fzW]))
  | ((with_reducible refine' CM.okW_ix ?hv ?_); (case hv => rfl))
  | ((with_reducible refine' CM.okB_test (CM.okE_eqn ⟨_, ?hv, ?_⟩)); (case hv => rfl))
  | ((with_reducible refine' CM.okB_testd ⟨_, ?hv, ?_⟩); (case hv => rfl)))
local macro_rules | `(tactic| walk_at "p") => `(tactic| repeat walk_at "p1")
noncomputable def oddM : MS := (sSeq (sAsg (callN m_l_law_caught (mCons (mFr (mVar 5)) mNil)) (gSetC 9))
    (sSeq (sIf (mTru (mCB (dIsi (.ty "list") (tabK KS (.ty "list"))) (mCons (mVar 5) (mCons (mC (.ty "list")) mNil)))) (sDrop (mMut fAppend (mVar 5) (mCons (mC (.str "late")) mNil))) sNext)
    (sIf (mOr (mTest (mOp dNe (mOp dIx (mVar 9) (mC (.int 0))) (mC (.str "text")))) (mTest (mOp dNe (tellM (mOp dIx (mVar 9) (mC (.int 1)))) (tellM (mVar 5))))) (sRet (mC (.bl false))) sNext)))
abbrev frO (s0 s1 s2 s3 s4 s5 s6 s7 s8 s9 s10 : Sl) : List Sl := [s0, s1, s2, s3, s4, s5, s6, s7, s8, s9, s10, .un]
/-- what becomes of the thing -/
inductive Grows (h : Tb) (d : D) (k : Kd) (h2 : Tb) : Prop
  | no (c : k ≠ .b "list") (q : h2 = h)
  | l {n : Nat} {ds : List D} (c : k = .b "list") (q : d = .ce n) (e : h[n]? = some (.lst ds)) (l : ds.length < 1000) (q2 : h2 = h.set n (.lst (ds ++ [.str "late"])))
theorem odd_turn (hd : deref h (.cl d) = some e) (hk : kd e.u = some k) (hm : k ∈ KS) (hn : k ≠ .b "str") (g : Grows h d k h2) (sh : ∃ s, Shown h2 d s) (hN : N (frO s0 s1 s2 s3 s4 (.cl d) s6 s7 s8 (.cl (.lst [.str "text", d])) s10) h2) : okS (oddM (frO s0 s1 s2 s3 s4 (.cl d) s6 s7 s8 s9 s10) h) N T L X := by
  obtain ⟨s, sh⟩ := sh
  unfold oddM
  refine okS_seq (okS_asg (okE_call (okE_cons (okE_fr (okE_var rfl (okE_nil (caught_odd hd hk hm hn (okG_setC ?_))))))))
  dsimp only [List.set, fzW, List.map]
  have fin : okS ((sIf (mOr (mTest (mOp dNe (mOp dIx (mVar 9) (mC (.int 0))) (mC (.str "text")))) (mTest (mOp dNe (tellM (mOp dIx (mVar 9) (mC (.int 1)))) (tellM (mVar 5))))) (sRet (mC (.bl false))) sNext) (frO s0 s1 s2 s3 s4 (.cl d) s6 s7 s8 (.cl (.lst [.str "text", d])) s10) h2) N T L X := by
    refine okS_no (okB_or (okB_test (okE_op (okE_op (okE_var rfl (okE_c (okW_eq rfl (okW_eq rfl (w_ixL (i := 0) rfl (okE_c (okW_eq rfl (okW_eq rfl (w_ne (c := decide (("text" : Str) = "text")) rfl ⟨_, rfl, fun e => ?_, fun _ => ?_⟩)))))))))))))
    · rw [decide_eq_true rfl] at e
      cases e
    have ix : mOp dIx (mVar 9) (mC (.int 1)) (frO s0 s1 s2 s3 s4 (.cl d) s6 s7 s8 (.cl (.lst [.str "text", d])) s10) h2 = some (.ok (.cl d) (frO s0 s1 s2 s3 s4 (.cl d) s6 s7 s8 (.cl (.lst [.str "text", d])) s10) h2) := by
      unfold mOp
      rw [mVar_eq (k := 9) rfl]
      rfl
    refine okB_test (okE_op (okE_eq (sh _ _ ix) (okE_eq (sh _ _ (mVar_eq (k := 5) rfl)) (okW_eq rfl (okW_eq rfl (w_ne (c := decide (s = s)) rfl ⟨_, rfl, ?_, okS_next hN⟩))))))
    rw [decide_eq_true rfl]
    rfl
  have isl : ∀ {P : Ps Bool}, P (insK k (.ty "list")) (frO s0 s1 s2 s3 s4 (.cl d) s6 s7 s8 (.cl (.lst [.str "text", d])) s10) h → okE (mTru (mCB (dIsi (.ty "list") (tabK KS (.ty "list"))) (mCons (mVar 5) (mCons (mC (.ty "list")) mNil))) (frO s0 s1 s2 s3 s4 (.cl d) s6 s7 s8 (.cl (.lst [.str "text", d])) s10) h) P X := fun q =>
    okB_tru (okE_cb (okE_cons (okE_var rfl (okE_cons (okE_c (okE_nil (okW_d2 hd rfl (w_isi (k := k) rfl hk hm ⟨_, _, rfl, rfl, q⟩))))))))
  cases g with
  | no c q =>
    subst q
    have hi : insK k (.ty "list") = false := by
      have : ∀ k ∈ KS, k ≠ .b "list" → insK k (.ty "list") = false := by decide +kernel
      exact this k hm c
    exact okS_seq (okS_no (isl ⟨hi, okS_next fin⟩))
  | @l n ds c q e1 l q2 =>
    subst q c
    have hi : insK (.b "list") (.ty "list") = true := by decide +kernel
    refine okS_seq (okS_yes (isl ⟨hi, okS_drop (okE_mut (okE_var rfl (okW_lstAt e1 (okE_cons (okE_c (okE_nil (okW_lstAt e1 (w_append (show ds.length < 100000 by omega) ?_))))))))⟩))
    subst q2
    exact fin
end
end K09
namespace K09
open PySem PySem.Spec PyProof.Rows L2 SL CM
section
variable {ρ : List Sl} {h h0 h1 h2 g : Tb} {N : List Sl → Tb → Prop} {T : Ps W} {L : Bool → List Sl → Tb → Prop} {X : Px} {b n i j len m M c : Nat} {ns : List Int} {d e v : D} {z : Str} {s0 s1 s2 s3 s4 s5 s6 s7 s8 s9 s10 : Sl} {k : Kd} {ls : List (List Nat)}
local macro_rules | `(tactic| walk_at "hv") => `(tactic| first | rfl | assumption | (exact (by assumption : _)))
local macro_rules | `(tactic| walk_at "p1") => `(tactic| first
  | with_reducible refine CM.okS_seq ?_ | with_reducible refine CM.okS_next ?_ | with_reducible refine CM.okS_asg ?_ | with_reducible refine CM.okS_ret ?_ | with_reducible refine CM.okS_drop ?_ | with_reducible refine CM.okS_aug ?_ | with_reducible refine CM.okS_cnt ?_ | with_reducible refine CM.okS_fg ?_ | with_reducible refine CM.okS_retN ?_
  | with_reducible refine CM.okE_op ?_ | with_reducible refine CM.okE_cb ?_ | with_reducible refine CM.okE_cons ?_ | with_reducible refine CM.okE_nil ?_ | with_reducible refine CM.okB_not ?_ | with_reducible refine CM.okE_c ?_ | with_reducible refine CM.okE_fr ?_ | with_reducible refine CM.okE_ce ?_ | with_reducible refine CM.okE_notV ?_ | with_reducible refine CM.okE_un ?_
  | with_reducible refine CM.okE_sl ?_ | with_reducible refine CM.okE_nopart ?_
  | ((with_reducible refine' CM.okE_var ?hv ?_); (case hv => rfl))
  | ((with_reducible refine' CM.okE_part (CM.okE_var ?hv ⟨_, ?hv2, ?_⟩)); (case hv => rfl); (case hv2 => rfl))
  | ((with_reducible refine' CM.okE_part (CM.okE_c ⟨_, ?hv2, ?_⟩)); (case hv2 => rfl))
  | ((with_reducible refine' CM.okW_eq (w := _) ?hv ?_); (case hv => (with_reducible rfl)))
  | ((with_reducible refine' CM.okW_deref ?hv ?_); (case hv => walk_at "hv")) | ((with_reducible refine' CM.okW_derefs ?hv ?_); (case hv => rfl)) | ((with_reducible refine' CM.okW_derefC ?hv ?_); (case hv => walk_at "hv")) | ((with_reducible refine' CM.okW_lstAt ?hv ?_); (case hv => walk_at "hv"))
  | with_reducible refine CM.w_add ?_ | with_reducible refine CM.w_sub ?_ | with_reducible refine CM.w_lt ?_ | with_reducible refine CM.w_le ?_ | with_reducible refine CM.w_gt ?_ | with_reducible refine CM.w_ge ?_ | with_reducible refine CM.w_addI ?_
  | with_reducible refine CM.w_mod (by omega) ?_ | with_reducible refine CM.w_div (by omega) (by rw [CM.big_eq]; omega) ?_ | with_reducible refine CM.w_mul (by rw [CM.big_eq]; omega) (by rw [CM.big_eq]; omega) (by rw [CM.big_eq]; omega) (by rw [CM.big_eq]; omega) ?_ | with_reducible refine CM.w_sq (by omega) (by omega) ?_
  | with_reducible refine CM.w_max2 ?_ | with_reducible refine CM.w_min2 ?_ | with_reducible refine CM.w_lenL ?_ | with_reducible refine CM.w_lenT ?_ | with_reducible refine CM.w_lenC ?_ | with_reducible refine CM.w_listL ?_ | with_reducible refine CM.w_listT ?_ | with_reducible refine CM.w_tupL ?_ | with_reducible refine CM.w_tupT ?_
  | ((with_reducible refine CM.okG_setC ?_); (try dsimp only [List.set, CM.fzW]))
  | ((with_reducible refine' CM.okW_ix ?hv ?_); (case hv => rfl))
  | ((with_reducible refine' CM.okB_test (CM.okE_eqn ⟨_, ?hv, ?_⟩)); (case hv => rfl))
  | ((with_reducible refine' CM.okB_testd ⟨_, ?hv, ?_⟩); (case hv => rfl)))
local macro_rules | `(tactic| walk_at "p") => `(tactic| repeat walk_at "p1")
noncomputable def endL : MS := (sFg [7] (sIf (mTest (mOp dNe (mLc (mIU (mLst (mCons (mC (.str "")) (mCons (mC (.str ":")) (mCons (mC (.str "-:")) (mCons (mC (.str "+")) (mCons (mC (.str "a+")) (mCons (mC (.str "a+-")) (mCons (mC (.str "--")) mNil))))))))) (gSetC 7) (mNot (mTru (callN m_l_law_right (mCons (mFr (mVar 7)) mNil)))) (mVar 7) [7]) (mLst mNil))) (sRet (mC (.bl false))) sNext))
noncomputable def itemsM : Mo ItM := (mIU (mLst (mCons (mC .non) (mCons (mC (.bl true)) (mCons (mC (.int 0)) (mCons (mCe (mLst mNil)) (mCons (mTup (mCons (mC (.str "a")) mNil)) (mCons mDNew (mCons (mMake false "Shape" (CP.m_Shape_D_init_D KS false) [D.non] (mCons (mFr (mLst (mCons (mC (.str "a")) mNil))) mNil)) (mCons (mOp dPow (mC (.int 10)) (mC (.int 29))) (mCons (mCe (mLst (mCons (mC (.str "a")) mNil))) mNil)))))))))))
noncomputable def oddsM : MS := sFor itemsM (gSet 5) oddM
noncomputable def partsL : MS := sFor (mIU (mOp dAdd (callN m_l_law_parts (mCons (mCe (mVar 2)) (mCons (mFr (mCB dLen (mCons (mVar 3) mNil))) (mCons (mFr (mC (.int 5))) mNil)))) (mLst (mCons (mTup (mCons (mLst mNil) (mCons (mC .non) mNil))) mNil)))) (gSetC 4) turnM
noncomputable def cellTM : MS := (sSeq (sAsg (callN m_l_law_bag (mCons (mFr (callN m_l_law_cell (mCons (mFr (mVar 0)) (mCons (mFr (mVar 1)) mNil)))) mNil)) (gSet 2))
    (sSeq (sAsg (callN m_l_law_names (mCons (mCe (mVar 2)) (mCons (mFr (mOp dAdd (mC (.int 1)) (callN m_l_law_take (mCons (mCe (mVar 2)) (mCons (mFr (mC (.int 8))) mNil))))) mNil))) (gSetC 3))
    (sSeq partsL (sSeq oddsM endL))))
theorem end_law (hN : ∀ s, N (frO s0 s1 s2 s3 s4 s5 s6 s s8 s9 s10) h) : okS (endL (frO s0 s1 s2 s3 s4 s5 s6 s7 s8 s9 s10) h) N T L X := by
  unfold endL
  refine okS_fg ?_
  show okS ((sIf _ _ _) (frO s0 s1 s2 s3 s4 s5 s6 .un s8 s9 s10) h) _ _ _ _
  have all : ∀ w ∈ (["", ":", "-:", "+", "a+", "a+-", "--"] : List Str), Tt 3000 w := fun w hw => by
    simp only [List.mem_cons, List.not_mem_nil, or_false] at hw
    rcases hw with rfl | rfl | rfl | rfl | rfl | rfl | rfl <;> exact tt_lit (by decide +kernel) (by decide +kernel)
  refine okS_no (okB_test (okE_op (okE_lcF (ds := LS ["", ":", "-:", "+", "a+", "a+-", "--"]) (fun j h' acc => h' = h ∧ acc = []) rfl ?_ ?_ ?_)))
  · exact okE_iU (okE_lst (okE_cons (okE_c (okE_cons (okE_c (okE_cons (okE_c (okE_cons (okE_c (okE_cons (okE_c (okE_cons (okE_c (okE_cons (okE_c (okE_nil ⟨Nat.le_of_ble_eq_true rfl, okW_eq rfl (okW_eq rfl ⟨Nat.le_of_ble_eq_true rfl, rfl, rfl, rfl, rfl⟩)⟩))))))))))))))))
  · rintro j d h' acc hj ⟨rfl, rfl⟩
    obtain ⟨w, hw, rfl⟩ := strs_at hj
    have ht := all w (List.mem_of_getElem? hw)
    exact okB_not (okB_tru (okE_call (okE_cons (okE_fr (okE_var rfl (okE_nil (right_q ht ⟨.bl true, true, rfl, rfl, rfl, (fun e => nomatch e), fun _ => ⟨rfl, rfl⟩⟩)))))))
  rintro h' acc ⟨eh, rfl⟩
  subst h'
  exact okE_eq (w := W.fr []) rfl (okW_eq rfl (okW_eq rfl (w_ne0 (xs := []) ⟨_, rfl, rfl, okS_next (hN _)⟩)))
theorem odds_ok (hN : ∀ s5 s9 h2, N (frO s0 s1 s2 s3 s4 s5 s6 s7 s8 s9 s10) h2) : okS (oddsM (frO s0 s1 s2 s3 s4 s5 s6 s7 s8 s9 s10) h) N T L X := by
  unfold oddsM itemsM
  have nm_a : Nm ("a" : Str) := nmB_iff.1 (by decide +kernel)
  have ok : ShOk ["a"] none := ⟨by decide, List.nodup_cons.2 ⟨List.not_mem_nil, .nil⟩, fun z hz => by rw [List.mem_singleton.1 hz]; exact nm_a, fun z e => by cases e⟩
  refine okS_for (okE_iU (okE_lst (okE_cons (okE_c (okE_cons (okE_c (okE_cons (okE_c (okE_cons (okE_ce (okE_lst (okE_nil ⟨Nat.le_of_ble_eq_true rfl, ?_⟩))))))))))))
  refine okE_cons (okE_tup (okE_cons (okE_c (okE_nil ⟨Nat.le_of_ble_eq_true rfl, ?_⟩))))
  refine okE_cons (okE_eq (w := W.nw (.dK [])) rfl (okE_cons (okE_shape ksok (okE_cons (okE_fr (okE_lst (okE_cons (okE_c (okE_nil ⟨Nat.le_of_ble_eq_true rfl, okE_nil ⟨.lst (LS ["a"]), .lst (LS ["a"]), ["a"], none, rfl, rfl, rfl, ok, ?_⟩⟩)))))))))
  refine okE_cons (okE_op (okE_c (okE_c (okW_eq rfl (okW_eq rfl (w_pow (by decide) (by decide) (by decide) (by decide) ?_))))))
  refine okE_cons (okE_ce (okE_lst (okE_cons (okE_c (okE_nil ⟨Nat.le_of_ble_eq_true rfl, okE_nil ⟨Nat.le_of_ble_eq_true rfl, ?_⟩⟩)))))
  refine okW_eq rfl (okW_eq rfl ⟨Nat.le_of_ble_eq_true rfl, ?_⟩)
  dsimp only [List.map, fzW]
  rw [List.append_assoc, List.length_append, List.length_singleton]
  have cell0 : (h ++ ([D.lst []] ++ [D.lst [.str "a"]]))[h.length]? = some (.lst []) := tail_at0 rfl
  have cell1 : ∀ x : D, (h ++ ([x] ++ [D.lst [.str "a"]]))[h.length + 1]? = some (.lst [.str "a"]) := fun x => tail_at (i := 1) rfl
  -- one by one
  refine okS_loop_cons (okG_set (odd_turn (k := .b "NoneType") rfl rfl (by decide +kernel) (by decide) (.no (by decide) rfl) ?_ ?_))
  · obtain ⟨s, e⟩ := repr_lit (d := .non) (x := .none) rfl rfl (by decide +kernel)
    exact ⟨s, shown_plain rfl e⟩
  refine okS_loop_cons (okG_set (odd_turn (k := .b "bool") rfl rfl (by decide +kernel) (by decide) (.no (by decide) rfl) ?_ ?_))
  · obtain ⟨s, e⟩ := repr_lit (d := .bl true) (x := .bool true) rfl rfl (by decide +kernel)
    exact ⟨s, shown_plain rfl e⟩
  refine okS_loop_cons (okG_set (odd_turn (k := .b "int") rfl rfl (by decide +kernel) (by decide) (.no (by decide) rfl) ?_ ?_))
  · obtain ⟨s, e⟩ := repr_lit (d := .int 0) (x := .int 0) rfl rfl (by decide +kernel)
    exact ⟨s, shown_plain rfl e⟩
  refine okS_loop_cons (okG_set (odd_turn (k := .b "list") (e := .lst []) cell0 rfl (by decide +kernel) (by decide) (.l rfl rfl cell0 (by decide) rfl) ?_ ?_))
  · obtain ⟨s, e⟩ := repr_lit (d := .lst [.str "late"]) (x := .list [.str "late"]) (by simp only [pd, pds, Option.bind_some, Option.map_some]) rfl (by decide +kernel)
    refine ⟨s, shown_plain (e := .lst [.str "late"]) ?_ e⟩
    show ((h ++ ([D.lst []] ++ [D.lst [.str "a"]])).set h.length (.lst [.str "late"]))[h.length]? = _
    rw [tail_set0 rfl]
    exact tail_at0 rfl
  rw [tail_set0 rfl]
  refine okS_loop_cons (okG_set (odd_turn (k := .b "tuple") rfl rfl (by decide +kernel) (by decide) (.no (by decide) rfl) ?_ ?_))
  · obtain ⟨s, e⟩ := repr_lit (d := .tup [.str "a"]) (x := .tuple [.str "a"]) (by simp only [pd, pds, Option.bind_some, Option.map_some]) rfl (by decide +kernel)
    exact ⟨s, shown_plain rfl e⟩
  refine okS_loop_cons (okG_set (odd_turn (k := .b "dict") (e := .dK []) rfl rfl (by decide +kernel) (by decide) (.no (by decide) rfl) ?_ ?_))
  · obtain ⟨s, e⟩ := repr_dict (kvs := []) (x := []) rfl (by decide +kernel)
    exact ⟨s, shown_plain rfl e⟩
  refine okS_loop_cons (okG_set (odd_turn (k := .own "Shape") (e := shD ["a"] none) rfl rfl (by decide +kernel) (by decide) (.no (by decide) rfl) (shown_shape ok) ?_))
  refine okS_loop_cons (okG_set (odd_turn (k := .b "int") rfl rfl (by decide +kernel) (by decide) (.no (by decide) rfl) ?_ ?_))
  · obtain ⟨s, e⟩ := repr_lit (d := .int (10 ^ (29 : Int).toNat)) (x := .int (10 ^ (29 : Int).toNat)) rfl rfl (by decide +kernel)
    exact ⟨s, shown_plain rfl e⟩
  refine okS_loop_cons (okG_set (odd_turn (k := .b "list") (e := .lst [.str "a"]) (cell1 _) rfl (by decide +kernel) (by decide) (.l rfl rfl (cell1 _) (by decide) rfl) ?_ ?_))
  · obtain ⟨s, e⟩ := repr_lit (d := .lst [.str "a", .str "late"]) (x := .list [.str "a", .str "late"]) (by simp only [pd, pds, Option.bind_some, Option.map_some]) rfl (by decide +kernel)
    refine ⟨s, shown_plain (e := .lst [.str "a", .str "late"]) ?_ e⟩
    show ((h ++ ([D.lst [.str "late"]] ++ [D.lst [.str "a"]])).set (h.length + 1) (.lst [.str "a", .str "late"]))[h.length + 1]? = _
    rw [tail_set rfl]
    exact tail_at (i := 1) rfl
  exact okS_loop_nil (hN _ _ _)
theorem cell_turn {s2 s3 : Sl} (hi : i < 1000) (hN : ∀ s2 s3 s4 s5 s6 s7 s8 s9 s10 h', N [.cl (.scr ns), .cl (.int i), s2, s3, s4, s5, s6, s7, s8, s9, s10, .un] h') : okS (cellTM [.cl (.scr ns), .cl (.int i), s2, s3, s4, s5, s6, s7, s8, s9, s10, .un] h) N T L X := by
  unfold cellTM
  refine okS_seq (okS_asg (okE_call (okE_cons (okE_fr (okE_call (okE_cons (okE_fr (okE_var rfl (okE_cons (okE_fr (okE_var rfl (okE_nil ?_))))))))))))
  refine cell_ok (A := 15490337) (B := 107) (by omega) (by decide) (by decide) fun v => okE_nil ?_
  refine box_ok fun ds hds => okG_set ?_
  dsimp only [List.set]
  have hb : Bx h.length 0 (h ++ [D.lst ds]) (h ++ [D.lst ds]) := Bx.refl (tail_at0 rfl) hds
  generalize h ++ [D.lst ds] = H at hb ⊢
  generalize h.length = b at hb ⊢
  refine okS_seq (okS_asg (okE_call (okE_cons (okE_ce (okE_var rfl (okE_cons (okE_fr (okE_op (okE_c (okE_tkc tk hb rfl (by omega) (by decide) (by decide) fun v h2 v0 v1 hb2 => ?_))))))))))
  obtain ⟨v, rfl⟩ := Int.eq_ofNat_of_zero_le v0
  refine okW_eq rfl (okW_eq rfl (w_add (okE_nil ?_)))
  show okF (m_l_law_names [.ce b, .int (1 + (v : Int))] h2) _ _
  rw [show (1 : Int) + (v : Int) = ((1 + v : Nat) : Int) by rw [Int.natCast_add]; rfl]
  refine names_ok tk hb2 (by omega) (by omega) (by omega) fun ls h3 c hb3 => okG_setC ?_
  have hm1 : 1 ≤ 1 + v := by omega
  have hm : 1 + v ≤ 8 := by omega
  generalize 1 + v = m at c hm hm1
  dsimp only [List.set, fzW]
  have hll : (LS (ls.map S)).length = m := by rw [List.length_map, List.length_map]; exact c.1
  unfold partsL
  refine okS_seqM (fun ρ h' => ∃ s4 s6 s7 s8 s10, ρ = frO (.cl (.scr ns)) (.cl (.int i)) (.cl (.ce b)) (.cl (.lst (LS (ls.map S)))) s4 s5 s6 s7 s8 s9 s10) ?_ ?_
  · refine okS_for (okE_iU (okE_op (okE_call (okE_cons (okE_ce (okE_var rfl (okE_cons (okE_fr (okE_cb (okE_cons (okE_var rfl (okE_nil (okW_eq rfl (w_lenL (okE_cons (okE_fr (okE_c (okE_nil ?_))))))))))))))))))
    show okF (m_l_law_parts [.ce b, .int ((LS (ls.map S)).length : Nat), .int 5] h3) _ _
    rw [hll]
    refine parts_ok (m := m) (most := 5) tk rfl rfl hb3 (by omega) (by omega) (by decide) fun ps h4 hps hb4 => ?_
    refine okE_eq (w := W.fr [partD ([], none)]) rfl (okW_eq rfl (okW_eq rfl ?_))
    have hpl := hps.len
    refine okW_eq (w := W.fr ((ps ++ [([], none)]).map partD)) ?_ ?_
    · show (if (ps.map partD).length + 1 ≤ 100000 then some (W.fr (ps.map partD ++ [partD ([], none)])) else none) = _
      rw [List.length_map, if_pos (by omega), List.map_append]
      rfl
    have hq : ∀ p ∈ ps ++ [([], none)], Part m p.1 p.2 := fun p hp => by
      rcases List.mem_append.mp hp with z | z
      · exact hps.ok p z
      · rw [List.mem_singleton.mp z]
        exact ⟨.nil, fun i z => absurd z List.not_mem_nil, Nat.zero_le _, fun i z => by cases z⟩
    have hql : (ps ++ [([], none)]).length ≤ 6 := by rw [List.length_append, List.length_singleton]; omega
    generalize ps ++ [([], none)] = qs at hq hql ⊢
    refine okW_eq rfl (okW_eq rfl ⟨by rw [List.length_map]; omega, ?_⟩)
    refine okS_loop0 (fun j ρ h' => ∃ s4 s6 s7 s8 s10, ρ = frO (.cl (.scr ns)) (.cl (.int i)) (.cl (.ce b)) (.cl (.lst (LS (ls.map S)))) s4 s5 s6 s7 s8 s9 s10 ∧ Bx b (1000 + 200 * j) H h') _ 0 ⟨_, _, _, _, _, rfl, hb4.mono (by omega)⟩ ?_ ?_
    · rintro j d ρ h' hj ⟨s4, s6, s7, s8, s10, rfl, hb5⟩
      have hjl := (List.getElem?_eq_some_iff.mp hj).1
      rw [List.length_map] at hjl
      obtain ⟨p, hp, rfl⟩ := List.mem_map.mp (List.mem_of_getElem? hj)
      rw [Nat.zero_add] at hb5 ⊢
      refine okG_setC ?_
      dsimp only [List.set, fzW]
      exact turn_ok hb5 (by omega) c hm1 hm (hq p hp).u fun s6 s7 s8 s10 h6 hb6 => ⟨_, _, _, _, _, rfl, hb6.mono (by omega)⟩
    · rintro ρ h' ⟨s4, s6, s7, s8, s10, rfl, hb5⟩
      exact ⟨_, _, _, _, _, rfl⟩
  · rintro ρ h' ⟨s4, s6, s7, s8, s10, rfl⟩
    exact okS_seq (odds_ok fun s5 s9 h2 => end_law fun s => hN _ _ _ _ _ _ _ _ _ _)
theorem law_f (ns : List Int) : okF (m_law [.scr ns] []) (fun w o => w = .cl (.bl true)) noX := by
  unfold m_law
  refine okF_fn rfl ?_
  show okS (b_law [.cl (.scr ns), .un, .un, .un, .un, .un, .un, .un, .un, .un, .un, .un] []) _ _ _ _
  unfold b_law
  refine okS_seq (okS_for (okE_rng1 ?_))
  walk_at "p"
  have hn : (if (ns.length : Int) < 8 then (ns.length : Int) else 8) ≤ 8 := by split <;> omega
  refine ⟨_, rfl, ?_, ?_, ?_⟩
  · split <;> omega
  · split <;> split <;> omega
  generalize hz : (if (if (ns.length : Int) < 8 then (ns.length : Int) else 8) > 2 then (if (ns.length : Int) < 8 then (ns.length : Int) else 8) else 2) = n
  have hn8 : n ≤ 8 := by
    rw [← hz]
    split <;> omega
  refine okS_loop0 (fun j ρ h' => ∃ s1 s2 s3 s4 s5 s6 s7 s8 s9 s10, ρ = [.cl (.scr ns), s1, s2, s3, s4, s5, s6, s7, s8, s9, s10, .un]) _ 0 ⟨_, _, _, _, _, _, _, _, _, _, rfl⟩ ?_ ?_
  · rintro j d ρ h' hj ⟨s1, s2, s3, s4, s5, s6, s7, s8, s9, s10, rfl⟩
    obtain ⟨i, hi, rfl⟩ := List.mem_map.mp (List.mem_of_getElem? hj)
    have hi2 := List.mem_range.mp hi
    refine okG_setC ?_
    dsimp only [List.set, fzW]
    exact cell_turn (by omega) fun s2 s3 s4 s5 s6 s7 s8 s9 s10 h' => ⟨_, _, _, _, _, _, _, _, _, _, rfl⟩
  · rintro ρ h' ⟨s1, s2, s3, s4, s5, s6, s7, s8, s9, s10, rfl⟩
    exact okS_ret (okE_c (cut_app (h1 := []) rfl okCut_refl (fun _ z => by cases z) below_bl rfl))
end
theorem law_ok (ns : List Int) (hl : ns.length ≤ 63) : ∃ o, m_law [.scr ns] [] = some (.rt (.cl (.bl true)) o) := by
  obtain ⟨w, o, e, rfl⟩ := (law_f ns).rt
  exact ⟨o, e⟩
end K09
namespace K09
open PySem PySem.Spec PyProof.Rows L2 SL CM
structure KF (K : PySem.W.Frag) : Prop where
  k0 : Tab K (fun t => PySem.W.kitOne K t (cdV K (.ty "str"))) (tabK KS (.ty "str"))
  k1 : Tab K (fun t => PySem.W.kitAny K t (([.ty "list", .ty "tuple"] : List Cd).map (cdV K))) (tabKT KS [.ty "list", .ty "tuple"])
  k2 : OwnK K "Shape"
  k3 : NoAttr K (He.ga K "Shape") "span_column"
  k4 : NoAttr K (He.ga K "Shape") "fixed_columns"
  k5 : Tab K (fun t => PySem.W.kitOne K t (cdV K (.own "Shape"))) (tabK KS (.own "Shape"))
  k6 : ∀ x ∈ (["InvalidText"] : List Str), PySem.W.exmOne K (.ref (He.ga K x)) (.ref (He.ga K "InvalidText")) = some (decide (x = "InvalidText"))
  k7 : Tab K (fun t => PySem.W.kitOne K t (cdV K (.ty "list"))) (tabK KS (.ty "list"))
abbrev sp_is_name (K : PySem.W.Frag) : Sp := spM K (CP.m_is_name KS false)
def t_is_name (K : PySem.W.Frag) : TS := (tSeq (tIfS (tOr (tNot (tTruK K (tCB (vIsi K) (tCons (tVar 0) (tCons (tC (.ty "str")) tNil))))) (tNot (tTest (tChain (uLt K) uLe (tC (.int 0)) (tCB (uLen K) (tCons (tVar 0) tNil)) (tC (.int (8))))))) (tRet (tC (.bl false))) tNext)
    (tRet (tCB (rAllL K) (tCons (tLc (iU K (tVar 0)) (gName 1) tYes (tOp (uIn K) (tVar 1) (tC (.str "abcdefghijklmnopqrstuvwxyz"))) [1]) tNil))))
theorem si_is_name {K : PySem.W.Frag} {WW : WX} (kf : KF K) : SimS K WW (t_is_name K) (CP.b_is_name KS false) := (sim_seq (sim_ifs (sim_or (sim_not (sim_tru (sim_cb (o_isi kf.k0) (sim_cons sim_var (sim_cons (sim_c fun _ _ _ => .ty _) sim_nil))))) (sim_not (sim_test (sim_chain o_lt o_le (sim_c fun _ _ _ => .int _) (sim_cb o_len (sim_cons sim_var sim_nil)) (sim_c fun _ _ _ => .int _))))) (sim_ret (sim_c fun _ _ _ => .bl _)) sim_next)
    (sim_ret (sim_cb o_all (sim_cons (sim_lc (sim_iU sim_var) sim_gnameC (ok_name (by decide)) sim_yes (sim_op o_in sim_var (sim_c fun _ _ _ => .str _))) sim_nil))))
theorem len_is_name {K : PySem.W.Frag} {vs : List V} {H : Hp} {Q : VK} {E : XK} (h : sp_is_name K vs H Q E) : vs.length = ["value"].length := len_spM (ps := ["value"]) (fun _ _ _ h => len_fnM h) h
theorem pure_is_name {K : PySem.W.Frag} (kf : KF K) (vs : List V) (H : Hp) (Q : VK) (E : XK) (h : sp_is_name K vs H Q E) : t_is_name K { nx := fun _ H' => Q .non H', rt := Q } (L2.start ["value", "letter"] vs) H := pure_fnM (n := 1) (k := 1) rfl (si_is_name kf) h
abbrev sp_is_list (K : PySem.W.Frag) : Sp := spM K (CP.m_is_list KS false)
def t_is_list (K : PySem.W.Frag) : TS := (tRet (tCB (vIsi K) (tCons (tVar 0) (tCons (tTup (tCons (tC (.ty "list")) (tCons (tC (.ty "tuple")) tNil))) tNil))))
theorem si_is_list {K : PySem.W.Frag} {WW : WX} (kf : KF K) : SimS K WW (t_is_list K) (CP.b_is_list KS false) := (sim_ret (sim_cb (o_isiT kf.k1) (sim_cons sim_var (sim_cons (sim_tup (sim_cons (sim_c fun _ _ _ => .ty _) (sim_cons (sim_c fun _ _ _ => .ty _) sim_nil))) sim_nil))))
theorem len_is_list {K : PySem.W.Frag} {vs : List V} {H : Hp} {Q : VK} {E : XK} (h : sp_is_list K vs H Q E) : vs.length = ["value"].length := len_spM (ps := ["value"]) (fun _ _ _ h => len_fnM h) h
theorem pure_is_list {K : PySem.W.Frag} (kf : KF K) (vs : List V) (H : Hp) (Q : VK) (E : XK) (h : sp_is_list K vs H Q E) : t_is_list K { nx := fun _ H' => Q .non H', rt := Q } (L2.start ["value"] vs) H := pure_fnM (n := 1) (k := 0) rfl (si_is_list kf) h
abbrev sp_InvalidText_D_init_D (K : PySem.W.Frag) : Sp := spX K (He.ga K "InvalidText") "value"
def t_InvalidText_D_init_D (K : PySem.W.Frag) : TS := (tSeq (tDrop (tVeI K (tCons (tVar 0) (tCons (tC (.str "a text does not represent a value")) tNil))))
    (tOst K "value" (tVar 0) (tVar 1)))
theorem len_InvalidText_D_init_D {K : PySem.W.Frag} {vs : List V} {H : Hp} {Q : VK} {E : XK} (h : sp_InvalidText_D_init_D K vs H Q E) : vs.length = ["self", "value"].length := by
  obtain ⟨a, v, rfl, _⟩ := h
  rfl
theorem pure_InvalidText_D_init_D {K : PySem.W.Frag} (T : OexC K (He.ga K "InvalidText")) (hno : PySem.W.findIn K (.ref (He.ga K "InvalidText")) "value" = some none) (vs : List V) (H : Hp) (Q : VK) (E : XK) (h : sp_InvalidText_D_init_D K vs H Q E) : t_InvalidText_D_init_D K { nx := fun _ H' => Q .non H', rt := Q } (start ["self", "value"] vs) H := by
  obtain ⟨a, v, rfl, ha, q⟩ := h
  exact exc_init T hno ha (fun dx h1 h2 => q dx h1 h2)
abbrev sp_Shape_D_init_D (K : PySem.W.Frag) : Sp := spM K (CP.m_Shape_D_init_D KS false)
def t_Shape_D_init_D (K : PySem.W.Frag) : TS := (tSeq (tIfS (tOr (tNot (tTruK K (tCall (sp_is_list K) [] E0 (tCons (tVar 1) tNil)))) (tTest (tOp SL.rGt (tCB (uLen K) (tCons (tVar 1) tNil)) (tC (.int (5)))))) tNever tNext)
    (tSeq (tFor (iEnumB K (tCons (tVar 1) tNil)) (gTup K 2 (gCons (gName 3) (gCons (gName 4) gNil))) (tSeq (tIfS (tNot (tTruK K (tCall (sp_is_name K) [] E0 (tCons (tVar 4) tNil)))) tNever tNext)
    (tIfS (tTest (tOp (uIn K) (tVar 4) (tSl (uSl K) (tVar 1) tNoPart (tPart (tVar 3))))) tNever tNext)))
    (tSeq (tIfS (tAnd (tTest (tOp uIsnt (tVar 2) (tC .non))) (tNot (tTruK K (tCall (sp_is_name K) [] E0 (tCons (tVar 2) tNil))))) tNever tNext)
    (tSeq (tIfS (tTest (tOp (uIn K) (tVar 2) (tVar 1))) tNever tNext)
    (tSeq (tIfS (tAnd (tTest (tOp uIsnt (tVar 2) (tC .non))) (tTest (tOp (uEq K) (tCB (uLen K) (tCons (tVar 1) tNil)) (tC (.int (5)))))) tNever tNext)
    (tSeq (sFld K (tVar 0) (tCB (rSrt K) (tCons (tVar 1) tNil)) "fixed_columns")
    (sFld K (tVar 0) (tVar 2) "span_column")))))))
theorem si_Shape_D_init_D {K : PySem.W.Frag} {WW : WX} (kf : KF K) : SimS K WW (t_Shape_D_init_D K) (CP.b_Shape_D_init_D KS false) := (sim_seq (sim_ifs (sim_or (sim_not (sim_tru (sim_call (sim_cons (sim_fr sim_var) sim_nil)))) (sim_test (sim_op o_gt (sim_cb o_len (sim_cons sim_var sim_nil)) (sim_c fun _ _ _ => .int _)))) sim_rz0 sim_next)
    (sim_seq (sim_for (sim_enum (sim_cons sim_var sim_nil)) (sim_gtup (sim_gcons sim_gnameC (sim_gcons sim_gnameC sim_gnil))) (sim_seq (sim_ifs (sim_not (sim_tru (sim_call (sim_cons (sim_fr sim_var) sim_nil)))) sim_rz0 sim_next)
    (sim_ifs (sim_test (sim_op o_in sim_var (sim_sl sim_var sim_nopart (sim_part sim_var)))) sim_rz0 sim_next)))
    (sim_seq (sim_ifs (sim_and (sim_test (sim_op o_isnt sim_var (sim_c fun _ _ _ => .non))) (sim_not (sim_tru (sim_call (sim_cons (sim_fr sim_var) sim_nil))))) sim_rz0 sim_next)
    (sim_seq (sim_ifs (sim_test (sim_op o_in sim_var sim_var)) sim_rz0 sim_next)
    (sim_seq (sim_ifs (sim_and (sim_test (sim_op o_isnt sim_var (sim_c fun _ _ _ => .non))) (sim_test (sim_op o_eq (sim_cb o_len (sim_cons sim_var sim_nil)) (sim_c fun _ _ _ => .int _)))) sim_rz0 sim_next)
    (sim_seq (sim_sfld kf.k2.cls kf.k4 sim_var (sim_cb o_srt (sim_cons sim_var sim_nil)))
    (sim_sfld kf.k2.cls kf.k3 sim_var sim_var)))))))
theorem len_Shape_D_init_D {K : PySem.W.Frag} {vs : List V} {H : Hp} {Q : VK} {E : XK} (h : sp_Shape_D_init_D K vs H Q E) : vs.length = ["self", "fixed", "span"].length := len_spM (ps := ["self", "fixed", "span"]) (fun _ _ _ h => len_fnM h) h
theorem pure_Shape_D_init_D {K : PySem.W.Frag} (kf : KF K) (vs : List V) (H : Hp) (Q : VK) (E : XK) (h : sp_Shape_D_init_D K vs H Q E) : t_Shape_D_init_D K { nx := fun _ H' => Q .non H', rt := Q } (L2.start ["self", "fixed", "span", "at", "column"] vs) H := pure_fnM (n := 3) (k := 2) rfl (si_Shape_D_init_D kf) h
abbrev sp_Shape_D_eq_D (K : PySem.W.Frag) : Sp := spM K (CP.m_Shape_D_eq_D KS false)
def t_Shape_D_eq_D (K : PySem.W.Frag) : TS := (tSeq (tIfS (tNot (tTruK K (tCB (vIsi K) (tCons (tVar 1) (tCons (tC (.ref (He.ga K "Shape"))) tNil))))) (tRet (tC (.bl false))) tNext)
    (tRet (tAndV (tOp (uEq K) (tFld K (tVar 0) "fixed_columns") (tFld K (tVar 1) "fixed_columns")) (tOp (uEq K) (tFld K (tVar 0) "span_column") (tFld K (tVar 1) "span_column")))))
theorem si_Shape_D_eq_D {K : PySem.W.Frag} {WW : WX} (kf : KF K) : SimS K WW (t_Shape_D_eq_D K) (CP.b_Shape_D_eq_D KS false) := (sim_seq (sim_ifs (sim_not (sim_tru (sim_cb (o_isi kf.k5) (sim_cons sim_var (sim_cons (sim_c fun _ _ _ => .glo _) sim_nil))))) (sim_ret (sim_c fun _ _ _ => .bl _)) sim_next)
    (sim_ret (sim_andV (sim_op o_eq (sim_fld kf.k2.cls kf.k4 sim_var) (sim_fld kf.k2.cls kf.k4 sim_var)) (sim_op o_eq (sim_fld kf.k2.cls kf.k3 sim_var) (sim_fld kf.k2.cls kf.k3 sim_var)))))
theorem len_Shape_D_eq_D {K : PySem.W.Frag} {vs : List V} {H : Hp} {Q : VK} {E : XK} (h : sp_Shape_D_eq_D K vs H Q E) : vs.length = ["self", "other"].length := len_spM (ps := ["self", "other"]) (fun _ _ _ h => len_fnM h) h
theorem pure_Shape_D_eq_D {K : PySem.W.Frag} (kf : KF K) (vs : List V) (H : Hp) (Q : VK) (E : XK) (h : sp_Shape_D_eq_D K vs H Q E) : t_Shape_D_eq_D K { nx := fun _ H' => Q .non H', rt := Q } (L2.start ["self", "other"] vs) H := pure_fnM (n := 2) (k := 0) rfl (si_Shape_D_eq_D kf) h
abbrev sp_Shape_D_str_D (K : PySem.W.Frag) : Sp := spM K (CP.m_Shape_D_str_D KS false)
def t_Shape_D_str_D (K : PySem.W.Frag) : TS := (tSeq (tAsg (tIf (tTest (tOp (uNe K) (tFld K (tVar 0) "fixed_columns") (tLst tNil))) (tBM K "str" (rJoin K) (tC (.str "+")) (tCons (tFld K (tVar 0) "fixed_columns") tNil)) (tC (.str "-"))) (gName 1))
    (tSeq (tAsg (tIf (tTest (tOp uIs (tFld K (tVar 0) "span_column") (tC .non))) (tC (.str "")) (fun σ H Q => tJs [(tC (.str ":")), (tFmt (tFld K (tVar 0) "span_column"))] Str.empty σ H fun out H1 => Q (.str out) H1)) (gName 2))
    (tRet (fun σ H Q => tJs [(tFmt (tVar 1)), (tFmt (tVar 2))] Str.empty σ H fun out H1 => Q (.str out) H1))))
theorem si_Shape_D_str_D {K : PySem.W.Frag} {WW : WX} (kf : KF K) : SimS K WW (t_Shape_D_str_D K) (CP.b_Shape_D_str_D KS false) := (sim_seq (sim_asg (sim_if (sim_test (sim_op o_ne (sim_fld kf.k2.cls kf.k4 sim_var) (sim_lst sim_nil))) (sim_bs rfl o_join (sim_c fun _ _ _ => .str _) (sim_cons (sim_fld kf.k2.cls kf.k4 sim_var) sim_nil)) (sim_c fun _ _ _ => .str _)) sim_gnameC)
    (sim_seq (sim_asg (sim_if (sim_test (sim_op o_is (sim_fld kf.k2.cls kf.k3 sim_var) (sim_c fun _ _ _ => .non))) (sim_c fun _ _ _ => .str _) (sim_js (.cons (sim_c fun _ _ _ => .str _) (.cons (sim_fmt (sim_fld kf.k2.cls kf.k3 sim_var)) .nil)) Str.empty)) sim_gnameC)
    (sim_ret (sim_js (.cons (sim_fmt sim_var) (.cons (sim_fmt sim_var) .nil)) Str.empty))))
theorem len_Shape_D_str_D {K : PySem.W.Frag} {vs : List V} {H : Hp} {Q : VK} {E : XK} (h : sp_Shape_D_str_D K vs H Q E) : vs.length = ["self"].length := len_spM (ps := ["self"]) (fun _ _ _ h => len_fnM h) h
theorem pure_Shape_D_str_D {K : PySem.W.Frag} (kf : KF K) (vs : List V) (H : Hp) (Q : VK) (E : XK) (h : sp_Shape_D_str_D K vs H Q E) : t_Shape_D_str_D K { nx := fun _ H' => Q .non H', rt := Q } (L2.start ["self", "head", "tail"] vs) H := pure_fnM (n := 1) (k := 2) rfl (si_Shape_D_str_D kf) h
abbrev sp_Shape_D_repr_D (K : PySem.W.Frag) : Sp := spM K (CP.m_Shape_D_repr_D KS false)
def t_Shape_D_repr_D (K : PySem.W.Frag) : TS := (tRet (fun σ H Q => tJs [(tC (.str "Shape(")), (tCB (SL.uRepr K) (tCons (tFld K (tVar 0) "fixed_columns") tNil)), (tC (.str ", ")), (tCB (SL.uRepr K) (tCons (tFld K (tVar 0) "span_column") tNil)), (tC (.str ")"))] Str.empty σ H fun out H1 => Q (.str out) H1))
theorem si_Shape_D_repr_D {K : PySem.W.Frag} {WW : WX} (kf : KF K) : SimS K WW (t_Shape_D_repr_D K) (CP.b_Shape_D_repr_D KS false) := (sim_ret (sim_js (.cons (sim_c fun _ _ _ => .str _) (.cons (sim_cb o_repr (sim_cons (sim_fld kf.k2.cls kf.k4 sim_var) sim_nil)) (.cons (sim_c fun _ _ _ => .str _) (.cons (sim_cb o_repr (sim_cons (sim_fld kf.k2.cls kf.k3 sim_var) sim_nil)) (.cons (sim_c fun _ _ _ => .str _) .nil))))) Str.empty))
theorem len_Shape_D_repr_D {K : PySem.W.Frag} {vs : List V} {H : Hp} {Q : VK} {E : XK} (h : sp_Shape_D_repr_D K vs H Q E) : vs.length = ["self"].length := len_spM (ps := ["self"]) (fun _ _ _ h => len_fnM h) h
theorem pure_Shape_D_repr_D {K : PySem.W.Frag} (kf : KF K) (vs : List V) (H : Hp) (Q : VK) (E : XK) (h : sp_Shape_D_repr_D K vs H Q E) : t_Shape_D_repr_D K { nx := fun _ H' => Q .non H', rt := Q } (L2.start ["self"] vs) H := pure_fnM (n := 1) (k := 0) rfl (si_Shape_D_repr_D kf) h
abbrev sp_parse_shape (K : PySem.W.Frag) : Sp := spM K m_parse_shape
def t_parse_shape (K : PySem.W.Frag) (E : XK) : TS := (tSeq (tIfS (tNot (tTruK K (tCB (vIsi K) (tCons (tVar 0) (tCons (tC (.ty "str")) tNil))))) (tRaise1 K (fun cls d _ H => E cls d H) (He.ga K "InvalidText") "value" (tCons (tVar 0) tNil)) tNext)
    (tSeq (tAsg (tBM K "str" rPart (tVar 0) (tCons (tC (.str ":")) tNil)) (gTup K 3 (gCons (gName 1) (gCons (gName 2) (gCons (gName 3) gNil)))))
    (tSeq (tAsg (tIf (tTest (tOp (uEq K) (tVar 1) (tC (.str "-")))) (tLst tNil) (tBM K "str" rSplit (tVar 1) (tCons (tC (.str "+")) tNil))) (gName 4))
    (tSeq (tAsg (tOp (uAdd K) (tVar 4) (tIf (tTest (tOp (uNe K) (tVar 2) (tC (.str "")))) (tLst (tCons (tVar 3) tNil)) (tLst tNil))) (gName 5))
    (tSeq (tIfS (tOr (tNot (tTruK K (tCB (rAllL K) (tCons (tLc (iU K (tVar 5)) (gName 6) tYes (tCall (sp_is_name K) [] E0 (tCons (tVar 6) tNil)) [6]) tNil)))) (tTest (tOp SL.rGt (tCB (uLen K) (tCons (tVar 5) tNil)) (tC (.int (5)))))) (tRaise1 K (fun cls d _ H => E cls d H) (He.ga K "InvalidText") "value" (tCons (tVar 0) tNil)) tNext)
    (tSeq (tIfS (tOr (tTest (tOp (uNe K) (tVar 4) (tCB (rSrt K) (tCons (tVar 4) tNil)))) (tTruK K (tCB (rAnyL K) (tCons (tLc (iU K (tVar 5)) (gName 6) tYes (tOp SL.rGt (tBM K "list" (rCntS K) (tVar 5) (tCons (tVar 6) tNil)) (tC (.int 1))) [6]) tNil)))) (tRaise1 K (fun cls d _ H => E cls d H) (He.ga K "InvalidText") "value" (tCons (tVar 0) tNil)) tNext)
    (tRet (tMake (He.ga K "Shape") (sp_Shape_D_init_D K) [] E0 (tCons (tVar 4) (tCons (tIf (tTest (tOp (uNe K) (tVar 2) (tC (.str "")))) (tVar 3) (tC .non)) tNil))))))))))
theorem si_parse_shape {K : PySem.W.Frag} {E : XK} (kf : KF K) : SimS K (fun cls d _ H => E cls d H) (t_parse_shape K E) b_parse_shape := (sim_seq (sim_ifs (sim_not (sim_tru (sim_cb (o_isi kf.k0) (sim_cons sim_var (sim_cons (sim_c fun _ _ _ => .ty _) sim_nil))))) (sim_raise1 (sim_cons (sim_fr sim_var) sim_nil)) sim_next)
    (sim_seq (sim_asg (sim_bs rfl o_part sim_var (sim_cons (sim_c fun _ _ _ => .str _) sim_nil)) (sim_gtup (sim_gcons sim_gnameC (sim_gcons sim_gnameC (sim_gcons sim_gnameC sim_gnil)))))
    (sim_seq (sim_asg (sim_if (sim_test (sim_op o_eq sim_var (sim_c fun _ _ _ => .str _))) (sim_lst sim_nil) (sim_bs rfl o_split sim_var (sim_cons (sim_c fun _ _ _ => .str _) sim_nil))) sim_gnameC)
    (sim_seq (sim_asg (sim_op o_add sim_var (sim_if (sim_test (sim_op o_ne sim_var (sim_c fun _ _ _ => .str _))) (sim_lst (sim_cons sim_var sim_nil)) (sim_lst sim_nil))) sim_gnameC)
    (sim_seq (sim_ifs (sim_or (sim_not (sim_tru (sim_cb o_all (sim_cons (sim_lc (sim_iU sim_var) sim_gnameC (ok_name (by decide)) sim_yes (sim_call (sim_cons (sim_fr sim_var) sim_nil))) sim_nil)))) (sim_test (sim_op o_gt (sim_cb o_len (sim_cons sim_var sim_nil)) (sim_c fun _ _ _ => .int _)))) (sim_raise1 (sim_cons (sim_fr sim_var) sim_nil)) sim_next)
    (sim_seq (sim_ifs (sim_or (sim_test (sim_op o_ne sim_var (sim_cb o_srt (sim_cons sim_var sim_nil)))) (sim_tru (sim_cb o_any (sim_cons (sim_lc (sim_iU sim_var) sim_gnameC (ok_name (by decide)) sim_yes (sim_op o_gt (sim_cntS sim_var sim_var) (sim_c fun _ _ _ => .int _))) sim_nil)))) (sim_raise1 (sim_cons (sim_fr sim_var) sim_nil)) sim_next)
    (sim_ret (sim_make (fun _ _ _ => .nil) (sim_cons (sim_fr sim_var) (sim_cons (sim_fr (sim_if (sim_test (sim_op o_ne sim_var (sim_c fun _ _ _ => .str _))) sim_var (sim_c fun _ _ _ => .non))) sim_nil))))))))))
theorem len_parse_shape {K : PySem.W.Frag} {vs : List V} {H : Hp} {Q : VK} {E : XK} (h : sp_parse_shape K vs H Q E) : vs.length = ["text"].length := len_spM (ps := ["text"]) (fun _ _ _ h => len_fnM h) h
theorem pure_parse_shape {K : PySem.W.Frag} (kf : KF K) (vs : List V) (H : Hp) (Q : VK) (E : XK) (h : sp_parse_shape K vs H Q E) : t_parse_shape K E { nx := fun _ H' => Q .non H', rt := Q } (L2.start ["text", "head", "colon", "span", "fixed", "names", "name"] vs) H := pure_fnM (n := 1) (k := 6) rfl (si_parse_shape kf) h
abbrev sp_l_law_cell (K : PySem.W.Frag) : Sp := spM K m_l_law_cell
def t_l_law_cell (K : PySem.W.Frag) : TS := (tSeq (tIfS (tTest (tOp (uLt K) (tVar 1) (tCB (uLen K) (tCons (tVar 0) tNil)))) (tRet (tOp (uIx K) (tVar 0) (tVar 1))) tNext)
    (tRet (tOp (uAdd K) (tOp (uMul K) (tC (.int 15490337)) (tVar 1)) (tC (.int 107)))))
theorem si_l_law_cell {K : PySem.W.Frag} {WW : WX} (kf : KF K) : SimS K WW (t_l_law_cell K) b_l_law_cell := (sim_seq (sim_ifs (sim_test (sim_op o_lt sim_var (sim_cb o_len (sim_cons sim_var sim_nil)))) (sim_ret (sim_op o_ix sim_var sim_var)) sim_next)
    (sim_ret (sim_op o_add (sim_op o_mul (sim_c fun _ _ _ => .int _) sim_var) (sim_c fun _ _ _ => .int _))))
theorem len_l_law_cell {K : PySem.W.Frag} {vs : List V} {H : Hp} {Q : VK} {E : XK} (h : sp_l_law_cell K vs H Q E) : vs.length = ["_law_script", "_law_index"].length := len_spM (ps := ["_law_script", "_law_index"]) (fun _ _ _ h => len_fnM h) h
theorem pure_l_law_cell {K : PySem.W.Frag} (kf : KF K) (vs : List V) (H : Hp) (Q : VK) (E : XK) (h : sp_l_law_cell K vs H Q E) : t_l_law_cell K { nx := fun _ H' => Q .non H', rt := Q } (L2.start ["_law_script", "_law_index"] vs) H := pure_fnM (n := 2) (k := 0) rfl (si_l_law_cell kf) h
abbrev sp_l_law_bag (K : PySem.W.Frag) : Sp := spM K m_l_law_bag
def t_l_law_bag (K : PySem.W.Frag) : TS := (tRet (tLst (tCons (tCB rMax2 (tCons (tC (.int 0)) (tCons (tOp SL.rSub (tVar 0) (tOp SL.rPow (tC (.int 10)) (tC (.int 18)))) tNil))) (tCons (tOp SL.rMod (tVar 0) (tC (.int 2147483629))) (tCons (tC (.int 0)) tNil)))))
theorem si_l_law_bag {K : PySem.W.Frag} {WW : WX} (kf : KF K) : SimS K WW (t_l_law_bag K) b_l_law_bag := (sim_ret (sim_lst (sim_cons (sim_cb o_max2 (sim_cons (sim_c fun _ _ _ => .int _) (sim_cons (sim_op o_sub sim_var (sim_op o_pow (sim_c fun _ _ _ => .int _) (sim_c fun _ _ _ => .int _))) sim_nil))) (sim_cons (sim_op o_mod sim_var (sim_c fun _ _ _ => .int _)) (sim_cons (sim_c fun _ _ _ => .int _) sim_nil)))))
theorem len_l_law_bag {K : PySem.W.Frag} {vs : List V} {H : Hp} {Q : VK} {E : XK} (h : sp_l_law_bag K vs H Q E) : vs.length = ["_law_cell_here"].length := len_spM (ps := ["_law_cell_here"]) (fun _ _ _ h => len_fnM h) h
theorem pure_l_law_bag {K : PySem.W.Frag} (kf : KF K) (vs : List V) (H : Hp) (Q : VK) (E : XK) (h : sp_l_law_bag K vs H Q E) : t_l_law_bag K { nx := fun _ H' => Q .non H', rt := Q } (L2.start ["_law_cell_here"] vs) H := pure_fnM (n := 1) (k := 0) rfl (si_l_law_bag kf) h
abbrev sp_l_law_take (K : PySem.W.Frag) : Sp := spM K m_l_law_take
def t_l_law_take (K : PySem.W.Frag) : TS := (tSeq (tIfS (tTest (tOp SL.rGt (tOp (uIx K) (tVar 0) (tC (.int 0))) (tC (.int 0)))) (tSeq (tAsg (tOp SL.rMod (tOp (uIx K) (tVar 0) (tC (.int 0))) (tVar 1)) (gName 3))
    (tSeq (tAsg (tOp SL.rDiv (tOp (uIx K) (tVar 0) (tC (.int 0))) (tVar 1)) (gSub (tVar 0) (tC (.int 0)) rSetL))
    (tRet (tVar 3)))) tNext)
    (tSeq (tAsg (tOp (uAdd K) (tOp (uIx K) (tVar 0) (tC (.int 2))) (tC (.int 1))) (gSub (tVar 0) (tC (.int 2)) rSetL))
    (tSeq (tAsg (tOp SL.rMod (tOp SL.rPow (tOp (uAdd K) (tOp (uAdd K) (tOp (uIx K) (tVar 0) (tC (.int 1))) (tOp (uMul K) (tC (.int 15490337)) (tOp (uIx K) (tVar 0) (tC (.int 2))))) (tC (.int 107))) (tC (.int 5))) (tC (.int 2147483647))) (gName 2))
    (tSeq (tAsg (tOp SL.rMod (tOp SL.rPow (tOp (uAdd K) (tVar 2) (tOp (uMul K) (tC (.int 104297)) (tOp (uIx K) (tVar 0) (tC (.int 2))))) (tC (.int 3))) (tC (.int 2147483587))) (gName 2))
    (tRet (tOp SL.rMod (tOp SL.rDiv (tVar 2) (tC (.int 16))) (tVar 1)))))))
theorem si_l_law_take {K : PySem.W.Frag} {WW : WX} (kf : KF K) : SimS K WW (t_l_law_take K) b_l_law_take := (sim_seq (sim_ifs (sim_test (sim_op o_gt (sim_op o_ix sim_var (sim_c fun _ _ _ => .int _)) (sim_c fun _ _ _ => .int _))) (sim_seq (sim_asg (sim_op o_mod (sim_op o_ix sim_var (sim_c fun _ _ _ => .int _)) sim_var) sim_gnameC)
    (sim_seq (sim_asg (sim_op o_div (sim_op o_ix sim_var (sim_c fun _ _ _ => .int _)) sim_var) (sim_gsub sim_var (sim_c fun _ _ _ => .int _)))
    (sim_ret sim_var))) sim_next)
    (sim_seq (sim_asg (sim_op o_add (sim_op o_ix sim_var (sim_c fun _ _ _ => .int _)) (sim_c fun _ _ _ => .int _)) (sim_gsub sim_var (sim_c fun _ _ _ => .int _)))
    (sim_seq (sim_asg (sim_op o_mod (sim_op o_pow (sim_op o_add (sim_op o_add (sim_op o_ix sim_var (sim_c fun _ _ _ => .int _)) (sim_op o_mul (sim_c fun _ _ _ => .int _) (sim_op o_ix sim_var (sim_c fun _ _ _ => .int _)))) (sim_c fun _ _ _ => .int _)) (sim_c fun _ _ _ => .int _)) (sim_c fun _ _ _ => .int _)) sim_gnameC)
    (sim_seq (sim_asg (sim_op o_mod (sim_op o_pow (sim_op o_add sim_var (sim_op o_mul (sim_c fun _ _ _ => .int _) (sim_op o_ix sim_var (sim_c fun _ _ _ => .int _)))) (sim_c fun _ _ _ => .int _)) (sim_c fun _ _ _ => .int _)) sim_gnameC)
    (sim_ret (sim_op o_mod (sim_op o_div sim_var (sim_c fun _ _ _ => .int _)) sim_var))))))
theorem len_l_law_take {K : PySem.W.Frag} {vs : List V} {H : Hp} {Q : VK} {E : XK} (h : sp_l_law_take K vs H Q E) : vs.length = ["_law_bag_here", "_law_many"].length := len_spM (ps := ["_law_bag_here", "_law_many"]) (fun _ _ _ h => len_fnM h) h
theorem pure_l_law_take {K : PySem.W.Frag} (kf : KF K) (vs : List V) (H : Hp) (Q : VK) (E : XK) (h : sp_l_law_take K vs H Q E) : t_l_law_take K { nx := fun _ H' => Q .non H', rt := Q } (L2.start ["_law_bag_here", "_law_many", "_law_mixed", "_law_digit"] vs) H := pure_fnM (n := 2) (k := 2) rfl (si_l_law_take kf) h
abbrev sp_l_law_names (K : PySem.W.Frag) : Sp := spM K m_l_law_names
def t_l_law_names (K : PySem.W.Frag) : TS := (tSeq (tAsg (tC (.str "abcdefghijklmnopqrstuvwxyz")) (gName 2))
    (tSeq (tAsg (tBM K "str" (rJoin K) (tC (.str "")) (tCons (tLc (iRng1 (tCons (tC (.int 7)) tNil)) (gName 8) tYes (tOp (uIx K) (tVar 2) (tCall (sp_l_law_take K) [] E0 (tCons (tVar 0) (tCons (tC (.int 26)) tNil)))) [8]) tNil)) (gName 3))
    (tSeq (tPar3 4 5 6 (tCons (tCall (sp_l_law_take K) [] E0 (tCons (tVar 0) (tCons (tC (.int 8)) tNil))) (tCons (tCall (sp_l_law_take K) [] E0 (tCons (tVar 0) (tCons (tC (.int 26)) tNil))) (tCons (tOp (uIx K) (tLst (tCons (tC (.int 1)) (tCons (tC (.int 3)) (tCons (tC (.int 5)) (tCons (tC (.int 7)) (tCons (tC (.int 9)) (tCons (tC (.int 11)) (tCons (tC (.int 15)) (tCons (tC (.int 17)) tNil))))))))) (tCall (sp_l_law_take K) [] E0 (tCons (tVar 0) (tCons (tC (.int 8)) tNil)))) tNil))))
    (tSeq (tAsg (tLst tNil) (gName 7))
    (tSeq (tFor (iRng1 (tCons (tVar 1) tNil)) (gName 8) (tSeq (tAsg (tOp (uAdd K) (tSl (uSl K) (tVar 3) tNoPart (tPart (tVar 4))) (tOp (uIx K) (tVar 2) (tOp SL.rMod (tOp (uAdd K) (tVar 5) (tOp (uMul K) (tVar 6) (tVar 8))) (tC (.int 26))))) (gName 9))
    (tDrop (tBM K "list" rAppend (tVar 7) (tCons (tOp (uAdd K) (tVar 9) (tSl (uSl K) (tVar 3) (tPart (tVar 4)) (tPart (tOp (uAdd K) (tVar 4) (tCall (sp_l_law_take K) [] E0 (tCons (tVar 0) (tCons (tOp SL.rSub (tC (.int 8)) (tVar 4)) tNil))))))) tNil)))))
    (tSeq (tIfS (tAnd (tTest (tOp SL.rGt (tVar 1) (tC (.int 1)))) (tAnd (tTest (tOp (uLt K) (tCB (uLen K) (tCons (tOp (uIx K) (tVar 7) (tC (.int 0))) tNil)) (tC (.int 8)))) (tTest (tOp (uEq K) (tCall (sp_l_law_take K) [] E0 (tCons (tVar 0) (tCons (tC (.int 3)) tNil))) (tC (.int 0)))))) (tAsg (tOp (uAdd K) (tOp (uIx K) (tVar 7) (tC (.int 0))) (tOp (uIx K) (tVar 2) (tCall (sp_l_law_take K) [] E0 (tCons (tVar 0) (tCons (tC (.int 26)) tNil))))) (gSub (tVar 7) (tC (.int 1)) rSetL)) tNext)
    (tRet (tVar 7))))))))
theorem si_l_law_names {K : PySem.W.Frag} {WW : WX} (kf : KF K) : SimS K WW (t_l_law_names K) b_l_law_names := (sim_seq (sim_asg (sim_c fun _ _ _ => .str _) sim_gnameC)
    (sim_seq (sim_fg (sim_asg (sim_bs rfl o_join (sim_c fun _ _ _ => .str _) (sim_cons (sim_lc (sim_rng1 (sim_cons (sim_c fun _ _ _ => .int _) sim_nil)) sim_gnameC (ok_name (by decide)) sim_yes (sim_op o_ix sim_var (sim_call (sim_cons (sim_ce sim_var) (sim_cons (sim_fr (sim_c fun _ _ _ => .int _)) sim_nil))))) sim_nil)) sim_gnameC))
    (sim_seq (sim_par3 (sim_cons (sim_call (sim_cons (sim_ce sim_var) (sim_cons (sim_fr (sim_c fun _ _ _ => .int _)) sim_nil))) (sim_cons (sim_call (sim_cons (sim_ce sim_var) (sim_cons (sim_fr (sim_c fun _ _ _ => .int _)) sim_nil))) (sim_cons (sim_op o_ix (sim_lst (sim_cons (sim_c fun _ _ _ => .int _) (sim_cons (sim_c fun _ _ _ => .int _) (sim_cons (sim_c fun _ _ _ => .int _) (sim_cons (sim_c fun _ _ _ => .int _) (sim_cons (sim_c fun _ _ _ => .int _) (sim_cons (sim_c fun _ _ _ => .int _) (sim_cons (sim_c fun _ _ _ => .int _) (sim_cons (sim_c fun _ _ _ => .int _) sim_nil))))))))) (sim_call (sim_cons (sim_ce sim_var) (sim_cons (sim_fr (sim_c fun _ _ _ => .int _)) sim_nil)))) sim_nil))))
    (sim_seq (sim_asg (sim_lst sim_nil) sim_gname)
    (sim_seq (sim_for (sim_rng1 (sim_cons sim_var sim_nil)) sim_gnameC (sim_seq (sim_asg (sim_op o_add (sim_sl sim_var sim_nopart (sim_part sim_var)) (sim_op o_ix sim_var (sim_op o_mod (sim_op o_add sim_var (sim_op o_mul sim_var sim_var)) (sim_c fun _ _ _ => .int _)))) sim_gnameC)
    (sim_drop (sim_mut rfl mu_append sim_var (sim_cons (sim_op o_add sim_var (sim_sl sim_var (sim_part sim_var) (sim_part (sim_op o_add sim_var (sim_call (sim_cons (sim_ce sim_var) (sim_cons (sim_fr (sim_op o_sub (sim_c fun _ _ _ => .int _) sim_var)) sim_nil))))))) sim_nil)))))
    (sim_seq (sim_ifs (sim_and (sim_test (sim_op o_gt sim_var (sim_c fun _ _ _ => .int _))) (sim_and (sim_test (sim_op o_lt (sim_cb o_len (sim_cons (sim_op o_ix sim_var (sim_c fun _ _ _ => .int _)) sim_nil)) (sim_c fun _ _ _ => .int _))) (sim_test (sim_op o_eq (sim_call (sim_cons (sim_ce sim_var) (sim_cons (sim_fr (sim_c fun _ _ _ => .int _)) sim_nil))) (sim_c fun _ _ _ => .int _))))) (sim_asg (sim_op o_add (sim_op o_ix sim_var (sim_c fun _ _ _ => .int _)) (sim_op o_ix sim_var (sim_call (sim_cons (sim_ce sim_var) (sim_cons (sim_fr (sim_c fun _ _ _ => .int _)) sim_nil))))) (sim_gsub sim_var (sim_c fun _ _ _ => .int _))) sim_next)
    (sim_ret sim_var)))))))
theorem len_l_law_names {K : PySem.W.Frag} {vs : List V} {H : Hp} {Q : VK} {E : XK} (h : sp_l_law_names K vs H Q E) : vs.length = ["_law_bag_here", "_law_many"].length := len_spM (ps := ["_law_bag_here", "_law_many"]) (fun _ _ _ h => len_fnM h) h
theorem pure_l_law_names {K : PySem.W.Frag} (kf : KF K) (vs : List V) (H : Hp) (Q : VK) (E : XK) (h : sp_l_law_names K vs H Q E) : t_l_law_names K { nx := fun _ H' => Q .non H', rt := Q } (L2.start ["_law_bag_here", "_law_many", "_law_letters", "_law_stem", "_law_at", "_law_first", "_law_step", "_law_found", "_law_index", "_law_begun"] vs) H := pure_fnM (n := 2) (k := 8) rfl (si_l_law_names kf) h
abbrev sp_l_law_pick (K : PySem.W.Frag) : Sp := spM K m_l_law_pick
def t_l_law_pick (K : PySem.W.Frag) : TS := (tSeq (tPar 3 4 (tCons (tLstRg (tRg1 (tVar 1))) (tCons (tLst tNil) tNil)))
    (tSeq (tFor (iRng1 (tCons (tCall (sp_l_law_take K) [] E0 (tCons (tVar 0) (tCons (tOp (uAdd K) (tCB rMin2 (tCons (tVar 1) (tCons (tVar 2) tNil))) (tC (.int 1))) tNil))) tNil)) (gName 5) (tDrop (tBM K "list" rAppend (tVar 4) (tCons (tBM K "list" rPopAt (tVar 3) (tCons (tCall (sp_l_law_take K) [] E0 (tCons (tVar 0) (tCons (tCB (uLen K) (tCons (tVar 3) tNil)) tNil))) tNil)) tNil))))
    (tSeq (tIfS (tOr (tTest (tOp (uEq K) (tVar 3) (tLst tNil))) (tOr (tTest (tOp SL.rGt (tCB (uLen K) (tCons (tVar 4) tNil)) (tC (.int 4)))) (tTest (tOp (uEq K) (tCall (sp_l_law_take K) [] E0 (tCons (tVar 0) (tCons (tC (.int 2)) tNil))) (tC (.int 0)))))) (tRet (tTup (tCons (tCB (rSrt K) (tCons (tVar 4) tNil)) (tCons (tC .non) tNil)))) tNext)
    (tRet (tTup (tCons (tCB (rSrt K) (tCons (tVar 4) tNil)) (tCons (tOp (uIx K) (tVar 3) (tCall (sp_l_law_take K) [] E0 (tCons (tVar 0) (tCons (tCB (uLen K) (tCons (tVar 3) tNil)) tNil)))) tNil)))))))
theorem si_l_law_pick {K : PySem.W.Frag} {WW : WX} (kf : KF K) : SimS K WW (t_l_law_pick K) b_l_law_pick := (sim_seq (sim_par (sim_cons (sim_lstRg sim_var) (sim_cons (sim_lst sim_nil) sim_nil)))
    (sim_seq (sim_for (sim_rng1 (sim_cons (sim_call (sim_cons (sim_ce sim_var) (sim_cons (sim_fr (sim_op o_add (sim_cb o_min2 (sim_cons sim_var (sim_cons sim_var sim_nil))) (sim_c fun _ _ _ => .int _))) sim_nil))) sim_nil)) sim_gnameC (sim_drop (sim_mut rfl mu_append sim_var (sim_cons (sim_mut rfl mu_popAt sim_var (sim_cons (sim_call (sim_cons (sim_ce sim_var) (sim_cons (sim_fr (sim_cb o_len (sim_cons sim_var sim_nil))) sim_nil))) sim_nil)) sim_nil))))
    (sim_seq (sim_ifs (sim_or (sim_test (sim_op o_eq sim_var (sim_lst sim_nil))) (sim_or (sim_test (sim_op o_gt (sim_cb o_len (sim_cons sim_var sim_nil)) (sim_c fun _ _ _ => .int _))) (sim_test (sim_op o_eq (sim_call (sim_cons (sim_ce sim_var) (sim_cons (sim_fr (sim_c fun _ _ _ => .int _)) sim_nil))) (sim_c fun _ _ _ => .int _))))) (sim_ret (sim_tup (sim_cons (sim_cb o_srt (sim_cons sim_var sim_nil)) (sim_cons (sim_c fun _ _ _ => .non) sim_nil)))) sim_next)
    (sim_ret (sim_tup (sim_cons (sim_cb o_srt (sim_cons sim_var sim_nil)) (sim_cons (sim_op o_ix sim_var (sim_call (sim_cons (sim_ce sim_var) (sim_cons (sim_fr (sim_cb o_len (sim_cons sim_var sim_nil))) sim_nil)))) sim_nil)))))))
theorem len_l_law_pick {K : PySem.W.Frag} {vs : List V} {H : Hp} {Q : VK} {E : XK} (h : sp_l_law_pick K vs H Q E) : vs.length = ["_law_bag_here", "_law_many", "_law_most"].length := len_spM (ps := ["_law_bag_here", "_law_many", "_law_most"]) (fun _ _ _ h => len_fnM h) h
theorem pure_l_law_pick {K : PySem.W.Frag} (kf : KF K) (vs : List V) (H : Hp) (Q : VK) (E : XK) (h : sp_l_law_pick K vs H Q E) : t_l_law_pick K { nx := fun _ H' => Q .non H', rt := Q } (L2.start ["_law_bag_here", "_law_many", "_law_most", "_law_left", "_law_found", "_law_turn"] vs) H := pure_fnM (n := 3) (k := 3) rfl (si_l_law_pick kf) h
abbrev sp_l_law_near (K : PySem.W.Frag) : Sp := spM K m_l_law_near
def t_l_law_near (K : PySem.W.Frag) : TS := (tSeq (tAsg (tTup (tCons (tCB (uList K) (tCons (tOp (uIx K) (tVar 2) (tC (.int 0))) tNil)) (tCons (tOp (uIx K) (tVar 2) (tC (.int 1))) tNil))) (gTup K 2 (gCons (gName 3) (gCons (gName 4) gNil))))
    (tSeq (tAsg (tLc (iRng1 (tCons (tVar 1) tNil)) (gName 7) (tTest (tOp (uNi K) (tVar 7) (tVar 3))) (tVar 7) [7]) (gName 5))
    (tSeq (tAsg (tCall (sp_l_law_take K) [] E0 (tCons (tVar 0) (tCons (tC (.int 4)) tNil))) (gName 6))
    (tSeq (tIfS (tAnd (tTest (tOp (uLt K) (tVar 6) (tC (.int 2)))) (tTest (tOp (uNe K) (tVar 5) (tLst tNil)))) (tAsg (tCB (rSrt K) (tCons (tOp (uAdd K) (tVar 3) (tLst (tCons (tOp (uIx K) (tVar 5) (tCall (sp_l_law_take K) [] E0 (tCons (tVar 0) (tCons (tCB (uLen K) (tCons (tVar 5) tNil)) tNil)))) tNil))) tNil)) (gName 3)) tNext)
    (tSeq (tIfS (tAnd (tTest (tOp (uEq K) (tVar 6) (tC (.int 2)))) (tTest (tOp (uNe K) (tVar 3) (tLst tNil)))) (tDrop (tBM K "list" rPopAt (tVar 3) (tCons (tCall (sp_l_law_take K) [] E0 (tCons (tVar 0) (tCons (tCB (uLen K) (tCons (tVar 3) tNil)) tNil))) tNil))) tNext)
    (tSeq (tAsg (tLc (iRng1 (tCons (tVar 1) tNil)) (gName 7) (tTest (tOp (uNi K) (tVar 7) (tVar 3))) (tVar 7) [7]) (gName 5))
    (tSeq (tIfS (tOr (tTest (tOp (uIn K) (tVar 4) (tVar 3))) (tTest (tOp (uEq K) (tVar 6) (tC (.int 3))))) (tAsg (tC .non) (gName 4)) tNext)
    (tSeq (tIfS (tAnd (tTest (tOp (uNe K) (tVar 5) (tLst tNil))) (tTest (tOp (uEq K) (tCall (sp_l_law_take K) [] E0 (tCons (tVar 0) (tCons (tC (.int 3)) tNil))) (tC (.int 0))))) (tAsg (tOp (uIx K) (tVar 5) (tCall (sp_l_law_take K) [] E0 (tCons (tVar 0) (tCons (tCB (uLen K) (tCons (tVar 5) tNil)) tNil)))) (gName 4)) tNext)
    (tRet (tTup (tCons (tSl (uSl K) (tVar 3) tNoPart (tPart (tC (.int 5)))) (tCons (tIf (tTest (tOp (uLt K) (tCB (uLen K) (tCons (tVar 3) tNil)) (tC (.int 5)))) (tVar 4) (tC .non)) tNil))))))))))))
theorem si_l_law_near {K : PySem.W.Frag} {WW : WX} (kf : KF K) : SimS K WW (t_l_law_near K) b_l_law_near := (sim_seq (sim_asg (sim_tup (sim_cons (sim_ce (sim_cb o_list (sim_cons (sim_op o_ix sim_var (sim_c fun _ _ _ => .int _)) sim_nil))) (sim_cons (sim_fr (sim_op o_ix sim_var (sim_c fun _ _ _ => .int _))) sim_nil))) (sim_gtup (sim_gcons sim_gname (sim_gcons sim_gnameC sim_gnil))))
    (sim_seq (sim_asg (sim_lc (sim_rng1 (sim_cons sim_var sim_nil)) sim_gnameC (ok_name (by decide)) (sim_test (sim_op o_ni sim_var sim_var)) sim_var) sim_gnameC)
    (sim_seq (sim_asg (sim_call (sim_cons (sim_ce sim_var) (sim_cons (sim_fr (sim_c fun _ _ _ => .int _)) sim_nil))) sim_gnameC)
    (sim_seq (sim_ifs (sim_and (sim_test (sim_op o_lt sim_var (sim_c fun _ _ _ => .int _))) (sim_test (sim_op o_ne sim_var (sim_lst sim_nil)))) (sim_asg (sim_cb o_srt (sim_cons (sim_op o_add sim_var (sim_lst (sim_cons (sim_op o_ix sim_var (sim_call (sim_cons (sim_ce sim_var) (sim_cons (sim_fr (sim_cb o_len (sim_cons sim_var sim_nil))) sim_nil)))) sim_nil))) sim_nil)) sim_gname) sim_next)
    (sim_seq (sim_ifs (sim_and (sim_test (sim_op o_eq sim_var (sim_c fun _ _ _ => .int _))) (sim_test (sim_op o_ne sim_var (sim_lst sim_nil)))) (sim_drop (sim_mut rfl mu_popAt sim_var (sim_cons (sim_call (sim_cons (sim_ce sim_var) (sim_cons (sim_fr (sim_cb o_len (sim_cons sim_var sim_nil))) sim_nil))) sim_nil))) sim_next)
    (sim_seq (sim_asg (sim_lc (sim_rng1 (sim_cons sim_var sim_nil)) sim_gnameC (ok_name (by decide)) (sim_test (sim_op o_ni sim_var sim_var)) sim_var) sim_gnameC)
    (sim_seq (sim_ifs (sim_or (sim_test (sim_op o_in sim_var sim_var)) (sim_test (sim_op o_eq sim_var (sim_c fun _ _ _ => .int _)))) (sim_asg (sim_c fun _ _ _ => .non) sim_gnameC) sim_next)
    (sim_seq (sim_ifs (sim_and (sim_test (sim_op o_ne sim_var (sim_lst sim_nil))) (sim_test (sim_op o_eq (sim_call (sim_cons (sim_ce sim_var) (sim_cons (sim_fr (sim_c fun _ _ _ => .int _)) sim_nil))) (sim_c fun _ _ _ => .int _)))) (sim_asg (sim_op o_ix sim_var (sim_call (sim_cons (sim_ce sim_var) (sim_cons (sim_fr (sim_cb o_len (sim_cons sim_var sim_nil))) sim_nil)))) sim_gnameC) sim_next)
    (sim_ret (sim_tup (sim_cons (sim_sl sim_var sim_nopart (sim_part (sim_c fun _ _ _ => .int _))) (sim_cons (sim_if (sim_test (sim_op o_lt (sim_cb o_len (sim_cons sim_var sim_nil)) (sim_c fun _ _ _ => .int _))) sim_var (sim_c fun _ _ _ => .non)) sim_nil))))))))))))
theorem len_l_law_near {K : PySem.W.Frag} {vs : List V} {H : Hp} {Q : VK} {E : XK} (h : sp_l_law_near K vs H Q E) : vs.length = ["_law_bag_here", "_law_many", "_law_part"].length := len_spM (ps := ["_law_bag_here", "_law_many", "_law_part"]) (fun _ _ _ h => len_fnM h) h
theorem pure_l_law_near {K : PySem.W.Frag} (kf : KF K) (vs : List V) (H : Hp) (Q : VK) (E : XK) (h : sp_l_law_near K vs H Q E) : t_l_law_near K { nx := fun _ H' => Q .non H', rt := Q } (L2.start ["_law_bag_here", "_law_many", "_law_part", "_law_fixed", "_law_span", "_law_free", "_law_way", "_law_at"] vs) H := pure_fnM (n := 3) (k := 5) rfl (si_l_law_near kf) h
abbrev sp_l_law_parts (K : PySem.W.Frag) : Sp := spM K m_l_law_parts
def t_l_law_parts (K : PySem.W.Frag) : TS := (tSeq (tPar3 3 4 5 (tCons (tLst tNil) (tCons (tLst tNil) (tCons (tCall (sp_l_law_take K) [] E0 (tCons (tVar 0) (tCons (tC (.int 3)) tNil))) tNil))))
    (tSeq (tFor (iRng1 (tCons (tVar 2) tNil)) (gName 6) (tSeq (tAsg (tCall (sp_l_law_pick K) [] E0 (tCons (tVar 0) (tCons (tVar 1) (tCons (tC (.int 5)) tNil)))) (gName 7))
    (tSeq (tIfS (tAnd (tTest (tOp SL.rGt (tVar 5) (tC (.int 0)))) (tAnd (tTest (tOp (uNe K) (tVar 4) (tLst tNil))) (tTest (tOp SL.rGt (tCall (sp_l_law_take K) [] E0 (tCons (tVar 0) (tCons (tC (.int 3)) tNil))) (tC (.int 0)))))) (tAsg (tCall (sp_l_law_near K) [] E0 (tCons (tVar 0) (tCons (tVar 1) (tCons (tOp (uIx K) (tVar 4) (tCall (sp_l_law_take K) [] E0 (tCons (tVar 0) (tCons (tCB (uLen K) (tCons (tVar 4) tNil)) tNil)))) tNil)))) (gName 7)) tNext)
    (tSeq (tDrop (tBM K "list" rAppend (tVar 4) (tCons (tVar 7) tNil)))
    (tIfS (tAnd (tTest (tOp (rNotInD K) (tVar 7) (tVar 3))) (tTest (tOp SL.rGt (tCall (sp_l_law_take K) [] E0 (tCons (tVar 0) (tCons (tC (.int 5)) tNil))) (tC (.int 0))))) (tDrop (tBM K "list" rAppend (tVar 3) (tCons (tVar 7) tNil))) tNext)))))
    (tRet (tVar 3))))
theorem si_l_law_parts {K : PySem.W.Frag} {WW : WX} (kf : KF K) : SimS K WW (t_l_law_parts K) b_l_law_parts := (sim_seq (sim_par3 (sim_cons (sim_lst sim_nil) (sim_cons (sim_lst sim_nil) (sim_cons (sim_call (sim_cons (sim_ce sim_var) (sim_cons (sim_fr (sim_c fun _ _ _ => .int _)) sim_nil))) sim_nil))))
    (sim_seq (sim_for (sim_rng1 (sim_cons sim_var sim_nil)) sim_gnameC (sim_seq (sim_asg (sim_call (sim_cons (sim_ce sim_var) (sim_cons (sim_fr sim_var) (sim_cons (sim_fr (sim_c fun _ _ _ => .int _)) sim_nil)))) sim_gnameC)
    (sim_seq (sim_ifs (sim_and (sim_test (sim_op o_gt sim_var (sim_c fun _ _ _ => .int _))) (sim_and (sim_test (sim_op o_ne sim_var (sim_lst sim_nil))) (sim_test (sim_op o_gt (sim_call (sim_cons (sim_ce sim_var) (sim_cons (sim_fr (sim_c fun _ _ _ => .int _)) sim_nil))) (sim_c fun _ _ _ => .int _))))) (sim_asg (sim_call (sim_cons (sim_ce sim_var) (sim_cons (sim_fr sim_var) (sim_cons (sim_fr (sim_op o_ix sim_var (sim_call (sim_cons (sim_ce sim_var) (sim_cons (sim_fr (sim_cb o_len (sim_cons sim_var sim_nil))) sim_nil))))) sim_nil)))) sim_gnameC) sim_next)
    (sim_seq (sim_drop (sim_mut rfl mu_append sim_var (sim_cons sim_var sim_nil)))
    (sim_ifs (sim_and (sim_test (sim_op o_niD sim_var sim_var)) (sim_test (sim_op o_gt (sim_call (sim_cons (sim_ce sim_var) (sim_cons (sim_fr (sim_c fun _ _ _ => .int _)) sim_nil))) (sim_c fun _ _ _ => .int _)))) (sim_drop (sim_mut rfl mu_append sim_var (sim_cons sim_var sim_nil))) sim_next)))))
    (sim_ret sim_var)))
theorem len_l_law_parts {K : PySem.W.Frag} {vs : List V} {H : Hp} {Q : VK} {E : XK} (h : sp_l_law_parts K vs H Q E) : vs.length = ["_law_bag_here", "_law_many", "_law_most"].length := len_spM (ps := ["_law_bag_here", "_law_many", "_law_most"]) (fun _ _ _ h => len_fnM h) h
theorem pure_l_law_parts {K : PySem.W.Frag} (kf : KF K) (vs : List V) (H : Hp) (Q : VK) (E : XK) (h : sp_l_law_parts K vs H Q E) : t_l_law_parts K { nx := fun _ H' => Q .non H', rt := Q } (L2.start ["_law_bag_here", "_law_many", "_law_most", "_law_found", "_law_rows", "_law_mode", "_law_turn", "_law_part"] vs) H := pure_fnM (n := 3) (k := 5) rfl (si_l_law_parts kf) h
abbrev sp_l_law_shape (K : PySem.W.Frag) : Sp := spM K m_l_law_shape
def t_l_law_shape (K : PySem.W.Frag) : TS := (tSeq (tPar 3 4 (tCons (tCB (uList K) (tCons (tOp (uIx K) (tVar 2) (tC (.int 0))) tNil)) (tCons (tLst tNil) tNil)))
    (tSeq (tFor (iRng1 (tCons (tCB (uLen K) (tCons (tVar 3) tNil)) tNil)) (gName 5) (tDrop (tBM K "list" rAppend (tVar 4) (tCons (tOp (uIx K) (tVar 1) (tBM K "list" rPopAt (tVar 3) (tCons (tCall (sp_l_law_take K) [] E0 (tCons (tVar 0) (tCons (tCB (uLen K) (tCons (tVar 3) tNil)) tNil))) tNil))) tNil))))
    (tRet (tMake (He.ga K "Shape") (sp_Shape_D_init_D K) [] E0 (tCons (tOp (uIx K) (tLst (tCons (tVar 4) (tCons (tCB (uTuple K) (tCons (tVar 4) tNil)) tNil))) (tCall (sp_l_law_take K) [] E0 (tCons (tVar 0) (tCons (tC (.int 2)) tNil)))) (tCons (tIf (tTest (tOp uIs (tOp (uIx K) (tVar 2) (tC (.int 1))) (tC .non))) (tC .non) (tOp (uIx K) (tVar 1) (tOp (uIx K) (tVar 2) (tC (.int 1))))) tNil))))))
theorem si_l_law_shape {K : PySem.W.Frag} {WW : WX} (kf : KF K) : SimS K WW (t_l_law_shape K) b_l_law_shape := (sim_seq (sim_par (sim_cons (sim_cb o_list (sim_cons (sim_op o_ix sim_var (sim_c fun _ _ _ => .int _)) sim_nil)) (sim_cons (sim_lst sim_nil) sim_nil)))
    (sim_seq (sim_for (sim_rng1 (sim_cons (sim_cb o_len (sim_cons sim_var sim_nil)) sim_nil)) sim_gnameC (sim_drop (sim_mut rfl mu_append sim_var (sim_cons (sim_op o_ix sim_var (sim_mut rfl mu_popAt sim_var (sim_cons (sim_call (sim_cons (sim_ce sim_var) (sim_cons (sim_fr (sim_cb o_len (sim_cons sim_var sim_nil))) sim_nil))) sim_nil))) sim_nil))))
    (sim_ret (sim_make (fun _ _ _ => .nil) (sim_cons (sim_fr (sim_op o_ix (sim_lst (sim_cons sim_var (sim_cons (sim_cb o_tuple (sim_cons sim_var sim_nil)) sim_nil))) (sim_call (sim_cons (sim_ce sim_var) (sim_cons (sim_fr (sim_c fun _ _ _ => .int _)) sim_nil))))) (sim_cons (sim_fr (sim_if (sim_test (sim_op o_is (sim_op o_ix sim_var (sim_c fun _ _ _ => .int _)) (sim_c fun _ _ _ => .non))) (sim_c fun _ _ _ => .non) (sim_op o_ix sim_var (sim_op o_ix sim_var (sim_c fun _ _ _ => .int _))))) sim_nil))))))
theorem len_l_law_shape {K : PySem.W.Frag} {vs : List V} {H : Hp} {Q : VK} {E : XK} (h : sp_l_law_shape K vs H Q E) : vs.length = ["_law_bag_here", "_law_names_here", "_law_part"].length := len_spM (ps := ["_law_bag_here", "_law_names_here", "_law_part"]) (fun _ _ _ h => len_fnM h) h
theorem pure_l_law_shape {K : PySem.W.Frag} (kf : KF K) (vs : List V) (H : Hp) (Q : VK) (E : XK) (h : sp_l_law_shape K vs H Q E) : t_l_law_shape K { nx := fun _ H' => Q .non H', rt := Q } (L2.start ["_law_bag_here", "_law_names_here", "_law_part", "_law_left", "_law_fixed", "_law_turn"] vs) H := pure_fnM (n := 3) (k := 3) rfl (si_l_law_shape kf) h
abbrev sp_l_law_is_name (K : PySem.W.Frag) : Sp := spM K m_l_law_is_name
def t_l_law_is_name (K : PySem.W.Frag) : TS := (tSeq (tAsg (tLc (iU K (tVar 0)) (gName 2) (tTest (tOp (uNi K) (tVar 2) (tC (.str "abcdefghijklmnopqrstuvwxyz")))) (tVar 2) [2]) (gName 1))
    (tRet (tAndV (tChain uLe uLe (tC (.int 1)) (tCB (uLen K) (tCons (tVar 0) tNil)) (tC (.int 8))) (tOp (uEq K) (tVar 1) (tLst tNil)))))
theorem si_l_law_is_name {K : PySem.W.Frag} {WW : WX} (kf : KF K) : SimS K WW (t_l_law_is_name K) b_l_law_is_name := (sim_seq (sim_asg (sim_lc (sim_iU sim_var) sim_gnameC (ok_name (by decide)) (sim_test (sim_op o_ni sim_var (sim_c fun _ _ _ => .str _))) sim_var) sim_gnameC)
    (sim_ret (sim_andV (sim_chain o_le o_le (sim_c fun _ _ _ => .int _) (sim_cb o_len (sim_cons sim_var sim_nil)) (sim_c fun _ _ _ => .int _)) (sim_op o_eq sim_var (sim_lst sim_nil)))))
theorem len_l_law_is_name {K : PySem.W.Frag} {vs : List V} {H : Hp} {Q : VK} {E : XK} (h : sp_l_law_is_name K vs H Q E) : vs.length = ["_law_value"].length := len_spM (ps := ["_law_value"]) (fun _ _ _ h => len_fnM h) h
theorem pure_l_law_is_name {K : PySem.W.Frag} (kf : KF K) (vs : List V) (H : Hp) (Q : VK) (E : XK) (h : sp_l_law_is_name K vs H Q E) : t_l_law_is_name K { nx := fun _ H' => Q .non H', rt := Q } (L2.start ["_law_value", "_law_wrong", "_law_sign"] vs) H := pure_fnM (n := 1) (k := 2) rfl (si_l_law_is_name kf) h
abbrev sp_l_law_read (K : PySem.W.Frag) : Sp := spM K m_l_law_read
def t_l_law_read (K : PySem.W.Frag) : TS := (tSeq (tAsg (tBM K "str" rSplit (tVar 0) (tCons (tC (.str ":")) tNil)) (gName 1))
    (tSeq (tAsg (tIf (tTest (tOp (uEq K) (tOp (uIx K) (tVar 1) (tC (.int 0))) (tC (.str "-")))) (tLst tNil) (tBM K "str" rSplit (tOp (uIx K) (tVar 1) (tC (.int 0))) (tCons (tC (.str "+")) tNil))) (gName 2))
    (tSeq (tAsg (tOp (uAdd K) (tVar 2) (tSl (uSl K) (tVar 1) (tPart (tC (.int 1))) tNoPart)) (gName 3))
    (tSeq (tIfS (tOr (tTest (tOp SL.rGt (tCB (uLen K) (tCons (tVar 1) tNil)) (tC (.int 2)))) (tTest (tOp (uNe K) (tLc (iU K (tVar 3)) (gName 4) (tNot (tTruK K (tCall (sp_l_law_is_name K) [] E0 (tCons (tVar 4) tNil)))) (tVar 4) [4]) (tLst tNil)))) (tRet (tC .non)) tNext)
    (tSeq (tIfS (tOr (tTest (tOp (uNe K) (tVar 2) (tCB (rSrtSetZ K) (tCons (tVar 2) tNil)))) (tOr (tTest (tOp (uNe K) (tCB (rLenSetZ K) (tCons (tVar 3) tNil)) (tCB (uLen K) (tCons (tVar 3) tNil)))) (tTest (tOp SL.rGt (tCB (uLen K) (tCons (tVar 3) tNil)) (tC (.int 5)))))) (tRet (tC .non)) tNext)
    (tRet (tLst (tCons (tVar 2) (tCons (tIf (tTest (tOp (uEq K) (tCB (uLen K) (tCons (tVar 1) tNil)) (tC (.int 2)))) (tOp (uIx K) (tVar 1) (tC (.int 1))) (tC .non)) tNil)))))))))
theorem si_l_law_read {K : PySem.W.Frag} {WW : WX} (kf : KF K) : SimS K WW (t_l_law_read K) b_l_law_read := (sim_seq (sim_asg (sim_bs rfl o_split sim_var (sim_cons (sim_c fun _ _ _ => .str _) sim_nil)) sim_gnameC)
    (sim_seq (sim_asg (sim_if (sim_test (sim_op o_eq (sim_op o_ix sim_var (sim_c fun _ _ _ => .int _)) (sim_c fun _ _ _ => .str _))) (sim_lst sim_nil) (sim_bs rfl o_split (sim_op o_ix sim_var (sim_c fun _ _ _ => .int _)) (sim_cons (sim_c fun _ _ _ => .str _) sim_nil))) sim_gnameC)
    (sim_seq (sim_asg (sim_op o_add sim_var (sim_sl sim_var (sim_part (sim_c fun _ _ _ => .int _)) sim_nopart)) sim_gnameC)
    (sim_seq (sim_ifs (sim_or (sim_test (sim_op o_gt (sim_cb o_len (sim_cons sim_var sim_nil)) (sim_c fun _ _ _ => .int _))) (sim_test (sim_op o_ne (sim_lc (sim_iU sim_var) sim_gnameC (ok_name (by decide)) (sim_not (sim_tru (sim_call (sim_cons (sim_fr sim_var) sim_nil)))) sim_var) (sim_lst sim_nil)))) (sim_ret (sim_c fun _ _ _ => .non)) sim_next)
    (sim_seq (sim_ifs (sim_or (sim_test (sim_op o_ne sim_var (sim_cb o_srtSetZ (sim_cons sim_var sim_nil)))) (sim_or (sim_test (sim_op o_ne (sim_cb o_lenSetZ (sim_cons sim_var sim_nil)) (sim_cb o_len (sim_cons sim_var sim_nil)))) (sim_test (sim_op o_gt (sim_cb o_len (sim_cons sim_var sim_nil)) (sim_c fun _ _ _ => .int _))))) (sim_ret (sim_c fun _ _ _ => .non)) sim_next)
    (sim_ret (sim_lst (sim_cons sim_var (sim_cons (sim_if (sim_test (sim_op o_eq (sim_cb o_len (sim_cons sim_var sim_nil)) (sim_c fun _ _ _ => .int _))) (sim_op o_ix sim_var (sim_c fun _ _ _ => .int _)) (sim_c fun _ _ _ => .non)) sim_nil)))))))))
theorem len_l_law_read {K : PySem.W.Frag} {vs : List V} {H : Hp} {Q : VK} {E : XK} (h : sp_l_law_read K vs H Q E) : vs.length = ["_law_text"].length := len_spM (ps := ["_law_text"]) (fun _ _ _ h => len_fnM h) h
theorem pure_l_law_read {K : PySem.W.Frag} (kf : KF K) (vs : List V) (H : Hp) (Q : VK) (E : XK) (h : sp_l_law_read K vs H Q E) : t_l_law_read K { nx := fun _ H' => Q .non H', rt := Q } (L2.start ["_law_text", "_law_parts_here", "_law_fixed", "_law_names_here", "_law_name"] vs) H := pure_fnM (n := 1) (k := 4) rfl (si_l_law_read kf) h
abbrev sp_l_law_caught (K : PySem.W.Frag) : Sp := spM K m_l_law_caught
def t_l_law_caught (K : PySem.W.Frag) : TS := (fun D σ H => (fun W : WX => (tRet (tLst (tCons (tC (.str "told")) (tCons (tCallS (sp_parse_shape K) (WE W) (tCons (tVar 0) tNil)) tNil))))) (wAses K D ((.ref (He.ga K "InvalidText"), 1, fun a cls d => tRet (tLst (tCons (tC (.str "text")) (tCons (tXfE a cls d (He.ga K "InvalidText") "value" (tVar 1)) tNil)))) :: [])) D σ H)
theorem si_l_law_caught {K : PySem.W.Frag} {WW : WX} (kf : KF K) : SimS K WW (t_l_law_caught K) b_l_law_caught := (sim_try (fun W => (sim_ret (sim_lst (sim_cons (sim_c fun _ _ _ => .str _) (sim_cons (sim_callS (sim_cons (sim_fr sim_var) sim_nil)) sim_nil))))) (SimC.cons (simX_lst (simX_cons (simX_c (by intros; constructor)) (simX_cons simX_f simX_nil))) kf.k6 SimC.nil))
theorem len_l_law_caught {K : PySem.W.Frag} {vs : List V} {H : Hp} {Q : VK} {E : XK} (h : sp_l_law_caught K vs H Q E) : vs.length = ["_law_text"].length := len_spM (ps := ["_law_text"]) (fun _ _ _ h => len_fnM h) h
theorem pure_l_law_caught {K : PySem.W.Frag} (kf : KF K) (vs : List V) (H : Hp) (Q : VK) (E : XK) (h : sp_l_law_caught K vs H Q E) : t_l_law_caught K { nx := fun _ H' => Q .non H', rt := Q } (L2.start ["_law_text", "e"] vs) H := pure_fnM (n := 1) (k := 1) rfl (si_l_law_caught kf) h
abbrev sp_l_law_right (K : PySem.W.Frag) : Sp := spM K m_l_law_right
def t_l_law_right (K : PySem.W.Frag) : TS := (tSeq (tPar 1 2 (tCons (tCall (sp_l_law_read K) [] E0 (tCons (tVar 0) tNil)) (tCons (tCall (sp_l_law_caught K) [] E0 (tCons (tVar 0) tNil)) tNil)))
    (tSeq (tIfS (tTest (tOp uIs (tVar 1) (tC .non))) (tRet (tOp (uEq K) (tVar 2) (tLst (tCons (tC (.str "text")) (tCons (tVar 0) tNil))))) tNext)
    (tRet (tAndV (tOp (rEqG (DList (DMix K "Shape" (CP.m_Shape_D_eq_D KS false)))) (tVar 2) (tLst (tCons (tC (.str "told")) (tCons (tMake (He.ga K "Shape") (sp_Shape_D_init_D K) [] E0 (tCons (tOp (uIx K) (tVar 1) (tC (.int 0))) (tCons (tOp (uIx K) (tVar 1) (tC (.int 1))) tNil))) tNil)))) (tOp (uEq K) (tCB (rStrO (He.ga K "Shape") (sp_Shape_D_str_D K) E0) (tCons (tOp (uIx K) (tVar 2) (tC (.int 1))) tNil)) (tVar 0))))))
theorem si_l_law_right {K : PySem.W.Frag} {WW : WX} (kf : KF K) : SimS K WW (t_l_law_right K) b_l_law_right := (sim_seq (sim_par (sim_cons (sim_call (sim_cons (sim_fr sim_var) sim_nil)) (sim_cons (sim_call (sim_cons (sim_fr sim_var) sim_nil)) sim_nil)))
    (sim_seq (sim_ifs (sim_test (sim_op o_is sim_var (sim_c fun _ _ _ => .non))) (sim_ret (sim_op o_eq sim_var (sim_lst (sim_cons (sim_c fun _ _ _ => .str _) (sim_cons sim_var sim_nil))))) sim_next)
    (sim_ret (sim_andV (sim_op o_eqL sim_var (sim_lst (sim_cons (sim_c fun _ _ _ => .str _) (sim_cons (sim_make (fun _ _ _ => .nil) (sim_cons (sim_fr (sim_op o_ix sim_var (sim_c fun _ _ _ => .int _))) (sim_cons (sim_fr (sim_op o_ix sim_var (sim_c fun _ _ _ => .int _))) sim_nil))) sim_nil)))) (sim_op o_eq (sim_strO (sim_cons (sim_op o_ix sim_var (sim_c fun _ _ _ => .int _)) sim_nil)) sim_var)))))
theorem len_l_law_right {K : PySem.W.Frag} {vs : List V} {H : Hp} {Q : VK} {E : XK} (h : sp_l_law_right K vs H Q E) : vs.length = ["_law_text"].length := len_spM (ps := ["_law_text"]) (fun _ _ _ h => len_fnM h) h
theorem pure_l_law_right {K : PySem.W.Frag} (kf : KF K) (vs : List V) (H : Hp) (Q : VK) (E : XK) (h : sp_l_law_right K vs H Q E) : t_l_law_right K { nx := fun _ H' => Q .non H', rt := Q } (L2.start ["_law_text", "_law_due", "_law_found"] vs) H := pure_fnM (n := 1) (k := 2) rfl (si_l_law_right kf) h
abbrev sp_l_law_spoilt (K : PySem.W.Frag) : Sp := spM K m_l_law_spoilt
def t_l_law_spoilt (K : PySem.W.Frag) : TS := (tSeq (tAsg (tBM K "str" rPart (tVar 2) (tCons (tC (.str ":")) tNil)) (gTup K 3 (gCons (gName 3) (gCons (gName 4) (gCons (gName 5) gNil)))))
    (tSeq (tPar 6 7 (tCons (tBM K "str" rSplit (tVar 3) (tCons (tC (.str "+")) tNil)) (tCons (tCall (sp_l_law_take K) [] E0 (tCons (tVar 0) (tCons (tC (.int 8)) tNil))) tNil)))
    (tSeq (tPar 8 9 (tCons (tCall (sp_l_law_take K) [] E0 (tCons (tVar 0) (tCons (tCB (uLen K) (tCons (tVar 6) tNil)) tNil))) (tCons (tCall (sp_l_law_take K) [] E0 (tCons (tVar 0) (tCons (tCB (uLen K) (tCons (tVar 6) tNil)) tNil))) tNil)))
    (tSeq (tAsg (tCall (sp_l_law_take K) [] E0 (tCons (tVar 0) (tCons (tOp (uAdd K) (tCB (uLen K) (tCons (tVar 2) tNil)) (tC (.int 1))) tNil))) (gName 10))
    (tSeq (tAsg (tOp (uIx K) (tC (.str "abz+:-A 1_~\n")) (tCall (sp_l_law_take K) [] E0 (tCons (tVar 0) (tCons (tC (.int 12)) tNil)))) (gName 11))
    (tSeq (tIfS (tTest (tOp (uEq K) (tVar 7) (tC (.int 0)))) (tRet (tOp (uAdd K) (tOp (uAdd K) (tSl (uSl K) (tVar 2) tNoPart (tPart (tVar 10))) (tVar 11)) (tSl (uSl K) (tVar 2) (tPart (tVar 10)) tNoPart))) tNext)
    (tSeq (tIfS (tTest (tOp (uEq K) (tVar 7) (tC (.int 1)))) (tRet (tOp (uAdd K) (tSl (uSl K) (tVar 2) tNoPart (tPart (tVar 10))) (tSl (uSl K) (tVar 2) (tPart (tOp (uAdd K) (tVar 10) (tC (.int 1)))) tNoPart))) tNext)
    (tSeq (tIfS (tTest (tOp (uEq K) (tVar 7) (tC (.int 2)))) (tRet (tOp (uAdd K) (tOp (uAdd K) (tSl (uSl K) (tVar 2) tNoPart (tPart (tVar 10))) (tVar 11)) (tSl (uSl K) (tVar 2) (tPart (tOp (uAdd K) (tVar 10) (tC (.int 1)))) tNoPart))) tNext)
    (tSeq (tIfS (tTest (tOp (uEq K) (tVar 7) (tC (.int 3)))) (tAsg (tLst (tCons (tOp (uIx K) (tOp (uAdd K) (tVar 1) (tLst (tCons (tOp (uIx K) (tVar 6) (tVar 9)) (tCons (tC (.str "abcdefghi")) (tCons (tC (.str "")) (tCons (tC (.str "-")) tNil)))))) (tCall (sp_l_law_take K) [] E0 (tCons (tVar 0) (tCons (tOp (uAdd K) (tCB (uLen K) (tCons (tVar 1) tNil)) (tC (.int 4))) tNil)))) tNil)) (gSlc (tVar 6) (tPart (tVar 8)) (tPart (tVar 8)))) tNext)
    (tSeq (tIfS (tTest (tOp (uEq K) (tVar 7) (tC (.int 4)))) (tAsg (tTup (tCons (tOp (uIx K) (tVar 6) (tVar 9)) (tCons (tOp (uIx K) (tVar 6) (tVar 8)) tNil))) (gTup K 2 (gCons (gSub (tVar 6) (tVar 8) rSetL) (gCons (gSub (tVar 6) (tVar 9) rSetL) gNil)))) tNext)
    (tSeq (tIfS (tTest (tOp (uEq K) (tVar 7) (tC (.int 5)))) (tDrop (tBM K "list" rPopAt (tVar 6) (tCons (tVar 8) tNil))) tNext)
    (tSeq (tIfS (tTest (tOp (uEq K) (tVar 7) (tC (.int 6)))) (tRet (tOp (uAdd K) (tVar 3) (tOp (uIx K) (tLst (tCons (tOp (uAdd K) (tC (.str ":")) (tOp (uIx K) (tVar 1) (tC (.int 0)))) (tCons (tC (.str ":")) (tCons (tC (.str "")) (tCons (tOp (uAdd K) (tC (.str ":")) (tOp (uIx K) (tVar 6) (tVar 9))) tNil))))) (tCall (sp_l_law_take K) [] E0 (tCons (tVar 0) (tCons (tC (.int 4)) tNil)))))) tNext)
    (tSeq (tIfS (tTest (tOp (uEq K) (tVar 7) (tC (.int 7)))) (tAsg (tSl (uSl K) (tCB (rSrtZ K) (tCons (tOp (uAdd K) (tVar 6) (tVar 1)) tNil)) tNoPart (tPart (tCall (sp_l_law_take K) [] E0 (tCons (tVar 0) (tCons (tC (.int 7)) tNil))))) (gName 6)) tNext)
    (tRet (tOp (uAdd K) (tOp (uAdd K) (tBM K "str" (rJoin K) (tC (.str "+")) (tCons (tVar 6) tNil)) (tVar 4)) (tVar 5))))))))))))))))
theorem si_l_law_spoilt {K : PySem.W.Frag} {WW : WX} (kf : KF K) : SimS K WW (t_l_law_spoilt K) b_l_law_spoilt := (sim_seq (sim_asg (sim_bs rfl o_part sim_var (sim_cons (sim_c fun _ _ _ => .str _) sim_nil)) (sim_gtup (sim_gcons sim_gnameC (sim_gcons sim_gnameC (sim_gcons sim_gnameC sim_gnil)))))
    (sim_seq (sim_par (sim_cons (sim_bs rfl o_split sim_var (sim_cons (sim_c fun _ _ _ => .str _) sim_nil)) (sim_cons (sim_call (sim_cons (sim_ce sim_var) (sim_cons (sim_fr (sim_c fun _ _ _ => .int _)) sim_nil))) sim_nil)))
    (sim_seq (sim_par (sim_cons (sim_call (sim_cons (sim_ce sim_var) (sim_cons (sim_fr (sim_cb o_len (sim_cons sim_var sim_nil))) sim_nil))) (sim_cons (sim_call (sim_cons (sim_ce sim_var) (sim_cons (sim_fr (sim_cb o_len (sim_cons sim_var sim_nil))) sim_nil))) sim_nil)))
    (sim_seq (sim_asg (sim_call (sim_cons (sim_ce sim_var) (sim_cons (sim_fr (sim_op o_add (sim_cb o_len (sim_cons sim_var sim_nil)) (sim_c fun _ _ _ => .int _))) sim_nil))) sim_gnameC)
    (sim_seq (sim_asg (sim_op o_ix (sim_c fun _ _ _ => .str _) (sim_call (sim_cons (sim_ce sim_var) (sim_cons (sim_fr (sim_c fun _ _ _ => .int _)) sim_nil)))) sim_gnameC)
    (sim_seq (sim_ifs (sim_test (sim_op o_eq sim_var (sim_c fun _ _ _ => .int _))) (sim_ret (sim_op o_add (sim_op o_add (sim_sl sim_var sim_nopart (sim_part sim_var)) sim_var) (sim_sl sim_var (sim_part sim_var) sim_nopart))) sim_next)
    (sim_seq (sim_ifs (sim_test (sim_op o_eq sim_var (sim_c fun _ _ _ => .int _))) (sim_ret (sim_op o_add (sim_sl sim_var sim_nopart (sim_part sim_var)) (sim_sl sim_var (sim_part (sim_op o_add sim_var (sim_c fun _ _ _ => .int _))) sim_nopart))) sim_next)
    (sim_seq (sim_ifs (sim_test (sim_op o_eq sim_var (sim_c fun _ _ _ => .int _))) (sim_ret (sim_op o_add (sim_op o_add (sim_sl sim_var sim_nopart (sim_part sim_var)) sim_var) (sim_sl sim_var (sim_part (sim_op o_add sim_var (sim_c fun _ _ _ => .int _))) sim_nopart))) sim_next)
    (sim_seq (sim_ifs (sim_test (sim_op o_eq sim_var (sim_c fun _ _ _ => .int _))) (sim_asg (sim_lst (sim_cons (sim_op o_ix (sim_op o_add sim_var (sim_lst (sim_cons (sim_op o_ix sim_var sim_var) (sim_cons (sim_c fun _ _ _ => .str _) (sim_cons (sim_c fun _ _ _ => .str _) (sim_cons (sim_c fun _ _ _ => .str _) sim_nil)))))) (sim_call (sim_cons (sim_ce sim_var) (sim_cons (sim_fr (sim_op o_add (sim_cb o_len (sim_cons sim_var sim_nil)) (sim_c fun _ _ _ => .int _))) sim_nil)))) sim_nil)) (sim_gslc sim_var (sim_part sim_var) (sim_part sim_var))) sim_next)
    (sim_seq (sim_ifs (sim_test (sim_op o_eq sim_var (sim_c fun _ _ _ => .int _))) (sim_asg (sim_tup (sim_cons (sim_fr (sim_op o_ix sim_var sim_var)) (sim_cons (sim_fr (sim_op o_ix sim_var sim_var)) sim_nil))) (sim_gtup (sim_gcons (sim_gsub sim_var sim_var) (sim_gcons (sim_gsub sim_var sim_var) sim_gnil)))) sim_next)
    (sim_seq (sim_ifs (sim_test (sim_op o_eq sim_var (sim_c fun _ _ _ => .int _))) (sim_drop (sim_mut rfl mu_popAt sim_var (sim_cons sim_var sim_nil))) sim_next)
    (sim_seq (sim_ifs (sim_test (sim_op o_eq sim_var (sim_c fun _ _ _ => .int _))) (sim_ret (sim_op o_add sim_var (sim_op o_ix (sim_lst (sim_cons (sim_op o_add (sim_c fun _ _ _ => .str _) (sim_op o_ix sim_var (sim_c fun _ _ _ => .int _))) (sim_cons (sim_c fun _ _ _ => .str _) (sim_cons (sim_c fun _ _ _ => .str _) (sim_cons (sim_op o_add (sim_c fun _ _ _ => .str _) (sim_op o_ix sim_var sim_var)) sim_nil))))) (sim_call (sim_cons (sim_ce sim_var) (sim_cons (sim_fr (sim_c fun _ _ _ => .int _)) sim_nil)))))) sim_next)
    (sim_seq (sim_ifs (sim_test (sim_op o_eq sim_var (sim_c fun _ _ _ => .int _))) (sim_asg (sim_sl (sim_cb o_srtZ (sim_cons (sim_op o_add sim_var sim_var) sim_nil)) sim_nopart (sim_part (sim_call (sim_cons (sim_ce sim_var) (sim_cons (sim_fr (sim_c fun _ _ _ => .int _)) sim_nil))))) sim_gname) sim_next)
    (sim_ret (sim_op o_add (sim_op o_add (sim_bs rfl o_join (sim_c fun _ _ _ => .str _) (sim_cons sim_var sim_nil)) sim_var) sim_var)))))))))))))))
theorem len_l_law_spoilt {K : PySem.W.Frag} {vs : List V} {H : Hp} {Q : VK} {E : XK} (h : sp_l_law_spoilt K vs H Q E) : vs.length = ["_law_bag_here", "_law_names_here", "_law_text"].length := len_spM (ps := ["_law_bag_here", "_law_names_here", "_law_text"]) (fun _ _ _ h => len_fnM h) h
theorem pure_l_law_spoilt {K : PySem.W.Frag} (kf : KF K) (vs : List V) (H : Hp) (Q : VK) (E : XK) (h : sp_l_law_spoilt K vs H Q E) : t_l_law_spoilt K { nx := fun _ H' => Q .non H', rt := Q } (L2.start ["_law_bag_here", "_law_names_here", "_law_text", "_law_head", "_law_colon", "_law_tail", "_law_words", "_law_way", "_law_at", "_law_to", "_law_spot", "_law_sign"] vs) H := pure_fnM (n := 3) (k := 9) rfl (si_l_law_spoilt kf) h
abbrev sp_law (K : PySem.W.Frag) : Sp := spM K m_law
def t_law (K : PySem.W.Frag) : TS := (tSeq (tFor (iRng1 (tCons (tCB rMax2 (tCons (tC (.int 2)) (tCons (tCB rMin2 (tCons (tC (.int 8)) (tCons (tCB (uLen K) (tCons (tVar 0) tNil)) tNil))) tNil))) tNil)) (gName 1) (tSeq (tAsg (tCall (sp_l_law_bag K) [] E0 (tCons (tCall (sp_l_law_cell K) [] E0 (tCons (tVar 0) (tCons (tVar 1) tNil))) tNil)) (gName 2))
    (tSeq (tAsg (tCall (sp_l_law_names K) [] E0 (tCons (tVar 2) (tCons (tOp (uAdd K) (tC (.int 1)) (tCall (sp_l_law_take K) [] E0 (tCons (tVar 2) (tCons (tC (.int 8)) tNil)))) tNil))) (gName 3))
    (tSeq (tFor (iU K (tOp (uAdd K) (tCall (sp_l_law_parts K) [] E0 (tCons (tVar 2) (tCons (tCB (uLen K) (tCons (tVar 3) tNil)) (tCons (tC (.int 5)) tNil)))) (tLst (tCons (tTup (tCons (tLst tNil) (tCons (tC .non) tNil))) tNil)))) (gName 4) (tSeq (tAsg (tCB (rSrt K) (tCons (tLc (iU K (tOp (uIx K) (tVar 4) (tC (.int 0)))) (gName 11) tYes (tOp (uIx K) (tVar 3) (tVar 11)) [11]) tNil)) (gName 6))
    (tSeq (tAsg (tOp (uAdd K) (tIf (tTest (tOp (uNe K) (tVar 6) (tLst tNil))) (tBM K "str" (rJoin K) (tC (.str "+")) (tCons (tVar 6) tNil)) (tC (.str "-"))) (tIf (tTest (tOp uIs (tOp (uIx K) (tVar 4) (tC (.int 1))) (tC .non))) (tC (.str "")) (tOp (uAdd K) (tC (.str ":")) (tOp (uIx K) (tVar 3) (tOp (uIx K) (tVar 4) (tC (.int 1))))))) (gName 7))
    (tSeq (tIfS (tOr (tTest (tOp (uNe K) (tCB (rStrO (He.ga K "Shape") (sp_Shape_D_str_D K) E0) (tCons (tCall (sp_l_law_shape K) [] E0 (tCons (tVar 2) (tCons (tVar 3) (tCons (tVar 4) tNil)))) tNil)) (tVar 7))) (tNot (tTruK K (tCall (sp_l_law_right K) [] E0 (tCons (tVar 7) tNil))))) (tRet (tC (.bl false))) tNext)
    (tSeq (tFor (iRng1 (tCons (tC (.int 6)) tNil)) (gName 8) (tSeq (tAsg (tCall (sp_l_law_spoilt K) [] E0 (tCons (tVar 2) (tCons (tVar 3) (tCons (tVar 7) tNil)))) (gName 10))
    (tIfS (tOr (tNot (tTruK K (tCall (sp_l_law_right K) [] E0 (tCons (tVar 10) tNil)))) (tNot (tTruK K (tCall (sp_l_law_right K) [] E0 (tCons (tCall (sp_l_law_spoilt K) [] E0 (tCons (tVar 2) (tCons (tVar 3) (tCons (tVar 10) tNil)))) tNil))))) (tRet (tC (.bl false))) tNext)))
    (tIfS (tOr (tNot (tTruK K (tCall (sp_l_law_right K) [] E0 (tCons (tOp (uAdd K) (tVar 7) (tC (.str "\n"))) tNil)))) (tNot (tTruK K (tCall (sp_l_law_right K) [] E0 (tCons (tOp (uAdd K) (tC (.str " ")) (tVar 7)) tNil))))) (tRet (tC (.bl false))) tNext))))))
    (tSeq (tFor (iU K (tLst (tCons (tC .non) (tCons (tC (.bl true)) (tCons (tC (.int 0)) (tCons (tLst tNil) (tCons (tTup (tCons (tC (.str "a")) tNil)) (tCons tDNewK (tCons (tMake (He.ga K "Shape") (sp_Shape_D_init_D K) [V.non] E0 (tCons (tLst (tCons (tC (.str "a")) tNil)) tNil)) (tCons (tOp SL.rPow (tC (.int 10)) (tC (.int 29))) (tCons (tLst (tCons (tC (.str "a")) tNil)) tNil))))))))))) (gName 5) (tSeq (tAsg (tCall (sp_l_law_caught K) [] E0 (tCons (tVar 5) tNil)) (gName 9))
    (tSeq (tIfS (tTruK K (tCB (vIsi K) (tCons (tVar 5) (tCons (tC (.ty "list")) tNil)))) (tDrop (tBM K "list" rAppend (tVar 5) (tCons (tC (.str "late")) tNil))) tNext)
    (tIfS (tOr (tTest (tOp (uNe K) (tOp (uIx K) (tVar 9) (tC (.int 0))) (tC (.str "text")))) (tTest (tOp (uNe K) (tCB (fun xs H Q => (uReprX K) xs H Q ∨ (rReprO (He.ga K "Shape") (sp_Shape_D_repr_D K) E0) xs H Q) (tCons (tOp (uIx K) (tVar 9) (tC (.int 1))) tNil)) (tCB (fun xs H Q => (uReprX K) xs H Q ∨ (rReprO (He.ga K "Shape") (sp_Shape_D_repr_D K) E0) xs H Q) (tCons (tVar 5) tNil))))) (tRet (tC (.bl false))) tNext))))
    (tIfS (tTest (tOp (uNe K) (tLc (iU K (tLst (tCons (tC (.str "")) (tCons (tC (.str ":")) (tCons (tC (.str "-:")) (tCons (tC (.str "+")) (tCons (tC (.str "a+")) (tCons (tC (.str "a+-")) (tCons (tC (.str "--")) tNil))))))))) (gName 7) (tNot (tTruK K (tCall (sp_l_law_right K) [] E0 (tCons (tVar 7) tNil)))) (tVar 7) [7]) (tLst tNil))) (tRet (tC (.bl false))) tNext))))))
    (tRet (tC (.bl true))))
theorem si_law {K : PySem.W.Frag} {WW : WX} (kf : KF K) : SimS K WW (t_law K) b_law := (sim_seq (sim_for (sim_rng1 (sim_cons (sim_cb o_max2 (sim_cons (sim_c fun _ _ _ => .int _) (sim_cons (sim_cb o_min2 (sim_cons (sim_c fun _ _ _ => .int _) (sim_cons (sim_cb o_len (sim_cons sim_var sim_nil)) sim_nil))) sim_nil))) sim_nil)) sim_gnameC (sim_seq (sim_asg (sim_call (sim_cons (sim_fr (sim_call (sim_cons (sim_fr sim_var) (sim_cons (sim_fr sim_var) sim_nil)))) sim_nil)) sim_gname)
    (sim_seq (sim_asg (sim_call (sim_cons (sim_ce sim_var) (sim_cons (sim_fr (sim_op o_add (sim_c fun _ _ _ => .int _) (sim_call (sim_cons (sim_ce sim_var) (sim_cons (sim_fr (sim_c fun _ _ _ => .int _)) sim_nil))))) sim_nil))) sim_gnameC)
    (sim_seq (sim_for (sim_iU (sim_op o_add (sim_call (sim_cons (sim_ce sim_var) (sim_cons (sim_fr (sim_cb o_len (sim_cons sim_var sim_nil))) (sim_cons (sim_fr (sim_c fun _ _ _ => .int _)) sim_nil)))) (sim_lst (sim_cons (sim_tup (sim_cons (sim_lst sim_nil) (sim_cons (sim_c fun _ _ _ => .non) sim_nil))) sim_nil)))) sim_gnameC (sim_seq (sim_asg (sim_cb o_srt (sim_cons (sim_lc (sim_iU (sim_op o_ix sim_var (sim_c fun _ _ _ => .int _))) sim_gnameC (ok_name (by decide)) sim_yes (sim_op o_ix sim_var sim_var)) sim_nil)) sim_gnameC)
    (sim_seq (sim_asg (sim_op o_add (sim_if (sim_test (sim_op o_ne sim_var (sim_lst sim_nil))) (sim_bs rfl o_join (sim_c fun _ _ _ => .str _) (sim_cons sim_var sim_nil)) (sim_c fun _ _ _ => .str _)) (sim_if (sim_test (sim_op o_is (sim_op o_ix sim_var (sim_c fun _ _ _ => .int _)) (sim_c fun _ _ _ => .non))) (sim_c fun _ _ _ => .str _) (sim_op o_add (sim_c fun _ _ _ => .str _) (sim_op o_ix sim_var (sim_op o_ix sim_var (sim_c fun _ _ _ => .int _)))))) sim_gnameC)
    (sim_seq (sim_ifs (sim_or (sim_test (sim_op o_ne (sim_strO (sim_cons (sim_call (sim_cons (sim_ce sim_var) (sim_cons (sim_fr sim_var) (sim_cons (sim_fr sim_var) sim_nil)))) sim_nil)) sim_var)) (sim_not (sim_tru (sim_call (sim_cons (sim_fr sim_var) sim_nil))))) (sim_ret (sim_c fun _ _ _ => .bl _)) sim_next)
    (sim_seq (sim_for (sim_rng1 (sim_cons (sim_c fun _ _ _ => .int _) sim_nil)) sim_gnameC (sim_seq (sim_asg (sim_call (sim_cons (sim_ce sim_var) (sim_cons (sim_fr sim_var) (sim_cons (sim_fr sim_var) sim_nil)))) sim_gnameC)
    (sim_ifs (sim_or (sim_not (sim_tru (sim_call (sim_cons (sim_fr sim_var) sim_nil)))) (sim_not (sim_tru (sim_call (sim_cons (sim_fr (sim_call (sim_cons (sim_ce sim_var) (sim_cons (sim_fr sim_var) (sim_cons (sim_fr sim_var) sim_nil))))) sim_nil))))) (sim_ret (sim_c fun _ _ _ => .bl _)) sim_next)))
    (sim_ifs (sim_or (sim_not (sim_tru (sim_call (sim_cons (sim_fr (sim_op o_add sim_var (sim_c fun _ _ _ => .str _))) sim_nil)))) (sim_not (sim_tru (sim_call (sim_cons (sim_fr (sim_op o_add (sim_c fun _ _ _ => .str _) sim_var)) sim_nil))))) (sim_ret (sim_c fun _ _ _ => .bl _)) sim_next))))))
    (sim_seq (sim_for (sim_iU (sim_lst (sim_cons (sim_c fun _ _ _ => .non) (sim_cons (sim_c fun _ _ _ => .bl _) (sim_cons (sim_c fun _ _ _ => .int _) (sim_cons (sim_ce (sim_lst sim_nil)) (sim_cons (sim_tup (sim_cons (sim_c fun _ _ _ => .str _) sim_nil)) (sim_cons sim_dnew (sim_cons (sim_make (fun _ _ _ => (.cons .non .nil)) (sim_cons (sim_fr (sim_lst (sim_cons (sim_c fun _ _ _ => .str _) sim_nil))) sim_nil)) (sim_cons (sim_op o_pow (sim_c fun _ _ _ => .int _) (sim_c fun _ _ _ => .int _)) (sim_cons (sim_ce (sim_lst (sim_cons (sim_c fun _ _ _ => .str _) sim_nil))) sim_nil))))))))))) sim_gname (sim_seq (sim_asg (sim_call (sim_cons (sim_fr sim_var) sim_nil)) sim_gnameC)
    (sim_seq (sim_ifs (sim_tru (sim_cb (o_isi kf.k7) (sim_cons sim_var (sim_cons (sim_c fun _ _ _ => .ty _) sim_nil)))) (sim_drop (sim_mut rfl mu_append sim_var (sim_cons (sim_c fun _ _ _ => .str _) sim_nil))) sim_next)
    (sim_ifs (sim_or (sim_test (sim_op o_ne (sim_op o_ix sim_var (sim_c fun _ _ _ => .int _)) (sim_c fun _ _ _ => .str _))) (sim_test (sim_op o_ne (sim_alt (sim_cb (o_up o_reprX (fun _ _ _ h => .inl h)) (sim_cons (sim_op o_ix sim_var (sim_c fun _ _ _ => .int _)) sim_nil)) (sim_strOi (fun _ _ _ h => .inr h) (sim_cons (sim_op o_ix sim_var (sim_c fun _ _ _ => .int _)) sim_nil))) (sim_alt (sim_cb (o_up o_reprX (fun _ _ _ h => .inl h)) (sim_cons sim_var sim_nil)) (sim_strOi (fun _ _ _ h => .inr h) (sim_cons sim_var sim_nil)))))) (sim_ret (sim_c fun _ _ _ => .bl _)) sim_next))))
    (sim_fg (sim_ifs (sim_test (sim_op o_ne (sim_lc (sim_iU (sim_lst (sim_cons (sim_c fun _ _ _ => .str _) (sim_cons (sim_c fun _ _ _ => .str _) (sim_cons (sim_c fun _ _ _ => .str _) (sim_cons (sim_c fun _ _ _ => .str _) (sim_cons (sim_c fun _ _ _ => .str _) (sim_cons (sim_c fun _ _ _ => .str _) (sim_cons (sim_c fun _ _ _ => .str _) sim_nil))))))))) sim_gnameC (ok_name (by decide)) (sim_not (sim_tru (sim_call (sim_cons (sim_fr sim_var) sim_nil)))) sim_var) (sim_lst sim_nil))) (sim_ret (sim_c fun _ _ _ => .bl _)) sim_next)))))))
    (sim_ret (sim_c fun _ _ _ => .bl _)))
theorem len_law {K : PySem.W.Frag} {vs : List V} {H : Hp} {Q : VK} {E : XK} (h : sp_law K vs H Q E) : vs.length = ["_law_script"].length := len_spM (ps := ["_law_script"]) (fun _ _ _ h => len_fnM h) h
theorem pure_law {K : PySem.W.Frag} (kf : KF K) (vs : List V) (H : Hp) (Q : VK) (E : XK) (h : sp_law K vs H Q E) : t_law K { nx := fun _ H' => Q .non H', rt := Q } (L2.start ["_law_script", "_law_index", "_law_bag_here", "_law_names_here", "_law_part", "_law_odd", "_law_fixed", "_law_text", "_law_turn", "_law_found", "_law_other", "_law_at"] vs) H := pure_fnM (n := 1) (k := 11) rfl (si_law kf) h
end K09
namespace K09
open PySem PySem.Spec PySem.Calls PyProof PyProof.Rows L2 SL CM
theorem kf_ok {K : PySem.W.Frag} (c : SaysA looks0 defs0 K) : KF K := ⟨tabB_ok (c.look 17), tabBT_ok (c.look 20), ownB_ok (c.look 21), He.noat_ok (c.look 22), He.noat_ok (c.look 23), tabB_ok (c.look 26), exmB_ok (c.look 39), tabB_ok (c.look 47)⟩
theorem sc_is_name : FnScope ["value", "letter"] ["value"] (defScope s_is_name) := ⟨rfl, rfl, rfl, by decide +kernel, rfl, by decide +kernel, by decide +kernel⟩
theorem ok_is_name {P : Program} {w : World} {K : PySem.W.Frag} {mg : Str → Option Value} {base h : Heap} {fd : FuncData} (c : SaysA looks0 defs0 K) (hX : K.In h) (hG : h.Ns mainGlobals mg) (F_is_name : Fun_is_name K fd) : FnOk P w K mg base CX0 1 (He.fAd K d_is_name.at_) fd ["value"] (sp_is_name K) := by
  have F := F_is_name
  refine F.ok sc_is_name (fun vs H Q E h => len_is_name h) (fun cdv A outer s H vs Q E hr h => ⟨t_is_name K, PSs.nox ?_, pure_is_name (kf_ok c) vs H Q E h⟩)
  have hu := SL.hu64 hr
  exact (pss_cons (ps_if (PW.pt (pw_or (pt_not (pt_tru (pe_callB call_vIsi (by rfl) (He.free_ok hX hG (c.look 15)) (by decide +kernel) (pa_cons (pv 0) (pa_cons (pe_bltn (v := .ty "str") rfl (He.free_ok hX hG (c.look 16)) (by decide +kernel) rfl) pa_nil))) (by intro _; rfl))) (pw_or1 (pt_not (pt_chain (op_uLt hu) op_uLe pe_int (pe_callB call_uLen (by rfl) (He.free_ok hX hG (c.look 7)) (by decide +kernel) (pa_cons (pv 0) pa_nil)) (pe_gc rfl (gv_int (He.int_ok hX hG (c.look 14))))))))) (pss_one (ps_ret pe_bl)) pss_nil)
    (pss_one (ps_ret (pe_callB (cr_all rfl) (by rfl) (He.free_ok hX hG (c.look 9)) (by decide +kernel) (pa_cons (pe_lc (own := [("letter", 1)]) (wi := (iU K (tVar 0))) (g := (gName 1)) (tt := tYes) (te := (tOp (uIn K) (tVar 1) (tC (.str "abcdefghijklmnopqrstuvwxyz")))) (by rfl) sc_is_name.nd (pi_u (pv 0)) (blkOk_by (own := [("letter", 1)]) (N := ["value", "letter"]) (sc := defScope s_is_name) (by decide +kernel)) (fun _ _ _ _ _ => (pg_name (i := 1) sc_is_name.nd rfl (by first | exact Or.inl rfl | exact Or.inr rfl))) (fun _ _ _ _ _ => pts_nil) (fun _ _ _ _ _ => (pe_cmpR op_uIn (pv 1) (pe_gc rfl (gv_str (He.str_ok hX hG (c.look 13)))) (by rfl)))) pa_nil)))))
theorem sc_is_list : FnScope ["value"] ["value"] (defScope s_is_list) := ⟨rfl, rfl, rfl, by decide +kernel, rfl, by decide +kernel, by decide +kernel⟩
theorem ok_is_list {P : Program} {w : World} {K : PySem.W.Frag} {mg : Str → Option Value} {base h : Heap} {fd : FuncData} (c : SaysA looks0 defs0 K) (hX : K.In h) (hG : h.Ns mainGlobals mg) (F_is_list : Fun_is_list K fd) : FnOk P w K mg base CX0 1 (He.fAd K d_is_list.at_) fd ["value"] (sp_is_list K) := by
  have F := F_is_list
  refine F.ok sc_is_list (fun vs H Q E h => len_is_list h) (fun cdv A outer s H vs Q E hr h => ⟨t_is_list K, PSs.nox ?_, pure_is_list (kf_ok c) vs H Q E h⟩)
  have hu := SL.hu64 hr
  exact (pss_one (ps_ret (pe_callB call_vIsi (by rfl) (He.free_ok hX hG (c.look 15)) (by decide +kernel) (pa_cons (pv 0) (pa_cons (pe_tup (pa_cons (pe_bltn (v := .ty "list") rfl (He.free_ok hX hG (c.look 19)) (by decide +kernel) rfl) (pa_cons (pe_bltn (v := .ty "tuple") rfl (He.free_ok hX hG (c.look 18)) (by decide +kernel) rfl) pa_nil))) pa_nil)))))
theorem sc_InvalidText_D_init_D : FnScope ["self", "value"] ["self", "value"] (defScope s_InvalidText_D_init_D) := ⟨rfl, rfl, rfl, by decide +kernel, rfl, by decide +kernel, by decide +kernel⟩
theorem ok_InvalidText_D_init_D {P : Program} {w : World} {K : PySem.W.Frag} {mg : Str → Option Value} {base h : Heap} {fd : FuncData} (c : SaysA looks0 defs0 K) (hX : K.In h) (hG : h.Ns mainGlobals mg) (F_InvalidText_D_init_D : Fun_InvalidText_D_init_D K fd) : FnOk P w K mg base CX0 1 (He.fAd K d_InvalidText_D_init_D.at_) fd ["self", "value"] (sp_InvalidText_D_init_D K) := by
  have F := F_InvalidText_D_init_D
  refine F.ok sc_InvalidText_D_init_D (fun vs H Q E h => len_InvalidText_D_init_D h) (fun cdv A outer s H vs Q E hr h => ⟨t_InvalidText_D_init_D K, PSs.nox ?_, pure_InvalidText_D_init_D (oexB_ok (c.look 5)) (of_decide_eq_true (c.look 38)) vs H Q E h⟩)
  have hu := SL.hu64 hr
  exact (pss_cons (ps_expr (pe_sinit rfl (He.glo_ok hX hG (c.look 12)) (c.look 11) (pa_cons (pv 0) (pa_cons pe_str pa_nil))))
    (pss_one (ps_ost (pv 0) (pv 1))))
theorem sc_Shape_D_init_D : FnScope ["self", "fixed", "span", "at", "column"] ["self", "fixed", "span"] (defScope s_Shape_D_init_D) := ⟨rfl, rfl, rfl, by decide +kernel, rfl, by decide +kernel, by decide +kernel⟩
theorem ok_Shape_D_init_D {P : Program} {w : World} {K : PySem.W.Frag} {mg : Str → Option Value} {base h : Heap} {fd : FuncData} {fd_is_name : FuncData} {fd_is_list : FuncData} (c : SaysA looks0 defs0 K) (hX : K.In h) (hG : h.Ns mainGlobals mg) (F_Shape_D_init_D : Fun_Shape_D_init_D K fd) (O_is_name : FnOk P w K mg base CX0 1 (He.fAd K d_is_name.at_) fd_is_name ["value"] (sp_is_name K)) (D_is_name : Fun_is_name K fd_is_name) (O_is_list : FnOk P w K mg base CX0 1 (He.fAd K d_is_list.at_) fd_is_list ["value"] (sp_is_list K)) (D_is_list : Fun_is_list K fd_is_list) : FnOk P w K mg base CX0 2 (He.fAd K d_Shape_D_init_D.at_) fd ["self", "fixed", "span"] (sp_Shape_D_init_D K) := by
  have B_is_name := bind_is_name D_is_name
  have K_is_name := D_is_name.kp
  have B_is_list := bind_is_list D_is_list
  have K_is_list := D_is_list.kp
  have F := F_Shape_D_init_D
  refine F.ok sc_Shape_D_init_D (fun vs H Q E h => len_Shape_D_init_D h) (fun cdv A outer s H vs Q E hr h => ⟨t_Shape_D_init_D K, PSs.nox ?_, pure_Shape_D_init_D (kf_ok c) vs H Q E h⟩)
  have hu := SL.hu64 hr
  have hr_is_name : Room 1 _ := hr.mono (by decide)
  have hr_is_list : Room 1 _ := hr.mono (by decide)
  exact (pss_cons (ps_if (PW.pt (pw_or (pt_not (pt_tru (pe_call O_is_list hr_is_list (by rfl) (He.glo_ok hX hG (c.look 25)) K_is_list B_is_list .nil pass0 (pa_cons (pv 1) pa_nil)) (by intro _; rfl))) (pw_or1 (pt_cmpR op_gt (pe_callB call_uLen (by rfl) (He.free_ok hX hG (c.look 7)) (by decide +kernel) (pa_cons (pv 1) pa_nil)) (pe_gc rfl (gv_int (He.int_ok hX hG (c.look 8)))) (nomark _))))) (pss_one ps_never) pss_nil)
    (pss_cons (ps_for PassesOwn.never rfl (pi_enumB (by rfl) (He.free_ok hX hG (c.look 24)) (pa_cons (pv 1) pa_nil)) (pg_tup rfl (pgs_cons (pg_name (i := 3) sc_Shape_D_init_D.nd rfl (by first | exact Or.inl rfl | exact Or.inr rfl)) (pgs_cons (pg_name (i := 4) sc_Shape_D_init_D.nd rfl (by first | exact Or.inl rfl | exact Or.inr rfl)) pgs_nil))) (pss_cons (ps_if (pt_not (pt_tru (pe_call O_is_name hr_is_name (by rfl) (He.glo_ok hX hG (c.look 10)) K_is_name B_is_name .nil pass0 (pa_cons (pv 4) pa_nil)) (by intro _; rfl))) (pss_one ps_never) pss_nil)
    (pss_one (ps_if (pt_cmpR op_uIn (pv 4) (pe_slice sl_u (pv 1) po_none (po_some (pv 3))) (by rfl)) (pss_one ps_never) pss_nil))))
    (pss_cons (ps_if (PW.pt (pw_and (pt_cmpR op_uIn0 (pv 2) pe_non (nomark _)) (pw_and1 (pt_not (pt_tru (pe_call O_is_name hr_is_name (by rfl) (He.glo_ok hX hG (c.look 10)) K_is_name B_is_name .nil pass0 (pa_cons (pv 2) pa_nil)) (by intro _; rfl)))))) (pss_one ps_never) pss_nil)
    (pss_cons (ps_if (pt_cmpR op_uIn (pv 2) (pv 1) (by rfl)) (pss_one ps_never) pss_nil)
    (pss_cons (ps_if (PW.pt (pw_and (pt_cmpR op_uIn0 (pv 2) pe_non (nomark _)) (pw_and1 (pt_cmpR (op_uEq hu) (pe_callB call_uLen (by rfl) (He.free_ok hX hG (c.look 7)) (by decide +kernel) (pa_cons (pv 1) pa_nil)) (pe_gc rfl (gv_int (He.int_ok hX hG (c.look 8)))) (nomark _))))) (pss_one ps_never) pss_nil)
    (pss_cons (ps_fld (pv 0) (pe_callB call_srt (by rfl) (He.free_ok hX hG (c.look 3)) (by decide +kernel) (pa_cons (pv 1) pa_nil)) rfl)
    (pss_one (ps_fld (pv 0) (pv 2) rfl))))))))
theorem sc_Shape_D_eq_D : FnScope ["self", "other"] ["self", "other"] (defScope s_Shape_D_eq_D) := ⟨rfl, rfl, rfl, by decide +kernel, rfl, by decide +kernel, by decide +kernel⟩
theorem ok_Shape_D_eq_D {P : Program} {w : World} {K : PySem.W.Frag} {mg : Str → Option Value} {base h : Heap} {fd : FuncData} (c : SaysA looks0 defs0 K) (hX : K.In h) (hG : h.Ns mainGlobals mg) (F_Shape_D_eq_D : Fun_Shape_D_eq_D K fd) : FnOk P w K mg base CX0 1 (He.fAd K d_Shape_D_eq_D.at_) fd ["self", "other"] (sp_Shape_D_eq_D K) := by
  have F := F_Shape_D_eq_D
  refine F.ok sc_Shape_D_eq_D (fun vs H Q E h => len_Shape_D_eq_D h) (fun cdv A outer s H vs Q E hr h => ⟨t_Shape_D_eq_D K, PSs.nox ?_, pure_Shape_D_eq_D (kf_ok c) vs H Q E h⟩)
  have hu := SL.hu64 hr
  exact (pss_cons (ps_if (pt_not (pt_tru (pe_callB call_vIsi (by rfl) (He.free_ok hX hG (c.look 15)) (by decide +kernel) (pa_cons (pv 1) (pa_cons (pe_gc rfl (gv_ref (He.glo_ok hX hG (c.look 1)))) pa_nil))) (by intro _; rfl))) (pss_one (ps_ret pe_bl)) pss_nil)
    (pss_one (ps_ret (pe_and (pe_cmpR (op_uEq hu) (pe_fld (pv 0) rfl) (pe_fld (pv 1) rfl) (nomark _)) (pe_one (pe_cmpR (op_uEq hu) (pe_fld (pv 0) rfl) (pe_fld (pv 1) rfl) (nomark _)))))))
theorem sc_Shape_D_str_D : FnScope ["self", "head", "tail"] ["self"] (defScope s_Shape_D_str_D) := ⟨rfl, rfl, rfl, by decide +kernel, rfl, by decide +kernel, by decide +kernel⟩
theorem ok_Shape_D_str_D {P : Program} {w : World} {K : PySem.W.Frag} {mg : Str → Option Value} {base h : Heap} {fd : FuncData} (c : SaysA looks0 defs0 K) (hX : K.In h) (hG : h.Ns mainGlobals mg) (F_Shape_D_str_D : Fun_Shape_D_str_D K fd) : FnOk P w K mg base CX0 1 (He.fAd K d_Shape_D_str_D.at_) fd ["self"] (sp_Shape_D_str_D K) := by
  have F := F_Shape_D_str_D
  refine F.ok sc_Shape_D_str_D (fun vs H Q E h => len_Shape_D_str_D h) (fun cdv A outer s H vs Q E hr h => ⟨t_Shape_D_str_D K, PSs.nox ?_, pure_Shape_D_str_D (kf_ok c) vs H Q E h⟩)
  have hu := SL.hu64 hr
  exact (pss_cons (ps_set (i := 1) sc_Shape_D_str_D.nd rfl (by first | exact Or.inl rfl | exact Or.inr rfl) (pe_ifExp (pt_cmpR (op_uNe hu) (pe_fld (pv 0) rfl) (pe_lst pa_nil) (nomark _)) (pe_bm PySem.F.plainAttrs_str PySem.F.slot_str_join PySem.F.type_str_join mt_uJoin pe_str (pa_cons (pe_fld (pv 0) rfl) pa_nil)) (pe_gc rfl (gv_str (He.str_ok hX hG (c.look 27))))))
    (pss_cons (ps_set (i := 2) sc_Shape_D_str_D.nd rfl (by first | exact Or.inl rfl | exact Or.inr rfl) (pe_ifExp (pt_cmpR op_uIs (pe_fld (pv 0) rfl) pe_non (nomark _)) pe_str (pe_joined (.cons pe_str (.cons (pe_fmt (pe_fld (pv 0) rfl)) .nil)))))
    (pss_one (ps_ret (pe_joined (.cons (pe_fmt (pv 1)) (.cons (pe_fmt (pv 2)) .nil)))))))
theorem sc_Shape_D_repr_D : FnScope ["self"] ["self"] (defScope s_Shape_D_repr_D) := ⟨rfl, rfl, rfl, by decide +kernel, rfl, by decide +kernel, by decide +kernel⟩
theorem ok_Shape_D_repr_D {P : Program} {w : World} {K : PySem.W.Frag} {mg : Str → Option Value} {base h : Heap} {fd : FuncData} (c : SaysA looks0 defs0 K) (hX : K.In h) (hG : h.Ns mainGlobals mg) (F_Shape_D_repr_D : Fun_Shape_D_repr_D K fd) : SL.FnG P w K mg base CX0 1 (He.fAd K d_Shape_D_repr_D.at_) fd ["self"] (sp_Shape_D_repr_D K) := by
  have F := F_Shape_D_repr_D
  refine SL.fun_g F sc_Shape_D_repr_D (fun vs H Q E h => len_Shape_D_repr_D h) (fun cdv A hg0 outer s H vs Q E hr h => ⟨t_Shape_D_repr_D K, PSs.nox ?_, pure_Shape_D_repr_D (kf_ok c) vs H Q E h⟩)
  have hg : (A.deeper (envOfC d_Shape_D_repr_D.qual d_Shape_D_repr_D.scope s.heap.objs.size (He.fAd K d_Shape_D_repr_D.at_) cdv)).guards = some [] := SL.guards_deeper hg0
  have hu := SL.hu64 hr
  exact (pss_one (ps_ret (pe_joined (.cons pe_str (.cons (pe_fmtRU hg hu (pe_fld (pv 0) rfl)) (.cons pe_str (.cons (pe_fmtRU hg hu (pe_fld (pv 0) rfl)) (.cons pe_str .nil))))))))
theorem sc_parse_shape : FnScope ["text", "head", "colon", "span", "fixed", "names", "name"] ["text"] (defScope s_parse_shape) := ⟨rfl, rfl, rfl, by decide +kernel, rfl, by decide +kernel, by decide +kernel⟩
theorem ok_parse_shape {P : Program} {w : World} {K : PySem.W.Frag} {mg : Str → Option Value} {base h : Heap} {fd : FuncData} {fd_Shape_D_init_D : FuncData} {fd_InvalidText_D_init_D : FuncData} {fd_is_name : FuncData} (c : SaysA looks0 defs0 K) (hX : K.In h) (hG : h.Ns mainGlobals mg) (F_parse_shape : Fun_parse_shape K fd) (O_Shape_D_init_D : FnOk P w K mg base CX0 2 (He.fAd K d_Shape_D_init_D.at_) fd_Shape_D_init_D ["self", "fixed", "span"] (sp_Shape_D_init_D K)) (D_Shape_D_init_D : Fun_Shape_D_init_D K fd_Shape_D_init_D) (O_InvalidText_D_init_D : FnOk P w K mg base CX0 1 (He.fAd K d_InvalidText_D_init_D.at_) fd_InvalidText_D_init_D ["self", "value"] (sp_InvalidText_D_init_D K)) (D_InvalidText_D_init_D : Fun_InvalidText_D_init_D K fd_InvalidText_D_init_D) (O_is_name : FnOk P w K mg base CX0 1 (He.fAd K d_is_name.at_) fd_is_name ["value"] (sp_is_name K)) (D_is_name : Fun_is_name K fd_is_name) : FnOk P w K mg base (L2.CX P w) 4 (He.fAd K d_parse_shape.at_) fd ["text"] (sp_parse_shape K) := by
  have B_Shape_D_init_D := bind_Shape_D_init_D D_Shape_D_init_D
  have K_Shape_D_init_D := D_Shape_D_init_D.kp
  have B_InvalidText_D_init_D := bind_InvalidText_D_init_D D_InvalidText_D_init_D
  have K_InvalidText_D_init_D := D_InvalidText_D_init_D.kp
  have B_is_name := bind_is_name D_is_name
  have K_is_name := D_is_name.kp
  have F := F_parse_shape
  refine F.ok sc_parse_shape (fun vs H Q E h => len_parse_shape h) (fun cdv A outer s H vs Q E hr h => ⟨t_parse_shape K E, ?_, pure_parse_shape (kf_ok c) vs H Q E h⟩)
  have hu := SL.hu64 hr
  have hr_Shape_D_init_D_1 : Room 3 _ := hr.mono (by decide)
  have hr_InvalidText_D_init_D_1 : Room 2 _ := hr.mono (by decide)
  have hr_is_name : Room 1 _ := hr.mono (by decide)
  exact (pss_cons (ps_if (pt_not (pt_tru (pe_callB call_vIsi (by rfl) (He.free_ok hX hG (c.look 15)) (by decide +kernel) (pa_cons (pv 0) (pa_cons (pe_bltn (v := .ty "str") rfl (He.free_ok hX hG (c.look 16)) (by decide +kernel) rfl) pa_nil))) (by intro _; rfl))) (pss_one (ps_raise rfl (takes_of rfl rfl rfl rfl) (pmk_oex (oexB_ok (c.look 5)) (initB_i (c.look 4)) (initB_t (c.look 4)) O_InvalidText_D_init_D hr_InvalidText_D_init_D_1 B_InvalidText_D_init_D .nil pass0 (by rfl) (He.glo_ok hX hG (c.look 6)) (pa_cons (pv 0) pa_nil)))) pss_nil)
    (pss_cons (ps_asg (pe_bm PySem.F.plainAttrs_str PySem.F.slot_str_partition PySem.F.type_str_partition mt_part (pv 0) (pa_cons pe_str pa_nil)) (pg_tup rfl (pgs_cons (pg_name (i := 1) sc_parse_shape.nd rfl (by first | exact Or.inl rfl | exact Or.inr rfl)) (pgs_cons (pg_name (i := 2) sc_parse_shape.nd rfl (by first | exact Or.inl rfl | exact Or.inr rfl)) (pgs_cons (pg_name (i := 3) sc_parse_shape.nd rfl (by first | exact Or.inl rfl | exact Or.inr rfl)) pgs_nil)))))
    (pss_cons (ps_set (i := 4) sc_parse_shape.nd rfl (by first | exact Or.inl rfl | exact Or.inr rfl) (pe_ifExp (pt_cmpR (op_uEq hu) (pv 1) (pe_gc rfl (gv_str (He.str_ok hX hG (c.look 27)))) (nomark _)) (pe_lst pa_nil) (pe_bm PySem.F.plainAttrs_str PySem.F.slot_str_split PySem.F.type_str_split mt_uSplit (pv 1) (pa_cons pe_str pa_nil))))
    (pss_cons (ps_set (i := 5) sc_parse_shape.nd rfl (by first | exact Or.inl rfl | exact Or.inr rfl) (pe_op op_uAdd (pv 4) (pe_ifExp (pt_cmpR (op_uNe hu) (pv 2) pe_str (nomark _)) (pe_lst (pa_cons (pv 3) pa_nil)) (pe_lst pa_nil))))
    (pss_cons (ps_if (PW.pt (pw_or (pt_not (pt_tru (pe_callB (cr_all rfl) (by rfl) (He.free_ok hX hG (c.look 9)) (by decide +kernel) (pa_cons (pe_lc (own := [("name", 6)]) (wi := (iU K (tVar 5))) (g := (gName 6)) (tt := tYes) (te := (tCall (sp_is_name K) [] E0 (tCons (tVar 6) tNil))) (by rfl) sc_parse_shape.nd (pi_u (pv 5)) (blkOk_by (own := [("name", 6)]) (N := ["text", "head", "colon", "span", "fixed", "names", "name"]) (sc := defScope s_parse_shape) (by decide +kernel)) (fun _ _ _ _ _ => (pg_name (i := 6) sc_parse_shape.nd rfl (by first | exact Or.inl rfl | exact Or.inr rfl))) (fun _ _ _ _ _ => pts_nil) (fun _ _ _ _ _ => (pe_call O_is_name hr_is_name (by rfl) (He.glo_ok hX hG (c.look 10)) K_is_name B_is_name .nil pass0 (pa_cons (pv 6) pa_nil)))) pa_nil)) (by intro _; rfl))) (pw_or1 (pt_cmpR op_gt (pe_callB call_uLen (by rfl) (He.free_ok hX hG (c.look 7)) (by decide +kernel) (pa_cons (pv 5) pa_nil)) (pe_gc rfl (gv_int (He.int_ok hX hG (c.look 8)))) (nomark _))))) (pss_one (ps_raise rfl (takes_of rfl rfl rfl rfl) (pmk_oex (oexB_ok (c.look 5)) (initB_i (c.look 4)) (initB_t (c.look 4)) O_InvalidText_D_init_D hr_InvalidText_D_init_D_1 B_InvalidText_D_init_D .nil pass0 (by rfl) (He.glo_ok hX hG (c.look 6)) (pa_cons (pv 0) pa_nil)))) pss_nil)
    (pss_cons (ps_if (PW.pt (pw_or (pt_cmpR (op_uNe hu) (pv 4) (pe_callB call_srt (by rfl) (He.free_ok hX hG (c.look 3)) (by decide +kernel) (pa_cons (pv 4) pa_nil)) (nomark _)) (pw_or1 (pt_tru (pe_callB (cr_any rfl) (by rfl) (He.free_ok hX hG (c.look 2)) (by decide +kernel) (pa_cons (pe_lc (own := [("name", 6)]) (wi := (iU K (tVar 5))) (g := (gName 6)) (tt := tYes) (te := (tOp SL.rGt (tBM K "list" (rCntS K) (tVar 5) (tCons (tVar 6) tNil)) (tC (.int 1)))) (by rfl) sc_parse_shape.nd (pi_u (pv 5)) (blkOk_by (own := [("name", 6)]) (N := ["text", "head", "colon", "span", "fixed", "names", "name"]) (sc := defScope s_parse_shape) (by decide +kernel)) (fun _ _ _ _ _ => (pg_name (i := 6) sc_parse_shape.nd rfl (by first | exact Or.inl rfl | exact Or.inr rfl))) (fun _ _ _ _ _ => pts_nil) (fun _ _ _ _ _ => (pe_cmpR op_gt (pe_bm PySem.F.plainAttrs_list PySem.F.slot_list_count PySem.F.type_list_count mt_countS (pv 5) (pa_cons (pv 6) pa_nil)) pe_int (nomark _)))) pa_nil)) (by intro _; rfl))))) (pss_one (ps_raise rfl (takes_of rfl rfl rfl rfl) (pmk_oex (oexB_ok (c.look 5)) (initB_i (c.look 4)) (initB_t (c.look 4)) O_InvalidText_D_init_D hr_InvalidText_D_init_D_1 B_InvalidText_D_init_D .nil pass0 (by rfl) (He.glo_ok hX hG (c.look 6)) (pa_cons (pv 0) pa_nil)))) pss_nil)
    (pss_one (ps_ret (pe_make (He.mkr_ok (c.look 0)) O_Shape_D_init_D hr_Shape_D_init_D_1 rfl (He.glo_ok hX hG (c.look 1)) B_Shape_D_init_D .nil pass0 (pa_cons (pv 4) (pa_cons (pe_ifExp (pt_cmpR (op_uNe hu) (pv 2) pe_str (nomark _)) (pv 3) pe_non) pa_nil)))))))))))
theorem sc_l_law_cell : FnScope ["_law_script", "_law_index"] ["_law_script", "_law_index"] (defScope s_l_law_cell) := ⟨rfl, rfl, rfl, by decide +kernel, rfl, by decide +kernel, by decide +kernel⟩
theorem ok_l_law_cell {P : Program} {w : World} {K : PySem.W.Frag} {mg : Str → Option Value} {base h : Heap} {fd : FuncData} (c : SaysA looks0 defs0 K) (hX : K.In h) (hG : h.Ns mainGlobals mg) (F_l_law_cell : Fun_l_law_cell K fd) : FnOk P w K mg base CX0 1 (He.fAd K d_l_law_cell.at_) fd ["_law_script", "_law_index"] (sp_l_law_cell K) := by
  have F := F_l_law_cell
  refine F.ok sc_l_law_cell (fun vs H Q E h => len_l_law_cell h) (fun cdv A outer s H vs Q E hr h => ⟨t_l_law_cell K, PSs.nox ?_, pure_l_law_cell (kf_ok c) vs H Q E h⟩)
  have hu := SL.hu64 hr
  exact (pss_cons (ps_if (pt_cmpR (op_uLt hu) (pv 1) (pe_callB call_uLen (by rfl) (He.free_ok hX hG (c.look 7)) (by decide +kernel) (pa_cons (pv 0) pa_nil)) (nomark _)) (pss_one (ps_ret (pe_ix ix_u (pv 0) (pv 1) (fun _ _ => rfl)))) pss_nil)
    (pss_one (ps_ret (pe_op op_uAdd (pe_op op_uMul pe_int (pv 1)) pe_int))))
theorem sc_l_law_bag : FnScope ["_law_cell_here"] ["_law_cell_here"] (defScope s_l_law_bag) := ⟨rfl, rfl, rfl, by decide +kernel, rfl, by decide +kernel, by decide +kernel⟩
theorem ok_l_law_bag {P : Program} {w : World} {K : PySem.W.Frag} {mg : Str → Option Value} {base h : Heap} {fd : FuncData} (c : SaysA looks0 defs0 K) (hX : K.In h) (hG : h.Ns mainGlobals mg) (F_l_law_bag : Fun_l_law_bag K fd) : FnOk P w K mg base CX0 1 (He.fAd K d_l_law_bag.at_) fd ["_law_cell_here"] (sp_l_law_bag K) := by
  have F := F_l_law_bag
  refine F.ok sc_l_law_bag (fun vs H Q E h => len_l_law_bag h) (fun cdv A outer s H vs Q E hr h => ⟨t_l_law_bag K, PSs.nox ?_, pure_l_law_bag (kf_ok c) vs H Q E h⟩)
  have hu := SL.hu64 hr
  exact (pss_one (ps_ret (pe_lst (pa_cons (pe_callB (call_max2 rfl) (by rfl) (He.free_ok hX hG (c.look 28)) (by decide +kernel) (pa_cons pe_int (pa_cons (pe_op op_sub (pv 0) (pe_op op_pow pe_int pe_int)) pa_nil))) (pa_cons (pe_op op_modN (pv 0) pe_int) (pa_cons pe_int pa_nil))))))
theorem sc_l_law_take : FnScope ["_law_bag_here", "_law_many", "_law_mixed", "_law_digit"] ["_law_bag_here", "_law_many"] (defScope s_l_law_take) := ⟨rfl, rfl, rfl, by decide +kernel, rfl, by decide +kernel, by decide +kernel⟩
theorem ok_l_law_take {P : Program} {w : World} {K : PySem.W.Frag} {mg : Str → Option Value} {base h : Heap} {fd : FuncData} (c : SaysA looks0 defs0 K) (hX : K.In h) (hG : h.Ns mainGlobals mg) (F_l_law_take : Fun_l_law_take K fd) : FnOk P w K mg base CX0 1 (He.fAd K d_l_law_take.at_) fd ["_law_bag_here", "_law_many"] (sp_l_law_take K) := by
  have F := F_l_law_take
  refine F.ok sc_l_law_take (fun vs H Q E h => len_l_law_take h) (fun cdv A outer s H vs Q E hr h => ⟨t_l_law_take K, PSs.nox ?_, pure_l_law_take (kf_ok c) vs H Q E h⟩)
  have hu := SL.hu64 hr
  exact (pss_cons (ps_if (pt_cmpR op_gt (pe_ix ix_u (pv 0) pe_int (fun _ _ => rfl)) pe_int (nomark _)) (pss_cons (ps_set (i := 3) sc_l_law_take.nd rfl (by first | exact Or.inl rfl | exact Or.inr rfl) (pe_op op_modN (pe_ix ix_u (pv 0) pe_int (fun _ _ => rfl)) (pv 1)))
    (pss_cons (ps_asg (pe_op op_fdivW (pe_ix ix_u (pv 0) pe_int (fun _ _ => rfl)) (pv 1)) (pg_sub (pv 0) pe_int set_list))
    (pss_one (ps_ret (pv 3))))) pss_nil)
    (pss_cons (ps_asg (pe_op op_uAdd (pe_ix ix_u (pv 0) pe_int (fun _ _ => rfl)) pe_int) (pg_sub (pv 0) pe_int set_list))
    (pss_cons (ps_set (i := 2) sc_l_law_take.nd rfl (by first | exact Or.inl rfl | exact Or.inr rfl) (pe_op op_modN (pe_op op_pow (pe_op op_uAdd (pe_op op_uAdd (pe_ix ix_u (pv 0) pe_int (fun _ _ => rfl)) (pe_op op_uMul pe_int (pe_ix ix_u (pv 0) pe_int (fun _ _ => rfl)))) pe_int) pe_int) pe_int))
    (pss_cons (ps_set (i := 2) sc_l_law_take.nd rfl (by first | exact Or.inl rfl | exact Or.inr rfl) (pe_op op_modN (pe_op op_pow (pe_op op_uAdd (pv 2) (pe_op op_uMul pe_int (pe_ix ix_u (pv 0) pe_int (fun _ _ => rfl)))) pe_int) pe_int))
    (pss_one (ps_ret (pe_op op_modN (pe_op op_fdivW (pv 2) pe_int) (pv 1))))))))
theorem sc_l_law_names : FnScope ["_law_bag_here", "_law_many", "_law_letters", "_law_stem", "_law_at", "_law_first", "_law_step", "_law_found", "_law_index", "_law_begun"] ["_law_bag_here", "_law_many"] (defScope s_l_law_names) := ⟨rfl, rfl, rfl, by decide +kernel, rfl, by decide +kernel, by decide +kernel⟩
theorem ok_l_law_names {P : Program} {w : World} {K : PySem.W.Frag} {mg : Str → Option Value} {base h : Heap} {fd : FuncData} {fd_l_law_take : FuncData} (c : SaysA looks0 defs0 K) (hX : K.In h) (hG : h.Ns mainGlobals mg) (F_l_law_names : Fun_l_law_names K fd) (O_l_law_take : FnOk P w K mg base CX0 1 (He.fAd K d_l_law_take.at_) fd_l_law_take ["_law_bag_here", "_law_many"] (sp_l_law_take K)) (D_l_law_take : Fun_l_law_take K fd_l_law_take) : FnOk P w K mg base CX0 2 (He.fAd K d_l_law_names.at_) fd ["_law_bag_here", "_law_many"] (sp_l_law_names K) := by
  have B_l_law_take := bind_l_law_take D_l_law_take
  have K_l_law_take := D_l_law_take.kp
  have F := F_l_law_names
  refine F.ok sc_l_law_names (fun vs H Q E h => len_l_law_names h) (fun cdv A outer s H vs Q E hr h => ⟨t_l_law_names K, PSs.nox ?_, pure_l_law_names (kf_ok c) vs H Q E h⟩)
  have hu := SL.hu64 hr
  have hr_l_law_take : Room 1 _ := hr.mono (by decide)
  exact (pss_cons (ps_set (i := 2) sc_l_law_names.nd rfl (by first | exact Or.inl rfl | exact Or.inr rfl) pe_str)
    (pss_cons (ps_set (i := 3) sc_l_law_names.nd rfl (by first | exact Or.inl rfl | exact Or.inr rfl) (pe_bm PySem.F.plainAttrs_str PySem.F.slot_str_join PySem.F.type_str_join mt_uJoin pe_str (pa_cons (pe_lc (own := [("_law_index", 8)]) (wi := (iRng1 (tCons (tC (.int 7)) tNil))) (g := (gName 8)) (tt := tYes) (te := (tOp (uIx K) (tVar 2) (tCall (sp_l_law_take K) [] E0 (tCons (tVar 0) (tCons (tC (.int 26)) tNil))))) (by rfl) sc_l_law_names.nd (pi_range1 rfl (He.free_ok hX hG (c.look 30)) (pa_cons pe_int pa_nil)) (blkOk_by (own := [("_law_index", 8)]) (N := ["_law_bag_here", "_law_many", "_law_letters", "_law_stem", "_law_at", "_law_first", "_law_step", "_law_found", "_law_index", "_law_begun"]) (sc := defScope s_l_law_names) (by decide +kernel)) (fun _ _ _ _ _ => (pg_name (i := 8) sc_l_law_names.nd rfl (by first | exact Or.inl rfl | exact Or.inr rfl))) (fun _ _ _ _ _ => pts_nil) (fun _ _ _ _ _ => (pe_ix ix_u (pv 2) (pe_call O_l_law_take hr_l_law_take (by rfl) (He.glo_ok hX hG (c.look 29)) K_l_law_take B_l_law_take .nil pass0 (pa_cons (pv 0) (pa_cons pe_int pa_nil))) (fun _ _ => rfl)))) pa_nil)))
    (pss_cons (ps_par3 (i := 4) (j := 5) (l := 6) (by rfl) sc_l_law_names.nd rfl rfl rfl (by decide) (by decide) (by decide) rfl rfl rfl (pa_cons (pe_call O_l_law_take hr_l_law_take (by rfl) (He.glo_ok hX hG (c.look 29)) K_l_law_take B_l_law_take .nil pass0 (pa_cons (pv 0) (pa_cons pe_int pa_nil))) (pa_cons (pe_call O_l_law_take hr_l_law_take (by rfl) (He.glo_ok hX hG (c.look 29)) K_l_law_take B_l_law_take .nil pass0 (pa_cons (pv 0) (pa_cons pe_int pa_nil))) (pa_cons (pe_ix ix_u (pe_lst (pa_cons pe_int (pa_cons pe_int (pa_cons pe_int (pa_cons pe_int (pa_cons pe_int (pa_cons pe_int (pa_cons pe_int (pa_cons pe_int pa_nil))))))))) (pe_call O_l_law_take hr_l_law_take (by rfl) (He.glo_ok hX hG (c.look 29)) K_l_law_take B_l_law_take .nil pass0 (pa_cons (pv 0) (pa_cons pe_int pa_nil))) (fun _ _ => rfl)) pa_nil))) (by rfl))
    (pss_cons (ps_set (i := 7) sc_l_law_names.nd rfl (by first | exact Or.inl rfl | exact Or.inr rfl) (pe_lst pa_nil))
    (pss_cons (ps_for PassesOwn.never rfl (pi_range1 rfl (He.free_ok hX hG (c.look 30)) (pa_cons (pv 1) pa_nil)) (pg_name (i := 8) sc_l_law_names.nd rfl (by first | exact Or.inl rfl | exact Or.inr rfl)) (pss_cons (ps_set (i := 9) sc_l_law_names.nd rfl (by first | exact Or.inl rfl | exact Or.inr rfl) (pe_op op_uAdd (pe_slice sl_u (pv 3) po_none (po_some (pv 4))) (pe_ix ix_u (pv 2) (pe_op op_modN (pe_op op_uAdd (pv 5) (pe_op op_uMul (pv 6) (pv 8))) pe_int) (fun _ _ => rfl))))
    (pss_one (ps_expr (pe_bm PySem.F.plainAttrs_list PySem.F.slot_list_append PySem.F.type_list_append mt_append (pv 7) (pa_cons (pe_op op_uAdd (pv 9) (pe_slice sl_u (pv 3) (po_some (pv 4)) (po_some (pe_op op_uAdd (pv 4) (pe_call O_l_law_take hr_l_law_take (by rfl) (He.glo_ok hX hG (c.look 29)) K_l_law_take B_l_law_take .nil pass0 (pa_cons (pv 0) (pa_cons (pe_op op_sub pe_int (pv 4)) pa_nil))))))) pa_nil))))))
    (pss_cons (ps_if (PW.pt (pw_and (pt_cmpR op_gt (pv 1) pe_int (nomark _)) (pw_and (pt_cmpR (op_uLt hu) (pe_callB call_uLen (by rfl) (He.free_ok hX hG (c.look 7)) (by decide +kernel) (pa_cons (pe_ix ix_u (pv 7) pe_int (fun _ _ => rfl)) pa_nil)) pe_int (nomark _)) (pw_and1 (pt_cmpR (op_uEq hu) (pe_call O_l_law_take hr_l_law_take (by rfl) (He.glo_ok hX hG (c.look 29)) K_l_law_take B_l_law_take .nil pass0 (pa_cons (pv 0) (pa_cons pe_int pa_nil))) pe_int (nomark _)))))) (pss_one (ps_asg (pe_op op_uAdd (pe_ix ix_u (pv 7) pe_int (fun _ _ => rfl)) (pe_ix ix_u (pv 2) (pe_call O_l_law_take hr_l_law_take (by rfl) (He.glo_ok hX hG (c.look 29)) K_l_law_take B_l_law_take .nil pass0 (pa_cons (pv 0) (pa_cons pe_int pa_nil))) (fun _ _ => rfl))) (pg_sub (pv 7) pe_int set_list))) pss_nil)
    (pss_one (ps_ret (pv 7)))))))))
theorem sc_l_law_pick : FnScope ["_law_bag_here", "_law_many", "_law_most", "_law_left", "_law_found", "_law_turn"] ["_law_bag_here", "_law_many", "_law_most"] (defScope s_l_law_pick) := ⟨rfl, rfl, rfl, by decide +kernel, rfl, by decide +kernel, by decide +kernel⟩
theorem ok_l_law_pick {P : Program} {w : World} {K : PySem.W.Frag} {mg : Str → Option Value} {base h : Heap} {fd : FuncData} {fd_l_law_take : FuncData} (c : SaysA looks0 defs0 K) (hX : K.In h) (hG : h.Ns mainGlobals mg) (F_l_law_pick : Fun_l_law_pick K fd) (O_l_law_take : FnOk P w K mg base CX0 1 (He.fAd K d_l_law_take.at_) fd_l_law_take ["_law_bag_here", "_law_many"] (sp_l_law_take K)) (D_l_law_take : Fun_l_law_take K fd_l_law_take) : FnOk P w K mg base CX0 2 (He.fAd K d_l_law_pick.at_) fd ["_law_bag_here", "_law_many", "_law_most"] (sp_l_law_pick K) := by
  have B_l_law_take := bind_l_law_take D_l_law_take
  have K_l_law_take := D_l_law_take.kp
  have F := F_l_law_pick
  refine F.ok sc_l_law_pick (fun vs H Q E h => len_l_law_pick h) (fun cdv A outer s H vs Q E hr h => ⟨t_l_law_pick K, PSs.nox ?_, pure_l_law_pick (kf_ok c) vs H Q E h⟩)
  have hu := SL.hu64 hr
  have hr_l_law_take : Room 1 _ := hr.mono (by decide)
  exact (pss_cons (ps_par (i := 3) (j := 4) (by rfl) sc_l_law_pick.nd rfl rfl (by decide) rfl rfl (pa_cons (pe_listRg rfl (by rfl) (He.free_ok hX hG (c.look 19)) (prg_1 (by rfl) (He.free_ok hX hG (c.look 30)) (pv 1))) (pa_cons (pe_lst pa_nil) pa_nil)) (by rfl))
    (pss_cons (ps_for PassesOwn.never rfl (pi_range1 rfl (He.free_ok hX hG (c.look 30)) (pa_cons (pe_call O_l_law_take hr_l_law_take (by rfl) (He.glo_ok hX hG (c.look 29)) K_l_law_take B_l_law_take .nil pass0 (pa_cons (pv 0) (pa_cons (pe_op op_uAdd (pe_callB (call_min2 rfl) (by rfl) (He.free_ok hX hG (c.look 31)) (by decide +kernel) (pa_cons (pv 1) (pa_cons (pv 2) pa_nil))) pe_int) pa_nil))) pa_nil)) (pg_name (i := 5) sc_l_law_pick.nd rfl (by first | exact Or.inl rfl | exact Or.inr rfl)) (pss_one (ps_expr (pe_bm PySem.F.plainAttrs_list PySem.F.slot_list_append PySem.F.type_list_append mt_append (pv 4) (pa_cons (pe_bm PySem.F.plainAttrs_list PySem.F.slot_list_pop PySem.F.type_list_pop mt_popAt (pv 3) (pa_cons (pe_call O_l_law_take hr_l_law_take (by rfl) (He.glo_ok hX hG (c.look 29)) K_l_law_take B_l_law_take .nil pass0 (pa_cons (pv 0) (pa_cons (pe_callB call_uLen (by rfl) (He.free_ok hX hG (c.look 7)) (by decide +kernel) (pa_cons (pv 3) pa_nil)) pa_nil))) pa_nil)) pa_nil)))))
    (pss_cons (ps_if (PW.pt (pw_or (pt_cmpR (op_uEq hu) (pv 3) (pe_lst pa_nil) (nomark _)) (pw_or (pt_cmpR op_gt (pe_callB call_uLen (by rfl) (He.free_ok hX hG (c.look 7)) (by decide +kernel) (pa_cons (pv 4) pa_nil)) pe_int (nomark _)) (pw_or1 (pt_cmpR (op_uEq hu) (pe_call O_l_law_take hr_l_law_take (by rfl) (He.glo_ok hX hG (c.look 29)) K_l_law_take B_l_law_take .nil pass0 (pa_cons (pv 0) (pa_cons pe_int pa_nil))) pe_int (nomark _)))))) (pss_one (ps_ret (pe_tup (pa_cons (pe_callB call_srt (by rfl) (He.free_ok hX hG (c.look 3)) (by decide +kernel) (pa_cons (pv 4) pa_nil)) (pa_cons pe_non pa_nil))))) pss_nil)
    (pss_one (ps_ret (pe_tup (pa_cons (pe_callB call_srt (by rfl) (He.free_ok hX hG (c.look 3)) (by decide +kernel) (pa_cons (pv 4) pa_nil)) (pa_cons (pe_ix ix_u (pv 3) (pe_call O_l_law_take hr_l_law_take (by rfl) (He.glo_ok hX hG (c.look 29)) K_l_law_take B_l_law_take .nil pass0 (pa_cons (pv 0) (pa_cons (pe_callB call_uLen (by rfl) (He.free_ok hX hG (c.look 7)) (by decide +kernel) (pa_cons (pv 3) pa_nil)) pa_nil))) (fun _ _ => rfl)) pa_nil))))))))
theorem sc_l_law_near : FnScope ["_law_bag_here", "_law_many", "_law_part", "_law_fixed", "_law_span", "_law_free", "_law_way", "_law_at"] ["_law_bag_here", "_law_many", "_law_part"] (defScope s_l_law_near) := ⟨rfl, rfl, rfl, by decide +kernel, rfl, by decide +kernel, by decide +kernel⟩
theorem ok_l_law_near {P : Program} {w : World} {K : PySem.W.Frag} {mg : Str → Option Value} {base h : Heap} {fd : FuncData} {fd_l_law_take : FuncData} (c : SaysA looks0 defs0 K) (hX : K.In h) (hG : h.Ns mainGlobals mg) (F_l_law_near : Fun_l_law_near K fd) (O_l_law_take : FnOk P w K mg base CX0 1 (He.fAd K d_l_law_take.at_) fd_l_law_take ["_law_bag_here", "_law_many"] (sp_l_law_take K)) (D_l_law_take : Fun_l_law_take K fd_l_law_take) : FnOk P w K mg base CX0 2 (He.fAd K d_l_law_near.at_) fd ["_law_bag_here", "_law_many", "_law_part"] (sp_l_law_near K) := by
  have B_l_law_take := bind_l_law_take D_l_law_take
  have K_l_law_take := D_l_law_take.kp
  have F := F_l_law_near
  refine F.ok sc_l_law_near (fun vs H Q E h => len_l_law_near h) (fun cdv A outer s H vs Q E hr h => ⟨t_l_law_near K, PSs.nox ?_, pure_l_law_near (kf_ok c) vs H Q E h⟩)
  have hu := SL.hu64 hr
  have hr_l_law_take : Room 1 _ := hr.mono (by decide)
  exact (pss_cons (ps_asg (pe_tup (pa_cons (pe_callTy call_list_u (by rfl) (He.free_ok hX hG (c.look 19)) (by decide +kernel) (pa_cons (pe_ix ix_u (pv 2) pe_int (fun _ _ => rfl)) pa_nil)) (pa_cons (pe_ix ix_u (pv 2) pe_int (fun _ _ => rfl)) pa_nil))) (pg_tup rfl (pgs_cons (pg_name (i := 3) sc_l_law_near.nd rfl (by first | exact Or.inl rfl | exact Or.inr rfl)) (pgs_cons (pg_name (i := 4) sc_l_law_near.nd rfl (by first | exact Or.inl rfl | exact Or.inr rfl)) pgs_nil))))
    (pss_cons (ps_setLc (i := 5) (own := [("_law_at", 7)]) (wi := (iRng1 (tCons (tVar 1) tNil))) (g := (gName 7)) (tt := (tTest (tOp (uNi K) (tVar 7) (tVar 3)))) (te := (tVar 7)) (by rfl) sc_l_law_near.nd rfl rfl (sw_true rfl rfl rfl (by decide +kernel)) (pi_range1 rfl (He.free_ok hX hG (c.look 30)) (pa_cons (pv 1) pa_nil)) (blkOk_by (own := [("_law_at", 7)]) (N := ["_law_bag_here", "_law_many", "_law_part", "_law_fixed", "_law_span", "_law_free", "_law_way", "_law_at"]) (sc := defScope s_l_law_near) (by decide +kernel)) (fun _ _ _ _ _ => (pg_name (i := 7) sc_l_law_near.nd rfl (by first | exact Or.inl rfl | exact Or.inr rfl))) (fun _ _ _ _ _ => (pts_one (pt_cmpR op_uNi (pv 7) (pv 3) (by rfl)))) (fun _ _ _ _ _ => (pv 7)))
    (pss_cons (ps_set (i := 6) sc_l_law_near.nd rfl (by first | exact Or.inl rfl | exact Or.inr rfl) (pe_call O_l_law_take hr_l_law_take (by rfl) (He.glo_ok hX hG (c.look 29)) K_l_law_take B_l_law_take .nil pass0 (pa_cons (pv 0) (pa_cons pe_int pa_nil))))
    (pss_cons (ps_if (PW.pt (pw_and (pt_cmpR (op_uLt hu) (pv 6) pe_int (nomark _)) (pw_and1 (pt_cmpR (op_uNe hu) (pv 5) (pe_lst pa_nil) (nomark _))))) (pss_one (ps_set (i := 3) sc_l_law_near.nd rfl (by first | exact Or.inl rfl | exact Or.inr rfl) (pe_callB call_srt (by rfl) (He.free_ok hX hG (c.look 3)) (by decide +kernel) (pa_cons (pe_op op_uAdd (pv 3) (pe_lst (pa_cons (pe_ix ix_u (pv 5) (pe_call O_l_law_take hr_l_law_take (by rfl) (He.glo_ok hX hG (c.look 29)) K_l_law_take B_l_law_take .nil pass0 (pa_cons (pv 0) (pa_cons (pe_callB call_uLen (by rfl) (He.free_ok hX hG (c.look 7)) (by decide +kernel) (pa_cons (pv 5) pa_nil)) pa_nil))) (fun _ _ => rfl)) pa_nil))) pa_nil)))) pss_nil)
    (pss_cons (ps_if (PW.pt (pw_and (pt_cmpR (op_uEq hu) (pv 6) pe_int (nomark _)) (pw_and1 (pt_cmpR (op_uNe hu) (pv 3) (pe_lst pa_nil) (nomark _))))) (pss_one (ps_expr (pe_bm PySem.F.plainAttrs_list PySem.F.slot_list_pop PySem.F.type_list_pop mt_popAt (pv 3) (pa_cons (pe_call O_l_law_take hr_l_law_take (by rfl) (He.glo_ok hX hG (c.look 29)) K_l_law_take B_l_law_take .nil pass0 (pa_cons (pv 0) (pa_cons (pe_callB call_uLen (by rfl) (He.free_ok hX hG (c.look 7)) (by decide +kernel) (pa_cons (pv 3) pa_nil)) pa_nil))) pa_nil)))) pss_nil)
    (pss_cons (ps_setLc (i := 5) (own := [("_law_at", 7)]) (wi := (iRng1 (tCons (tVar 1) tNil))) (g := (gName 7)) (tt := (tTest (tOp (uNi K) (tVar 7) (tVar 3)))) (te := (tVar 7)) (by rfl) sc_l_law_near.nd rfl rfl (sw_true rfl rfl rfl (by decide +kernel)) (pi_range1 rfl (He.free_ok hX hG (c.look 30)) (pa_cons (pv 1) pa_nil)) (blkOk_by (own := [("_law_at", 7)]) (N := ["_law_bag_here", "_law_many", "_law_part", "_law_fixed", "_law_span", "_law_free", "_law_way", "_law_at"]) (sc := defScope s_l_law_near) (by decide +kernel)) (fun _ _ _ _ _ => (pg_name (i := 7) sc_l_law_near.nd rfl (by first | exact Or.inl rfl | exact Or.inr rfl))) (fun _ _ _ _ _ => (pts_one (pt_cmpR op_uNi (pv 7) (pv 3) (by rfl)))) (fun _ _ _ _ _ => (pv 7)))
    (pss_cons (ps_if (PW.pt (pw_or (pt_cmpR op_uIn (pv 4) (pv 3) (by rfl)) (pw_or1 (pt_cmpR (op_uEq hu) (pv 6) pe_int (nomark _))))) (pss_one (ps_set (i := 4) sc_l_law_near.nd rfl (by first | exact Or.inl rfl | exact Or.inr rfl) pe_non)) pss_nil)
    (pss_cons (ps_if (PW.pt (pw_and (pt_cmpR (op_uNe hu) (pv 5) (pe_lst pa_nil) (nomark _)) (pw_and1 (pt_cmpR (op_uEq hu) (pe_call O_l_law_take hr_l_law_take (by rfl) (He.glo_ok hX hG (c.look 29)) K_l_law_take B_l_law_take .nil pass0 (pa_cons (pv 0) (pa_cons pe_int pa_nil))) pe_int (nomark _))))) (pss_one (ps_set (i := 4) sc_l_law_near.nd rfl (by first | exact Or.inl rfl | exact Or.inr rfl) (pe_ix ix_u (pv 5) (pe_call O_l_law_take hr_l_law_take (by rfl) (He.glo_ok hX hG (c.look 29)) K_l_law_take B_l_law_take .nil pass0 (pa_cons (pv 0) (pa_cons (pe_callB call_uLen (by rfl) (He.free_ok hX hG (c.look 7)) (by decide +kernel) (pa_cons (pv 5) pa_nil)) pa_nil))) (fun _ _ => rfl)))) pss_nil)
    (pss_one (ps_ret (pe_tup (pa_cons (pe_slice sl_u (pv 3) po_none (po_some pe_int)) (pa_cons (pe_ifExp (pt_cmpR (op_uLt hu) (pe_callB call_uLen (by rfl) (He.free_ok hX hG (c.look 7)) (by decide +kernel) (pa_cons (pv 3) pa_nil)) pe_int (nomark _)) (pv 4) pe_non) pa_nil)))))))))))))
theorem sc_l_law_parts : FnScope ["_law_bag_here", "_law_many", "_law_most", "_law_found", "_law_rows", "_law_mode", "_law_turn", "_law_part"] ["_law_bag_here", "_law_many", "_law_most"] (defScope s_l_law_parts) := ⟨rfl, rfl, rfl, by decide +kernel, rfl, by decide +kernel, by decide +kernel⟩
theorem ok_l_law_parts {P : Program} {w : World} {K : PySem.W.Frag} {mg : Str → Option Value} {base h : Heap} {fd : FuncData} {fd_l_law_take : FuncData} {fd_l_law_near : FuncData} {fd_l_law_pick : FuncData} (c : SaysA looks0 defs0 K) (hX : K.In h) (hG : h.Ns mainGlobals mg) (F_l_law_parts : Fun_l_law_parts K fd) (O_l_law_take : FnOk P w K mg base CX0 1 (He.fAd K d_l_law_take.at_) fd_l_law_take ["_law_bag_here", "_law_many"] (sp_l_law_take K)) (D_l_law_take : Fun_l_law_take K fd_l_law_take) (O_l_law_near : FnOk P w K mg base CX0 2 (He.fAd K d_l_law_near.at_) fd_l_law_near ["_law_bag_here", "_law_many", "_law_part"] (sp_l_law_near K)) (D_l_law_near : Fun_l_law_near K fd_l_law_near) (O_l_law_pick : FnOk P w K mg base CX0 2 (He.fAd K d_l_law_pick.at_) fd_l_law_pick ["_law_bag_here", "_law_many", "_law_most"] (sp_l_law_pick K)) (D_l_law_pick : Fun_l_law_pick K fd_l_law_pick) : FnOk P w K mg base CX0 3 (He.fAd K d_l_law_parts.at_) fd ["_law_bag_here", "_law_many", "_law_most"] (sp_l_law_parts K) := by
  have B_l_law_take := bind_l_law_take D_l_law_take
  have K_l_law_take := D_l_law_take.kp
  have B_l_law_near := bind_l_law_near D_l_law_near
  have K_l_law_near := D_l_law_near.kp
  have B_l_law_pick := bind_l_law_pick D_l_law_pick
  have K_l_law_pick := D_l_law_pick.kp
  have F := F_l_law_parts
  refine F.ok sc_l_law_parts (fun vs H Q E h => len_l_law_parts h) (fun cdv A outer s H vs Q E hr h => ⟨t_l_law_parts K, PSs.nox ?_, pure_l_law_parts (kf_ok c) vs H Q E h⟩)
  have hu := SL.hu64 hr
  have hr_l_law_take : Room 1 _ := hr.mono (by decide)
  have hr_l_law_near : Room 2 _ := hr.mono (by decide)
  have hr_l_law_pick : Room 2 _ := hr.mono (by decide)
  exact (pss_cons (ps_par3 (i := 3) (j := 4) (l := 5) (by rfl) sc_l_law_parts.nd rfl rfl rfl (by decide) (by decide) (by decide) rfl rfl rfl (pa_cons (pe_lst pa_nil) (pa_cons (pe_lst pa_nil) (pa_cons (pe_call O_l_law_take hr_l_law_take (by rfl) (He.glo_ok hX hG (c.look 29)) K_l_law_take B_l_law_take .nil pass0 (pa_cons (pv 0) (pa_cons pe_int pa_nil))) pa_nil))) (by rfl))
    (pss_cons (ps_for PassesOwn.never rfl (pi_range1 rfl (He.free_ok hX hG (c.look 30)) (pa_cons (pv 2) pa_nil)) (pg_name (i := 6) sc_l_law_parts.nd rfl (by first | exact Or.inl rfl | exact Or.inr rfl)) (pss_cons (ps_set (i := 7) sc_l_law_parts.nd rfl (by first | exact Or.inl rfl | exact Or.inr rfl) (pe_call O_l_law_pick hr_l_law_pick (by rfl) (He.glo_ok hX hG (c.look 33)) K_l_law_pick B_l_law_pick .nil pass0 (pa_cons (pv 0) (pa_cons (pv 1) (pa_cons pe_int pa_nil)))))
    (pss_cons (ps_if (PW.pt (pw_and (pt_cmpR op_gt (pv 5) pe_int (nomark _)) (pw_and (pt_cmpR (op_uNe hu) (pv 4) (pe_lst pa_nil) (nomark _)) (pw_and1 (pt_cmpR op_gt (pe_call O_l_law_take hr_l_law_take (by rfl) (He.glo_ok hX hG (c.look 29)) K_l_law_take B_l_law_take .nil pass0 (pa_cons (pv 0) (pa_cons pe_int pa_nil))) pe_int (nomark _)))))) (pss_one (ps_set (i := 7) sc_l_law_parts.nd rfl (by first | exact Or.inl rfl | exact Or.inr rfl) (pe_call O_l_law_near hr_l_law_near (by rfl) (He.glo_ok hX hG (c.look 32)) K_l_law_near B_l_law_near .nil pass0 (pa_cons (pv 0) (pa_cons (pv 1) (pa_cons (pe_ix ix_u (pv 4) (pe_call O_l_law_take hr_l_law_take (by rfl) (He.glo_ok hX hG (c.look 29)) K_l_law_take B_l_law_take .nil pass0 (pa_cons (pv 0) (pa_cons (pe_callB call_uLen (by rfl) (He.free_ok hX hG (c.look 7)) (by decide +kernel) (pa_cons (pv 4) pa_nil)) pa_nil))) (fun _ _ => rfl)) pa_nil)))))) pss_nil)
    (pss_cons (ps_expr (pe_bm PySem.F.plainAttrs_list PySem.F.slot_list_append PySem.F.type_list_append mt_append (pv 4) (pa_cons (pv 7) pa_nil)))
    (pss_one (ps_if (PW.pt (pw_and (pt_cmpR (op_notInD (Nat.lt_of_le_of_lt (Nat.add_le_add_left (by decide) _) hu)) (pv 7) (pv 3) (by rfl)) (pw_and1 (pt_cmpR op_gt (pe_call O_l_law_take hr_l_law_take (by rfl) (He.glo_ok hX hG (c.look 29)) K_l_law_take B_l_law_take .nil pass0 (pa_cons (pv 0) (pa_cons pe_int pa_nil))) pe_int (nomark _))))) (pss_one (ps_expr (pe_bm PySem.F.plainAttrs_list PySem.F.slot_list_append PySem.F.type_list_append mt_append (pv 3) (pa_cons (pv 7) pa_nil)))) pss_nil))))))
    (pss_one (ps_ret (pv 3)))))
theorem sc_l_law_shape : FnScope ["_law_bag_here", "_law_names_here", "_law_part", "_law_left", "_law_fixed", "_law_turn"] ["_law_bag_here", "_law_names_here", "_law_part"] (defScope s_l_law_shape) := ⟨rfl, rfl, rfl, by decide +kernel, rfl, by decide +kernel, by decide +kernel⟩
theorem ok_l_law_shape {P : Program} {w : World} {K : PySem.W.Frag} {mg : Str → Option Value} {base h : Heap} {fd : FuncData} {fd_Shape_D_init_D : FuncData} {fd_l_law_take : FuncData} (c : SaysA looks0 defs0 K) (hX : K.In h) (hG : h.Ns mainGlobals mg) (F_l_law_shape : Fun_l_law_shape K fd) (O_Shape_D_init_D : FnOk P w K mg base CX0 2 (He.fAd K d_Shape_D_init_D.at_) fd_Shape_D_init_D ["self", "fixed", "span"] (sp_Shape_D_init_D K)) (D_Shape_D_init_D : Fun_Shape_D_init_D K fd_Shape_D_init_D) (O_l_law_take : FnOk P w K mg base CX0 1 (He.fAd K d_l_law_take.at_) fd_l_law_take ["_law_bag_here", "_law_many"] (sp_l_law_take K)) (D_l_law_take : Fun_l_law_take K fd_l_law_take) : FnOk P w K mg base CX0 4 (He.fAd K d_l_law_shape.at_) fd ["_law_bag_here", "_law_names_here", "_law_part"] (sp_l_law_shape K) := by
  have B_Shape_D_init_D := bind_Shape_D_init_D D_Shape_D_init_D
  have K_Shape_D_init_D := D_Shape_D_init_D.kp
  have B_l_law_take := bind_l_law_take D_l_law_take
  have K_l_law_take := D_l_law_take.kp
  have F := F_l_law_shape
  refine F.ok sc_l_law_shape (fun vs H Q E h => len_l_law_shape h) (fun cdv A outer s H vs Q E hr h => ⟨t_l_law_shape K, PSs.nox ?_, pure_l_law_shape (kf_ok c) vs H Q E h⟩)
  have hu := SL.hu64 hr
  have hr_Shape_D_init_D_1 : Room 3 _ := hr.mono (by decide)
  have hr_l_law_take : Room 1 _ := hr.mono (by decide)
  exact (pss_cons (ps_par (i := 3) (j := 4) (by rfl) sc_l_law_shape.nd rfl rfl (by decide) rfl rfl (pa_cons (pe_callTy call_list_u (by rfl) (He.free_ok hX hG (c.look 19)) (by decide +kernel) (pa_cons (pe_ix ix_u (pv 2) pe_int (fun _ _ => rfl)) pa_nil)) (pa_cons (pe_lst pa_nil) pa_nil)) (by rfl))
    (pss_cons (ps_for PassesOwn.never rfl (pi_range1 rfl (He.free_ok hX hG (c.look 30)) (pa_cons (pe_callB call_uLen (by rfl) (He.free_ok hX hG (c.look 7)) (by decide +kernel) (pa_cons (pv 3) pa_nil)) pa_nil)) (pg_name (i := 5) sc_l_law_shape.nd rfl (by first | exact Or.inl rfl | exact Or.inr rfl)) (pss_one (ps_expr (pe_bm PySem.F.plainAttrs_list PySem.F.slot_list_append PySem.F.type_list_append mt_append (pv 4) (pa_cons (pe_ix ix_u (pv 1) (pe_bm PySem.F.plainAttrs_list PySem.F.slot_list_pop PySem.F.type_list_pop mt_popAt (pv 3) (pa_cons (pe_call O_l_law_take hr_l_law_take (by rfl) (He.glo_ok hX hG (c.look 29)) K_l_law_take B_l_law_take .nil pass0 (pa_cons (pv 0) (pa_cons (pe_callB call_uLen (by rfl) (He.free_ok hX hG (c.look 7)) (by decide +kernel) (pa_cons (pv 3) pa_nil)) pa_nil))) pa_nil)) (fun _ _ => rfl)) pa_nil)))))
    (pss_one (ps_ret (pe_make (He.mkr_ok (c.look 0)) O_Shape_D_init_D hr_Shape_D_init_D_1 rfl (He.glo_ok hX hG (c.look 1)) B_Shape_D_init_D .nil pass0 (pa_cons (pe_ix ix_u (pe_lst (pa_cons (pv 4) (pa_cons (pe_callTy call_tuple_u (by rfl) (He.free_ok hX hG (c.look 18)) (by decide +kernel) (pa_cons (pv 4) pa_nil)) pa_nil))) (pe_call O_l_law_take hr_l_law_take (by rfl) (He.glo_ok hX hG (c.look 29)) K_l_law_take B_l_law_take .nil pass0 (pa_cons (pv 0) (pa_cons pe_int pa_nil))) (fun _ _ => rfl)) (pa_cons (pe_ifExp (pt_cmpR op_uIs (pe_ix ix_u (pv 2) pe_int (fun _ _ => rfl)) pe_non (nomark _)) pe_non (pe_ix ix_u (pv 1) (pe_ix ix_u (pv 2) pe_int (fun _ _ => rfl)) (fun _ _ => rfl))) pa_nil)))))))
theorem sc_l_law_is_name : FnScope ["_law_value", "_law_wrong", "_law_sign"] ["_law_value"] (defScope s_l_law_is_name) := ⟨rfl, rfl, rfl, by decide +kernel, rfl, by decide +kernel, by decide +kernel⟩
theorem ok_l_law_is_name {P : Program} {w : World} {K : PySem.W.Frag} {mg : Str → Option Value} {base h : Heap} {fd : FuncData} (c : SaysA looks0 defs0 K) (hX : K.In h) (hG : h.Ns mainGlobals mg) (F_l_law_is_name : Fun_l_law_is_name K fd) : FnOk P w K mg base CX0 1 (He.fAd K d_l_law_is_name.at_) fd ["_law_value"] (sp_l_law_is_name K) := by
  have F := F_l_law_is_name
  refine F.ok sc_l_law_is_name (fun vs H Q E h => len_l_law_is_name h) (fun cdv A outer s H vs Q E hr h => ⟨t_l_law_is_name K, PSs.nox ?_, pure_l_law_is_name (kf_ok c) vs H Q E h⟩)
  have hu := SL.hu64 hr
  exact (pss_cons (ps_setLc (i := 1) (own := [("_law_sign", 2)]) (wi := (iU K (tVar 0))) (g := (gName 2)) (tt := (tTest (tOp (uNi K) (tVar 2) (tC (.str "abcdefghijklmnopqrstuvwxyz"))))) (te := (tVar 2)) (by rfl) sc_l_law_is_name.nd rfl rfl (sw_true rfl rfl rfl (by decide +kernel)) (pi_u (pv 0)) (blkOk_by (own := [("_law_sign", 2)]) (N := ["_law_value", "_law_wrong", "_law_sign"]) (sc := defScope s_l_law_is_name) (by decide +kernel)) (fun _ _ _ _ _ => (pg_name (i := 2) sc_l_law_is_name.nd rfl (by first | exact Or.inl rfl | exact Or.inr rfl))) (fun _ _ _ _ _ => (pts_one (pt_cmpR op_uNi (pv 2) pe_str (by rfl)))) (fun _ _ _ _ _ => (pv 2)))
    (pss_one (ps_ret (pe_and (pe_chain op_uLe op_uLe pe_int (pe_callB call_uLen (by rfl) (He.free_ok hX hG (c.look 7)) (by decide +kernel) (pa_cons (pv 0) pa_nil)) pe_int) (pe_one (pe_cmpR (op_uEq hu) (pv 1) (pe_lst pa_nil) (nomark _)))))))
theorem sc_l_law_read : FnScope ["_law_text", "_law_parts_here", "_law_fixed", "_law_names_here", "_law_name"] ["_law_text"] (defScope s_l_law_read) := ⟨rfl, rfl, rfl, by decide +kernel, rfl, by decide +kernel, by decide +kernel⟩
theorem ok_l_law_read {P : Program} {w : World} {K : PySem.W.Frag} {mg : Str → Option Value} {base h : Heap} {fd : FuncData} {fd_l_law_is_name : FuncData} (c : SaysA looks0 defs0 K) (hX : K.In h) (hG : h.Ns mainGlobals mg) (F_l_law_read : Fun_l_law_read K fd) (O_l_law_is_name : FnOk P w K mg base CX0 1 (He.fAd K d_l_law_is_name.at_) fd_l_law_is_name ["_law_value"] (sp_l_law_is_name K)) (D_l_law_is_name : Fun_l_law_is_name K fd_l_law_is_name) : FnOk P w K mg base CX0 2 (He.fAd K d_l_law_read.at_) fd ["_law_text"] (sp_l_law_read K) := by
  have B_l_law_is_name := bind_l_law_is_name D_l_law_is_name
  have K_l_law_is_name := D_l_law_is_name.kp
  have F := F_l_law_read
  refine F.ok sc_l_law_read (fun vs H Q E h => len_l_law_read h) (fun cdv A outer s H vs Q E hr h => ⟨t_l_law_read K, PSs.nox ?_, pure_l_law_read (kf_ok c) vs H Q E h⟩)
  have hu := SL.hu64 hr
  have hr_l_law_is_name : Room 1 _ := hr.mono (by decide)
  exact (pss_cons (ps_set (i := 1) sc_l_law_read.nd rfl (by first | exact Or.inl rfl | exact Or.inr rfl) (pe_bm PySem.F.plainAttrs_str PySem.F.slot_str_split PySem.F.type_str_split mt_uSplit (pv 0) (pa_cons pe_str pa_nil)))
    (pss_cons (ps_set (i := 2) sc_l_law_read.nd rfl (by first | exact Or.inl rfl | exact Or.inr rfl) (pe_ifExp (pt_cmpR (op_uEq hu) (pe_ix ix_u (pv 1) pe_int (fun _ _ => rfl)) pe_str (nomark _)) (pe_lst pa_nil) (pe_bm PySem.F.plainAttrs_str PySem.F.slot_str_split PySem.F.type_str_split mt_uSplit (pe_ix ix_u (pv 1) pe_int (fun _ _ => rfl)) (pa_cons pe_str pa_nil))))
    (pss_cons (ps_set (i := 3) sc_l_law_read.nd rfl (by first | exact Or.inl rfl | exact Or.inr rfl) (pe_op op_uAdd (pv 2) (pe_slice sl_u (pv 1) (po_some pe_int) po_none)))
    (pss_cons (ps_if (PW.pt (pw_or (pt_cmpR op_gt (pe_callB call_uLen (by rfl) (He.free_ok hX hG (c.look 7)) (by decide +kernel) (pa_cons (pv 1) pa_nil)) pe_int (nomark _)) (pw_or1 (pt_cmpR (op_uNe hu) (pe_lc (own := [("_law_name", 4)]) (wi := (iU K (tVar 3))) (g := (gName 4)) (tt := (tNot (tTruK K (tCall (sp_l_law_is_name K) [] E0 (tCons (tVar 4) tNil))))) (te := (tVar 4)) (by rfl) sc_l_law_read.nd (pi_u (pv 3)) (blkOk_by (own := [("_law_name", 4)]) (N := ["_law_text", "_law_parts_here", "_law_fixed", "_law_names_here", "_law_name"]) (sc := defScope s_l_law_read) (by decide +kernel)) (fun _ _ _ _ _ => (pg_name (i := 4) sc_l_law_read.nd rfl (by first | exact Or.inl rfl | exact Or.inr rfl))) (fun _ _ _ _ _ => (pts_one (pt_not (pt_tru (pe_call O_l_law_is_name hr_l_law_is_name (by rfl) (He.glo_ok hX hG (c.look 35)) K_l_law_is_name B_l_law_is_name .nil pass0 (pa_cons (pv 4) pa_nil)) (by intro _; rfl))))) (fun _ _ _ _ _ => (pv 4))) (pe_lst pa_nil) (nomark _))))) (pss_one (ps_ret pe_non)) pss_nil)
    (pss_cons (ps_if (PW.pt (pw_or (pt_cmpR (op_uNe hu) (pv 2) (pe_srtSetZ (by rfl) (by rfl) (He.free_ok hX hG (c.look 3)) (by rfl) (He.free_ok hX hG (c.look 34)) (pv 2)) (nomark _)) (pw_or (pt_cmpR (op_uNe hu) (pe_lenSetZ (by rfl) (by rfl) (He.free_ok hX hG (c.look 7)) (by rfl) (He.free_ok hX hG (c.look 34)) (pv 3)) (pe_callB call_uLen (by rfl) (He.free_ok hX hG (c.look 7)) (by decide +kernel) (pa_cons (pv 3) pa_nil)) (nomark _)) (pw_or1 (pt_cmpR op_gt (pe_callB call_uLen (by rfl) (He.free_ok hX hG (c.look 7)) (by decide +kernel) (pa_cons (pv 3) pa_nil)) pe_int (nomark _)))))) (pss_one (ps_ret pe_non)) pss_nil)
    (pss_one (ps_ret (pe_lst (pa_cons (pv 2) (pa_cons (pe_ifExp (pt_cmpR (op_uEq hu) (pe_callB call_uLen (by rfl) (He.free_ok hX hG (c.look 7)) (by decide +kernel) (pa_cons (pv 1) pa_nil)) pe_int (nomark _)) (pe_ix ix_u (pv 1) pe_int (fun _ _ => rfl)) pe_non) pa_nil))))))))))
theorem sc_l_law_caught : FnScope ["_law_text", "e"] ["_law_text"] (defScope s_l_law_caught) := ⟨rfl, rfl, rfl, by decide +kernel, rfl, by decide +kernel, by decide +kernel⟩
theorem ok_l_law_caught {P : Program} {w : World} {K : PySem.W.Frag} {mg : Str → Option Value} {base h : Heap} {fd : FuncData} {fd_parse_shape : FuncData} (c : SaysA looks0 defs0 K) (hX : K.In h) (hG : h.Ns mainGlobals mg) (F_l_law_caught : Fun_l_law_caught K fd) (O_parse_shape : FnOk P w K mg base (L2.CX P w) 4 (He.fAd K d_parse_shape.at_) fd_parse_shape ["text"] (sp_parse_shape K)) (D_parse_shape : Fun_parse_shape K fd_parse_shape) : FnOk P w K mg base CX0 5 (He.fAd K d_l_law_caught.at_) fd ["_law_text"] (sp_l_law_caught K) := by
  have B_parse_shape := bind_parse_shape D_parse_shape
  have K_parse_shape := D_parse_shape.kp
  have F := F_l_law_caught
  refine F.ok sc_l_law_caught (fun vs H Q E h => len_l_law_caught h) (fun cdv A outer s H vs Q E hr h => ⟨t_l_law_caught K, PSs.nox ?_, pure_l_law_caught (kf_ok c) vs H Q E h⟩)
  have hu := SL.hu64 hr
  have hr_parse_shape : Room 4 _ := hr.mono (by decide)
  exact (pss_one (ps_try_ases rfl rfl sc_l_law_caught.nd (fun W pn xe tk po => (pss_one (ps_ret (pe_lst (pa_cons pe_str (pa_cons (pe_callS O_parse_shape hr_parse_shape (by rfl) (He.glo_ok hX hG (c.look 36)) K_parse_shape B_parse_shape (fun σ => passAt tk σ) (pa_cons (pv 0) pa_nil)) pa_nil)))))) (HdsA.cons rfl rfl ⟨rfl, by decide, .inl (He.glo_ok hX hG (c.look 6))⟩ (fun a oe cls d pn hz hf => pss_one (ps_ret (pe_lst (pa_cons pe_str (pa_cons (pe_xfE (xfB_ok (c.look 37)) (of_decide_eq_true (c.look 38)) hz hf (pv 1)) pa_nil))))) (HdsA.rest _))))
theorem sc_l_law_right : FnScope ["_law_text", "_law_due", "_law_found"] ["_law_text"] (defScope s_l_law_right) := ⟨rfl, rfl, rfl, by decide +kernel, rfl, by decide +kernel, by decide +kernel⟩
theorem ok_l_law_right {P : Program} {w : World} {K : PySem.W.Frag} {mg : Str → Option Value} {base h : Heap} {fd : FuncData} {fd_Shape_D_str_D : FuncData} {fd_Shape_D_eq_D : FuncData} {fd_Shape_D_init_D : FuncData} {fd_l_law_caught : FuncData} {fd_l_law_read : FuncData} (c : SaysA looks0 defs0 K) (hX : K.In h) (hG : h.Ns mainGlobals mg) (F_l_law_right : Fun_l_law_right K fd) (O_Shape_D_str_D : FnOk P w K mg base CX0 1 (He.fAd K d_Shape_D_str_D.at_) fd_Shape_D_str_D ["self"] (sp_Shape_D_str_D K)) (D_Shape_D_str_D : Fun_Shape_D_str_D K fd_Shape_D_str_D) (O_Shape_D_eq_D : FnOk P w K mg base CX0 1 (He.fAd K d_Shape_D_eq_D.at_) fd_Shape_D_eq_D ["self", "other"] (sp_Shape_D_eq_D K)) (D_Shape_D_eq_D : Fun_Shape_D_eq_D K fd_Shape_D_eq_D) (O_Shape_D_init_D : FnOk P w K mg base CX0 2 (He.fAd K d_Shape_D_init_D.at_) fd_Shape_D_init_D ["self", "fixed", "span"] (sp_Shape_D_init_D K)) (D_Shape_D_init_D : Fun_Shape_D_init_D K fd_Shape_D_init_D) (O_l_law_caught : FnOk P w K mg base CX0 5 (He.fAd K d_l_law_caught.at_) fd_l_law_caught ["_law_text"] (sp_l_law_caught K)) (D_l_law_caught : Fun_l_law_caught K fd_l_law_caught) (O_l_law_read : FnOk P w K mg base CX0 2 (He.fAd K d_l_law_read.at_) fd_l_law_read ["_law_text"] (sp_l_law_read K)) (D_l_law_read : Fun_l_law_read K fd_l_law_read) : FnOk P w K mg base CX0 6 (He.fAd K d_l_law_right.at_) fd ["_law_text"] (sp_l_law_right K) := by
  have B_Shape_D_str_D := bind_Shape_D_str_D D_Shape_D_str_D
  have K_Shape_D_str_D := D_Shape_D_str_D.kp
  have B_Shape_D_eq_D := bind_Shape_D_eq_D D_Shape_D_eq_D
  have K_Shape_D_eq_D := D_Shape_D_eq_D.kp
  have B_Shape_D_init_D := bind_Shape_D_init_D D_Shape_D_init_D
  have K_Shape_D_init_D := D_Shape_D_init_D.kp
  have B_l_law_caught := bind_l_law_caught D_l_law_caught
  have K_l_law_caught := D_l_law_caught.kp
  have B_l_law_read := bind_l_law_read D_l_law_read
  have K_l_law_read := D_l_law_read.kp
  have F := F_l_law_right
  refine F.ok sc_l_law_right (fun vs H Q E h => len_l_law_right h) (fun cdv A outer s H vs Q E hr h => ⟨t_l_law_right K, PSs.nox ?_, pure_l_law_right (kf_ok c) vs H Q E h⟩)
  have hu := SL.hu64 hr
  have hr_Shape_D_str_D_2 : Room 3 _ := hr.mono (by decide)
  have hr_Shape_D_eq_D_1 : Room 2 _ := hr.mono (by decide)
  have hr_Shape_D_init_D_1 : Room 3 _ := hr.mono (by decide)
  have hr_l_law_caught : Room 5 _ := hr.mono (by decide)
  have hr_l_law_read : Room 2 _ := hr.mono (by decide)
  exact (pss_cons (ps_par (i := 1) (j := 2) (by rfl) sc_l_law_right.nd rfl rfl (by decide) rfl rfl (pa_cons (pe_call O_l_law_read hr_l_law_read (by rfl) (He.glo_ok hX hG (c.look 43)) K_l_law_read B_l_law_read .nil pass0 (pa_cons (pv 0) pa_nil)) (pa_cons (pe_call O_l_law_caught hr_l_law_caught (by rfl) (He.glo_ok hX hG (c.look 42)) K_l_law_caught B_l_law_caught .nil pass0 (pa_cons (pv 0) pa_nil)) pa_nil)) (by rfl))
    (pss_cons (ps_if (pt_cmpR op_uIs (pv 1) pe_non (nomark _)) (pss_one (ps_ret (pe_cmpR (op_uEq hu) (pv 2) (pe_lst (pa_cons pe_str (pa_cons (pv 0) pa_nil))) (nomark _)))) pss_nil)
    (pss_one (ps_ret (pe_and (pe_cmpR (op_eqL O_Shape_D_eq_D (specB_ok (c.look 41)).1 (specB_ok (c.look 41)).2 B_Shape_D_eq_D pass0 hr_Shape_D_eq_D_1) (pv 2) (pe_lst (pa_cons pe_str (pa_cons (pe_make (He.mkr_ok (c.look 0)) O_Shape_D_init_D hr_Shape_D_init_D_1 rfl (He.glo_ok hX hG (c.look 1)) B_Shape_D_init_D .nil pass0 (pa_cons (pe_ix ix_u (pv 1) pe_int (fun _ _ => rfl)) (pa_cons (pe_ix ix_u (pv 1) pe_int (fun _ _ => rfl)) pa_nil))) pa_nil))) (nomark _)) (pe_one (pe_cmpR (op_uEq hu) (pe_callTy (call_strO (specB_ok (c.look 40)).1 (specB_ok (c.look 40)).2 (raw0 O_Shape_D_str_D B_Shape_D_str_D) hr_Shape_D_str_D_2 pass0) (by rfl) (He.free_ok hX hG (c.look 16)) (by decide +kernel) (pa_cons (pe_ix ix_u (pv 2) pe_int (fun _ _ => rfl)) pa_nil)) (pv 0) (nomark _))))))))
theorem sc_l_law_spoilt : FnScope ["_law_bag_here", "_law_names_here", "_law_text", "_law_head", "_law_colon", "_law_tail", "_law_words", "_law_way", "_law_at", "_law_to", "_law_spot", "_law_sign"] ["_law_bag_here", "_law_names_here", "_law_text"] (defScope s_l_law_spoilt) := ⟨rfl, rfl, rfl, by decide +kernel, rfl, by decide +kernel, by decide +kernel⟩
theorem ok_l_law_spoilt {P : Program} {w : World} {K : PySem.W.Frag} {mg : Str → Option Value} {base h : Heap} {fd : FuncData} {fd_l_law_take : FuncData} (c : SaysA looks0 defs0 K) (hX : K.In h) (hG : h.Ns mainGlobals mg) (F_l_law_spoilt : Fun_l_law_spoilt K fd) (O_l_law_take : FnOk P w K mg base CX0 1 (He.fAd K d_l_law_take.at_) fd_l_law_take ["_law_bag_here", "_law_many"] (sp_l_law_take K)) (D_l_law_take : Fun_l_law_take K fd_l_law_take) : FnOk P w K mg base CX0 2 (He.fAd K d_l_law_spoilt.at_) fd ["_law_bag_here", "_law_names_here", "_law_text"] (sp_l_law_spoilt K) := by
  have B_l_law_take := bind_l_law_take D_l_law_take
  have K_l_law_take := D_l_law_take.kp
  have F := F_l_law_spoilt
  refine F.ok sc_l_law_spoilt (fun vs H Q E h => len_l_law_spoilt h) (fun cdv A outer s H vs Q E hr h => ⟨t_l_law_spoilt K, PSs.nox ?_, pure_l_law_spoilt (kf_ok c) vs H Q E h⟩)
  have hu := SL.hu64 hr
  have hr_l_law_take : Room 1 _ := hr.mono (by decide)
  exact (pss_cons (ps_asg (pe_bm PySem.F.plainAttrs_str PySem.F.slot_str_partition PySem.F.type_str_partition mt_part (pv 2) (pa_cons pe_str pa_nil)) (pg_tup rfl (pgs_cons (pg_name (i := 3) sc_l_law_spoilt.nd rfl (by first | exact Or.inl rfl | exact Or.inr rfl)) (pgs_cons (pg_name (i := 4) sc_l_law_spoilt.nd rfl (by first | exact Or.inl rfl | exact Or.inr rfl)) (pgs_cons (pg_name (i := 5) sc_l_law_spoilt.nd rfl (by first | exact Or.inl rfl | exact Or.inr rfl)) pgs_nil)))))
    (pss_cons (ps_par (i := 6) (j := 7) (by rfl) sc_l_law_spoilt.nd rfl rfl (by decide) rfl rfl (pa_cons (pe_bm PySem.F.plainAttrs_str PySem.F.slot_str_split PySem.F.type_str_split mt_uSplit (pv 3) (pa_cons pe_str pa_nil)) (pa_cons (pe_call O_l_law_take hr_l_law_take (by rfl) (He.glo_ok hX hG (c.look 29)) K_l_law_take B_l_law_take .nil pass0 (pa_cons (pv 0) (pa_cons pe_int pa_nil))) pa_nil)) (by rfl))
    (pss_cons (ps_par (i := 8) (j := 9) (by rfl) sc_l_law_spoilt.nd rfl rfl (by decide) rfl rfl (pa_cons (pe_call O_l_law_take hr_l_law_take (by rfl) (He.glo_ok hX hG (c.look 29)) K_l_law_take B_l_law_take .nil pass0 (pa_cons (pv 0) (pa_cons (pe_callB call_uLen (by rfl) (He.free_ok hX hG (c.look 7)) (by decide +kernel) (pa_cons (pv 6) pa_nil)) pa_nil))) (pa_cons (pe_call O_l_law_take hr_l_law_take (by rfl) (He.glo_ok hX hG (c.look 29)) K_l_law_take B_l_law_take .nil pass0 (pa_cons (pv 0) (pa_cons (pe_callB call_uLen (by rfl) (He.free_ok hX hG (c.look 7)) (by decide +kernel) (pa_cons (pv 6) pa_nil)) pa_nil))) pa_nil)) (by rfl))
    (pss_cons (ps_set (i := 10) sc_l_law_spoilt.nd rfl (by first | exact Or.inl rfl | exact Or.inr rfl) (pe_call O_l_law_take hr_l_law_take (by rfl) (He.glo_ok hX hG (c.look 29)) K_l_law_take B_l_law_take .nil pass0 (pa_cons (pv 0) (pa_cons (pe_op op_uAdd (pe_callB call_uLen (by rfl) (He.free_ok hX hG (c.look 7)) (by decide +kernel) (pa_cons (pv 2) pa_nil)) pe_int) pa_nil))))
    (pss_cons (ps_set (i := 11) sc_l_law_spoilt.nd rfl (by first | exact Or.inl rfl | exact Or.inr rfl) (pe_ix ix_u pe_str (pe_call O_l_law_take hr_l_law_take (by rfl) (He.glo_ok hX hG (c.look 29)) K_l_law_take B_l_law_take .nil pass0 (pa_cons (pv 0) (pa_cons pe_int pa_nil))) (fun _ _ => rfl)))
    (pss_cons (ps_if (pt_cmpR (op_uEq hu) (pv 7) pe_int (nomark _)) (pss_one (ps_ret (pe_op op_uAdd (pe_op op_uAdd (pe_slice sl_u (pv 2) po_none (po_some (pv 10))) (pv 11)) (pe_slice sl_u (pv 2) (po_some (pv 10)) po_none)))) pss_nil)
    (pss_cons (ps_if (pt_cmpR (op_uEq hu) (pv 7) pe_int (nomark _)) (pss_one (ps_ret (pe_op op_uAdd (pe_slice sl_u (pv 2) po_none (po_some (pv 10))) (pe_slice sl_u (pv 2) (po_some (pe_op op_uAdd (pv 10) pe_int)) po_none)))) pss_nil)
    (pss_cons (ps_if (pt_cmpR (op_uEq hu) (pv 7) pe_int (nomark _)) (pss_one (ps_ret (pe_op op_uAdd (pe_op op_uAdd (pe_slice sl_u (pv 2) po_none (po_some (pv 10))) (pv 11)) (pe_slice sl_u (pv 2) (po_some (pe_op op_uAdd (pv 10) pe_int)) po_none)))) pss_nil)
    (pss_cons (ps_if (pt_cmpR (op_uEq hu) (pv 7) pe_int (nomark _)) (pss_one (ps_asg (pe_lst (pa_cons (pe_ix ix_u (pe_op op_uAdd (pv 1) (pe_lst (pa_cons (pe_ix ix_u (pv 6) (pv 9) (fun _ _ => rfl)) (pa_cons pe_str (pa_cons pe_str (pa_cons pe_str pa_nil)))))) (pe_call O_l_law_take hr_l_law_take (by rfl) (He.glo_ok hX hG (c.look 29)) K_l_law_take B_l_law_take .nil pass0 (pa_cons (pv 0) (pa_cons (pe_op op_uAdd (pe_callB call_uLen (by rfl) (He.free_ok hX hG (c.look 7)) (by decide +kernel) (pa_cons (pv 1) pa_nil)) pe_int) pa_nil))) (fun _ _ => rfl)) pa_nil)) (pg_slc (pv 6) (po_some (pv 8)) (po_some (pv 8))))) pss_nil)
    (pss_cons (ps_if (pt_cmpR (op_uEq hu) (pv 7) pe_int (nomark _)) (pss_one (ps_asg (pe_tup (pa_cons (pe_ix ix_u (pv 6) (pv 9) (fun _ _ => rfl)) (pa_cons (pe_ix ix_u (pv 6) (pv 8) (fun _ _ => rfl)) pa_nil))) (pg_tup rfl (pgs_cons (pg_sub (pv 6) (pv 8) set_list) (pgs_cons (pg_sub (pv 6) (pv 9) set_list) pgs_nil))))) pss_nil)
    (pss_cons (ps_if (pt_cmpR (op_uEq hu) (pv 7) pe_int (nomark _)) (pss_one (ps_expr (pe_bm PySem.F.plainAttrs_list PySem.F.slot_list_pop PySem.F.type_list_pop mt_popAt (pv 6) (pa_cons (pv 8) pa_nil)))) pss_nil)
    (pss_cons (ps_if (pt_cmpR (op_uEq hu) (pv 7) pe_int (nomark _)) (pss_one (ps_ret (pe_op op_uAdd (pv 3) (pe_ix ix_u (pe_lst (pa_cons (pe_op op_uAdd pe_str (pe_ix ix_u (pv 1) pe_int (fun _ _ => rfl))) (pa_cons pe_str (pa_cons pe_str (pa_cons (pe_op op_uAdd pe_str (pe_ix ix_u (pv 6) (pv 9) (fun _ _ => rfl))) pa_nil))))) (pe_call O_l_law_take hr_l_law_take (by rfl) (He.glo_ok hX hG (c.look 29)) K_l_law_take B_l_law_take .nil pass0 (pa_cons (pv 0) (pa_cons pe_int pa_nil))) (fun _ _ => rfl))))) pss_nil)
    (pss_cons (ps_if (pt_cmpR (op_uEq hu) (pv 7) pe_int (nomark _)) (pss_one (ps_set (i := 6) sc_l_law_spoilt.nd rfl (by first | exact Or.inl rfl | exact Or.inr rfl) (pe_slice sl_u (pe_callB call_srtZ (by rfl) (He.free_ok hX hG (c.look 3)) (by decide +kernel) (pa_cons (pe_op op_uAdd (pv 6) (pv 1)) pa_nil)) po_none (po_some (pe_call O_l_law_take hr_l_law_take (by rfl) (He.glo_ok hX hG (c.look 29)) K_l_law_take B_l_law_take .nil pass0 (pa_cons (pv 0) (pa_cons pe_int pa_nil))))))) pss_nil)
    (pss_one (ps_ret (pe_op op_uAdd (pe_op op_uAdd (pe_bm PySem.F.plainAttrs_str PySem.F.slot_str_join PySem.F.type_str_join mt_uJoin pe_str (pa_cons (pv 6) pa_nil)) (pv 4)) (pv 5)))))))))))))))))
theorem sc_law : FnScope ["_law_script", "_law_index", "_law_bag_here", "_law_names_here", "_law_part", "_law_odd", "_law_fixed", "_law_text", "_law_turn", "_law_found", "_law_other", "_law_at"] ["_law_script"] (defScope s_law) := ⟨rfl, rfl, rfl, by decide +kernel, rfl, by decide +kernel, by decide +kernel⟩
theorem ok_law {P : Program} {w : World} {K : PySem.W.Frag} {mg : Str → Option Value} {base h : Heap} {fd : FuncData} {fd_l_law_right : FuncData} {fd_Shape_D_init_D : FuncData} {fd_Shape_D_repr_D : FuncData} {fd_l_law_caught : FuncData} {fd_l_law_parts : FuncData} {fd_l_law_spoilt : FuncData} {fd_l_law_shape : FuncData} {fd_Shape_D_str_D : FuncData} {fd_l_law_names : FuncData} {fd_l_law_take : FuncData} {fd_l_law_bag : FuncData} {fd_l_law_cell : FuncData} (c : SaysA looks0 defs0 K) (hX : K.In h) (hG : h.Ns mainGlobals mg) (F_law : Fun_law K fd) (O_l_law_right : FnOk P w K mg base CX0 6 (He.fAd K d_l_law_right.at_) fd_l_law_right ["_law_text"] (sp_l_law_right K)) (D_l_law_right : Fun_l_law_right K fd_l_law_right) (O_Shape_D_init_D : FnOk P w K mg base CX0 2 (He.fAd K d_Shape_D_init_D.at_) fd_Shape_D_init_D ["self", "fixed", "span"] (sp_Shape_D_init_D K)) (D_Shape_D_init_D : Fun_Shape_D_init_D K fd_Shape_D_init_D) (O_Shape_D_repr_D : SL.FnG P w K mg base CX0 1 (He.fAd K d_Shape_D_repr_D.at_) fd_Shape_D_repr_D ["self"] (sp_Shape_D_repr_D K)) (D_Shape_D_repr_D : Fun_Shape_D_repr_D K fd_Shape_D_repr_D) (O_l_law_caught : FnOk P w K mg base CX0 5 (He.fAd K d_l_law_caught.at_) fd_l_law_caught ["_law_text"] (sp_l_law_caught K)) (D_l_law_caught : Fun_l_law_caught K fd_l_law_caught) (O_l_law_parts : FnOk P w K mg base CX0 3 (He.fAd K d_l_law_parts.at_) fd_l_law_parts ["_law_bag_here", "_law_many", "_law_most"] (sp_l_law_parts K)) (D_l_law_parts : Fun_l_law_parts K fd_l_law_parts) (O_l_law_spoilt : FnOk P w K mg base CX0 2 (He.fAd K d_l_law_spoilt.at_) fd_l_law_spoilt ["_law_bag_here", "_law_names_here", "_law_text"] (sp_l_law_spoilt K)) (D_l_law_spoilt : Fun_l_law_spoilt K fd_l_law_spoilt) (O_l_law_shape : FnOk P w K mg base CX0 4 (He.fAd K d_l_law_shape.at_) fd_l_law_shape ["_law_bag_here", "_law_names_here", "_law_part"] (sp_l_law_shape K)) (D_l_law_shape : Fun_l_law_shape K fd_l_law_shape) (O_Shape_D_str_D : FnOk P w K mg base CX0 1 (He.fAd K d_Shape_D_str_D.at_) fd_Shape_D_str_D ["self"] (sp_Shape_D_str_D K)) (D_Shape_D_str_D : Fun_Shape_D_str_D K fd_Shape_D_str_D) (O_l_law_names : FnOk P w K mg base CX0 2 (He.fAd K d_l_law_names.at_) fd_l_law_names ["_law_bag_here", "_law_many"] (sp_l_law_names K)) (D_l_law_names : Fun_l_law_names K fd_l_law_names) (O_l_law_take : FnOk P w K mg base CX0 1 (He.fAd K d_l_law_take.at_) fd_l_law_take ["_law_bag_here", "_law_many"] (sp_l_law_take K)) (D_l_law_take : Fun_l_law_take K fd_l_law_take) (O_l_law_bag : FnOk P w K mg base CX0 1 (He.fAd K d_l_law_bag.at_) fd_l_law_bag ["_law_cell_here"] (sp_l_law_bag K)) (D_l_law_bag : Fun_l_law_bag K fd_l_law_bag) (O_l_law_cell : FnOk P w K mg base CX0 1 (He.fAd K d_l_law_cell.at_) fd_l_law_cell ["_law_script", "_law_index"] (sp_l_law_cell K)) (D_l_law_cell : Fun_l_law_cell K fd_l_law_cell) : SL.FnG P w K mg base CX0 7 (He.fAd K d_law.at_) fd ["_law_script"] (sp_law K) := by
  have B_l_law_right := bind_l_law_right D_l_law_right
  have K_l_law_right := D_l_law_right.kp
  have B_Shape_D_init_D := bind_Shape_D_init_D D_Shape_D_init_D
  have K_Shape_D_init_D := D_Shape_D_init_D.kp
  have B_Shape_D_repr_D := bind_Shape_D_repr_D D_Shape_D_repr_D
  have K_Shape_D_repr_D := D_Shape_D_repr_D.kp
  have B_l_law_caught := bind_l_law_caught D_l_law_caught
  have K_l_law_caught := D_l_law_caught.kp
  have B_l_law_parts := bind_l_law_parts D_l_law_parts
  have K_l_law_parts := D_l_law_parts.kp
  have B_l_law_spoilt := bind_l_law_spoilt D_l_law_spoilt
  have K_l_law_spoilt := D_l_law_spoilt.kp
  have B_l_law_shape := bind_l_law_shape D_l_law_shape
  have K_l_law_shape := D_l_law_shape.kp
  have B_Shape_D_str_D := bind_Shape_D_str_D D_Shape_D_str_D
  have K_Shape_D_str_D := D_Shape_D_str_D.kp
  have B_l_law_names := bind_l_law_names D_l_law_names
  have K_l_law_names := D_l_law_names.kp
  have B_l_law_take := bind_l_law_take D_l_law_take
  have K_l_law_take := D_l_law_take.kp
  have B_l_law_bag := bind_l_law_bag D_l_law_bag
  have K_l_law_bag := D_l_law_bag.kp
  have B_l_law_cell := bind_l_law_cell D_l_law_cell
  have K_l_law_cell := D_l_law_cell.kp
  obtain ⟨us1_Shape_D_init_D, VD1_Shape_D_init_D, BD1_Shape_D_init_D⟩ := bindD1_Shape_D_init_D D_Shape_D_init_D
  have F := F_law
  refine SL.fun_g F sc_law (fun vs H Q E h => len_law h) (fun cdv A hg0 outer s H vs Q E hr h => ⟨t_law K, PSs.nox ?_, pure_law (kf_ok c) vs H Q E h⟩)
  have hg : (A.deeper (envOfC d_law.qual d_law.scope s.heap.objs.size (He.fAd K d_law.at_) cdv)).guards = some [] := SL.guards_deeper hg0
  have hu := SL.hu64 hr
  have hr_l_law_right : Room 6 _ := hr.mono (by decide)
  have hr_Shape_D_init_D_1 : Room 3 _ := hr.mono (by decide)
  have hr_Shape_D_repr_D_1 : Room 2 _ := hr.mono (by decide)
  have hr_l_law_caught : Room 5 _ := hr.mono (by decide)
  have hr_l_law_parts : Room 3 _ := hr.mono (by decide)
  have hr_l_law_spoilt : Room 2 _ := hr.mono (by decide)
  have hr_l_law_shape : Room 4 _ := hr.mono (by decide)
  have hr_Shape_D_str_D_2 : Room 3 _ := hr.mono (by decide)
  have hr_l_law_names : Room 2 _ := hr.mono (by decide)
  have hr_l_law_take : Room 1 _ := hr.mono (by decide)
  have hr_l_law_bag : Room 1 _ := hr.mono (by decide)
  have hr_l_law_cell : Room 1 _ := hr.mono (by decide)
  exact (pss_cons (ps_for PassesOwn.never rfl (pi_range1 rfl (He.free_ok hX hG (c.look 30)) (pa_cons (pe_callB (call_max2 rfl) (by rfl) (He.free_ok hX hG (c.look 28)) (by decide +kernel) (pa_cons pe_int (pa_cons (pe_callB (call_min2 rfl) (by rfl) (He.free_ok hX hG (c.look 31)) (by decide +kernel) (pa_cons pe_int (pa_cons (pe_callB call_uLen (by rfl) (He.free_ok hX hG (c.look 7)) (by decide +kernel) (pa_cons (pv 0) pa_nil)) pa_nil))) pa_nil))) pa_nil)) (pg_name (i := 1) sc_law.nd rfl (by first | exact Or.inl rfl | exact Or.inr rfl)) (pss_cons (ps_set (i := 2) sc_law.nd rfl (by first | exact Or.inl rfl | exact Or.inr rfl) (pe_call O_l_law_bag hr_l_law_bag (by rfl) (He.glo_ok hX hG (c.look 52)) K_l_law_bag B_l_law_bag .nil pass0 (pa_cons (pe_call O_l_law_cell hr_l_law_cell (by rfl) (He.glo_ok hX hG (c.look 53)) K_l_law_cell B_l_law_cell .nil pass0 (pa_cons (pv 0) (pa_cons (pv 1) pa_nil))) pa_nil)))
    (pss_cons (ps_set (i := 3) sc_law.nd rfl (by first | exact Or.inl rfl | exact Or.inr rfl) (pe_call O_l_law_names hr_l_law_names (by rfl) (He.glo_ok hX hG (c.look 51)) K_l_law_names B_l_law_names .nil pass0 (pa_cons (pv 2) (pa_cons (pe_op op_uAdd pe_int (pe_call O_l_law_take hr_l_law_take (by rfl) (He.glo_ok hX hG (c.look 29)) K_l_law_take B_l_law_take .nil pass0 (pa_cons (pv 2) (pa_cons pe_int pa_nil)))) pa_nil))))
    (pss_cons (ps_for PassesOwn.never rfl (pi_u (pe_op op_uAdd (pe_call O_l_law_parts hr_l_law_parts (by rfl) (He.glo_ok hX hG (c.look 48)) K_l_law_parts B_l_law_parts .nil pass0 (pa_cons (pv 2) (pa_cons (pe_callB call_uLen (by rfl) (He.free_ok hX hG (c.look 7)) (by decide +kernel) (pa_cons (pv 3) pa_nil)) (pa_cons pe_int pa_nil)))) (pe_lst (pa_cons (pe_tup (pa_cons (pe_lst pa_nil) (pa_cons pe_non pa_nil))) pa_nil)))) (pg_name (i := 4) sc_law.nd rfl (by first | exact Or.inl rfl | exact Or.inr rfl)) (pss_cons (ps_set (i := 6) sc_law.nd rfl (by first | exact Or.inl rfl | exact Or.inr rfl) (pe_callB call_srt (by rfl) (He.free_ok hX hG (c.look 3)) (by decide +kernel) (pa_cons (pe_lc (own := [("_law_at", 11)]) (wi := (iU K (tOp (uIx K) (tVar 4) (tC (.int 0))))) (g := (gName 11)) (tt := tYes) (te := (tOp (uIx K) (tVar 3) (tVar 11))) (by rfl) sc_law.nd (pi_u (pe_ix ix_u (pv 4) pe_int (fun _ _ => rfl))) (blkOk_by (own := [("_law_at", 11)]) (N := ["_law_script", "_law_index", "_law_bag_here", "_law_names_here", "_law_part", "_law_odd", "_law_fixed", "_law_text", "_law_turn", "_law_found", "_law_other", "_law_at"]) (sc := defScope s_law) (by decide +kernel)) (fun _ _ _ _ _ => (pg_name (i := 11) sc_law.nd rfl (by first | exact Or.inl rfl | exact Or.inr rfl))) (fun _ _ _ _ _ => pts_nil) (fun _ _ _ _ _ => (pe_ix ix_u (pv 3) (pv 11) (fun _ _ => rfl)))) pa_nil)))
    (pss_cons (ps_set (i := 7) sc_law.nd rfl (by first | exact Or.inl rfl | exact Or.inr rfl) (pe_op op_uAdd (pe_ifExp (pt_cmpR (op_uNe hu) (pv 6) (pe_lst pa_nil) (nomark _)) (pe_bm PySem.F.plainAttrs_str PySem.F.slot_str_join PySem.F.type_str_join mt_uJoin pe_str (pa_cons (pv 6) pa_nil)) pe_str) (pe_ifExp (pt_cmpR op_uIs (pe_ix ix_u (pv 4) pe_int (fun _ _ => rfl)) pe_non (nomark _)) pe_str (pe_op op_uAdd pe_str (pe_ix ix_u (pv 3) (pe_ix ix_u (pv 4) pe_int (fun _ _ => rfl)) (fun _ _ => rfl))))))
    (pss_cons (ps_if (PW.pt (pw_or (pt_cmpR (op_uNe hu) (pe_callTy (call_strO (specB_ok (c.look 40)).1 (specB_ok (c.look 40)).2 (raw0 O_Shape_D_str_D B_Shape_D_str_D) hr_Shape_D_str_D_2 pass0) (by rfl) (He.free_ok hX hG (c.look 16)) (by decide +kernel) (pa_cons (pe_call O_l_law_shape hr_l_law_shape (by rfl) (He.glo_ok hX hG (c.look 50)) K_l_law_shape B_l_law_shape .nil pass0 (pa_cons (pv 2) (pa_cons (pv 3) (pa_cons (pv 4) pa_nil)))) pa_nil)) (pv 7) (nomark _)) (pw_or1 (pt_not (pt_tru (pe_call O_l_law_right hr_l_law_right (by rfl) (He.glo_ok hX hG (c.look 44)) K_l_law_right B_l_law_right .nil pass0 (pa_cons (pv 7) pa_nil)) (by intro _; rfl)))))) (pss_one (ps_ret pe_bl)) pss_nil)
    (pss_cons (ps_for PassesOwn.never rfl (pi_range1 rfl (He.free_ok hX hG (c.look 30)) (pa_cons pe_int pa_nil)) (pg_name (i := 8) sc_law.nd rfl (by first | exact Or.inl rfl | exact Or.inr rfl)) (pss_cons (ps_set (i := 10) sc_law.nd rfl (by first | exact Or.inl rfl | exact Or.inr rfl) (pe_call O_l_law_spoilt hr_l_law_spoilt (by rfl) (He.glo_ok hX hG (c.look 49)) K_l_law_spoilt B_l_law_spoilt .nil pass0 (pa_cons (pv 2) (pa_cons (pv 3) (pa_cons (pv 7) pa_nil)))))
    (pss_one (ps_if (PW.pt (pw_or (pt_not (pt_tru (pe_call O_l_law_right hr_l_law_right (by rfl) (He.glo_ok hX hG (c.look 44)) K_l_law_right B_l_law_right .nil pass0 (pa_cons (pv 10) pa_nil)) (by intro _; rfl))) (pw_or1 (pt_not (pt_tru (pe_call O_l_law_right hr_l_law_right (by rfl) (He.glo_ok hX hG (c.look 44)) K_l_law_right B_l_law_right .nil pass0 (pa_cons (pe_call O_l_law_spoilt hr_l_law_spoilt (by rfl) (He.glo_ok hX hG (c.look 49)) K_l_law_spoilt B_l_law_spoilt .nil pass0 (pa_cons (pv 2) (pa_cons (pv 3) (pa_cons (pv 10) pa_nil)))) pa_nil)) (by intro _; rfl)))))) (pss_one (ps_ret pe_bl)) pss_nil))))
    (pss_one (ps_if (PW.pt (pw_or (pt_not (pt_tru (pe_call O_l_law_right hr_l_law_right (by rfl) (He.glo_ok hX hG (c.look 44)) K_l_law_right B_l_law_right .nil pass0 (pa_cons (pe_op op_uAdd (pv 7) pe_str) pa_nil)) (by intro _; rfl))) (pw_or1 (pt_not (pt_tru (pe_call O_l_law_right hr_l_law_right (by rfl) (He.glo_ok hX hG (c.look 44)) K_l_law_right B_l_law_right .nil pass0 (pa_cons (pe_op op_uAdd pe_str (pv 7)) pa_nil)) (by intro _; rfl)))))) (pss_one (ps_ret pe_bl)) pss_nil)))))))
    (pss_cons (ps_for PassesOwn.never rfl (pi_u (pe_lst (pa_cons pe_non (pa_cons pe_bl (pa_cons pe_int (pa_cons (pe_lst pa_nil) (pa_cons (pe_tup (pa_cons pe_str pa_nil)) (pa_cons pe_dnewK (pa_cons (pe_make (He.mkr_ok (c.look 0)) O_Shape_D_init_D hr_Shape_D_init_D_1 rfl (He.glo_ok hX hG (c.look 1)) BD1_Shape_D_init_D VD1_Shape_D_init_D pass0 (pa_cons (pe_lst (pa_cons pe_str pa_nil)) pa_nil)) (pa_cons (pe_op op_pow pe_int pe_int) (pa_cons (pe_lst (pa_cons pe_str pa_nil)) pa_nil))))))))))) (pg_name (i := 5) sc_law.nd rfl (by first | exact Or.inl rfl | exact Or.inr rfl)) (pss_cons (ps_set (i := 9) sc_law.nd rfl (by first | exact Or.inl rfl | exact Or.inr rfl) (pe_call O_l_law_caught hr_l_law_caught (by rfl) (He.glo_ok hX hG (c.look 42)) K_l_law_caught B_l_law_caught .nil pass0 (pa_cons (pv 5) pa_nil)))
    (pss_cons (ps_if (pt_tru (pe_callB call_vIsi (by rfl) (He.free_ok hX hG (c.look 15)) (by decide +kernel) (pa_cons (pv 5) (pa_cons (pe_bltn (v := .ty "list") rfl (He.free_ok hX hG (c.look 19)) (by decide +kernel) rfl) pa_nil))) (by intro _; rfl)) (pss_one (ps_expr (pe_bm PySem.F.plainAttrs_list PySem.F.slot_list_append PySem.F.type_list_append mt_append (pv 5) (pa_cons pe_str pa_nil)))) pss_nil)
    (pss_one (ps_if (PW.pt (pw_or (pt_cmpR (op_uNe hu) (pe_ix ix_u (pv 9) pe_int (fun _ _ => rfl)) pe_str (nomark _)) (pw_or1 (pt_cmpR (op_uNe hu) (pe_callB (CallR.or (call_uReprX hg hu) (call_reprOG hg (specB_ok (c.look 46)).1 (specB_ok (c.look 46)).2 (raw0G O_Shape_D_repr_D B_Shape_D_repr_D) hr_Shape_D_repr_D_1 pass0)) (by rfl) (He.free_ok hX hG (c.look 45)) (by decide +kernel) (pa_cons (pe_ix ix_u (pv 9) pe_int (fun _ _ => rfl)) pa_nil)) (pe_callB (CallR.or (call_uReprX hg hu) (call_reprOG hg (specB_ok (c.look 46)).1 (specB_ok (c.look 46)).2 (raw0G O_Shape_D_repr_D B_Shape_D_repr_D) hr_Shape_D_repr_D_1 pass0)) (by rfl) (He.free_ok hX hG (c.look 45)) (by decide +kernel) (pa_cons (pv 5) pa_nil)) (nomark _))))) (pss_one (ps_ret pe_bl)) pss_nil)))))
    (pss_one (ps_if (pt_cmpR (op_uNe hu) (pe_lc (own := [("_law_text", 7)]) (wi := (iU K (tLst (tCons (tC (.str "")) (tCons (tC (.str ":")) (tCons (tC (.str "-:")) (tCons (tC (.str "+")) (tCons (tC (.str "a+")) (tCons (tC (.str "a+-")) (tCons (tC (.str "--")) tNil)))))))))) (g := (gName 7)) (tt := (tNot (tTruK K (tCall (sp_l_law_right K) [] E0 (tCons (tVar 7) tNil))))) (te := (tVar 7)) (by rfl) sc_law.nd (pi_u (pe_lst (pa_cons pe_str (pa_cons pe_str (pa_cons pe_str (pa_cons pe_str (pa_cons pe_str (pa_cons pe_str (pa_cons pe_str pa_nil))))))))) (blkOk_by (own := [("_law_text", 7)]) (N := ["_law_script", "_law_index", "_law_bag_here", "_law_names_here", "_law_part", "_law_odd", "_law_fixed", "_law_text", "_law_turn", "_law_found", "_law_other", "_law_at"]) (sc := defScope s_law) (by decide +kernel)) (fun _ _ _ _ _ => (pg_name (i := 7) sc_law.nd rfl (by first | exact Or.inl rfl | exact Or.inr rfl))) (fun _ _ _ _ _ => (pts_one (pt_not (pt_tru (pe_call O_l_law_right hr_l_law_right (by rfl) (He.glo_ok hX hG (c.look 44)) K_l_law_right B_l_law_right .nil pass0 (pa_cons (pv 7) pa_nil)) (by intro _; rfl))))) (fun _ _ _ _ _ => (pv 7))) (pe_lst pa_nil) (nomark _)) (pss_one (ps_ret pe_bl)) pss_nil)))))))
    (pss_one (ps_ret pe_bl)))
theorem facts {P : Program} {w : World} {K : PySem.W.Frag} {h : Heap} {mg : Str → Option Value} {f : Addr} (X : K.In h) (G : h.Ns mainGlobals mg) (hfa : mg ("law" : Str) = some (.ref f)) (c : CM.SaysA looks0 defs0 K) :
    ∃ fd : FuncData, (∀ (s : Shared) (v : Value), BindsTo s fd ⟨[v], []⟩ [("_law_script", v)]) ∧ ∀ base : Heap, K.In base → base.Ns mainGlobals mg → SL.FnG P w K mg base CX0 7 f fd ["_law_script"] (sp_law K) := by
  obtain ⟨fd_is_name, F_is_name⟩ := c.defn 0 (d := ⟨fun K => (He.fAd K d_is_name.at_), d_is_name⟩) rfl
  obtain ⟨fd_is_list, F_is_list⟩ := c.defn 1 (d := ⟨fun K => (He.fAd K d_is_list.at_), d_is_list⟩) rfl
  obtain ⟨fd_InvalidText_D_init_D, F_InvalidText_D_init_D⟩ := c.defn 2 (d := ⟨fun K => (He.fAd K d_InvalidText_D_init_D.at_), d_InvalidText_D_init_D⟩) rfl
  obtain ⟨fd_Shape_D_init_D, F_Shape_D_init_D⟩ := c.defn 3 (d := ⟨fun K => (He.fAd K d_Shape_D_init_D.at_), d_Shape_D_init_D⟩) rfl
  obtain ⟨fd_Shape_D_eq_D, F_Shape_D_eq_D⟩ := c.defn 4 (d := ⟨fun K => (He.fAd K d_Shape_D_eq_D.at_), d_Shape_D_eq_D⟩) rfl
  obtain ⟨fd_Shape_D_str_D, F_Shape_D_str_D⟩ := c.defn 5 (d := ⟨fun K => (He.fAd K d_Shape_D_str_D.at_), d_Shape_D_str_D⟩) rfl
  obtain ⟨fd_Shape_D_repr_D, F_Shape_D_repr_D⟩ := c.defn 6 (d := ⟨fun K => (He.fAd K d_Shape_D_repr_D.at_), d_Shape_D_repr_D⟩) rfl
  obtain ⟨fd_parse_shape, F_parse_shape⟩ := c.defn 7 (d := ⟨fun K => (He.fAd K d_parse_shape.at_), d_parse_shape⟩) rfl
  obtain ⟨fd_l_law_cell, F_l_law_cell⟩ := c.defn 8 (d := ⟨fun K => (He.fAd K d_l_law_cell.at_), d_l_law_cell⟩) rfl
  obtain ⟨fd_l_law_bag, F_l_law_bag⟩ := c.defn 9 (d := ⟨fun K => (He.fAd K d_l_law_bag.at_), d_l_law_bag⟩) rfl
  obtain ⟨fd_l_law_take, F_l_law_take⟩ := c.defn 10 (d := ⟨fun K => (He.fAd K d_l_law_take.at_), d_l_law_take⟩) rfl
  obtain ⟨fd_l_law_names, F_l_law_names⟩ := c.defn 11 (d := ⟨fun K => (He.fAd K d_l_law_names.at_), d_l_law_names⟩) rfl
  obtain ⟨fd_l_law_pick, F_l_law_pick⟩ := c.defn 12 (d := ⟨fun K => (He.fAd K d_l_law_pick.at_), d_l_law_pick⟩) rfl
  obtain ⟨fd_l_law_near, F_l_law_near⟩ := c.defn 13 (d := ⟨fun K => (He.fAd K d_l_law_near.at_), d_l_law_near⟩) rfl
  obtain ⟨fd_l_law_parts, F_l_law_parts⟩ := c.defn 14 (d := ⟨fun K => (He.fAd K d_l_law_parts.at_), d_l_law_parts⟩) rfl
  obtain ⟨fd_l_law_shape, F_l_law_shape⟩ := c.defn 15 (d := ⟨fun K => (He.fAd K d_l_law_shape.at_), d_l_law_shape⟩) rfl
  obtain ⟨fd_l_law_is_name, F_l_law_is_name⟩ := c.defn 16 (d := ⟨fun K => (He.fAd K d_l_law_is_name.at_), d_l_law_is_name⟩) rfl
  obtain ⟨fd_l_law_read, F_l_law_read⟩ := c.defn 17 (d := ⟨fun K => (He.fAd K d_l_law_read.at_), d_l_law_read⟩) rfl
  obtain ⟨fd_l_law_caught, F_l_law_caught⟩ := c.defn 18 (d := ⟨fun K => (He.fAd K d_l_law_caught.at_), d_l_law_caught⟩) rfl
  obtain ⟨fd_l_law_right, F_l_law_right⟩ := c.defn 19 (d := ⟨fun K => (He.fAd K d_l_law_right.at_), d_l_law_right⟩) rfl
  obtain ⟨fd_l_law_spoilt, F_l_law_spoilt⟩ := c.defn 20 (d := ⟨fun K => (He.fAd K d_l_law_spoilt.at_), d_l_law_spoilt⟩) rfl
  obtain ⟨fd_law, F_law⟩ := c.defn 21 (d := ⟨fun K => (He.fAd K d_law.at_), d_law⟩) rfl
  have e := hfa.symm.trans (He.glo_ok X G (c.look 54))
  cases e
  have b := FunD.bindsA (ps := ["_law_script"]) F_law fun _ _ _ _ _ _ us hl => match us, hl with | [_], _ => rfl
  refine ⟨fd_law, fun s v => b s [v] rfl, fun base X2 G2 => ?_⟩
  have O_is_name := ok_is_name (P := P) (w := w) (base := base) c X G F_is_name
  have O_is_list := ok_is_list (P := P) (w := w) (base := base) c X G F_is_list
  have O_InvalidText_D_init_D := ok_InvalidText_D_init_D (P := P) (w := w) (base := base) c X G F_InvalidText_D_init_D
  have O_Shape_D_init_D := ok_Shape_D_init_D (P := P) (w := w) (base := base) c X G F_Shape_D_init_D O_is_name F_is_name O_is_list F_is_list
  have O_Shape_D_eq_D := ok_Shape_D_eq_D (P := P) (w := w) (base := base) c X G F_Shape_D_eq_D
  have O_Shape_D_str_D := ok_Shape_D_str_D (P := P) (w := w) (base := base) c X G F_Shape_D_str_D
  have O_Shape_D_repr_D := ok_Shape_D_repr_D (P := P) (w := w) (base := base) c X G F_Shape_D_repr_D
  have O_parse_shape := ok_parse_shape (P := P) (w := w) (base := base) c X G F_parse_shape O_Shape_D_init_D F_Shape_D_init_D O_InvalidText_D_init_D F_InvalidText_D_init_D O_is_name F_is_name
  have O_l_law_cell := ok_l_law_cell (P := P) (w := w) (base := base) c X G F_l_law_cell
  have O_l_law_bag := ok_l_law_bag (P := P) (w := w) (base := base) c X G F_l_law_bag
  have O_l_law_take := ok_l_law_take (P := P) (w := w) (base := base) c X G F_l_law_take
  have O_l_law_names := ok_l_law_names (P := P) (w := w) (base := base) c X G F_l_law_names O_l_law_take F_l_law_take
  have O_l_law_pick := ok_l_law_pick (P := P) (w := w) (base := base) c X G F_l_law_pick O_l_law_take F_l_law_take
  have O_l_law_near := ok_l_law_near (P := P) (w := w) (base := base) c X G F_l_law_near O_l_law_take F_l_law_take
  have O_l_law_parts := ok_l_law_parts (P := P) (w := w) (base := base) c X G F_l_law_parts O_l_law_take F_l_law_take O_l_law_near F_l_law_near O_l_law_pick F_l_law_pick
  have O_l_law_shape := ok_l_law_shape (P := P) (w := w) (base := base) c X G F_l_law_shape O_Shape_D_init_D F_Shape_D_init_D O_l_law_take F_l_law_take
  have O_l_law_is_name := ok_l_law_is_name (P := P) (w := w) (base := base) c X G F_l_law_is_name
  have O_l_law_read := ok_l_law_read (P := P) (w := w) (base := base) c X G F_l_law_read O_l_law_is_name F_l_law_is_name
  have O_l_law_caught := ok_l_law_caught (P := P) (w := w) (base := base) c X G F_l_law_caught O_parse_shape F_parse_shape
  have O_l_law_right := ok_l_law_right (P := P) (w := w) (base := base) c X G F_l_law_right O_Shape_D_str_D F_Shape_D_str_D O_Shape_D_eq_D F_Shape_D_eq_D O_Shape_D_init_D F_Shape_D_init_D O_l_law_caught F_l_law_caught O_l_law_read F_l_law_read
  have O_l_law_spoilt := ok_l_law_spoilt (P := P) (w := w) (base := base) c X G F_l_law_spoilt O_l_law_take F_l_law_take
  have O_law := ok_law (P := P) (w := w) (base := base) c X G F_law O_l_law_right F_l_law_right O_Shape_D_init_D F_Shape_D_init_D O_Shape_D_repr_D F_Shape_D_repr_D O_l_law_caught F_l_law_caught O_l_law_parts F_l_law_parts O_l_law_spoilt F_l_law_spoilt O_l_law_shape F_l_law_shape O_Shape_D_str_D F_Shape_D_str_D O_l_law_names F_l_law_names O_l_law_take F_l_law_take O_l_law_bag F_l_law_bag O_l_law_cell F_l_law_cell
  exact O_law
end K09
open PySem PySem.W PySem.Calls PyProof.Rows
theorem PySem.Challenge.cw_searchorders_k09_texts_of_shapes_holds : PySem.Challenge.rw_searchorders_k09_texts_of_shapes.Holds := by
  w_on; o_law
  refine HandSHeadRun.head_any (r := OpenLaw.row PySem.Challenge.rw_searchorders_k09_texts_of_shapes) (q := view (OpenLaw.row PySem.Challenge.rw_searchorders_k09_texts_of_shapes).prog [36]) (H := K09.hk0) (ob := K09.ob0) (M := 12000) (loose := K09.loose0) (d := HandSHeadRun.topDef (OpenLaw.row PySem.Challenge.rw_searchorders_k09_texts_of_shapes).prog 36) (kwd := []) K09.ob_eq0
    (by kernel_rfl) (fun s => by kernel_rfl) K09.run0 (by kernel_rfl) (by kernel_rfl) (by kernel_rfl) (by rfl) (by first | assumption | decide +kernel) (by decide +kernel) ⟨rfl, rfl, rfl, rfl, rfl, by decide +kernel⟩ ?hw ?hc
  case hw => w_witness2
  case hc =>
    refine SL.walk_g (l := PySem.Challenge.rw_searchorders_k09_texts_of_shapes) (n := 63) (k := 7) (x := "_law_script") (CX := L2.CX0) rfl (by decide) (by kernel_rfl) ⟨rfl, by decide, by decide⟩ ?F (fun _ _ _ _ z => z)
    intro w mg fa h Y G hmg0
    obtain ⟨K, KX, c⟩ := Y
    have hmg : mg ("law" : PySem.Str) = some (.ref fa) := by
      have e : (HandSHeadRun.topDef (OpenLaw.row PySem.Challenge.rw_searchorders_k09_texts_of_shapes).prog 36).name = ("law" : PySem.Str) := by kernel_rfl
      rw [← e]
      exact hmg0
    obtain ⟨fd, hb, hF⟩ := K09.facts (P := (PySem.Challenge.rw_searchorders_k09_texts_of_shapes).prog) (w := w) KX G hmg c
    exact ⟨K, fd, K09.sp_law K, KX, hb, fun H a ns hl _ hS => ((K09.law_ok ns hl).elim fun _ h => CM.law_sp h hS), hF⟩
