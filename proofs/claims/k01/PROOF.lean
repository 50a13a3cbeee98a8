import PyProof.Rows.All
import Wide.All
import OpenK.AllK
import Wide.FinOn
import KE.KStateDown
import HandS.ForMost
import HandS.ForExc
import HandS.Defaults
import HandS.Property
import HandS.Head0
import HandS.Head1
import HandS.Head2
import HandS.HeadEnd
import HandS.HeadHook1
import HandS.HeadHook2
import PyProof.ReprRoads
import HandS.ExcInit
import HandS.ExcField
import HandS.ExcValue
import HandS.IsInst
import KE.KExcIs
import PyProof.ReprLen
import PySem.Challenge.RW_copymemos_k01_errors_and_their_fields
set_option Elab.async false
set_option linter.all false
set_option maxRecDepth 100000
set_option maxHeartbeats 0
/-! A head by facts of any form: each fact a Bool of what the top has left; each def at an address that a function of it tells. -/
namespace Hx
open PySem PySem.Spec PyProof.Rows L2 He
/-- one def: where it stands, its name, its qualified name, parameters, body, scope, defaults, keyword-only defaults -/
structure DefX where
  adr : PySem.W.Frag → Addr
  name : Str
  qual : Str
  params : Arguments
  body : List Stmt
  scope : Scope
  dfl : List Dv := []
  kwd : List (Str × Dv) := []
def fnX (K : PySem.W.Frag) (a : Addr) : FnW := match K.lookup a with
  | some ⟨_, _, .func fd, _⟩ => some (fd.name, fd.qualname, fd.params, fd.body, fd.scope, fd.globals, fd.closure, fd.builtins)
  | _ => none
def DefX.val (d : DefX) : FnW := some (d.name, d.qual, d.params, .stmts d.body, d.scope, mainGlobals, [], builtinsNs)
def DefX.dvs (K : PySem.W.Frag) (d : DefX) : List V := d.dfl.map (Dv.v K)
def DefX.kws (K : PySem.W.Frag) (d : DefX) : List (Str × V) := d.kwd.map fun q => (q.1, q.2.v K)
def DefX.ok (K : PySem.W.Frag) (d : DefX) : Bool := PySem.W.keepIn K (.ref (d.adr K)) && (match K.lookup (d.adr K) with
  | some ⟨_, _, .func fd, _⟩ => PySem.W.codeIn K fd.code d.qual && (dflB K fd.defaults (d.dvs K) && kwdB K fd.kwdefaults (d.kws K))
  | _ => false)
theorem DefX.funD {K : PySem.W.Frag} {d : DefX} (e : fnX K (d.adr K) = d.val) (c : d.ok K = true) : ∃ fd, FunD K d.name d.qual d.params d.body d.scope (d.dvs K) (d.kws K) (d.adr K) fd := by
  obtain ⟨kp, c2⟩ := ba c
  unfold fnX at e
  cases q : K.lookup (d.adr K) with
  | none =>
    rw [q] at c2
    cases c2
  | some o =>
    obtain ⟨oc, od, dt, osl⟩ := o
    rw [q] at c2 e
    cases dt with
    | func fd =>
      obtain ⟨n1, n2, n3, n4, n5, n6, n7, n8, n9, n10, n11, n12, n13, n14, n15⟩ := fd
      have e2 : (some (n1, n2, n3, n4, n5, n6, n7, n15) : FnW) = some (d.name, d.qual, d.params, .stmts d.body, d.scope, mainGlobals, [], builtinsNs) := e
      simp only [Option.some.injEq, Prod.mk.injEq] at e2
      obtain ⟨h1, h2, h3, h4, h5, h6, h7, h8⟩ := e2
      subst h1 h2 h3 h4 h5 h6 h7 h8
      have c3 : (PySem.W.codeIn K n13 d.qual && (dflB K n8 (d.dvs K) && kwdB K n9 (d.kws K))) = true := c2
      obtain ⟨k1, k2⟩ := ba c3
      obtain ⟨k3, k4⟩ := ba k2
      exact ⟨_, ⟨oc, od, n8, n9, n10, n11, n12, n13, n14, osl, rfl, q, k1, dflB_ok k3, kwdB_ok k4⟩, kp⟩
    | _ => cases c2
abbrev AlX : Type := Bool × List FnW
def obsX (fx : List (PySem.W.Frag → Bool)) (fn : List DefX) (K : PySem.W.Frag) : AlX := ((fx.all fun f => f K) && fn.all fun d => d.ok K, fn.map fun d => fnX K (d.adr K))
def valX (fn : List DefX) : AlX := (true, fn.map DefX.val)
def SaysX (fx : List (PySem.W.Frag → Bool)) (fn : List DefX) (K : PySem.W.Frag) : Prop := obsX fx fn K = valX fn
/-- what an object names: no code object is opened, of a class its own names -/
def refsX (o : Obj) : List Addr := match o.data with
  | .seq its _ => its.toList.flatMap refV
  | .dict es _ => es.toList.flatMap fun e => refV e.val
  | .func fd => refV fd.code ++ (refV fd.defaults ++ refV fd.kwdefaults)
  | .cls cd => [cd.ns]
  | .fields vs => (match o.cls with
    | .type "property" => vs.toList.flatMap refV
    | _ => [])
  | _ => []
def nextX (g : Addr → Option Obj) (as : List Addr) : List Addr := as.flatMap fun a => match g a with
  | some o => refsX o
  | none => []
/-- the addresses that are met in n steps from the module's names -/
def asX (g : Addr → Option Obj) : Nat → List Addr → List Addr
  | 0, as => as
  | n + 1, as => as ++ asX g n (nextX g as)
def obsXG (n : Nat) (fx : List (PySem.W.Frag → Bool)) (fn : List DefX) (g : Addr → Option Obj) : AlX := obsX fx fn (frG g (asX g n [mainGlobals]))
def hookX (n : Nat) (fx : List (PySem.W.Frag → Bool)) (fn : List DefX) : PySem.W.Hook where
  α := AlX
  obs := fun s => obsXG n fx fn s.heap.get?
  val := fun _ => valX fn
  says := fun _ h => ∃ K : PySem.W.Frag, K.In h ∧ SaysX fx fn K
  of := fun _ _ e => ⟨_, frG_in, e⟩
  keeps := fun _ _ _ ⟨K, hK, c⟩ k => ⟨K, PySem.W.Frag.In.keeps hK k, c⟩
theorem obsXG_eq {n : Nat} {fx : List (PySem.W.Frag → Bool)} {fn : List DefX} {g : Addr → Option Obj} {s : Shared} (h : ∀ a, g a = s.heap.get? a) : obsXG n fx fn g = (hookX n fx fn).obs s := by
  have e : g = s.heap.get? := funext h
  rw [e] <;> rfl
section
variable {fx : List (PySem.W.Frag → Bool)} {fn : List DefX} {K : PySem.W.Frag}
theorem SaysX.all (c : SaysX fx fn K) : (fx.all fun f => f K) = true :=
  (ba (show ((fx.all fun f => f K) && fn.all fun d => d.ok K) = true from congrArg (fun z : AlX => z.1) c)).1
theorem SaysX.fact (c : SaysX fx fn K) (i : Nat) {f : PySem.W.Frag → Bool} (h : fx[i]? = some f := by rfl) : f K = true :=
  List.all_eq_true.mp c.all f (List.mem_of_getElem? h)
theorem SaysX.def_ (c : SaysX fx fn K) (i : Nat) {d : DefX} (h : fn[i]? = some d := by rfl) : ∃ fd, FunD K d.name d.qual d.params d.body d.scope (d.dvs K) (d.kws K) (d.adr K) fd := by
  have c2 := (ba (show ((fx.all fun f => f K) && fn.all fun d => d.ok K) = true from congrArg (fun z : AlX => z.1) c)).2
  have e : fn.map (fun d => fnX K (d.adr K)) = fn.map DefX.val := congrArg (fun z : AlX => z.2) c
  have e2 : (fn.map fun d => fnX K (d.adr K))[i]? = (fn.map DefX.val)[i]? := by rw [e]
  rw [List.getElem?_map, List.getElem?_map, h] at e2
  exact DefX.funD (Option.some.inj e2) (List.all_eq_true.mp c2 d (List.mem_of_getElem? h))
end
/-- the function object behind a property of a class -/
def pa (K : PySem.W.Frag) (C : Addr) (m : Str) : Addr := match PySem.W.findIn K (.ref C) m with
  | some (some (.ref p)) => (match PySem.W.recIn K p "property" with
    | some (.ref g :: _) => g
    | _ => 0)
  | _ => 0
end Hx
/-! Defs that are called where no repr runs (guards are known): what repr of data asks. After the library's FnOk, fn_of, law_call. -/
namespace L2
open PySem PySem.Spec PyProof.Rows
/-- as FnOk, where no guard of a repr is up -/
structure FnG (P : Program) (w : World) (K : PySem.W.Frag) (mg : Str → Option Value) (base : Heap) (CX : CXT) (k : Nat) (f : Addr) (fd : FuncData) (ps : List Str) (sp : Sp) : Prop where
  len : ∀ vs H Q E, sp vs H Q E → vs.length = ps.length
  run : ∀ (A : Around) (outer : List Env) (s : Shared) (H : Hp) (args : Args) (us : List Value) (vs : List V) (Q : VK) (E : XK), Room k A → A.guards = some [] → Env0 P w K mg base A outer s H → BindsTo s fd args (ps.zip us) → Vals vs us → sp vs H Q E →
    codeAny (model P w) A (.call (.ref f) args) (CR CX outer P w H s Q E) s
theorem FnOk.toG {P : Program} {w : World} {K : PySem.W.Frag} {mg : Str → Option Value} {base : Heap} {CX : CXT} {k : Nat} {f : Addr} {fd : FuncData} {ps : List Str} {sp : Sp} (F : FnOk P w K mg base CX k f fd ps sp) : FnG P w K mg base CX k f fd ps sp :=
  ⟨F.len, fun A outer s H args us vs Q E hr _ => F.run A outer s H args us vs Q E hr⟩
theorem FnG.mono {P : Program} {w : World} {K : PySem.W.Frag} {mg : Str → Option Value} {base : Heap} {CX : CXT} {j k : Nat} {f : Addr} {fd : FuncData} {ps : List Str} {sp : Sp} (F : FnG P w K mg base CX j f fd ps sp) (h : j ≤ k) :
    FnG P w K mg base CX k f fd ps sp := ⟨F.len, fun A outer s H args us vs Q E hr => F.run A outer s H args us vs Q E (hr.mono h)⟩
theorem fnG_of {CX : CXT} {P : Program} {w : World} {K : PySem.W.Frag} {mg : Str → Option Value} {base : Heap} {k : Nat} {f : Addr} {name qual : Str} {params : Arguments} {body : List Stmt} {scope : Scope} {dV kV doc pm cdv ct oc : Value} {an od : Option Addr}
    {osl : Array (Option Value)} {N ps : List Str} {sp : Sp} (lk : K.lookup f = some ⟨oc, od, .func (PySem.W.fnOf name qual params body scope dV kV doc pm an cdv ct), osl⟩) (hcd : PySem.W.codeIn K cdv qual = true) (S : FnScope N ps scope)
    (len : ∀ vs H Q E, sp vs H Q E → vs.length = ps.length)
    (hbody : ∀ (A : Around) (outer : List Env) (s : Shared) (H : Hp) (vs : List V) (Q : VK) (E : XK), Room k (A.deeper (envOfC qual scope s.heap.objs.size f cdv)) → A.guards = some [] → sp vs H Q E →
      ∃ t, PSs (cxOf CX P w K mg base N qual scope f cdv A outer s H E) body t ∧ t { nx := fun _ H' => Q .non H', rt := Q } (start N vs) H) :
    FnG P w K mg base CX (k + 1) f (PySem.W.fnOf name qual params body scope dV kV doc pm an cdv ct) ps sp := by
  refine ⟨len, fun A outer s H args us vs Q E hr hgd e0 hb r hsp => ?_⟩
  have hl := len _ _ _ _ hsp
  have KX : K.In s.heap := e0.mod.kin.keeps fun b o e => (e0.bs b o e).1
  have lim : s.heap.NoLimit := e0.mod.nolimit.keeps fun b o e => (e0.bs b o e).1
  have hkind : ∀ y ∈ ps.zip us, scope.names.lookup y.1 = some .local ∨ (scope.names.lookup y.1 = some .cell ∧ ((cellsFrom (s.heap.objs.size + 1) scope.names []).lookup y.1).isSome = true) := fun ⟨n, v⟩ hy => by
    rcases S.par n (List.of_mem_zip hy).1 with q | q
    · exact .inl q
    · exact .inr ⟨q, PySem.W.cellsFrom_some _ _ _ (.inl q)⟩
  refine codeAny_call_function hr.depth (KX _ _ lk) rfl S.co S.gen rfl (PySem.W.codeRec_of KX hcd) (hb _ _ _ _ ?_)
  refine wpAny_newFunctionEnv_cells S.kind hkind fun env he s1 x => ?_
  subst he
  refine ⟨lim.keeps x.toInCall.keep, codeAny_func ?_⟩
  obtain ⟨t, ht, hq⟩ := hbody A outer s H vs Q E (hr.deeper _) hgd hsp
  have I : Inv (cxOf CX P w K mg base N qual scope f cdv A outer s H E) [] (start N vs) H s1 := inv_start S hr.hd e0 hl r x
  refine wpAny_mono (ht.run [] s1 (start N vs) H _ I hq) (fun fl s' hs => ?_) fun e s' hs => hs
  have fin : ∀ {σ' : St} {H' : Hp} {v : V} {u : Value}, Inv (cxOf CX P w K mg base N qual scope f cdv A outer s H E) [] σ' H' s' → RelV v u → Q v H' → CE outer P w H s Q u s' :=
    fun {σ' H' v u} J rv q => ⟨v, H', J.os, J.bare, J.base, J.hok, rv, q⟩
  cases fl with
  | ret u =>
    obtain ⟨v, σ', H', J, rv, q⟩ := hs
    exact fin J rv q
  | next =>
    obtain ⟨σ', H', J, q⟩ := hs
    exact fin (v := V.non) (u := Value.none) J rfl q
  | brk =>
    obtain ⟨_, _, _, q⟩ := hs
    exact False.elim q
  | cont =>
    obtain ⟨_, _, _, q⟩ := hs
    exact False.elim q
theorem law_callG {P : Program} {w : World} {K : PySem.W.Frag} {mg mb : Str → Option Value} {CX : CXT} {k : Nat} {fa a : Addr} {fd : FuncData} {x : Str} {sp : Sp} {s₁ : Shared} {vs : List Value} {ns : List Int}
    (KX : K.In s₁.heap) (hns : s₁.heap.Ns mainGlobals mg) (hb : s₁.heap.Ns builtinsNs mb) (hbb : ∀ x : Str, x ≠ "__name__" → mb x = bootBuiltins x) (hlim : s₁.heap.NoLimit) (hg : s₁.gens = #[])
    (ha : s₁.heap.get? a = some { cls := .type "list", data := .seq vs.toArray }) (hi : IntsAre vs ns) (hl : ns.length ≤ sizeLine) (hr : Room k callerA)
    (F : ∀ base : Heap, K.In base → base.Ns mainGlobals mg → FnG P w K mg base CX k fa fd [x] sp) (hbind : ∀ (s : Shared) (u : Value), BindsTo s fd ⟨[u], []⟩ [(x, u)])
    (hsp : ∀ H : Hp, Only H → SqL K H a (ns.map V.int) → sp [.ref a] H (fun v _ => v = .bl true) fun _ _ _ => False)
    (hCX : ∀ H e s', CX [] H s₁ (fun _ _ _ => False) e s' → False) :
    codeAny (model P w) callerA (.call (.ref fa) ⟨[.ref a], []⟩) (fun r s' => r = .ok (.ret (.bool true)) ∧ OldK s₁.heap s'.heap ∧ s'.os = s₁.os ∧ AllBare s'.gens) s₁ := by
  have rv := vals_ints hi
  have lenV := hi.length
  -- from an abstract heap in which nothing but the script may be tracked
  have core : ∀ H : Hp, Only H → SqL K H a (ns.map V.int) → HOk P w H s₁.heap → (∀ b, H b ≠ none → b = a) → (H a ≠ none → K.lookup a = none) →
      codeAny (model P w) callerA (.call (.ref fa) ⟨[.ref a], []⟩) (fun r s' => r = .ok (.ret (.bool true)) ∧ OldK s₁.heap s'.heap ∧ s'.os = s₁.os ∧ AllBare s'.gens) s₁ := by
    intro H hO hS hok hA hK
    have base_of : ∀ {b : Addr} {o : Obj}, s₁.heap.get? b = some o → H b = none → (hidT s₁.heap H).get? b = some o := fun e n => hidT_get e n
    have noA : ∀ {b : Addr} {o : Obj} {es : Array DictEntry} {ep : Nat}, s₁.heap.get? b = some o → o.data = .dict es ep → H b = none := fun {b o es ep} e d => by
      cases q : H b with
      | none => rfl
      | some u =>
        have e' : b = a := hA b (by rw [q]; simp)
        subst e'
        rw [ha] at e; cases e
        have d' : Data.seq vs.toArray _ = Data.dict es ep := d
        cases d'
    have nsK : ∀ {b : Addr} {m : Str → Option Value}, s₁.heap.Ns b m → (hidT s₁.heap H).Ns b m := fun {b m} ⟨o, es, ep, e, d, r⟩ => ⟨o, es, ep, base_of e (noA e d), d, r⟩
    have hKb : K.In (hidT s₁.heap H) := fun b o e => base_of (KX b o e) (by
      cases q : H b with
      | none => rfl
      | some u =>
        have e' : b = a := hA b (by rw [q]; simp)
        subst e'
        rw [hK (by rw [q]; simp)] at e; cases e)
    have hM : Mod K mg (hidT s₁.heap H) := ⟨hKb, nsK hns, ⟨mb, nsK hb, hbb⟩, let ⟨mc, h1, h2⟩ := hlim; ⟨mc, nsK h1, h2⟩⟩
    have e0 : Env0 P w K mg (hidT s₁.heap H) callerA [] s₁ H := ⟨rfl, hM, fun b o e => of_hidT e, Nat.le_of_eq (hidT_size _ _), trivial, fun b hb => absurd (show b ∈ ([] : List Addr) from hb) (by simp), hok, .of_eq hg⟩
    refine codeAny_mono ((F _ hKb (nsK hns)).run callerA [] s₁ H ⟨[.ref a], []⟩ [.ref a] [.ref a] _ _ hr rfl e0 (hbind s₁ (.ref a)) (.cons rfl .nil) (hsp H hO hS)) fun r s' h => ?_
    cases r with
    | error e => exact (hCX H e s' h).elim
    | ok fl =>
      cases fl with
      | next => exact False.elim h
      | brk => exact False.elim h
      | cont => exact False.elim h
      | ret u =>
        obtain ⟨v, H', os, bare, un, hok', r', q⟩ := h
        have q' : v = .bl true := q
        subst q'
        obtain rfl : u = Value.bool true := r'
        refine ⟨rfl, OldK.of_keep fun b o e => ?_, os, bare⟩
        cases q : H b with
        | none => exact un.keep b o e q (by intro z; exact absurd (show b ∈ ([] : List Addr) from z) (by simp)) (by simp)
        | some u =>
          rcases hO b with z | ⟨ob, xs, z⟩
          · rw [q] at z; cases z
          · have z2 := un.frzs b ob _ z
            obtain ⟨e1, _⟩ := hok b _ z
            obtain ⟨e2, _⟩ := hok' b _ z2
            rw [e] at e1; cases e1
            exact e2
  cases hk : K.lookup a with
  | some o =>
    -- the script is one of the module's own objects
    have e := KX a o hk
    rw [ha] at e
    cases e
    refine core (fun _ => none) (fun _ => .inl rfl) (.inr ⟨_, vs.toArray, _, hk, rfl, rfl, rfl, by rw [List.size_toArray, lenV]; exact hl, by simpa using rv⟩) (fun b u z => by have z' : (none : Option HO) = some u := z; cases z') (fun b z => absurd rfl z) fun z => absurd rfl z
  | none =>
    refine core (fun b => if b = a then some (.frz { cls := .type "list", data := .seq vs.toArray } (.lst (ns.map V.int))) else none) (fun b => ?_) (.inl (.inr ⟨{ cls := .type "list", data := .seq vs.toArray }, if_pos rfl⟩)) (fun b u z => ?_) (fun b z => ?_) fun _ => hk
    · by_cases hb : b = a
      · exact .inr ⟨_, _, if_pos hb⟩
      · exact .inl (if_neg hb)
    · by_cases hb : b = a
      · have z' := (if_pos hb).symm.trans z
        cases z'
        subst hb
        exact ⟨ha, by rw [List.length_map]; exact hl, vs, _, rv, ha⟩
      · have z' := (if_neg hb).symm.trans z
        cases z'
    · by_cases hb : b = a
      · exact hb
      · exact absurd (if_neg hb) z
section
variable {P : Program} {w : World} {K : PySem.W.Frag} {mg : Str → Option Value} {base : Heap} {x qual : Str} {params : Arguments} {body : List Stmt} {scope : Scope} {dvs : List V} {kws : List (Str × V)} {f : Addr} {fd : FuncData}
/-- THE RULE for such a def, where no repr runs -/
theorem FunD.okG {CX : CXT} {N ps : List Str} {k : Nat} {sp : Sp} (F : FunD K x qual params body scope dvs kws f fd) (S : FnScope N ps scope) (len : ∀ vs H Q E, sp vs H Q E → vs.length = ps.length)
    (hbody : ∀ (cdv : Value) (A : Around) (outer : List Env) (s : Shared) (H : Hp) (vs : List V) (Q : VK) (E : XK), Room k (A.deeper (envOfC qual scope s.heap.objs.size f cdv)) → A.guards = some [] → sp vs H Q E →
      ∃ t, PSs (cxOf CX P w K mg base N qual scope f cdv A outer s H E) body t ∧ t { nx := fun _ H' => Q .non H', rt := Q } (start N vs) H) : FnG P w K mg base CX (k + 1) f fd ps sp := by
  obtain ⟨oc, od, dV, kV, doc, pm, an, cdv, ct, osl, rfl, lk, hcd, _, _⟩ := F.ex
  exact fnG_of lk hcd S len fun A outer s H vs Q E hr hgd hsp => hbody cdv A outer s H vs Q E hr hgd hsp
end
section
variable {X : Cx} {CX : CXT} {k : Nat} {f : Addr} {fd : FuncData} {ps : List Str} {sp : Sp} {dvs : List V} {ds : List Value} {E : XK} {x : Str} {p pos : Pos} {e : Expr} {es : List Expr} {t : TA}
theorem run_fnG {pins : List (Addr × Obj)} {σ : St} {H : Hp} {s : Shared} {Q : VK} {us : List Value} {vs : List V} (F : FnG X.prog X.w X.K X.mg X.base CX k f fd ps sp) (hgd : X.A.guards = some []) (hr : Room k X.A) (hb : Binds X.K fd ps ds) (hd : Vals dvs ds) (hx : Passes CX X E)
    (I : Inv X pins σ H s) (r : Vals vs us) (h : sp (vs ++ dvs) H Q E) : wpAny (model X.prog X.w) X.A (call (.ref f) us) (EP X pins σ Q) X.xe s := by
  have r2 : Vals (vs ++ dvs) (us ++ ds) := r.append hd
  have hl : (us ++ ds).length = ps.length := by rw [← r2.length]; exact F.len _ _ _ _ h
  refine wpAny_call (codeAny_mono (F.run X.A X.stack s H ⟨us, []⟩ (us ++ ds) (vs ++ dvs) Q E hr hgd I.env0 (hb s us I.kIn hl) r2 h) fun r s' hq => ?_)
  cases r with
  | error e => exact hx pins σ H s e s' I hq
  | ok fl =>
    cases fl with
    | ret u => exact I.after hq
    | next => exact False.elim hq
    | brk => exact False.elim hq
    | cont => exact False.elim hq
/-- f(e, ..), f such a def -/
theorem pe_callG (F : FnG X.prog X.w X.K X.mg X.base CX k f fd ps sp) (hgd : X.A.guards = some []) (hr : Room k X.A) (hg : Gl X x) (hm : X.mg x = some (.ref f)) (hk : PySem.W.keepIn X.K (.ref f) = true) (hb : Binds X.K fd ps ds) (hd : Vals dvs ds) (hx : Passes CX X E)
    (ha : PA X (e :: es) t) (hdb : (x == ("__debug__" : Str)) = false := by decide) (he : starEach (e :: es) X.env = (false, eval e X.env) :: starEach es X.env := by rfl) (hpl : (backTo pos (starEach es X.env)).any (·.1) = false := by rfl) :
    PE X (.Call (.Name x p) (e :: es) [] pos) (tCall sp dvs E t) := by
  refine ⟨fun pins s σ H Q I h => ?_⟩
  refine wpAny_Call_Name_kw (ld_glob I hg hm ?_ hdb)
  refine PySem.W.callWith_K (h₀ := X.base) I.ok.mod.kin hk (thn (ha.run pos pins s σ H _ I h) fun us s1 ⟨vs, H1, I1, r, q⟩ => ⟨I1.kIn, ?_⟩) he hpl
  exact run_fnG F hgd hr hb hd hx I1 r q
/-- repr(x), x plain data -/
def rRepr (K : PySem.W.Frag) : List V → Hp → VK → Prop := fun xs H Q => ∃ (x : V) (d : PyData), xs = [x] ∧ Dp K H x d ∧ d.showable = true ∧ d.shown.length ≤ sizeLine ∧ d.depth ≤ 60 ∧ Q (.str d.shown) H
theorem Dp.noDict {K : PySem.W.Frag} {H : Hp} : ∀ {d : PyData} {v : V}, Dp K H v d → d.hasDict = false := by
  intro d v h
  induction h using Dp.rec (motive_2 := fun vs ds _ => PyData.hasDictAll ds = false) with
  | non => rfl
  | bl b => rfl
  | int i => rfl
  | str x => rfl
  | lst _ _ ih => simpa only [PyData.hasDict] using ih
  | tup _ _ ih => simpa only [PyData.hasDict] using ih
  | nil => rfl
  | cons _ _ i1 i2 => simp only [PyData.hasDictAll, i1, i2, Bool.or_self]
theorem call_repr (hgd : X.A.guards = some []) (hu : X.A.units + 64 < cLine) : CallR X (.builtin "repr") (rRepr X.K) := by
  intro pins s σ H xs us Q I r h
  obtain ⟨x, d, rfl, hd, hs, hl, hdp, q⟩ := h
  obtain ⟨u, rfl, rx⟩ := vals1 r
  have nd := hd.noDict
  obtain ⟨as, rd⟩ := Dp.reads I d x u hd rx
  cases hd with
  | non => cases rx; exact PySem.P.repr_of_none ⟨V.str _, H, I.tok _, ⟨_, rfl⟩, by simpa only [PyData.shown] using q⟩
  | bl b => cases rx; exact PySem.P.repr_of_bool ⟨V.str _, H, I.tok _, ⟨_, rfl⟩, by simpa only [PyData.shown] using q⟩
  | int i =>
    obtain ⟨t, rfl⟩ := rx
    exact PySem.P.repr_of_int (by simpa [PyData.showable] using hs) ⟨V.str _, H, I.tok _, ⟨_, rfl⟩, by simpa only [PyData.shown] using q⟩
  | str y =>
    obtain ⟨t, rfl⟩ := rx
    exact PySem.P.repr_of_str ⟨V.str _, H, I.tok _, ⟨_, rfl⟩, by simpa only [PyData.shown] using q⟩ (by simpa only [PyData.shown] using hl)
  | lst h1 h2 =>
    cases rx
    exact PySem.repr_of_reads' rd hs (PyData.noDict_hsm nd) hgd (by omega) (fun _ _ e => e) (fun h1 u tk k => ⟨V.str _, H, I.kept k, ⟨u, rfl⟩, q⟩) hl
  | tup h1 h2 =>
    cases rx
    exact PySem.repr_of_reads' rd hs (PyData.noDict_hsm nd) hgd (by omega) (fun _ _ e => e) (fun h1 u tk k => ⟨V.str _, H, I.kept k, ⟨u, rfl⟩, q⟩) hl
end
/-- the law's end over a head by facts -/
theorem walk_ofG {l : PySem.W.OpenLaw} {n k : Nat} {q : Program} {loose : List Str} {XP : (Str → Option Value) → Heap → Prop} {YP : World → Heap → Prop} {d : DefRec} {CX : CXT} {x : Str}
    (hn : l.most = some n) (hn2 : n ≤ sizeLine) (hdf : d.params.defaults = []) (hr : Room k callerA)
    (F : ∀ (w : World) (mg : Str → Option Value) (fa : Addr) (h : Heap), YP w h → h.Ns mainGlobals mg → mg d.name = some (.ref fa) →
      ∃ (K : PySem.W.Frag) (fd : FuncData) (sp : Sp), K.In h ∧ (∀ (s : Shared) (u : Value), BindsTo s fd ⟨[u], []⟩ [(x, u)]) ∧
        (∀ (H : Hp) (a : Addr) (ns : List Int), ns.length ≤ n → Only H → SqL K H a (ns.map V.int) → sp [.ref a] H (fun v _ => v = .bl true) fun _ _ _ => False) ∧
        ∀ base : Heap, K.In base → base.Ns mainGlobals mg → FnG l.prog w K mg base CX k fa fd [x] sp)
    (hCX : ∀ (H : Hp) (s : Shared) (e : Value) (s' : Shared), CX [] H s (fun _ _ _ => False) e s' → False) :
    PySem.W.WalkO q loose XP YP l.row.toRowW d [] (fun f vs => PySem.call f vs) := by
  refine Att.attach_call hn hdf fun w s₀ s₁ mg mb fa o pm cd doc a vs ns G Y ho hd hcd hmg hobj hints hlen hg => ?_
  obtain ⟨K, fd, sp, KX, hb, hsp, hF⟩ := F w mg fa _ Y G.T.g hmg
  exact law_callG KX G.T.g G.T.b G.T.builtins G.T.nolimit hg hobj hints (Nat.le_trans hlen hn2) hr hF hb (fun H hO hS => hsp H a ns hlen hO hS) fun H e s' => hCX H s₁ e s'
end L2
/-! Calls by what stands at a module's name; powers of great ints. -/
namespace L2
open PySem PySem.Spec PyProof.Rows
/-- what a call of the module's name x leans on -/
structure Cal (P : Program) (w : World) (K : PySem.W.Frag) (mg : Str → Option Value) (base : Heap) (CX : CXT) (k : Nat) (x : Str) (ps : List Str) (sp : Sp) (dvs : List V) : Prop where
  ex : ∃ (f : Addr) (fd : FuncData) (ds : List Value), FnOk P w K mg base CX k f fd ps sp ∧ mg x = some (.ref f) ∧ PySem.W.keepIn K (.ref f) = true ∧ Binds K fd ps ds ∧ Vals dvs ds
structure CalG (P : Program) (w : World) (K : PySem.W.Frag) (mg : Str → Option Value) (base : Heap) (CX : CXT) (k : Nat) (x : Str) (ps : List Str) (sp : Sp) (dvs : List V) : Prop where
  ex : ∃ (f : Addr) (fd : FuncData) (ds : List Value), FnG P w K mg base CX k f fd ps sp ∧ mg x = some (.ref f) ∧ PySem.W.keepIn K (.ref f) = true ∧ Binds K fd ps ds ∧ Vals dvs ds
section
variable {X : Cx} {CX : CXT} {k : Nat} {ps : List Str} {sp : Sp} {dvs : List V} {E : XK} {x : Str} {p pos : Pos} {e : Expr} {es : List Expr} {t : TA}
/-- x(e, ..) -/
theorem pe_c (c : Cal X.prog X.w X.K X.mg X.base CX k x ps sp dvs) (hr : Room k X.A) (hx : Passes CX X E) (ha : PA X (e :: es) t) (hg : Gl X x := by rfl)
    (hdb : (x == ("__debug__" : Str)) = false := by decide) (he : starEach (e :: es) X.env = (false, eval e X.env) :: starEach es X.env := by rfl) (hpl : (backTo pos (starEach es X.env)).any (·.1) = false := by rfl) :
    PE X (.Call (.Name x p) (e :: es) [] pos) (tCall sp dvs E t) := by
  obtain ⟨f, fd, ds, F, hm, hk, hb, hd⟩ := c.ex
  exact pe_call F hr hg hm hk hb hd hx ha hdb he hpl
/-- x() -/
theorem pe_c0 (c : Cal X.prog X.w X.K X.mg X.base CX k x ps sp dvs) (hr : Room k X.A) (hx : Passes CX X E) (hg : Gl X x := by rfl) (hdb : (x == ("__debug__" : Str)) = false := by decide) :
    PE X (.Call (.Name x p) [] [] pos) (tCall sp dvs E tNil) := by
  obtain ⟨f, fd, ds, F, hm, hk, hb, hd⟩ := c.ex
  exact pe_call0 F hr hg hm hk hb hd hx hdb
/-- x(e, ..), no repr around -/
theorem pe_cG (c : CalG X.prog X.w X.K X.mg X.base CX k x ps sp dvs) (hgd : X.A.guards = some []) (hr : Room k X.A) (hx : Passes CX X E) (ha : PA X (e :: es) t) (hg : Gl X x := by rfl)
    (hdb : (x == ("__debug__" : Str)) = false := by decide) (he : starEach (e :: es) X.env = (false, eval e X.env) :: starEach es X.env := by rfl) (hpl : (backTo pos (starEach es X.env)).any (·.1) = false := by rfl) :
    PE X (.Call (.Name x p) (e :: es) [] pos) (tCall sp dvs E t) := by
  obtain ⟨f, fd, ds, F, hm, hk, hb, hd⟩ := c.ex
  exact pe_callG F hgd hr hg hm hk hb hd hx ha hdb he hpl
end
/-- a ** b, of any size that the model takes -/
def CPowW (i j : Int) : Prop := 0 ≤ j ∧ (Builtin.Int.intBits i : Int) * j ≤ 2 ^ 27
theorem op_powW {X : Cx} : OpR X (binaryOp .Pow) (rI CPowW fun i j => .int (i ^ j.toNat)) := opI fun _ _ _ _ _ _ _ hc q => pow_int hc.1 hc.2 q
theorem bits_lt {i : Int} {n : Nat} (h : i.natAbs < 2 ^ n) : Builtin.Int.intBits i ≤ n := by
  unfold Builtin.Int.intBits
  split
  · exact Nat.zero_le _
  · rename_i hz
    have hz' : i.natAbs ≠ 0 := by simpa using hz
    have := (Nat.log2_lt hz').mpr h
    omega
theorem CPowW.of {i j : Int} {n m : Nat} (hj : j = (m : Int)) (h : i.natAbs < 2 ^ n) (hs : n * m ≤ 2 ^ 27) : CPowW i j := by
  subst hj
  refine ⟨by omega, ?_⟩
  have h1 := bits_lt h
  have h2 : Builtin.Int.intBits i * m ≤ n * m := Nat.mul_le_mul_right m h1
  have h3 : (Builtin.Int.intBits i * m : Nat) ≤ 2 ^ 27 := Nat.le_trans h2 hs
  exact_mod_cast h3
end L2
/-! Exceptions of own classes with an own __init__ over any built-in base, made by places and by names, held as values. The steps follow the library's own for ValueError, with the chain of bases left open. -/
namespace PySem.XV
open PySem.W PySem.Calls PySem.HandSPX
/-- what a chain of bases must bear for the making -/
structure Chain (B : String) (bm : List Value) : Prop where
  hB : bm.contains (.type B) = true
  hA : bm.contains (.type "AttributeError") = false
  hN : bm.contains (.type "NameError") = false
def chainB (B : String) (bm : List Value) : Bool := bm.contains (.type B) && (!bm.contains (.type "AttributeError") && !bm.contains (.type "NameError"))
theorem Chain.of {B : String} {bm : List Value} (h : chainB B bm = true) : Chain B bm := by
  unfold chainB at h
  simp only [Bool.and_eq_true, Bool.not_eq_true'] at h
  exact ⟨h.1, h.2.1, h.2.2⟩
section
variable {M : Model} {A : Around} {E : Value → Shared → Prop} {h : Heap} {g : Array GenState} {d : Drawn} {t : Nat} {os : OsState}
variable {nm q : Str} {C N : Addr} {bs bm bmB : List Value} {hdct : Bool} {sn : List Str} {sub : List Value} {ab : Bool} {col : Option Bool} {dd : Option Addr} {k0 k1 k2 k3 k5 : Option Value} {B newId initId : String}
theorem check_newG (F : ExcBaseFacts B newId initId bmB) (hT : Chain B bm) {rest : List Value} {kw : List (Str × Value)} {Q : Unit → Shared → Prop}
    (hC : h.get? C = some (excClassObj nm q C N bs bm hdct sn sub ab col dd k0 k1 k2 k3 k5 newId)) (hq : Q () ⟨h, g, d, t, os⟩) : wpAny M A (checkBuiltinCall newId ⟨.ref C :: rest, kw⟩) Q E ⟨h, g, d, t, os⟩ := by
  have hcont : (Value.ref C :: bm).contains (.type B) = true := by rw [List.contains_cons, hT.hB, Bool.or_true]
  have hstar := F.noStar
  simp only [checkBuiltinCall, F.newKind, F.newSplit, F.newRow]
  repeat (first | refine wpAny_loadPart_at hC ?_ | (refine wpAny_isSubtype_exc hC ?_; rw [hcont]) | refine wpAny_staticBase_exc hC ?_ | refine wpAny_madeBy_exc hC ?_ | simp only [bne_self_eq_false, Bool.false_eq_true, if_false] | wp_step)
  exact hq
end
section
variable {prog : Program} {w : World} {A : Around} {E : Value → Shared → Prop} {R : Result → Shared → Prop} {h : Heap} {g : Array GenState} {d : Drawn} {t : Nat} {os : OsState}
variable {nm q : Str} {C N : Addr} {bs bm bmB : List Value} {hdct : Bool} {sn : List Str} {sub : List Value} {ab : Bool} {col : Option Bool} {dd : Option Addr} {k0 k1 k2 k3 k5 : Option Value} {B newId initId : String}
theorem newG (F : ExcBaseFacts B newId initId bmB) (hT : Chain B bm) {rest : List Value} {kw : List (Str × Value)}
    (hC : h.get? C = some (excClassObj nm q C N bs bm hdct sn sub ab col dd k0 k1 k2 k3 k5 newId))
    (hq : R (.ok (.ret (.ref (h.objs.size + 1)))) ⟨(h.push { cls := .type "tuple", data := .seq rest.toArray }).push
      { cls := .ref C, data := .fields #[.ref h.objs.size, .none, .none, .none, .bool false, .none] }, g, d, t, os⟩) (hrest : rest.length ≤ sizeLine) :
    codeAny (model prog w) A (.builtin newId ⟨.ref C :: rest, kw⟩) R ⟨h, g, d, t, os⟩ := by
  have hends := F.ends
  have hcB : (Value.ref C :: bm).contains (.type B) = true := by rw [List.contains_cons, hT.hB, Bool.or_true]
  have hcA : (Value.ref C :: bm).contains (.type "AttributeError") = false := by rw [List.contains_cons, hT.hA]; rfl
  have hcN : (Value.ref C :: bm).contains (.type "NameError") = false := by rw [List.contains_cons, hT.hN]; rfl
  refine codeAny_builtinAt F.entry ?_
  unfold Builtin.«BaseException.__new__»
  refine wpAt_bind ?_
  show wpAt _ _ _ (stack >>= _) _ _ _
  refine wpAt_bind (wpAt_stack fun p below => wpAt_of_wpAny ?_)
  wp_walk
  refine wpAt_of_wpAny ?_
  rw [F.owner]
  repeat (first | with_reducible refine wpAny_madeHere_exc F.canon hC ?_ | with_reducible refine wpAny_loadPart_at hC ?_ | (with_reducible refine wpAny_isSubtype_exc hC ?_; first | rw [hcB] | rw [hcA] | rw [hcN]) | wp_step)
  show R _ _
  rw [Heap.size_push]
  exact hq
theorem type_callG (F : ExcBaseFacts B newId initId bmB) (hT : Chain B bm) {rest : List Value} {kw : List (Str × Value)} {fI : Addr} {Q : Fin → Shared → Prop}
    (hC : h.get? C = some (excClassObj nm q C N bs bm hdct sn sub ab col dd k0 k1 k2 k3 k5 newId))
    (hi : W.Looks (model prog w) h (typeLookup (.ref C) "__init__") (some (.ref fI))) (hb : ∀ self, W.Looks (model prog w) h (bindSpecial (.ref fI) self) (.ref fI, [self])) (hrest : rest.length ≤ sizeLine)
    (hq : codeAny (model prog w) A (.call (.ref fI) ⟨.ref (h.objs.size + 1) :: rest, kw⟩)
      (fun r s' => match r with | .ok (.ret v) => v = .none ∧ Q (.done (.ret (.ref (h.objs.size + 1)))) s' | .ok _ => False | .error e => E e s')
      ⟨(h.push (W.kdv_tup rest)).push (excO C h.objs.size), g, d, t, os⟩) :
    wpAny (model prog w) A (Builtin.«type.__call__» ⟨.ref C :: rest, kw⟩) Q E ⟨h, g, d, t, os⟩ := by
  repeat (first | with_reducible refine wpAny_loadPart_at hC ?_ | with_reducible refine wpAny_madeBy_exc hC ?_ | wp_step)
  refine codeAny_call_builtin_code (Code.quiet_builtin _ F.quiet) (check_newG F hT hC ?_)
  refine newG F hT hC ?_ hrest
  show wpAny _ _ _ _ _ _
  have k : ∀ b o, h.get? b = some o → ((h.push (W.kdv_tup rest)).push (excO C h.objs.size)).get? b = some o := fun b o e => Heap.get?_push_of_some _ (Heap.get?_push_of_some _ e)
  have hC₁ := k _ _ hC
  have hget : ((h.push (W.kdv_tup rest)).push (excO C h.objs.size)).get? (h.objs.size + 1) = some (excO C h.objs.size) := by heap_get
  have hcC : (Value.ref C :: bm).contains (.ref C) = true := by simp
  have i1 := hi.keeps k
  have b1 := (hb (.ref (h.objs.size + 1))).keeps k
  unfold isInstance
  repeat (first | with_reducible refine wpAny_loadPart_at hget ?_ | (with_reducible refine wpAny_isSubtype_exc hC₁ ?_; rw [hcC]) | wp_step)
  show wpAny _ _ (typeLookup (.ref C) _) _ _ _
  refine i1.at ?_
  refine wpAny_holding (wpAny_bind (b1.at ?_))
  refine wpAny_bind (wpAny_call (codeAny_mono hq fun r s' z => ?_))
  rcases r with e | (v | _ | _ | _) <;> first | exact z | exact z.elim | skip
  obtain ⟨rfl, z⟩ := z
  first
    | exact wpAny_pure (wpAny_pure z)
    | (wp_walk; exact z)
theorem callG (F : ExcBaseFacts B newId initId bmB) (hT : Chain B bm) {rest : List Value} {kw : List (Str × Value)} {fI : Addr}
    (hC : h.get? C = some (excClassObj nm q C N bs bm hdct sn sub ab col dd k0 k1 k2 k3 k5 newId))
    (hi : W.Looks (model prog w) h (typeLookup (.ref C) "__init__") (some (.ref fI))) (hb : ∀ self, W.Looks (model prog w) h (bindSpecial (.ref fI) self) (.ref fI, [self])) (hrest : rest.length ≤ sizeLine)
    (hq : codeAny (model prog w) (A.under (.builtin "type.__call__" ⟨.ref C :: rest, kw⟩)) (.call (.ref fI) ⟨.ref (h.objs.size + 1) :: rest, kw⟩) (W.InitBack (h.objs.size + 1) R)
      ⟨(h.push (W.kdv_tup rest)).push (excO C h.objs.size), g, d, t, os⟩) :
    codeAny (model prog w) A (.call (.ref C) ⟨rest, kw⟩) R ⟨h, g, d, t, os⟩ := by
  have f1 := tc_lookup
  have f2 := tc_bind (.ref C)
  have hTy : (⟨h, g, d, t, os⟩ : Shared).TypeIs (.ref C) "type" := ⟨_, hC, rfl⟩
  refine codeAny_of_tree ?_
  show wpAny _ _ (callAny (.ref C) _) _ _ _
  repeat (any_goals (first | assumption | with_reducible refine wpAny_loadPart_at hC ?_ | wp_step))
  refine ⟨rfl, ?_⟩
  refine codeAny_call_builtin_at (Code.quiet_builtin _ (by decide +kernel)) entry_typeCall (wpAny_check_type_call_sub hC (type_callG F hT hC hi hb hrest ?_))
  refine codeAny_mono hq fun r s' z => ?_
  rcases r with e | (v | _ | _ | _) <;> exact z
end
end PySem.XV
namespace PySem.XV
open PySem.W PySem.Calls PySem.HandSPX
/-! ### stores to an exception's own fields -/
structure MroOk (l : List Value) : Prop where
  ne : l.isEmpty = false
  ob : l.contains (.type "object") = true
  pass : ∀ self, refuseLoop self "__setattr__" l = pure ()
theorem MroOk.ref {c : Addr} {r : List Value} (h : MroOk r) : MroOk (.ref c :: r) :=
  ⟨rfl, by rw [List.contains_cons, h.ob, Bool.or_true], fun self => by rw [refuseLoop_ref]; exact h.pass self⟩
theorem mroVE : MroOk [.type "ValueError", .type "Exception", .type "BaseException", .type "object"] := ⟨rfl, by decide +kernel, fun self => by kernel_rfl⟩
theorem mroKE : MroOk [.type "KeyError", .type "LookupError", .type "Exception", .type "BaseException", .type "object"] := ⟨rfl, by decide +kernel, fun self => by kernel_rfl⟩
theorem mroIE : MroOk [.type "IndexError", .type "LookupError", .type "Exception", .type "BaseException", .type "object"] := ⟨rfl, by decide +kernel, fun self => by kernel_rfl⟩
theorem mroRE : MroOk [.type "RuntimeError", .type "Exception", .type "BaseException", .type "object"] := ⟨rfl, by decide +kernel, fun self => by kernel_rfl⟩
theorem mroAE : MroOk [.type "ArithmeticError", .type "Exception", .type "BaseException", .type "object"] := ⟨rfl, by decide +kernel, fun self => by kernel_rfl⟩
/-- the chain ends in one of the five, own classes ahead -/
def mroB : List Value → Bool
  | .ref _ :: r => mroB r
  | l => l == [.type "ValueError", .type "Exception", .type "BaseException", .type "object"] || (l == [.type "KeyError", .type "LookupError", .type "Exception", .type "BaseException", .type "object"] || (l == [.type "IndexError", .type "LookupError", .type "Exception", .type "BaseException", .type "object"] || (l == [.type "RuntimeError", .type "Exception", .type "BaseException", .type "object"] || l == [.type "ArithmeticError", .type "Exception", .type "BaseException", .type "object"])))
theorem mroB_end {l : List Value} (h : (l == [.type "ValueError", .type "Exception", .type "BaseException", .type "object"] || (l == [.type "KeyError", .type "LookupError", .type "Exception", .type "BaseException", .type "object"] || (l == [.type "IndexError", .type "LookupError", .type "Exception", .type "BaseException", .type "object"] || (l == [.type "RuntimeError", .type "Exception", .type "BaseException", .type "object"] || l == [.type "ArithmeticError", .type "Exception", .type "BaseException", .type "object"])))) = true) : MroOk l := by
  simp only [Bool.or_eq_true, beq_iff_eq] at h
  rcases h with rfl | rfl | rfl | rfl | rfl
  · exact mroVE
  · exact mroKE
  · exact mroIE
  · exact mroRE
  · exact mroAE
theorem mroB_ok : ∀ l : List Value, mroB l = true → MroOk l
  | .ref c :: r, h => (mroB_ok r h).ref
  | [], h => mroB_end h
  | .none :: _, h => mroB_end h
  | .ellipsis :: _, h => mroB_end h
  | .notImplemented :: _, h => mroB_end h
  | .bool _ :: _, h => mroB_end h
  | .int _ _ :: _, h => mroB_end h
  | .float _ _ :: _, h => mroB_end h
  | .str _ _ :: _, h => mroB_end h
  | .bytes _ _ :: _, h => mroB_end h
  | .type _ :: _, h => mroB_end h
  | .builtin _ :: _, h => mroB_end h
section
open Builtin Builtin.ObjectAttr
variable {prog : Program} {w : World} {A : Around} {E : Value → Shared → Prop} {R : Result → Shared → Prop} {hp : Heap} {g : Array GenState} {d : Drawn} {t : Nat} {os : OsState}
/-- the first field -/
theorem osa_first {K : W.Frag} {name : Str} {tk : Tok} {v : Value} {x C : Addr} {fv : Array Value} {cd : ClassData}
    (X : K.In hp) (hx : hp.get? x = some { cls := .ref C, data := .fields fv }) (hcd : W.clsIn K C = some cd) (hm : MroOk cd.mro) (hh : cd.hasDict = true) (ha : W.findIn K (.ref C) name = some none)
    (hq : ∀ h' tk' dx, (∀ b o, b ≠ x → hp.get? b = some o → h'.get? b = some o) → hp.objs.size ≤ dx → dx ≠ x → h'.get? x = some { cls := .ref C, dict := some dx, data := .fields fv } →
      h'.Ns1 dx (fun y => if y = name then some v else none) → R (.ok (.ret .none)) ⟨h', g, d, tk', os⟩) :
    codeAny (model prog w) A (.call (.builtin "object.__setattr__") ⟨[.ref x, .str name tk, v], []⟩) R ⟨hp, g, d, t, os⟩ := by
  have I : W.InstAt hp x { cls := .ref C, data := .fields fv } C none := ⟨hx, rfl, rfl, trivial⟩
  have SF := F.store_object
  have ne := hm.ne
  have hxs : x ≠ hp.objs.size := Nat.ne_of_lt (Heap.lt_size hx)
  have sub : W.Looks (model prog w) hp (isInstance (.ref x) (.type "object")) true := I.type.andThen (W.looks_mroIn X (by unfold W.mroIn; rw [hcd, Option.bind_some, if_neg (by rw [ne]; decide), hm.ob]))
  refine codeAny_call_builtin SF.slot.plain SF.entry (@W.check_slot (model prog w) _ _ ⟨hp, g, d, t, os⟩ "object.__setattr__" "object" "__setattr__" (.ref x) [.str name tk, v] [] _ SF.kind SF.split sub (SF.args (.ref x) (.str name tk) v) ?_)
  have hmr : W.Looks (model prog w) hp (mroOf (.ref C)) cd.mro := (W.looks_clsIn X hcd).andThen .now
  have L3 : W.Looks (model prog w) hp (storeTaker? none) none := .now
  have hcls : W.Looks (model prog w) hp (classData C) cd := W.looks_clsIn X hcd
  rw [W.osa_eq, refuse_eq]
  refine wpAny_bind (wpAny_bind (I.type.at (wpAny_bind (hmr.at ?_))))
  rw [hm.pass]
  refine wpAny_pure (wpAny_bind (I.type.at (wpAny_bind ((W.looks_findIn X ha).at (wpAny_bind (L3.at ?_))))))
  show wpAny _ _ (storeInOwnDict (.ref x) (.ref C) (.str name tk) name v false) _ _ _
  obtain ⟨nm, bs, mro, ns, qn, hd, sn, sb, ab, col, del⟩ := cd
  dsimp only at hh
  subst hh
  unfold storeInOwnDict ownDictForStores
  repeat (first | with_reducible refine store_in_new ?_ ?_ | with_reducible refine wpAny_loadPart_at hx ?_ | with_reducible refine hcls.at ?_ | wp_step)
  · exact ⟨_, #[], _, (Heap.get?_update_ne _ _ _ _ hxs.symm).trans (Heap.get?_push_at rfl rfl), rfl, fun e he => absurd he (by simp), fun _ => rfl⟩
  · intro h' tk' hn' hs
    have hx₁ : (hp.push { cls := .type "dict", data := .dict #[] }).get? x = some { cls := .ref C, data := .fields fv } := Heap.get?_push_of_some _ hx
    refine hq h' tk' hp.objs.size (fun b o hb ho => ?_) (Nat.le_refl _) hxs.symm ?_ hn'
    · exact (hs.2 b (Nat.ne_of_lt (Heap.lt_size ho))).trans ((Heap.get?_update_ne _ _ _ _ hb).trans (Heap.get?_push_of_some _ ho))
    · exact (hs.2 x hxs).trans (Heap.get?_update_self _ hx₁ rfl)
/-- a further field -/
theorem osa_more {K : W.Frag} {name : Str} {tk : Tok} {v : Value} {x C dx : Addr} {fv : Array Value} {cd : ClassData} {m0 : Str → Option Value} {nl : List Str}
    (X : K.In hp) (hx : hp.get? x = some { cls := .ref C, dict := some dx, data := .fields fv }) (hns : hp.Ns1 dx m0) (hw : Within m0 nl) (hz : nl.length ≤ 1000) (hcd : W.clsIn K C = some cd) (hm : MroOk cd.mro) (hh : cd.hasDict = true)
    (ha : W.findIn K (.ref C) name = some none)
    (hq : ∀ h' tk', (∀ b o, b ≠ dx → hp.get? b = some o → h'.get? b = some o) → h'.Ns1 dx (fun y => if y = name then some v else m0 y) → R (.ok (.ret .none)) ⟨h', g, d, tk', os⟩) :
    codeAny (model prog w) A (.call (.builtin "object.__setattr__") ⟨[.ref x, .str name tk, v], []⟩) R ⟨hp, g, d, t, os⟩ := by
  obtain ⟨oD, esD, epD, hoD, hdD, _⟩ := hns.count hw
  have I : W.InstAt hp x { cls := .ref C, dict := some dx, data := .fields fv } C (some oD) := ⟨hx, rfl, rfl, hoD⟩
  have SF := F.store_object
  have ne := hm.ne
  have sub : W.Looks (model prog w) hp (isInstance (.ref x) (.type "object")) true := I.type.andThen (W.looks_mroIn X (by unfold W.mroIn; rw [hcd, Option.bind_some, if_neg (by rw [ne]; decide), hm.ob]))
  refine codeAny_call_builtin SF.slot.plain SF.entry (@W.check_slot (model prog w) _ _ ⟨hp, g, d, t, os⟩ "object.__setattr__" "object" "__setattr__" (.ref x) [.str name tk, v] [] _ SF.kind SF.split sub (SF.args (.ref x) (.str name tk) v) ?_)
  have hmr : W.Looks (model prog w) hp (mroOf (.ref C)) cd.mro := (W.looks_clsIn X hcd).andThen .now
  have L3 : W.Looks (model prog w) hp (storeTaker? none) none := .now
  have hcls : W.Looks (model prog w) hp (classData C) cd := W.looks_clsIn X hcd
  rw [W.osa_eq, refuse_eq]
  refine wpAny_bind (wpAny_bind (I.type.at (wpAny_bind (hmr.at ?_))))
  rw [hm.pass]
  refine wpAny_pure (wpAny_bind (I.type.at (wpAny_bind ((W.looks_findIn X ha).at (wpAny_bind (L3.at ?_))))))
  show wpAny _ _ (storeInOwnDict (.ref x) (.ref C) (.str name tk) name v false) _ _ _
  obtain ⟨nm, bs, mro, ns, qn, hd, sn, sb, ab, col, del⟩ := cd
  dsimp only at hh
  subst hh
  unfold storeInOwnDict ownDictForStores
  repeat (first | with_reducible refine OEX.store_in_old hns hw hz ?_ | with_reducible refine wpAny_loadPart_at hx ?_ | with_reducible refine hcls.at ?_ | wp_step)
  intro h' tk' hn' hs
  exact hq h' tk' (fun b o hb ho => (hs.2 b hb).trans ho) hn'
end
end PySem.XV

namespace L2
open PySem PySem.Spec PySem.XV
/-! ### what the written part says of such a class -/
structure XcC (K : PySem.W.Frag) (C : Addr) (B newId : String) : Prop where
  cls : ∃ nm q N bs bm sn sub ab col dd k0 k1 k2 k3 k5, K.lookup C = some (excClassObj nm q C N bs bm true sn sub ab col dd k0 k1 k2 k3 k5 newId) ∧ Chain B bm ∧ MroOk bm
  sa : PySem.W.findIn K (.ref C) "__setattr__" = some (some (.builtin "object.__setattr__"))
  ga : PySem.W.findIn K (.ref C) "__getattribute__" = some (some (.builtin "BaseException.__getattribute__"))
  gg : PySem.W.findIn K (.ref C) "__getattr__" = some none
  exC : PySem.W.subIn K (.ref C) (.type "BaseException") = some true
  tyC : PySem.W.typeIn K (.ref C) = some (.type "type")
  hdC : PySem.W.hasDictIn K C = true
  kC : PySem.W.keepIn K (.ref C) = true
  at_ : PySem.W.findIn K (.ref C) "__class__" = some (some (.builtin "object.__class__"))
  gt : PySem.W.specialIn K (.builtin "object.__class__") "__get__" = some (some (.builtin "getset_descriptor.__get__"))
  tk : PySem.W.takesIn K (.builtin "object.__class__") = some true
  mo : PySem.W.mroIn K C (.type "object") = some true
def xcB (K : PySem.W.Frag) (C : Addr) (B newId : String) : Bool := (match K.lookup C with
  | some ⟨.type "type", _, .cls cd, sl⟩ => (match cd.mro, sl.toList with
    | .ref C' :: bm, [_, _, _, _, some (.builtin n), _] => (decide (C' = C) && decide (n = newId)) && ((chainB B bm && mroB bm) && (cd.hasDict && !cd.hasDel))
    | _, _ => false)
  | _ => false) && (decide (PySem.W.findIn K (.ref C) "__setattr__" = some (some (.builtin "object.__setattr__"))) && (decide (PySem.W.findIn K (.ref C) "__getattribute__" = some (some (.builtin "BaseException.__getattribute__"))) &&
  (decide (PySem.W.findIn K (.ref C) "__getattr__" = some none) && (decide (PySem.W.subIn K (.ref C) (.type "BaseException") = some true) && (decide (PySem.W.typeIn K (.ref C) = some (.type "type")) && (PySem.W.hasDictIn K C && (PySem.W.keepIn K (.ref C) &&
  (decide (PySem.W.findIn K (.ref C) "__class__" = some (some (.builtin "object.__class__"))) && (decide (PySem.W.specialIn K (.builtin "object.__class__") "__get__" = some (some (.builtin "getset_descriptor.__get__"))) && (decide (PySem.W.takesIn K (.builtin "object.__class__") = some true) && decide (PySem.W.mroIn K C (.type "object") = some true)))))))))))
theorem xcB_ok {K : PySem.W.Frag} {C : Addr} {B newId : String} (h : xcB K C B newId = true) : XcC K C B newId := by
  unfold xcB at h
  simp only [Bool.and_eq_true, decide_eq_true_eq] at h
  obtain ⟨h0, h1, h2, h3, h4, h5, h6, h7, h8, h9, h10, h11⟩ := h
  refine ⟨?_, h1, h2, h3, h4, h5, h6, h7, h8, h9, h10, h11⟩
  split at h0
  · rename_i dd cd sl ho
    split at h0
    · rename_i C' bm k0 k1 k2 k3 n k5 hm hs
      simp only [Bool.and_eq_true, decide_eq_true_eq, Bool.not_eq_true'] at h0
      obtain ⟨⟨rfl, rfl⟩, ⟨hc, hb⟩, hd, hl⟩ := h0
      obtain ⟨nm, bs, mro, ns, qn, hdct, sn, sub, ab, col, del⟩ := cd
      dsimp only at hm hd hl
      subst hm hd hl
      have hsl : sl = #[k0, k1, k2, k3, some (.builtin n), k5] := by
        obtain ⟨l⟩ := sl
        simp only at hs
        rw [hs]
      subst hsl
      exact ⟨nm, qn, ns, bs, bm, sn, sub, ab, col, dd, k0, k1, k2, k3, k5, ho, Chain.of hc, mroB_ok _ hb⟩
    · cases h0
  · cases h0
end L2
namespace L2
open PySem PySem.Spec PyProof.Rows PySem.XV
section
variable {X : Cx} {pins : List (Addr × Obj)} {σ : St} {H : Hp} {s : Shared} {a C dx : Addr} {f : Str} {y : V} {u : Value} {fs : List (Str × V)} {Q : Unit → Shared → Prop} {E : Value → Shared → Prop} {A : Around} {B newId : String}
theorem XcC.clsIn (T : XcC X.K C B newId) : ∃ cd : ClassData, PySem.W.clsIn X.K C = some cd ∧ MroOk cd.mro ∧ cd.hasDict = true := by
  obtain ⟨nm, q, N, bs, bm, sn, sub, ab, col, dd, k0, k1, k2, k3, k5, hC, hb, hm⟩ := T.cls
  exact ⟨{ name := nm, bases := bs, mro := .ref C :: bm, ns := N, qualname := q, hasDict := true, slotNames := sn, subclasses := sub, abstract := ab, collection := col, hasDel := false }, by unfold PySem.W.clsIn; rw [hC] <;> rfl, hm.ref, rfl⟩
theorem xst_new (T : XcC X.K C B newId) (I : Inv X pins σ H s) (e : H a = some (exo a C none)) (hno : PySem.W.findIn X.K (.ref C) f = some none) (ry : RelV y u)
    (h : ∀ dx s', H dx = none → dx ≠ a → Inv X pins σ (upd (upd H dx (exd dx [(f, y)])) a (exo a C (some dx))) s' → Q () s') : wpAny (model X.prog X.w) A (setAttr (.ref a) f u) Q E s := by
  obtain ⟨cd, hcl, hm, hh⟩ := T.clsIn
  obtain ⟨t1, ho⟩ := exo_at I.hok e
  obtain ⟨hp, g, d, t, os⟩ := s
  refine PySem.W.set_plain I.kIn (ox := { cls := .ref C, dict := none, data := .fields #[.ref t1, .none, .none, .none, .bool false, .none] }) (od := none) ⟨ho, rfl, rfl, trivial⟩ T.sa ?_
  refine osa_first I.kIn ho hcl hm hh hno (fun h' tk' dx k dn dne hx hn => ?_)
  have hnd : H dx = none := I.hok.fresh dn
  have nd : ∀ {b : Addr} {o : Obj}, hp.get? b = some o → b ≠ dx := fun {b o} q => Nat.ne_of_lt (Nat.lt_of_lt_of_le (Heap.lt_size q) dn)
  have na : ∀ {b : Addr}, H b = none → b ≠ a := fun {b} n z => by
    rw [z, e] at n
    cases n
  have Un1 : Un X.fs [] H (upd (upd H dx (exd dx [(f, y)])) a (exo a C (some dx))) hp h' := {
    keep := fun b o q n _ _ => k b o (na n) q
    slot := fun b o q n _ _ => ⟨o.slots, k b o (na n) q⟩
    free := fun b o q n _ => by rw [upd_ne (na n), upd_ne (nd q)]; exact n
    there := fun b o q _ => by
      by_cases hb : b = a
      · exact ⟨_, by rw [hb]; exact hx⟩
      · exact ⟨o, k b o hb q⟩
    tups := fun b xs q => by rw [upd_ne (at_ne e q exo_tup), upd_ne (ne_of_none q hnd)]; exact q
    frzs := fun b o v q => by rw [upd_ne (at_ne e q exo_frz), upd_ne (ne_of_none q hnd)]; exact q
    tbls := fun b ps q => ⟨#[], by rw [upd_ne (at_ne e q exo_tbl), upd_ne (ne_of_none q hnd), q]; simp⟩ }
  refine h dx _ hnd dne (I.un (t' := tk') Un1 fun b o q => ?_)
  by_cases hb : b = a
  · subst hb
    rw [upd_same] at q
    cases q
    exact exo_ok hx
  · rw [upd_ne hb] at q
    by_cases hd : b = dx
    · subst hd
      rw [upd_same] at q
      cases q
      exact exd_ok hn (relO_put (fs := []) ry fun g => True.intro)
    · rw [upd_ne hd] at q
      exact (I.hok b o q).stay (fun c v hc z => k c v (by
          rcases hc with hc | hc
          · rw [hc]
            exact hb
          · exact at_ne e hc exo_own) z)
        (fun c hc => by rw [upd_ne (at_ne e hc exo_own), upd_ne (ne_of_none hc hnd)]; exact hc) (fun c xs hc => by rw [upd_ne (at_ne e hc exo_tup), upd_ne (ne_of_none hc hnd)]; exact hc)
theorem xst_old (T : XcC X.K C B newId) (I : Inv X pins σ H s) (e : H a = some (exo a C (some dx))) (ed : H dx = some (exd dx fs)) (hl : fs.length ≤ 900) (hno : PySem.W.findIn X.K (.ref C) f = some none) (ry : RelV y u)
    (h : ∀ s', Inv X pins σ (upd H dx (exd dx ((f, y) :: fs))) s' → Q () s') : wpAny (model X.prog X.w) A (setAttr (.ref a) f u) Q E s := by
  obtain ⟨cd, hcl, hm, hh⟩ := T.clsIn
  obtain ⟨t1, ho⟩ := exo_at I.hok e
  obtain ⟨mA, hns, rel⟩ := exd_at I.hok ed
  have hw := within_of rel
  obtain ⟨hp, g, d, t, os⟩ := s
  obtain ⟨oD, _, _, hoD, _, _⟩ := hns.count hw
  refine PySem.W.set_plain I.kIn (ox := { cls := .ref C, dict := some dx, data := .fields #[.ref t1, .none, .none, .none, .bool false, .none] }) (od := some oD) ⟨ho, rfl, rfl, hoD⟩ T.sa ?_
  refine osa_more I.kIn ho hns hw (by rw [List.length_map]; omega) hcl hm hh hno (fun h' tk' k hn => ?_)
  have hd : ∃ o, h'.get? dx = some o := by
    obtain ⟨o, _, _, e', _⟩ := hn
    exact ⟨o, e'⟩
  exact h _ (I.write (t' := tk') (x := dx) (e := dx) (o := exd dx ((f, y) :: fs)) (by rw [ed]; exact True.intro) (.inl rfl) k hd (exd_ok hn (relO_put ry rel)))
end
/-- self.f = e, self an exception of the class at C -/
def tXst (K : PySem.W.Frag) (B newId : String) (f : Str) (to te : TE) : TS := fun D σ H => te σ H fun y H1 => to σ H1 fun x H2 => ∃ a C : Addr, x = .ref a ∧ XcC K C B newId ∧ PySem.W.findIn K (.ref C) f = some none ∧
  ((H2 a = some (exo a C none) ∧ ∀ dx, H2 dx = none → dx ≠ a → D.nx σ (upd (upd H2 dx (exd dx [(f, y)])) a (exo a C (some dx)))) ∨
    ∃ (dx : Addr) (fs : List (Str × V)), H2 a = some (exo a C (some dx)) ∧ H2 dx = some (exd dx fs) ∧ fs.length ≤ 900 ∧ D.nx σ (upd H2 dx (exd dx ((f, y) :: fs))))
/-- a made exception, held as a value: its class is at C; its own fields fs (none as yet made: d = none) -/
def tMkX (C : Addr) (n m : Nat) (sp : Sp) (gV : List V → List V → List V) (ta tk : TA) : TE := fun σ H Q => ta σ H fun vs H1 => tk σ H1 fun zs H2 => vs.length = n ∧ zs.length = m ∧ ∀ a, H2 a = none →
  sp (gV (.ref a :: vs) zs) (upd H2 a (exo a C none)) (fun v H3 => v = .non ∧ Q (.ref a) H3) fun _ _ _ => False
section
variable {X : Cx} {CX : CXT} {k n : Nat} {fI C : Addr} {fd : FuncData} {ps ks : List Str} {sp : Sp} {x f : Str} {p p' p1 p2 pos : Pos} {e o : Expr} {es : List Expr} {kws : List Keyword} {ta tk : TA} {te to : TE} {g : List Value → List Value → List Value} {gV : List V → List V → List V} {B newId initId : String} {bmB : List Value}
theorem ps_xst (ho : PE X o to) (he : PE X e te) (hs : swapsWith e (some (.Attribute o f p')) pos.line X.env = pure false := by rfl) : PS X (.Assign [.Attribute o f p'] e pos) (tXst X.K B newId f to te) := by
  refine ⟨fun pins s σ H D I h => ?_⟩
  refine plainObj_wpAny_Assign_Attribute (thn (he.run pins s σ H _ I h) fun v s1 ⟨y, H1, I1, r1, q1⟩ => thn (ho.run pins s1 σ H1 _ I1 q1) fun u s2 ⟨x, H2, I2, r2, a, C, ex, T, hno, q⟩ => ?_) hs
  subst ex
  obtain rfl : u = Value.ref a := r2
  rcases q with ⟨ea, q⟩ | ⟨dx, fs, ea, ed, hl, q⟩
  · exact xst_new T I2 ea hno r1 fun dx s' n ne J => ⟨σ, _, J, q dx n ne⟩
  · exact xst_old T I2 ea ed hl hno r1 fun s' J => ⟨σ, _, J, q⟩
theorem run_mkx {pins : List (Addr × Obj)} {σ : St} {H : Hp} {s : Shared} {Q : VK} {us ws : List Value} {vs zs : List V} (F : ExcBaseFacts B newId initId bmB) (T : XcC X.K C B newId) (iC : PySem.W.findIn X.K (.ref C) "__init__" = some (some (.ref fI))) (tI : PySem.W.typeIn X.K (.ref fI) = some (.type "function"))
    (F1 : FnOk X.prog X.w X.K X.mg X.base CX k fI fd ps sp) (hr : Room (k + 1) X.A) (hb : KBn X.K fd ps (n + 1) ks g gV) (hx : Passes CX X fun _ _ _ => False) (I : Inv X pins σ H s) (r : Vals vs us) (rz : Vals zs ws) (l1 : vs.length = n) (l2 : zs.length = ks.length) (hn : n ≤ 1000)
    (h : ∀ a, H a = none → sp (gV (.ref a :: vs) zs) (upd H a (exo a C none)) (fun v H3 => v = .non ∧ Q (.ref a) H3) fun _ _ _ => False) :
    wpAny (model X.prog X.w) X.A (call (.ref C) us (ks.zip ws)) (EP X pins σ Q) X.xe s := by
  obtain ⟨nm, q, N, bs, bm, sn, sub, ab, col, dd, k0, k1, k2, k3, k5, hC, hch, hm⟩ := T.cls
  obtain ⟨hp, g0, dr, tk, os⟩ := s
  have hsz : hp.objs.size ≤ hp.objs.size + 1 := Nat.le_succ _
  have hn0 : H (hp.objs.size + 1) = none := I.hok.fresh hsz
  have hq := h (hp.objs.size + 1) hn0
  have kk : ∀ b o, hp.get? b = some o → ((hp.push (PySem.W.kdv_tup us)).push (PySem.HandSPX.excO C hp.objs.size)).get? b = some o := fun b o e => Heap.get?_push_of_some _ (Heap.get?_push_of_some _ e)
  have hget : ((hp.push (PySem.W.kdv_tup us)).push (PySem.HandSPX.excO C hp.objs.size)).get? (hp.objs.size + 1) = some (PySem.HandSPX.excO C hp.objs.size) := by heap_get
  have I2 : Inv X pins σ (upd H (hp.objs.size + 1) (exo (hp.objs.size + 1) C none)) ⟨(hp.push (PySem.W.kdv_tup us)).push (PySem.HandSPX.excO C hp.objs.size), g0, dr, tk, os⟩ :=
    I.laid (t' := tk) (a := hp.objs.size + 1) (o := exo (hp.objs.size + 1) C none) (h' := (hp.push (PySem.W.kdv_tup us)).push (PySem.HandSPX.excO C hp.objs.size)) kk hsz (exo_ok hget)
  have r1 : Vals (V.ref (hp.objs.size + 1) :: vs) (Value.ref (hp.objs.size + 1) :: us) := .cons rfl r
  have r2 := hb.rel r1 rz
  have n1 : (Value.ref (hp.objs.size + 1) :: us).length = n + 1 := by
    rw [List.length_cons, ← r.length, l1]
  have hus : us.length ≤ sizeLine := by
    rw [← r.length, l1, sizeLine_eq]
    omega
  refine wpAny_call (callG F hch (I.kIn _ _ hC) (PySem.W.looks_findIn I.kIn iC) (fun self => PySem.W.bind_fn I.kIn self tI) hus
    (codeAny_mono (F1.run _ X.stack _ _ ⟨Value.ref (hp.objs.size + 1) :: us, ks.zip ws⟩ (g (Value.ref (hp.objs.size + 1) :: us) ws) _ _ (fun _ _ _ => False) (hr.make C us (ks.zip ws)) (I2.env0.make C us (ks.zip ws))
      (hb.to _ (Value.ref (hp.objs.size + 1) :: us) ws I2.kIn n1 (rz.length.symm.trans l2)) r2 hq) fun rr s' hq' => ?_))
  cases rr with
  | error er => exact hx pins σ _ _ er s' I2 hq'
  | ok fl =>
    cases fl with
    | ret u =>
      obtain ⟨v, H', I3, rv, ev, q3⟩ := I2.after hq'
      subst ev
      exact ⟨rv, ⟨V.ref (hp.objs.size + 1), H', I3, rfl, q3⟩⟩
    | next => exact False.elim hq'
    | brk => exact False.elim hq'
    | cont => exact False.elim hq'
/-- C(e, .., k = v, ..) -/
theorem pe_mkxk (F : ExcBaseFacts B newId initId bmB) (T : XcC X.K C B newId) (iC : PySem.W.findIn X.K (.ref C) "__init__" = some (some (.ref fI))) (tI : PySem.W.typeIn X.K (.ref fI) = some (.type "function"))
    (F1 : FnOk X.prog X.w X.K X.mg X.base CX k fI fd ps sp) (hr : Room (k + 1) X.A) (hg : Gl X x) (hm : X.mg x = some (.ref C)) (hb : KBn X.K fd ps 1 ks g gV) (hx : Passes CX X fun _ _ _ => False) (hkw : PK X kws tk)
    (hall : (backToKw pos (keywordEach kws X.env)).all (·.1.isSome) = true := by rfl) (hks : (backToKw pos (keywordEach kws X.env)).filterMap (·.1) = ks := by rfl) (hdb : (x == ("__debug__" : Str)) = false := by decide)
    (hpl : ((backTo pos (starEach [] X.env)).any (·.1) || (backToKw pos (keywordEach kws X.env)).any (·.1.isNone)) = false := by rfl) :
    PE X (.Call (.Name x p) [] kws pos) (tMkX C 0 ks.length sp gV tNil tk) := by
  refine ⟨fun pins s σ H Q I h => ?_⟩
  refine wpAny_Call_Name_kw (ld_glob I hg hm ?_ hdb)
  refine PySem.W.callWith_KW0 (h₀ := X.base) I.ok.mod.kin T.kC hall ?_ hpl
  refine thn (hkw.run pos pins s σ H _ I h) fun ws s2 ⟨zs, H2, I2, rz, l1, l2, q2⟩ => ⟨I2.kIn, ?_⟩
  rw [hks]
  exact run_mkx (us := []) (vs := []) F T iC tI F1 hr hb hx I2 .nil rz rfl l2 (by omega) q2
/-- C(e, ..) -/
theorem pe_mkx (F : ExcBaseFacts B newId initId bmB) (T : XcC X.K C B newId) (iC : PySem.W.findIn X.K (.ref C) "__init__" = some (some (.ref fI))) (tI : PySem.W.typeIn X.K (.ref fI) = some (.type "function"))
    (F1 : FnOk X.prog X.w X.K X.mg X.base CX k fI fd ps sp) (hr : Room (k + 1) X.A) (hg : Gl X x) (hm : X.mg x = some (.ref C)) (hb : KBn X.K fd ps (n + 1) [] g gV) (hx : Passes CX X fun _ _ _ => False) (hn : n ≤ 1000) (ha : PA X (e :: es) ta)
    (hdb : (x == ("__debug__" : Str)) = false := by decide) (he : starEach (e :: es) X.env = (false, eval e X.env) :: starEach es X.env := by rfl) (hpl : (backTo pos (starEach es X.env)).any (·.1) = false := by rfl) :
    PE X (.Call (.Name x p) (e :: es) [] pos) (tMkX C n 0 sp gV ta tNil) := by
  refine ⟨fun pins s σ H Q I h => ?_⟩
  refine wpAny_Call_Name_kw (ld_glob I hg hm ?_ hdb)
  refine PySem.W.callWith_K (h₀ := X.base) I.ok.mod.kin T.kC (thn (ha.run pos pins s σ H _ I h) fun us s1 ⟨vs, H1, I1, r, l1, l2, q⟩ => ⟨I1.kIn, ?_⟩) he hpl
  have z := run_mkx (ws := []) (zs := []) F T iC tI F1 hr hb hx I1 r .nil l1 rfl hn q
  exact z
/-- C(), C without an own __init__ -/
theorem pe_mkx0 {bm0 : List Value} {B0 : String} (F : ExcBaseFacts B0 newId initId bm0) (q : PySem.W.excIn X.K C bm0 newId = true) (kC : PySem.W.keepIn X.K (.ref C) = true) (hg : Gl X x) (hm : X.mg x = some (.ref C)) (hdb : (x == ("__debug__" : Str)) = false := by decide) :
    PE X (.Call (.Name x p) [] [] pos) (fun _ H Q => ∀ a, H a = none → Q (.ref a) (upd H a (exo a C none))) := by
  refine ⟨fun pins s σ H Q I h => ?_⟩
  refine wpAny_Call_Name_kw (ld_glob I hg hm ?_ hdb)
  refine PySem.W.callWith_K0 I.kIn kC ?_
  show wpAny _ _ (call (.ref C) []) _ _ _
  obtain ⟨bm, N, nm, qn, bs, hdct, sn, sub, ab, col, dd, k0, k1, k2, k3, k5, mN, hC, hN, hni, T⟩ := exc_obj I.kIn q
  refine wpAny_call_exc_subT F T hC hN hni (fun h' a hm => ?_) (by show 0 ≤ sizeLine; exact Nat.zero_le _)
  have hn : H a = none := I.hok.gone hm.new
  obtain ⟨t, ht, _, _⟩ := hm.there
  exact ⟨.ref a, upd H a (exo a C none), I.laidN hm.keeps hm.new hn (exo_ok ht), rfl, h a hn⟩
/-- e.f, e an exception held as a value -/
def tXa (K : PySem.W.Frag) (B newId : String) (f : Str) (te : TE) : TE := fun σ H Q => te σ H fun x H1 => ∃ (a C d : Addr) (fs : List (Str × V)) (v : V), x = .ref a ∧ XcC K C B newId ∧ PySem.W.findIn K (.ref C) f = some none ∧ H1 a = some (exo a C (some d)) ∧ H1 d = some (exd d fs) ∧ fs.lookup f = some v ∧ Q v H1
theorem pe_xa (he : PE X e te) (hb : attributeBase e f X.env (eval e X.env) = eval e X.env := by rfl) : PE X (.Attribute e f pos) (tXa X.K B newId f te) := by
  refine ⟨fun pins s σ H Q I h => ?_⟩
  refine attr_of hb (thn (he.run pins s σ H _ I h) fun u s1 ⟨x, H1, I1, rx, a, C, d, fs, v, ex, T, hno, ea, ed, l, q⟩ => ?_)
  subst ex
  obtain rfl : u = Value.ref a := rx
  obtain ⟨t1, ho⟩ := exo_at I1.hok ea
  obtain ⟨mA, hns, hr⟩ := exd_at I1.hok ed
  obtain ⟨od, hod, hl⟩ := lookIn_ns hns
  obtain ⟨u, hu, ru⟩ := RelO.some_of (v := v) (o := mA f) (by rw [← l]; exact hr f)
  have J : PySem.W.InstAt s1.heap a _ C (some od) := ⟨ho, rfl, rfl, hod⟩
  exact HandSPX.exc_get I1.kIn J T.ga T.gg T.exC (PySem.W.findObj_own T.hdC hno rfl (by rw [hl, hu])) (handed_of ru) ⟨v, H1, I1.tok _, ru, q⟩
/-- isinstance(e, T), e an exception held as a value -/
def rIsX (K : PySem.W.Frag) : List V → Hp → VK → Prop := fun xs H Q => ∃ (a C : Addr) (d : Option Addr) (c : V) (u : Value) (b : Bool) (B newId : String), xs = [.ref a, c] ∧ ClsV c u ∧ XcC K C B newId ∧ H a = some (exo a C d) ∧ (∀ dx, d = some dx → ∃ fs, H dx = some (exd dx fs)) ∧ PySem.W.kitOne K (.ref C) u = some b ∧ Q (.bl b) H
theorem call_isX : CallR X (.builtin "isinstance") (rIsX X.K) := by
  intro pins s σ H xs us Q I r h
  obtain ⟨a, C, d, c, u, b, B, newId, rfl, k, T, ea, ed, e, q⟩ := h
  obtain ⟨u1, u2, rfl, r1, r2⟩ := vals2 r
  have e2 := k.eq r2
  subst e2
  obtain rfl : u1 = Value.ref a := r1
  obtain ⟨t1, ho⟩ := exo_at I.hok ea
  obtain ⟨cd, hcl, hm, hh⟩ := T.clsIn
  have hod : ∃ od : Option Obj, PySem.W.InstAt s.heap a ({ cls := .ref C, dict := d, data := .fields #[.ref t1, .none, .none, .none, .bool false, .none] } : Obj) C od := by
    cases d with
    | none => exact ⟨none, ho, rfl, rfl, trivial⟩
    | some dx =>
      obtain ⟨fs, ed⟩ := ed dx rfl
      obtain ⟨mA, hns, hr⟩ := exd_at I.hok ed
      obtain ⟨od, hod, hl⟩ := lookIn_ns hns
      exact ⟨some od, ho, rfl, rfl, hod⟩
  obtain ⟨od, J⟩ := hod
  exact PySem.W.kia_one (PySem.W.kitx_exc (gt := none) (by rw [hcl]; rfl) T.ga T.gg T.exC T.at_ T.gt T.tk T.mo) I.kIn J e (fun z => nomatch z) fun tk => ⟨.bl b, H, I.tok tk, rfl, q⟩
end
end L2
/-! Readings, one step a lemma: what is to be shown of a reading, from what it asks. -/
namespace L2
open PySem PySem.Spec PyProof.Rows
section
variable {K : PySem.W.Frag} {σ : St} {H : Hp} {D : Ends} {te ta tb tc to : TE} {t u : TS} {tA tr : TA} {g : TG} {Q : VK} {QB : Bool → Hp → Prop} {QA : List V → Hp → Prop} {v x y : V} {r r' : R2} {i : Nat} {a b : Int} {c tt uu : TT} {A B : Prop}
theorem rd_seq (h : t { D with nx := u D } σ H) : tSeq t u D σ H := h
theorem rd_next (h : D.nx σ H) : tNext D σ H := h
theorem rd_break (h : D.bk σ H) : tBreak D σ H := h
theorem rd_cont (h : D.ct σ H) : tCont D σ H := h
theorem rd_asg (h : te σ H fun x H1 => g x σ H1 D.nx) : tAsg te g D σ H := h
theorem rd_ret (h : te σ H D.rt) : tRet te D σ H := h
theorem rd_retN (h : D.rt .non H) : tRetN D σ H := h
theorem rd_drop (h : te σ H fun _ H1 => D.nx σ H1) : tDrop te D σ H := h
theorem rd_if (h : c σ H fun b H1 => if b = true then t D σ H1 else u D σ H1) : tIfS c t u D σ H := h
theorem rd_gname {Qs : St → Hp → Prop} (h : Qs (σ.set i (some v)) H) : gName i v σ H Qs := h
theorem rd_gsub {ti : TE} {ts : TSet} {Qs : St → Hp → Prop} (h : to σ H fun o H1 => ti σ H1 fun i H2 => ts o i v H2 fun H3 => Qs σ H3) : gSub to ti ts v σ H Qs := h
theorem rd_var (hv : σ[i]? = some (some v)) (h : Q v H) : tVar i σ H Q := ⟨v, hv, h⟩
theorem rd_c (h : Q v H) : tC v σ H Q := h
theorem rd_op (h : ta σ H fun x H1 => tb σ H1 fun y H2 => r x y H2 Q) : tOp r ta tb σ H Q := h
theorem rd_un {f : V → Hp → VK → Prop} (h : ta σ H fun x H1 => f x H1 Q) : tUn f ta σ H Q := h
theorem rd_test (h : te σ H fun x H' => ∃ k, x = .bl k ∧ QB k H') : tTest te σ H QB := h
theorem rd_tB (h : te σ H fun x H' => ∃ k, x = .bl k ∧ QB k H') : tB te σ H QB := h
theorem rd_bl {k : Bool} {P : Bool → Prop} (h : P k) : ∃ k', V.bl k = .bl k' ∧ P k' := ⟨k, rfl, h⟩
theorem rd_and (h : tt σ H fun c H1 => if c = true then uu σ H1 QB else QB false H1) : tAnd tt uu σ H QB := h
theorem rd_or (h : tt σ H fun c H1 => if c = true then QB true H1 else uu σ H1 QB) : tOr tt uu σ H QB := h
theorem rd_not (h : tt σ H fun c H1 => QB (!c) H1) : tNot tt σ H QB := h
theorem rd_andV (h : ta σ H fun x H1 => ∃ c, x = .bl c ∧ if c = true then tb σ H1 Q else Q (.bl false) H1) : tAndV ta tb σ H Q := h
theorem rd_orV (h : ta σ H fun x H1 => ∃ c, x = .bl c ∧ if c = true then Q (.bl true) H1 else tb σ H1 Q) : tOrV ta tb σ H Q := h
theorem rd_notV (h : ta σ H fun x H1 => ∃ c, x = .bl c ∧ Q (.bl (!c)) H1) : tNotV ta σ H Q := h
theorem rd_tif (h : tt σ H fun c H1 => if c = true then ta σ H1 Q else tb σ H1 Q) : tIf tt ta tb σ H Q := h
theorem rd_nil (h : QA [] H) : tNil σ H QA := h
theorem rd_cons (h : te σ H fun x H1 => tr σ H1 fun xs H2 => QA (x :: xs) H2) : tCons te tr σ H QA := h
theorem rd_lst (h : tA σ H fun xs H1 => xs.length ≤ sizeLine ∧ ∀ p, H1 p = none → Q (.ref p) (upd H1 p (.lst xs))) : tLst tA σ H Q := h
theorem rd_tup (h : tA σ H fun xs H1 => xs.length ≤ sizeLine ∧ ∀ p, H1 p = none → Q (.ref p) (upd H1 p (.tup xs))) : tTup tA σ H Q := h
theorem rd_cb {rc : List V → Hp → VK → Prop} (h : tA σ H fun vs H1 => rc vs H1 Q) : tCB rc tA σ H Q := h
theorem rd_call {sp : Sp} {dvs : List V} {E : XK} (h : tA σ H fun vs H1 => sp (vs ++ dvs) H1 Q E) : tCall sp dvs E tA σ H Q := h
theorem rd_I0 {f : Int → Int → V} (h : Q (f a b) H) : rI0 f (.int a) (.int b) H Q := ⟨a, b, rfl, rfl, h⟩
theorem rd_I {C : Int → Int → Prop} {f : Int → Int → V} (hc : C a b) (h : Q (f a b) H) : rI C f (.int a) (.int b) H Q := ⟨a, b, rfl, rfl, hc, h⟩
theorem rd_U {f : Int → V} (h : Q (f a) H) : rU f (.int a) H Q := ⟨a, rfl, h⟩
theorem rd_eq (hs : scal x y = true) (h : Q (.bl (decide (x = y))) H) : rEq x y H Q := ⟨hs, h⟩
theorem rd_ne (hs : scal x y = true) (h : Q (.bl (!decide (x = y))) H) : rNe x y H Q := ⟨hs, h⟩
theorem rd_ixL {p : Addr} {xs : List V} (hp : SqL K H p xs) (hi : atI xs a = some v) (h : Q v H) : rIxL K (.ref p) (.int a) H Q := ⟨p, xs, a, v, rfl, rfl, hp, hi, h⟩
theorem rd_ixT {p : Addr} {xs : List V} (hp : SqT K H p xs) (hi : atI xs a = some v) (h : Q v H) : rIxT K (.ref p) (.int a) H Q := ⟨p, xs, a, v, rfl, rfl, hp, hi, h⟩
theorem rd_setL {p : Addr} {xs : List V} {j : Nat} {Qh : Hp → Prop} (hp : H p = some (.lst xs)) (hi : ixN xs.length a = some j) (h : Qh (upd H p (.lst (xs.set j v)))) : rSetL (.ref p) (.int a) v H Qh := ⟨p, xs, a, j, rfl, rfl, hp, hi, h⟩
theorem rd_cat {p q : Addr} {xs ys : List V} (hp : H p = some (.lst xs)) (hq : H q = some (.lst ys)) (hl : xs.length + ys.length ≤ sizeLine) (h : ∀ l, H l = none → Q (.ref l) (upd H l (.lst (xs ++ ys)))) : rCat (.ref p) (.ref q) H Q := ⟨p, q, xs, ys, rfl, rfl, hp, hq, hl, h⟩
theorem rd_rep {p : Addr} {xs : List V} (hp : H p = some (.lst xs)) (h1 : -(2 ^ 63) ≤ a) (h2 : a < 2 ^ 63) (hl : xs.length * a.toNat ≤ sizeLine) (h : ∀ l, H l = none → Q (.ref l) (upd H l (.lst (List.replicate a.toNat xs).flatten))) : rRep (.ref p) (.int a) H Q := ⟨p, a, xs, rfl, rfl, hp, h1, h2, hl, h⟩
theorem rd_true (h : A) : if (true : Bool) = true then A else B := iteT h
theorem rd_false (h : B) : if (false : Bool) = true then A else B := iteF h
end
end L2
/-! Short names for readings of built-ins, and their steps. -/
namespace L2
open PySem PySem.Spec PyProof.Rows
theorem CMul.le {i j : Int} (h : -(2 ^ 64) < i ∧ i < 2 ^ 64) : CMul i j := .inl h
theorem CMul.ri {i j : Int} (h : -(2 ^ 64) < j ∧ j < 2 ^ 64) : CMul i j := .inr h
theorem CDiv.of {i j : Int} (h : 0 < j ∧ j < 1073741824) : CDiv i j := h
def rAbs : List V → Hp → VK → Prop := fun xs H Q => ∃ i, xs = [.int i] ∧ Q (.int (if i < 0 then -i else i)) H
def rMax2 : List V → Hp → VK → Prop := fun xs H Q => ∃ i j, xs = [.int i, .int j] ∧ Q (.int (if j > i then j else i)) H
def rMin2 : List V → Hp → VK → Prop := fun xs H Q => ∃ i j, xs = [.int i, .int j] ∧ Q (.int (if j < i then j else i)) H
def rInt1 : List V → Hp → VK → Prop := fun xs H Q => (∃ i, xs = [.int i] ∧ Q (.int i) H) ∨ ∃ k, xs = [.bl k] ∧ Q (.int (if k then 1 else 0)) H
def rLen (K : PySem.W.Frag) : List V → Hp → VK → Prop := fun xs H Q => ∃ p ys, xs = [.ref p] ∧ (SqL K H p ys ∨ SqT K H p ys) ∧ Q (.int ys.length) H
def rLenS : List V → Hp → VK → Prop := fun xs H Q => ∃ z : Str, xs = [.str z] ∧ z.length ≤ sizeLine ∧ Q (.int z.length) H
def rListOf (K : PySem.W.Frag) : List V → Hp → VK → Prop := fun xs H Q => ∃ p ys, xs = [.ref p] ∧ (SqL K H p ys ∨ SqT K H p ys) ∧ ∀ l, H l = none → Q (.ref l) (upd H l (.lst ys))
def rTupOf (K : PySem.W.Frag) : List V → Hp → VK → Prop := fun xs H Q => ∃ p ys, xs = [.ref p] ∧ ((SqL K H p ys ∧ ∀ l, H l = none → Q (.ref l) (upd H l (.tup ys))) ∨ (SqT K H p ys ∧ Q (.ref p) H))
section
variable {X : Cx}
theorem c_abs : CallR X (.builtin "abs") rAbs := call_abs
theorem c_max2 (hc : X.calm = true) : CallR X (.builtin "max") rMax2 := call_max2 hc
theorem c_min2 (hc : X.calm = true) : CallR X (.builtin "min") rMin2 := call_min2 hc
theorem c_int : CallR X (.type "int") rInt1 := call_int1
theorem c_len : CallR X (.builtin "len") (rLen X.K) := call_len_seq
theorem c_lenS : CallR X (.builtin "len") rLenS := call_len_str
theorem c_list : CallR X (.type "list") (rListOf X.K) := call_list_of
theorem c_tuple : CallR X (.type "tuple") (rTupOf X.K) := call_tuple_of
end
section
variable {K : PySem.W.Frag} {σ : St} {H : Hp} {D : Ends} {Q : VK} {a b : Int} {k : Bool} {p : Addr} {xs ys : List V} {v x y : V} {z : Str} {te ta : TE} {tA : TA} {f : Str}
theorem rd_abs (h : Q (.int (if a < 0 then -a else a)) H) : rAbs [.int a] H Q := ⟨a, rfl, h⟩
theorem rd_max2 (h : Q (.int (if b > a then b else a)) H) : rMax2 [.int a, .int b] H Q := ⟨a, b, rfl, h⟩
theorem rd_min2 (h : Q (.int (if b < a then b else a)) H) : rMin2 [.int a, .int b] H Q := ⟨a, b, rfl, h⟩
theorem rd_intI (h : Q (.int a) H) : rInt1 [.int a] H Q := .inl ⟨a, rfl, h⟩
theorem rd_intB (h : Q (.int (if k then 1 else 0)) H) : rInt1 [.bl k] H Q := .inr ⟨k, rfl, h⟩
theorem rd_len (hp : SqL K H p xs) (h : Q (.int xs.length) H) : rLen K [.ref p] H Q := ⟨p, xs, rfl, .inl hp, h⟩
theorem rd_lenT (hp : SqT K H p xs) (h : Q (.int xs.length) H) : rLen K [.ref p] H Q := ⟨p, xs, rfl, .inr hp, h⟩
theorem rd_lenS (hl : z.length ≤ sizeLine) (h : Q (.int z.length) H) : rLenS [.str z] H Q := ⟨z, rfl, hl, h⟩
theorem rd_listL (hp : SqL K H p xs) (h : ∀ l, H l = none → Q (.ref l) (upd H l (.lst xs))) : rListOf K [.ref p] H Q := ⟨p, xs, rfl, .inl hp, h⟩
theorem rd_listT (hp : SqT K H p xs) (h : ∀ l, H l = none → Q (.ref l) (upd H l (.lst xs))) : rListOf K [.ref p] H Q := ⟨p, xs, rfl, .inr hp, h⟩
theorem rd_tupL (hp : SqL K H p xs) (h : ∀ l, H l = none → Q (.ref l) (upd H l (.tup xs))) : rTupOf K [.ref p] H Q := ⟨p, xs, rfl, .inl ⟨hp, h⟩⟩
theorem rd_tupT (hp : SqT K H p xs) (h : Q (.ref p) H) : rTupOf K [.ref p] H Q := ⟨p, xs, rfl, .inr ⟨hp, h⟩⟩
theorem rd_append (hp : H p = some (.lst xs)) (hl : xs.length < sizeLine) (h : Q .non (upd H p (.lst (xs ++ [y])))) : rAppend (.ref p) [y] H Q := ⟨p, xs, y, rfl, rfl, hp, hl, h⟩
theorem rd_bmL {r : V → List V → Hp → VK → Prop} {to : TE} (h : to σ H fun x H1 => tyV K "list" x H1 ∧ tA σ H1 fun ys H2 => r x ys H2 Q) : tBM K "list" r to tA σ H Q := h
theorem rd_fld {C dx : Addr} {fs : List (Str × V)} (h : ta σ H fun x H1 => ∃ a C dx fs v, x = .ref a ∧ H1 a = some (.ins C dx fs) ∧ Cls K C ∧ NoAttr K C f ∧ fs.lookup f = some v ∧ Q v H1) : tFld K ta f σ H Q := h
theorem rd_repr {d : PyData} (hd : Dp K H x d) (hs : d.showable = true) (hl : d.shown.length ≤ sizeLine) (hdp : d.depth ≤ 60) (h : Q (.str d.shown) H) : rRepr K [x] H Q := ⟨x, d, rfl, hd, hs, hl, hdp, h⟩
theorem rd_eqD {d e : PyData} (hd : Dp K H x d) (he : Dp K H y e) (sd : SeqAt.shaped d = true) (se : SeqAt.shaped e = true) (h : Q (.bl (PyData.eqv d e)) H) : rEqD K x y H Q := ⟨d, e, hd, he, sd, se, h⟩
theorem rd_neD {d e : PyData} (hd : Dp K H x d) (he : Dp K H y e) (sd : SeqAt.shaped d = true) (se : SeqAt.shaped e = true) (h : Q (.bl (!PyData.eqv d e)) H) : rNeD K x y H Q := ⟨d, e, hd, he, sd, se, h⟩
theorem rd_xa {B newId : String} {to : TE} (h : to σ H fun x H1 => ∃ (a C d : Addr) (fs : List (Str × V)) (v : V), x = .ref a ∧ XcC K C B newId ∧ PySem.W.findIn K (.ref C) f = some none ∧ H1 a = some (exo a C (some d)) ∧ H1 d = some (exd d fs) ∧ fs.lookup f = some v ∧ Q v H1) : tXa K B newId f to σ H Q := h
theorem rd_mkx {C : Addr} {n m : Nat} {sp : Sp} {gV : List V → List V → List V} {tk : TA} (h : tA σ H fun vs H1 => tk σ H1 fun zs H2 => vs.length = n ∧ zs.length = m ∧ ∀ a, H2 a = none → sp (gV (.ref a :: vs) zs) (upd H2 a (exo a C none)) (fun v H3 => v = .non ∧ Q (.ref a) H3) fun _ _ _ => False) : tMkX C n m sp gV tA tk σ H Q := h
end

/-! ### heaps that only grow -/
theorem Same.new {H : Hp} {p : Addr} {o : HO} (h : H p = none) : Same H (upd H p o) := fun b u e => by
  rw [upd_ne (ne_of_none e h)]
  exact e
theorem Same.sqt {K : PySem.W.Frag} {H H' : Hp} {a : Addr} {xs : List V} (e : Same H H') (h : SqT K H a xs) : SqT K H' a xs := by
  rcases h with (h | ⟨o, h⟩) | h
  · exact .inl (.inl (e _ _ h))
  · exact .inl (.inr ⟨o, e _ _ h⟩)
  · exact .inr h
mutual
theorem Dp.map {K : PySem.W.Frag} {H H' : Hp} (hl : ∀ a xs, SqL K H a xs → SqL K H' a xs) (ht : ∀ a xs, SqT K H a xs → SqT K H' a xs) : ∀ {d : PyData} {v : V}, Dp K H v d → Dp K H' v d
  | _, _, .non => .non
  | _, _, .bl b => .bl b
  | _, _, .int i => .int i
  | _, _, .str x => .str x
  | _, _, .lst h1 h2 => .lst (hl _ _ h1) (DpAll.map hl ht h2)
  | _, _, .tup h1 h2 => .tup (ht _ _ h1) (DpAll.map hl ht h2)
theorem DpAll.map {K : PySem.W.Frag} {H H' : Hp} (hl : ∀ a xs, SqL K H a xs → SqL K H' a xs) (ht : ∀ a xs, SqT K H a xs → SqT K H' a xs) : ∀ {ds : List PyData} {vs : List V}, DpAll K H vs ds → DpAll K H' vs ds
  | _, _, .nil => .nil
  | _, _, .cons h1 h2 => .cons (Dp.map hl ht h1) (DpAll.map hl ht h2)
end
theorem Dp.same {K : PySem.W.Frag} {H H' : Hp} {d : PyData} {v : V} (e : Same H H') (h : Dp K H v d) : Dp K H' v d := h.map (fun _ _ z => e.seq z) fun _ _ z => e.sqt z
theorem DpAll.bls {K : PySem.W.Frag} {H : Hp} : ∀ (bs : List Bool), DpAll K H (bs.map V.bl) (bs.map PyData.bool)
  | [] => .nil
  | b :: bs => .cons (.bl b) (DpAll.bls bs)
theorem DpAll.ints {K : PySem.W.Frag} {H : Hp} : ∀ (ns : List Int), DpAll K H (ns.map V.int) (ns.map PyData.int)
  | [] => .nil
  | b :: bs => .cons (.int b) (DpAll.ints bs)
theorem DpAll.rep {K : PySem.W.Frag} {H : Hp} {v : V} {d : PyData} (h : Dp K H v d) : ∀ n : Nat, DpAll K H (List.replicate n v) (List.replicate n d)
  | 0 => .nil
  | n + 1 => .cons h (DpAll.rep h n)
theorem DpAll.app {K : PySem.W.Frag} {H : Hp} : ∀ {vs : List V} {ds : List PyData} {us : List V} {es : List PyData}, DpAll K H vs ds → DpAll K H us es → DpAll K H (vs ++ us) (ds ++ es)
  | _, _, _, _, .nil, h => h
  | _, _, _, _, .cons h1 h2, h => .cons h1 (h2.app h)
section
variable {K : PySem.W.Frag} {σ : St} {H : Hp} {D : Ends} {Q : VK} {a b : Int} {k : Bool} {p q : Addr} {xs ys : List V} {v x y : V} {te ta : TE} {tA : TA} {f : Str} {g : TG} {tb : TS}
/-- a new list, told by what stands -/
theorem rd_lstS (h : tA σ H fun xs H1 => xs.length ≤ sizeLine ∧ ∀ p H', H1 p = none → Same H1 H' → H' p = some (.lst xs) → Q (.ref p) H') (m : ∀ {P P' : List V → Hp → Prop}, (∀ xs H1, P xs H1 → P' xs H1) → tA σ H P → tA σ H P') : tLst tA σ H Q :=
  m (fun xs H1 ⟨h1, h2⟩ => ⟨h1, fun p hp => h2 p _ hp (Same.new hp) upd_same⟩) h
theorem for_enum (Pv : Nat → St → Hp → Prop) (h0 : Pv 0 σ H) (hl : ∀ i σ H, Pv i σ H → SqL K H p xs)
    (hs : ∀ (i : Nat) (x : V) (T : Addr) (σ : St) (H : Hp), xs[i]? = some x → Pv i σ H → H T = none → g (.ref T) σ (upd H T (.tup [.int (i : Nat), x])) fun σ2 H2 => tb { D with nx := Pv (i + 1), ct := Pv (i + 1), bk := D.nx } σ2 H2) (hd : ∀ σ H, Pv xs.length σ H → D.nx σ H) :
    ∃ W : Nat → Nat → St → Hp → Prop, (∃ m, W 0 m σ H) ∧ ∀ i m σ H, W i m σ H →
      ((Ite K p).stop i H ∧ D.nx σ H) ∨ ((Ite K p).go i H ∧ ∃ N : St → Hp → Prop, (∀ σ' H', N σ' H' → ∃ m', m' < m ∧ W (i + 1) m' σ' H') ∧ ∀ v H', (Ite K p).yld i H v H' → g v σ H' fun σ2 H2 => tb { D with nx := N, ct := N, bk := D.nx } σ2 H2) := by
  refine ⟨fun i m σ H => m = xs.length - i ∧ i ≤ xs.length ∧ Pv i σ H, ⟨xs.length, rfl, Nat.zero_le _, h0⟩, ?_⟩
  rintro i m σ H ⟨rfl, hi, pv⟩
  have hq := hl i σ H pv
  by_cases hlt : i < xs.length
  · refine .inr ⟨⟨xs, xs[i], hq, List.getElem?_eq_getElem hlt⟩, Pv (i + 1), fun σ' H' z => ⟨_, ?_, rfl, hlt, z⟩, fun v H' y => ?_⟩
    · omega
    · obtain ⟨T, x, rfl, hT, rfl, hx⟩ := y
      exact hs i x T σ H (hx xs hq) pv hT
  · have e : i = xs.length := by omega
    subst e
    exact .inl ⟨⟨xs, hq, Nat.le_refl _⟩, hd σ H pv⟩
theorem rd_for {wi : TI} (h : wi σ H fun J H1 => ∃ W : Nat → Nat → St → Hp → Prop, (∃ m, W 0 m σ H1) ∧ ∀ i m σ H, W i m σ H →
    (J.stop i H ∧ D.nx σ H) ∨ (J.go i H ∧ ∃ N : St → Hp → Prop, (∀ σ' H', N σ' H' → ∃ m', m' < m ∧ W (i + 1) m' σ' H') ∧ ∀ v H', J.yld i H v H' → g v σ H' fun σ2 H2 => tb { D with nx := N, ct := N, bk := D.nx } σ2 H2)) : tFor wi g tb D σ H := h
theorem rd_iEnum {R : It → Hp → Prop} (h : tA σ H fun vs H1 => ∃ a xs, vs = [.ref a] ∧ SqL K H1 a xs ∧ R (Ite K a) H1) : iEnum K tA σ H R := h
theorem rd_iList {R : It → Hp → Prop} (h : te σ H fun x H1 => ∃ a, x = .ref a ∧ (∃ xs, SqL K H1 a xs) ∧ R (Itl K a) H1) : iList K te σ H R := h
theorem rd_iRng1 {R : It → Hp → Prop} (h : tA σ H fun vs H1 => ∃ j : Int, vs = [.int j] ∧ -(2 ^ 62) ≤ j ∧ j < 2 ^ 62 ∧ R (Itr 0 j.toNat) H1) : iRng1 tA σ H R := h
theorem rd_gtup {n : Nat} {t : TGs} {Qs : St → Hp → Prop} {T : Addr} (h : H T = some (.tup xs)) (hn : xs.length = n) (q : t xs σ H Qs) : gTup K n t (.ref T) σ H Qs := ⟨T, xs, rfl, SqT.of h, hn, q⟩
theorem rd_gcons {t : TG} {u : TGs} {Qs : St → Hp → Prop} {v : V} {r : List V} (h : t v σ H fun σ' H' => u r σ' H' Qs) : gCons t u (v :: r) σ H Qs := ⟨v, r, rfl, h⟩
theorem rd_gnil {Qs : St → Hp → Prop} (h : Qs σ H) : gNil [] σ H Qs := ⟨rfl, h⟩
theorem rd_lc {wi : TI} {tt : TT} {vs : List Nat} (h : wi σ H fun J H1 => ∀ D, H1 D = none → ∃ W : Nat → Nat → Hp → Prop, (∃ m, W 0 m (upd H1 D (.lst []))) ∧ ∀ i m H, W i m H →
  (J.stop i H ∧ Q (.ref D) H) ∨ (J.go i H ∧ ∃ Nx : Hp → Prop, (∀ H', Nx H' → ∃ m', m' < m ∧ W (i + 1) m' H') ∧ ∀ x H', J.yld i H x H' → g x (wipe σ vs) H' fun σ2 H2 => wipe σ2 vs = wipe σ vs ∧ tt σ2 H2 fun b H3 =>
    if b = true then te σ2 H3 fun y H4 => ∃ acc, H4 D = some (.lst acc) ∧ acc.length < sizeLine ∧ Nx (upd H4 D (.lst (acc ++ [y]))) else Nx H3)) : tLc wi g tt te vs σ H Q := h
theorem rd_yes {QB : Bool → Hp → Prop} (h : QB true H) : tYes σ H QB := h
end
end L2
namespace L2
open PySem PySem.Spec PyProof.Rows
theorem new_of {H H' : Hp} {p : Addr} {o : HO} (hp : H p = none) (e : upd H p o = H') : Same H H' ∧ H' p = some o := by
  subst e
  exact ⟨Same.new hp, upd_same⟩
theorem Same.at {H H' : Hp} {p : Addr} {o : HO} (s : Same H H') (h : H p = some o) : H' p = some o := s p o h
theorem rd_sz {n : Nat} {P : Prop} (h : Nat.ble n 1000 = true) (hp : P) : n ≤ sizeLine ∧ P := ⟨Nat.le_trans (Nat.le_of_ble_eq_true h) (by decide), hp⟩
theorem rd_isX {K : PySem.W.Frag} {H : Hp} {Q : VK} {a C : Addr} {d : Option Addr} {c : V} {u : Value} {b : Bool} {B newId : String} (k : ClsV c u) (T : XcC K C B newId) (ea : H a = some (exo a C d)) (ed : ∀ dx, d = some dx → ∃ fs, H dx = some (exd dx fs)) (e : PySem.W.kitOne K (.ref C) u = some b) (h : Q (.bl b) H) :
    rIsX K [.ref a, c] H Q := ⟨a, C, d, c, u, b, B, newId, rfl, k, T, ea, ed, e, h⟩
theorem tyL {K : PySem.W.Frag} {H : Hp} {p : Addr} {xs : List V} {A : Prop} (h : SqL K H p xs) (q : A) : tyV K "list" (.ref p) H ∧ A := ⟨Or.inl ⟨rfl, _, h⟩, q⟩
theorem Same.mut {H H' : Hp} {p : Addr} {o : HO} (e : Same H H') (h : H p = none) : Same H (upd H' p o) := fun a u ha => by
  rw [upd_ne (ne_of_none ha h)]
  exact e a u ha
/-! ### how long data's text is -/
theorem shownAll_map : ∀ ds : List PyData, PyData.shownAll ds = ds.map PyData.shown
  | [] => rfl
  | d :: ds => by
    show d.shown :: PyData.shownAll ds = d.shown :: ds.map PyData.shown
    rw [shownAll_map ds]
theorem sum_le {m : Nat} : ∀ {ds : List PyData}, (∀ d ∈ ds, d.shown.length ≤ m) → ((ds.map PyData.shown).map (·.length)).sum ≤ m * ds.length
  | [], _ => Nat.zero_le _
  | d :: ds, h => by
    have h1 := h d (List.mem_cons_self ..)
    have h2 := sum_le (ds := ds) fun e he => h e (List.mem_cons_of_mem _ he)
    simp only [List.map_cons, List.sum_cons, List.length_cons, Nat.mul_succ]
    omega
theorem shown_list_le {ds : List PyData} {m : Nat} (h : ∀ d ∈ ds, d.shown.length ≤ m) : (PyData.list ds).shown.length ≤ m * ds.length + 2 * ds.length + 3 := by
  have h1 := listText_len_le (PyData.shownAll ds)
  rw [shownAll_map] at h1
  have h2 := sum_le h
  simp only [PyData.shown]
  rw [shownAll_map]
  rw [List.length_map] at h1
  omega
theorem showable_list : ∀ {ds : List PyData}, (∀ d ∈ ds, d.showable = true) → (PyData.list ds).showable = true
  | [], _ => by simp [PyData.showable, PyData.showableAll]
  | d :: ds, h => by
    have h1 := h d (List.mem_cons_self ..)
    have h2 := showable_list (ds := ds) fun e he => h e (List.mem_cons_of_mem _ he)
    simp only [PyData.showable, PyData.showableAll] at h2 ⊢
    rw [h1, h2]
    rfl
theorem depth_list {m : Nat} : ∀ {ds : List PyData}, (∀ d ∈ ds, d.depth ≤ m) → (PyData.list ds).depth ≤ m + 1
  | [], _ => by simp [PyData.depth, PyData.depthAll]
  | d :: ds, h => by
    have h1 := h d (List.mem_cons_self ..)
    have h2 := depth_list (ds := ds) fun e he => h e (List.mem_cons_of_mem _ he)
    simp only [PyData.depth, PyData.depthAll] at h2 ⊢
    omega
/-! ### lists by their items -/
inductive Lst (R : Nat → V → Prop) : Nat → List V → Prop where
  | nil {k : Nat} : Lst R k []
  | cons {k : Nat} {x : V} {xs : List V} (h : R k x) (t : Lst R (k + 1) xs) : Lst R k (x :: xs)
theorem Lst.get {R : Nat → V → Prop} : ∀ {k : Nat} {xs : List V}, Lst R k xs → ∀ {i : Nat} {x : V}, xs[i]? = some x → R (k + i) x
  | _, _, .nil, _, _, e => by simp at e
  | _, _, .cons h _, 0, _, e => by
    simp at e
    subst e
    exact h
  | k, _, .cons _ t, i + 1, _, e => by
    have z := t.get (i := i) (by simpa using e)
    rw [show k + (i + 1) = k + 1 + i by omega]
    exact z
theorem Lst.at {R : Nat → V → Prop} {xs : List V} (h : Lst R 0 xs) {i : Nat} (hi : i < xs.length) : ∃ x, xs[i]? = some x ∧ R i x := by
  refine ⟨_, List.getElem?_eq_getElem hi, ?_⟩
  have z := h.get (List.getElem?_eq_getElem hi)
  rwa [Nat.zero_add] at z
section
variable {K : PySem.W.Frag} {σ : St} {H Hx : Hp} {D : Ends} {Q : VK} {p : Addr} {xs : List V} {y : V} {g : TG} {tb : TS} {R : Nat → V → Prop}
theorem rd_appS (hp : H p = some (.lst xs)) (hx : Hx p = none) (s : Same Hx H) (hl : xs.length < sizeLine) (h : ∀ H', Same Hx H' → (∀ b, b ≠ p → H' b = H b) → H' p = some (.lst (xs ++ [y])) → Q .non H') : rAppend (.ref p) [y] H Q :=
  rd_append hp hl (h _ (Same.mut s hx) (fun b hb => upd_ne hb) upd_same)
theorem rd_enum (hp : H p = some (.lst xs)) (L : Lst R 0 xs) (Pv : Nat → St → Hp → Prop) (h0 : Pv 0 σ H) (hS : ∀ i σ' H', Pv i σ' H' → Same H H')
    (hs : ∀ (i : Nat) (x : V) (T : Addr) (σ' : St) (H' : Hp), R i x → i < xs.length → Pv i σ' H' → H' T = none → g (.ref T) σ' (upd H' T (.tup [.int (i : Nat), x])) fun σ2 H2 => tb { D with nx := Pv (i + 1), ct := Pv (i + 1), bk := D.nx } σ2 H2) (hd : ∀ σ' H', Pv xs.length σ' H' → D.nx σ' H') :
    ∃ a ys, [V.ref p] = [V.ref a] ∧ SqL K H a ys ∧ ∃ W : Nat → Nat → St → Hp → Prop, (∃ m, W 0 m σ H) ∧ ∀ i m σ H, W i m σ H →
      ((Ite K a).stop i H ∧ D.nx σ H) ∨ ((Ite K a).go i H ∧ ∃ N : St → Hp → Prop, (∀ σ' H', N σ' H' → ∃ m', m' < m ∧ W (i + 1) m' σ' H') ∧ ∀ v H', (Ite K a).yld i H v H' → g v σ H' fun σ2 H2 => tb { D with nx := N, ct := N, bk := D.nx } σ2 H2) :=
  ⟨p, xs, rfl, SqL.of hp, for_enum Pv h0 (fun i σ' H' q => (hS i σ' H' q).seq (SqL.of hp)) (fun i x T σ' H' e q hT => hs i x T σ' H' (by
    have z := L.get e
    rwa [Nat.zero_add] at z) (List.getElem?_eq_some_iff.mp e).1 q hT) hd⟩
end
theorem eqv_bls (bs : List Bool) : PyData.eqv (.list (bs.map .bool)) (.list (bs.map .bool)) = true := by
  have h : PyData.eqvAll (bs.map .bool) (bs.map .bool) = true := by
    induction bs with
    | nil => rfl
    | cons b bs ih =>
      simp only [List.map_cons, PyData.eqvAll, ih, PyData.eqv]
      cases b <;> rfl
  simpa only [PyData.eqv] using h
end L2
/-! Own exceptions that store one or two fields: made, their fields read, their classes asked. -/
namespace L2
open PySem PySem.Spec PyProof.Rows PySem.XV
/-- the promise of an __init__ that stores its one | two parameters -/
def spX1 (C : Addr) (f : Str) : Sp := fun vs H Q _ => ∃ (a : Addr) (v : V), vs = [.ref a, v] ∧ H a = some (exo a C none) ∧ ∀ dx, H dx = none → dx ≠ a → Q .non (upd (upd H dx (exd dx [(f, v)])) a (exo a C (some dx)))
def spX2 (C : Addr) (f g : Str) : Sp := fun vs H Q _ => ∃ (a : Addr) (v u : V), vs = [.ref a, v, u] ∧ H a = some (exo a C none) ∧ ∀ dx, H dx = none → dx ≠ a → Q .non (upd (upd (upd H dx (exd dx [(f, v)])) a (exo a C (some dx))) dx (exd dx [(g, u), (f, v)]))
theorem FunD.kbK {K : PySem.W.Frag} {x qual : Str} {params : Arguments} {body : List Stmt} {scope : Scope} {f : Addr} {fd : FuncData} {ps ks : List Str} {n : Nat} {g : List Value → List Value → List Value} {gV : List V → List V → List V} (F : FunD K x qual params body scope [] [] f fd)
    (hrel : ∀ {vs : List V} {us : List Value} {zs : List V} {ws : List Value}, Vals vs us → Vals zs ws → Vals (gV vs zs) (g us ws))
    (h : ∀ (kV doc pm : Value) (an : Option Addr) (cdv ct : Value) (us ws : List Value), us.length = n → ws.length = ks.length → bindArgs (PySem.W.fnOf x qual params body scope .none kV doc pm an cdv ct) ⟨us, ks.zip ws⟩ = pure (ps.zip (g us ws))) : KBn K fd ps n ks g gV := by
  obtain ⟨oc, od, dV, kV, doc, pm, an, cdv, ct, osl, rfl, lk, hcd, hD, hK⟩ := F.ex
  rcases hD with ⟨_, rfl⟩ | ⟨e, _⟩
  · exact ⟨fun s us ws X l1 l2 => .of_eq (h kV doc pm an cdv ct us ws l1 l2), hrel⟩
  · exact absurd rfl e
theorem rel_pos {vs : List V} {us : List Value} {zs : List V} {ws : List Value} (h : Vals vs us) (_ : Vals zs ws) : Vals ((fun vs _ => vs) vs zs) ((fun us _ => us) us ws) := h
theorem rel_kw {vs : List V} {us : List Value} {zs : List V} {ws : List Value} (h : Vals vs us) (h2 : Vals zs ws) : Vals ((fun vs zs => vs ++ zs) vs zs) ((fun us ws => us ++ ws) us ws) := h.append h2
theorem rel_kwr {vs : List V} {us : List Value} {zs : List V} {ws : List Value} (h : Vals vs us) (h2 : Vals zs ws) : Vals ((fun vs zs => vs ++ zs.reverse) vs zs) ((fun us ws => us ++ ws.reverse) us ws) := h.append h2.reverse
/-- a class of one field f, at C -/
structure X1 (P : Program) (w : World) (K : PySem.W.Frag) (mg : Str → Option Value) (base : Heap) (x : Str) (C : Addr) (f : Str) (B newId : String) : Prop where
  xc : XcC K C B newId
  gm : mg x = some (.ref C)
  no : PySem.W.findIn K (.ref C) f = some none
  ex : ∃ (fI : Addr) (fd : FuncData), PySem.W.findIn K (.ref C) "__init__" = some (some (.ref fI)) ∧ PySem.W.typeIn K (.ref fI) = some (.type "function") ∧ FnOk P w K mg base CX0 1 fI fd ["self", f] (spX1 C f) ∧
    KBn K fd ["self", f] 2 [] (fun us _ => us) (fun vs _ => vs) ∧ KBn K fd ["self", f] 1 [f] (fun us ws => us ++ ws) (fun vs zs => vs ++ zs)
structure X2 (P : Program) (w : World) (K : PySem.W.Frag) (mg : Str → Option Value) (base : Heap) (x : Str) (C : Addr) (f g : Str) (B newId : String) : Prop where
  xc : XcC K C B newId
  gm : mg x = some (.ref C)
  no : PySem.W.findIn K (.ref C) f = some none
  no2 : PySem.W.findIn K (.ref C) g = some none
  ne : g ≠ f
  ex : ∃ (fI : Addr) (fd : FuncData), PySem.W.findIn K (.ref C) "__init__" = some (some (.ref fI)) ∧ PySem.W.typeIn K (.ref fI) = some (.type "function") ∧ FnOk P w K mg base CX0 1 fI fd ["self", f, g] (spX2 C f g) ∧
    KBn K fd ["self", f, g] 3 [] (fun us _ => us) (fun vs _ => vs) ∧ KBn K fd ["self", f, g] 1 [g, f] (fun us ws => us ++ ws.reverse) (fun vs zs => vs ++ zs.reverse)
/-- an exception of the class at C stands at e -/
def XAt (H : Hp) (e C : Addr) : Prop := ∃ d : Option Addr, H e = some (exo e C d) ∧ ∀ dx, d = some dx → ∃ fs, H dx = some (exd dx fs)
theorem XAt.same {H H' : Hp} {e C : Addr} (s : Same H H') (x : XAt H e C) : XAt H' e C := by
  obtain ⟨d, h, k⟩ := x
  exact ⟨d, s _ _ h, fun dx q => let ⟨fs, z⟩ := k dx q; ⟨fs, s _ _ z⟩⟩
theorem XAt.of0 {H : Hp} {e C : Addr} (h : H e = some (exo e C none)) : XAt H e C := ⟨none, h, fun _ z => nomatch z⟩
theorem same3 {H : Hp} {a dx : Addr} {o1 o2 o3 : HO} (ha : H a = none) (hd : H dx = none) (ne : dx ≠ a) : Same H (upd (upd (upd H a o1) dx o2) a o3) := fun b o e => by
  rw [upd_ne (ne_of_none e ha), upd_ne (ne_of_none e hd), upd_ne (ne_of_none e ha)]
  exact e
theorem same4 {H : Hp} {a dx : Addr} {o1 o2 o3 o4 : HO} (ha : H a = none) (hd : H dx = none) (ne : dx ≠ a) : Same H (upd (upd (upd (upd H a o1) dx o2) a o3) dx o4) := fun b o e => by
  rw [upd_ne (ne_of_none e hd), upd_ne (ne_of_none e ha), upd_ne (ne_of_none e hd), upd_ne (ne_of_none e ha)]
  exact e
theorem fresh_upd {H : Hp} {a dx : Addr} {o : HO} (h : upd H a o dx = none) (ne : dx ≠ a) : H dx = none := by rwa [upd_ne ne] at h
/-- the exception's making and what is known of it behind -/
theorem mk1 {C : Addr} {f : Str} {H : Hp} {v : V} {Q : VK} (h : ∀ a d H2, H a = none → Same H H2 → H2 a = some (exo a C (some d)) → H2 d = some (exd d [(f, v)]) → Q (.ref a) H2) :
    ∀ a, H a = none → spX1 C f [.ref a, v] (upd H a (exo a C none)) (fun u H3 => u = .non ∧ Q (.ref a) H3) fun _ _ _ => False := fun a ha =>
  ⟨a, v, rfl, upd_same, fun dx hd ne => ⟨rfl, h a dx _ ha (same3 ha (fresh_upd hd ne) ne) upd_same (by rw [upd_ne ne, upd_same])⟩⟩
theorem mk2 {C : Addr} {f g : Str} {H : Hp} {v u : V} {Q : VK} (h : ∀ a d H2, H a = none → Same H H2 → H2 a = some (exo a C (some d)) → H2 d = some (exd d [(g, u), (f, v)]) → Q (.ref a) H2) :
    ∀ a, H a = none → spX2 C f g [.ref a, v, u] (upd H a (exo a C none)) (fun z H3 => z = .non ∧ Q (.ref a) H3) fun _ _ _ => False := fun a ha =>
  ⟨a, v, u, rfl, upd_same, fun dx hd ne => ⟨rfl, h a dx _ ha (same4 ha (fresh_upd hd ne) ne) (by rw [upd_ne ne.symm, upd_same]) upd_same⟩⟩
section
variable {X : Cx} {x f g : Str} {C : Addr} {B newId initId : String} {bmB : List Value} {e e2 : Expr} {te te2 : TE} {p pos pos2 kp kp2 : Pos}
def tV1 (C : Addr) (te : TE) : TE := fun σ H Q => te σ H fun v H1 => ∀ a H2, H1 a = none → Same H1 H2 → XAt H2 a C → Q (.ref a) H2
def tV2 (C : Addr) (te te2 : TE) : TE := fun σ H Q => te σ H fun v H1 => te2 σ H1 fun u H2 => ∀ a H3, H2 a = none → Same H2 H3 → XAt H3 a C → Q (.ref a) H3
def tGet (te : TE) : TE := fun σ H Q => te σ H fun v H1 => ∀ H2, Same H1 H2 → Q v H2
def tGet2 (k : Bool) (te te2 : TE) : TE := fun σ H Q => te σ H fun v H1 => te2 σ H1 fun u H2 => ∀ H3, Same H2 H3 → Q (if k then u else v) H3
theorem nop : Passes CX0 X fun _ _ _ => False := fun _ _ _ _ _ _ _ h => h.elim
theorem pe_v1 (F : ExcBaseFacts B newId initId bmB) (S : X1 X.prog X.w X.K X.mg X.base x C f B newId) (hr : Room 2 X.A) (he : PE X e te) (hg : Gl X x := by rfl) (hdb : (x == ("__debug__" : Str)) = false := by decide)
    (hs : starEach [e] X.env = (false, eval e X.env) :: starEach [] X.env := by rfl) : PE X (.Call (.Name x p) [e] [] pos) (tV1 C te) := by
  obtain ⟨fI, fd, iC, tI, F1, kb, _⟩ := S.ex
  refine ⟨fun pins s σ H Q I h => ?_⟩
  refine wpAny_Call_Name_kw (ld_glob I hg S.gm ?_ hdb)
  refine PySem.W.callWith_K (h₀ := X.base) I.ok.mod.kin S.xc.kC (thn ((pa_cons he pa_nil hs).run pos pins s σ H (fun vs H1 => match vs with
    | [v] => ∀ a H2, H1 a = none → Same H1 H2 → XAt H2 a C → Q (.ref a) H2
    | _ => False) I h) fun us s1 ⟨vs, H1, I1, r, q⟩ => ⟨I1.kIn, ?_⟩) hs (by rfl)
  match vs, q, r with
  | [v], q, r =>
    exact run_mkx (n := 1) (ws := []) (zs := []) (ks := []) F S.xc iC tI F1 hr kb nop I1 r .nil rfl rfl (by omega) (mk1 (Q := Q) fun a d H2 h0 h1 h2 h3 => q a H2 h0 h1 ⟨_, h2, fun dx z => by cases z; exact ⟨_, h3⟩⟩)
theorem pe_v2 (F : ExcBaseFacts B newId initId bmB) (S : X2 X.prog X.w X.K X.mg X.base x C f g B newId) (hr : Room 2 X.A) (he : PE X e te) (he2 : PE X e2 te2) (hg : Gl X x := by rfl) (hdb : (x == ("__debug__" : Str)) = false := by decide)
    (hs : starEach [e, e2] X.env = (false, eval e X.env) :: starEach [e2] X.env := by rfl) (hs2 : starEach [e2] X.env = (false, eval e2 X.env) :: starEach [] X.env := by rfl) (hpl : (backTo pos (starEach [e2] X.env)).any (·.1) = false := by rfl) : PE X (.Call (.Name x p) [e, e2] [] pos) (tV2 C te te2) := by
  obtain ⟨fI, fd, iC, tI, F1, kb, _⟩ := S.ex
  refine ⟨fun pins s σ H Q I h => ?_⟩
  refine wpAny_Call_Name_kw (ld_glob I hg S.gm ?_ hdb)
  refine PySem.W.callWith_K (h₀ := X.base) I.ok.mod.kin S.xc.kC (thn ((pa_cons he (pa_cons he2 pa_nil hs2) hs).run pos pins s σ H (fun vs H1 => match vs with
    | [v, u] => ∀ a H2, H1 a = none → Same H1 H2 → XAt H2 a C → Q (.ref a) H2
    | _ => False) I h) fun us s1 ⟨vs, H1, I1, r, q⟩ => ⟨I1.kIn, ?_⟩) hs hpl
  match vs, q, r with
  | [v, u], q, r =>
    exact run_mkx (n := 2) (ws := []) (zs := []) (ks := []) F S.xc iC tI F1 hr kb nop I1 r .nil rfl rfl (by omega) (mk2 (Q := Q) fun a d H2 h0 h1 h2 h3 => q a H2 h0 h1 ⟨_, h2, fun dx z => by cases z; exact ⟨_, h3⟩⟩)
/-- reading a field of what te gives -/
theorem get_of {pins : List (Addr × Obj)} {σ : St} {H : Hp} {s : Shared} {Q : VK} {a d : Addr} {fs : List (Str × V)} {v : V} (I : Inv X pins σ H s) (T : XcC X.K C B newId) (no : PySem.W.findIn X.K (.ref C) f = some none) (h2 : H a = some (exo a C (some d))) (h3 : H d = some (exd d fs)) (l : fs.lookup f = some v) (q : Q v H) {b : Bool} {E : Value → Shared → Prop} :
    wpAny (model X.prog X.w) X.A (getAttr (.ref a) f b) (EP X pins σ Q) E s := by
  obtain ⟨t1, ho⟩ := exo_at I.hok h2
  obtain ⟨mA, hns, hr⟩ := exd_at I.hok h3
  obtain ⟨od, hod, hl⟩ := lookIn_ns hns
  obtain ⟨u, hu, ru⟩ := RelO.some_of (v := v) (o := mA f) (by rw [← l]; exact hr f)
  have J : PySem.W.InstAt s.heap a _ C (some od) := ⟨ho, rfl, rfl, hod⟩
  exact HandSPX.exc_get I.kIn J T.ga T.gg T.exC (PySem.W.findObj_own T.hdC no rfl (by rw [hl, hu])) (handed_of ru) ⟨v, H, I.tok _, ru, q⟩
theorem lk1 {f : Str} {v : V} {fs : List (Str × V)} : List.lookup f ((f, v) :: fs) = some v := by simp [List.lookup]
theorem lk2 {f g : Str} {v : V} {fs : List (Str × V)} (h : g ≠ f) : List.lookup f ((g, v) :: fs) = List.lookup f fs := by
  have e : (f == g) = false := by simpa using Ne.symm h
  simp [List.lookup, e]
/-- C(e).f -/
theorem pe_x1 (F : ExcBaseFacts B newId initId bmB) (S : X1 X.prog X.w X.K X.mg X.base x C f B newId) (hr : Room 2 X.A) (he : PE X e te) (hg : Gl X x := by rfl) (hdb : (x == ("__debug__" : Str)) = false := by decide)
    (hs : starEach [e] X.env = (false, eval e X.env) :: starEach [] X.env := by rfl) (hb : attributeBase (.Call (.Name x p) [e] [] pos) f X.env (eval (.Call (.Name x p) [e] [] pos) X.env) = eval (.Call (.Name x p) [e] [] pos) X.env := by rfl) :
    PE X (.Attribute (.Call (.Name x p) [e] [] pos) f pos2) (tGet te) := by
  obtain ⟨fI, fd, iC, tI, F1, kb, _⟩ := S.ex
  refine ⟨fun pins s σ H Q I h => ?_⟩
  refine attr_of hb ?_
  refine wpAny_Call_Name_kw (ld_glob I hg S.gm ?_ hdb)
  refine PySem.W.callWith_K (h₀ := X.base) I.ok.mod.kin S.xc.kC (thn ((pa_cons he pa_nil hs).run pos pins s σ H (fun vs H1 => match vs with
    | [v] => ∀ H2, Same H1 H2 → Q v H2
    | _ => False) I h) fun us s1 ⟨vs, H1, I1, r, q⟩ => ⟨I1.kIn, ?_⟩) hs (by rfl)
  match vs, q, r with
  | [v], q, r =>
    refine thn (run_mkx (Q := fun x H2 => ∃ a d, x = .ref a ∧ Same H1 H2 ∧ H2 a = some (exo a C (some d)) ∧ H2 d = some (exd d [(f, v)])) (n := 1) (ws := []) (zs := []) (ks := []) F S.xc iC tI F1 hr kb nop I1 r .nil rfl rfl (by omega) (mk1 (Q := fun x H2 => ∃ a d, x = .ref a ∧ Same H1 H2 ∧ H2 a = some (exo a C (some d)) ∧ H2 d = some (exd d [(f, v)])) fun a d H2 h0 h1 h2 h3 => ⟨a, d, rfl, h1, h2, h3⟩)) fun u s2 ⟨x2, H2, I2, r2, a, d, ex, h1, h2, h3⟩ => ?_
    subst ex
    obtain rfl : u = Value.ref a := r2
    exact get_of I2 S.xc S.no h2 h3 lk1 (q H2 h1)
/-- C(f = e).f -/
theorem pe_x1k (F : ExcBaseFacts B newId initId bmB) (S : X1 X.prog X.w X.K X.mg X.base x C f B newId) (hr : Room 2 X.A) (he : PE X e te) (hg : Gl X x := by rfl) (hdb : (x == ("__debug__" : Str)) = false := by decide)
    (hall : (backToKw pos (keywordEach [⟨some f, e, kp⟩] X.env)).all (·.1.isSome) = true := by rfl) (hks : (backToKw pos (keywordEach [⟨some f, e, kp⟩] X.env)).filterMap (·.1) = [f] := by rfl)
    (hpl : ((backTo pos (starEach [] X.env)).any (·.1) || (backToKw pos (keywordEach [⟨some f, e, kp⟩] X.env)).any (·.1.isNone)) = false := by rfl)
    (hb : attributeBase (.Call (.Name x p) [] [⟨some f, e, kp⟩] pos) f X.env (eval (.Call (.Name x p) [] [⟨some f, e, kp⟩] pos) X.env) = eval (.Call (.Name x p) [] [⟨some f, e, kp⟩] pos) X.env := by rfl) :
    PE X (.Attribute (.Call (.Name x p) [] [⟨some f, e, kp⟩] pos) f pos2) (tGet te) := by
  obtain ⟨fI, fd, iC, tI, F1, _, kb⟩ := S.ex
  refine ⟨fun pins s σ H Q I h => ?_⟩
  refine attr_of hb ?_
  refine wpAny_Call_Name_kw (ld_glob I hg S.gm ?_ hdb)
  refine PySem.W.callWith_KW0 (h₀ := X.base) I.ok.mod.kin S.xc.kC hall ?_ hpl
  refine thn ((pk_cons (nm := some f) (kpos := kp) he pk_nil).run pos pins s σ H (fun vs H1 => match vs with
    | [v] => ∀ H2, Same H1 H2 → Q v H2
    | _ => False) I h) fun ws s2 ⟨zs, H2, I2, rz, q2⟩ => ⟨I2.kIn, ?_⟩
  rw [hks]
  match zs, q2, rz with
  | [v], q, rz =>
    refine thn (run_mkx (Q := fun x H3 => ∃ a d, x = .ref a ∧ Same H2 H3 ∧ H3 a = some (exo a C (some d)) ∧ H3 d = some (exd d [(f, v)])) (n := 0) (us := []) (vs := []) F S.xc iC tI F1 hr kb nop I2 .nil rz rfl rfl (by omega) (mk1 (Q := fun x H3 => ∃ a d, x = .ref a ∧ Same H2 H3 ∧ H3 a = some (exo a C (some d)) ∧ H3 d = some (exd d [(f, v)])) fun a d H2 h0 h1 h2 h3 => ⟨a, d, rfl, h1, h2, h3⟩)) fun u s2 ⟨x2, H3, I3, r2, a, d, ex, h1, h2, h3⟩ => ?_
    subst ex
    obtain rfl : u = Value.ref a := r2
    exact get_of I3 S.xc S.no h2 h3 lk1 (q H3 h1)
/-- C(e, e2).f, .g -/
theorem pe_x2 (k : Bool) (F : ExcBaseFacts B newId initId bmB) (S : X2 X.prog X.w X.K X.mg X.base x C f g B newId) (hr : Room 2 X.A) (he : PE X e te) (he2 : PE X e2 te2) (hg : Gl X x := by rfl) (hdb : (x == ("__debug__" : Str)) = false := by decide)
    (hs : starEach [e, e2] X.env = (false, eval e X.env) :: starEach [e2] X.env := by rfl) (hs2 : starEach [e2] X.env = (false, eval e2 X.env) :: starEach [] X.env := by rfl) (hpl : (backTo pos (starEach [e2] X.env)).any (·.1) = false := by rfl)
    (hb : attributeBase (.Call (.Name x p) [e, e2] [] pos) (if k then g else f) X.env (eval (.Call (.Name x p) [e, e2] [] pos) X.env) = eval (.Call (.Name x p) [e, e2] [] pos) X.env := by rfl) :
    PE X (.Attribute (.Call (.Name x p) [e, e2] [] pos) (if k then g else f) pos2) (tGet2 k te te2) := by
  obtain ⟨fI, fd, iC, tI, F1, kb, _⟩ := S.ex
  refine ⟨fun pins s σ H Q I h => ?_⟩
  refine attr_of hb ?_
  refine wpAny_Call_Name_kw (ld_glob I hg S.gm ?_ hdb)
  refine PySem.W.callWith_K (h₀ := X.base) I.ok.mod.kin S.xc.kC (thn ((pa_cons he (pa_cons he2 pa_nil hs2) hs).run pos pins s σ H (fun vs H1 => match vs with
    | [v, u] => ∀ H2, Same H1 H2 → Q (if k then u else v) H2
    | _ => False) I h) fun us s1 ⟨vs, H1, I1, r, q⟩ => ⟨I1.kIn, ?_⟩) hs hpl
  match vs, q, r with
  | [v, u], q, r =>
    refine thn (run_mkx (Q := fun x H2 => ∃ a d, x = .ref a ∧ Same H1 H2 ∧ H2 a = some (exo a C (some d)) ∧ H2 d = some (exd d [(g, u), (f, v)])) (n := 2) (ws := []) (zs := []) (ks := []) F S.xc iC tI F1 hr kb nop I1 r .nil rfl rfl (by omega) (mk2 (Q := fun x H2 => ∃ a d, x = .ref a ∧ Same H1 H2 ∧ H2 a = some (exo a C (some d)) ∧ H2 d = some (exd d [(g, u), (f, v)])) fun a d H2 h0 h1 h2 h3 => ⟨a, d, rfl, h1, h2, h3⟩)) fun u' s2 ⟨x2, H2, I2, r2, a, d, ex, h1, h2, h3⟩ => ?_
    subst ex
    obtain rfl : u' = Value.ref a := r2
    cases k with
    | true => exact get_of I2 S.xc S.no2 h2 h3 lk1 (q H2 h1)
    | false => exact get_of I2 S.xc S.no h2 h3 ((lk2 S.ne).trans lk1) (q H2 h1)
/-- C(g = e, f = e2).f, .g -/
theorem pe_x2k (k : Bool) (F : ExcBaseFacts B newId initId bmB) (S : X2 X.prog X.w X.K X.mg X.base x C f g B newId) (hr : Room 2 X.A) (he : PE X e te) (he2 : PE X e2 te2) (hg : Gl X x := by rfl) (hdb : (x == ("__debug__" : Str)) = false := by decide)
    (hall : (backToKw pos (keywordEach [⟨some g, e, kp⟩, ⟨some f, e2, kp2⟩] X.env)).all (·.1.isSome) = true := by rfl) (hks : (backToKw pos (keywordEach [⟨some g, e, kp⟩, ⟨some f, e2, kp2⟩] X.env)).filterMap (·.1) = [g, f] := by rfl)
    (hpl : ((backTo pos (starEach [] X.env)).any (·.1) || (backToKw pos (keywordEach [⟨some g, e, kp⟩, ⟨some f, e2, kp2⟩] X.env)).any (·.1.isNone)) = false := by rfl)
    (hb : attributeBase (.Call (.Name x p) [] [⟨some g, e, kp⟩, ⟨some f, e2, kp2⟩] pos) (if k then g else f) X.env (eval (.Call (.Name x p) [] [⟨some g, e, kp⟩, ⟨some f, e2, kp2⟩] pos) X.env) = eval (.Call (.Name x p) [] [⟨some g, e, kp⟩, ⟨some f, e2, kp2⟩] pos) X.env := by rfl) :
    PE X (.Attribute (.Call (.Name x p) [] [⟨some g, e, kp⟩, ⟨some f, e2, kp2⟩] pos) (if k then g else f) pos2) (tGet2 (!k) te te2) := by
  obtain ⟨fI, fd, iC, tI, F1, _, kb⟩ := S.ex
  refine ⟨fun pins s σ H Q I h => ?_⟩
  refine attr_of hb ?_
  refine wpAny_Call_Name_kw (ld_glob I hg S.gm ?_ hdb)
  refine PySem.W.callWith_KW0 (h₀ := X.base) I.ok.mod.kin S.xc.kC hall ?_ hpl
  refine thn ((pk_cons (nm := some g) (kpos := kp) he (pk_cons (nm := some f) (kpos := kp2) he2 pk_nil)).run pos pins s σ H (fun vs H1 => match vs with
    | [v, u] => ∀ H2, Same H1 H2 → Q (if (!k) then u else v) H2
    | _ => False) I h) fun ws s2 ⟨zs, H2, I2, rz, q2⟩ => ⟨I2.kIn, ?_⟩
  rw [hks]
  match zs, q2, rz with
  | [v, u], q, rz =>
    refine thn (run_mkx (Q := fun x H3 => ∃ a d, x = .ref a ∧ Same H2 H3 ∧ H3 a = some (exo a C (some d)) ∧ H3 d = some (exd d [(g, v), (f, u)])) (n := 0) (us := []) (vs := []) F S.xc iC tI F1 hr kb nop I2 .nil rz rfl rfl (by omega) (mk2 (Q := fun x H3 => ∃ a d, x = .ref a ∧ Same H2 H3 ∧ H3 a = some (exo a C (some d)) ∧ H3 d = some (exd d [(g, v), (f, u)])) fun a d H2 h0 h1 h2 h3 => ⟨a, d, rfl, h1, h2, h3⟩)) fun u' s2 ⟨x2, H3, I3, r2, a, d, ex, h1, h2, h3⟩ => ?_
    subst ex
    obtain rfl : u' = Value.ref a := r2
    cases k with
    | true => exact get_of I3 S.xc S.no2 h2 h3 lk1 (q H3 h1)
    | false => exact get_of I3 S.xc S.no h2 h3 ((lk2 S.ne).trans lk1) (q H3 h1)
end
section
variable {P : Program} {w : World} {K : PySem.W.Frag} {mg : Str → Option Value} {base : Heap} {σ : St} {H : Hp} {D : Ends} {C : Addr} {B newId f : Str} {te : TE} {Q : VK}
theorem rd_v1 (h : te σ H fun v H1 => ∀ a H2, H1 a = none → Same H1 H2 → XAt H2 a C → Q (.ref a) H2) : tV1 C te σ H Q := h
theorem rd_v2 {te2 : TE} (h : te σ H fun v H1 => te2 σ H1 fun u H2 => ∀ a H3, H2 a = none → Same H2 H3 → XAt H3 a C → Q (.ref a) H3) : tV2 C te te2 σ H Q := h
theorem rd_get (h : te σ H fun v H1 => ∀ H2, Same H1 H2 → Q v H2) : tGet te σ H Q := h
theorem rd_get2 {k : Bool} {te2 : TE} (h : te σ H fun v H1 => te2 σ H1 fun u H2 => ∀ H3, Same H2 H3 → Q (if k then u else v) H3) : tGet2 k te te2 σ H Q := h
end
end L2
/-! Loops and comprehensions read in one step. -/
namespace L2
open PySem PySem.Spec PyProof.Rows
section
variable {K : PySem.W.Frag} {σ : St} {H : Hp} {D : Ends} {Q : VK} {p : Addr} {xs : List V} {g : TG} {tb : TS} {R : Nat → V → Prop} {te : TE} {tt : TT} {vs : List Nat}
theorem rd_forE {j : Nat} (hv : σ[j]? = some (some (.ref p))) (hp : H p = some (.lst xs)) (L : Lst R 0 xs) (Pv : Nat → St → Hp → Prop) (h0 : Pv 0 σ H) (hS : ∀ i σ' H', Pv i σ' H' → Same H H')
    (hs : ∀ (i : Nat) (x : V) (T : Addr) (σ' : St) (H' : Hp), R i x → i < xs.length → Pv i σ' H' → H' T = none → g (.ref T) σ' (upd H' T (.tup [.int (i : Nat), x])) fun σ2 H2 => tb { D with nx := Pv (i + 1), ct := Pv (i + 1), bk := D.nx } σ2 H2) (hd : ∀ σ' H', Pv xs.length σ' H' → D.nx σ' H') :
    tFor (iEnum K (tCons (tVar j) tNil)) g tb D σ H := rd_for (rd_iEnum (rd_cons (rd_var hv (rd_nil (rd_enum hp L Pv h0 hS hs hd)))))
theorem rd_lcR {n j : Nat} (f : Nat → V) (hn : n ≤ 1000) (he : ∀ i, i < n → ∀ H' (Q' : VK), Q' (f i) H' → te ((wipe σ vs).set j (some (.int i))) H' Q') (hw : ∀ i : Nat, wipe ((wipe σ vs).set j (some (.int i))) vs = wipe σ vs)
    (k : ∀ p H', H p = none → Same H H' → H' p = some (.lst ((List.range n).map f)) → Q (.ref p) H') : tLc (iRng1 (tCons (tC (.int n)) tNil)) (gName j) tYes te vs σ H Q := by
  refine rd_lc (rd_iRng1 (rd_cons (rd_c (rd_nil ⟨n, rfl, by omega, by omega, fun Dp nD => ?_⟩))))
  have key := lc_range (lo := 0) (n := n) (g := gName j) (tt := tYes) (te := te) (vs := vs) (σ := σ) (H1 := H) (D := Dp) (Qd := fun H' => Q (.ref Dp) H') (fun m H' => m ≤ n ∧ Same H H' ∧ H' Dp = some (.lst ((List.range m).map f))) ⟨Nat.zero_le _, Same.new nD, upd_same⟩
    (fun i H' hi ⟨hle, s, q⟩ => by
      refine rd_gname ⟨?_, rd_yes ?_⟩
      · rw [Int.zero_add]; exact hw i
      · rw [if_pos rfl, Int.zero_add]
        refine he i hi H' _ ⟨_, q, ?_, hi, Same.mut s nD, ?_⟩
        · rw [List.length_map, List.length_range]
          exact Nat.lt_of_lt_of_le (show i < 1000 by omega) (by decide)
        · rw [upd_same, List.range_succ, List.map_append]
          rfl)
    (fun H' ⟨_, s, q⟩ => k Dp H' nD s q)
  rw [Int.toNat_natCast]
  exact key
theorem rd_forR {tA : TA} {m : Int} (h1 : 0 ≤ m) (h2 : m < 2 ^ 62) (hA : ∀ Q' : List V → Hp → Prop, Q' [.int m] H → tA σ H Q') (Pv : Nat → St → Hp → Prop) (h0 : Pv 0 σ H)
    (hs : ∀ (i : Nat) (σ' : St) (H' : Hp), i < m.toNat → Pv i σ' H' → g (.int i) σ' H' fun σ2 H2 => tb { D with nx := Pv (i + 1), ct := Pv (i + 1), bk := D.nx } σ2 H2) (hd : ∀ σ' H', Pv m.toNat σ' H' → D.nx σ' H') :
    tFor (iRng1 tA) g tb D σ H := by
  refine rd_for (rd_iRng1 (hA _ ⟨m, rfl, by omega, h2, ?_⟩))
  exact for_range (lo := 0) Pv h0 (fun i σ' H' hi p => by rw [Int.zero_add]; exact hs i σ' H' hi p) hd
end
end L2
namespace K01
open PySem PySem.Spec PyProof.Rows L2 He Hx
def top (i : Nat) : Stmt := PySem.Challenge.pw_copymemos_k01_errors_and_their_fields.main.body.getD i (.Pass ⟨0, 0, 0, 0⟩)
abbrev FnAt (K : PySem.W.Frag) (x qual : Str) (st : Stmt) (f : Addr) (fd : FuncData) : Prop := FunD K x qual (defArgs st) (defBody st) (defScope st) [] [] f fd
structure Blt (mg : Str → Option Value) : Prop where
  len : mg "len" = none
  abs : mg "abs" = none
  int : mg "int" = none
  range : mg "range" = none
  max : mg "max" = none
  min : mg "min" = none
  repr : mg "repr" = none
  isi : mg "isinstance" = none
  enum : mg "enumerate" = none
  ve : mg "ValueError" = none
  le : mg "LookupError" = none
  ke : mg "KeyError" = none
  ie : mg "IndexError" = none
  re : mg "RuntimeError" = none
  ae : mg "ArithmeticError" = none
  oe : mg "OverflowError" = none
/-- a source of draws: the list of three ints; c at most n -/
def SrcO (o : HO) (n : Nat) : Prop := ∃ x y c : Int, o = .lst [.int x, .int y, .int c] ∧ 0 ≤ x ∧ 0 ≤ y ∧ y < 2 ^ 80 ∧ 0 ≤ c ∧ c ≤ n
def spSource (K : PySem.W.Frag) : Sp := fun vs H Q _ => ∃ (a : Addr) (ns : List Int) (i : Int), vs = [.ref a, .int i] ∧ SqL K H a (ns.map V.int) ∧ 0 ≤ i ∧ i ≤ 1000 ∧ ∀ p o H', H p = none → Same H H' → H' p = some o → SrcO o 0 → Q (.ref p) H'
def spDraw : Sp := fun vs H Q _ => ∃ (p : Addr) (o : HO) (n : Nat) (m : Int), vs = [.ref p, .int m] ∧ H p = some o ∧ SrcO o n ∧ n < 2 ^ 60 ∧ 1 ≤ m ∧ m < 1073741824 ∧ ∀ r o', 0 ≤ r → r < m → SrcO o' (n + 1) → Q (.int r) (upd H p o')
/-- v reads as d in every heap that keeps what is new in H' against H -/
def Reads1 (K : PySem.W.Frag) (H H' : Hp) (v : V) (d : PyData) : Prop := ∀ H'' : Hp, (∀ b o, H b = none → H' b = some o → H'' b = some o) → Dp K H'' v d
def OddD (d : PyData) : Prop := d.showable = true ∧ d.shown.length ≤ 60 ∧ d.depth ≤ 3
def spOdd (K : PySem.W.Frag) : Sp := fun vs H Q _ => ∃ (p : Addr) (o : HO) (n : Nat), vs = [.ref p] ∧ H p = some o ∧ SrcO o n ∧ n < 2 ^ 50 ∧
  ∀ v d H', OddD d → Reads1 K H H' v d → (∀ b u, b ≠ p → H b = some u → H' b = some u) → (∃ o', H' p = some o' ∧ SrcO o' (n + 1)) → Q v H'

local macro_rules | `(tactic| walk_at "hp") => `(tactic| (repeat (first | assumption | refine Same.at (by assumption) ?_)))
local macro_rules | `(tactic| walk_at "rd1") => `(tactic| first
  | ((with_reducible refine' rd_var ?h ?_); (case h => exact rfl))
  | with_reducible refine rd_c ?_ | with_reducible refine rd_op ?_ | with_reducible refine rd_I0 ?_ | with_reducible refine rd_cb ?_ | with_reducible refine rd_cons ?_ | with_reducible refine rd_nil ?_
  | with_reducible refine rd_seq ?_ | with_reducible refine rd_asg ?_ | with_reducible refine rd_gname ?_ | with_reducible refine rd_if ?_ | with_reducible refine rd_ret ?_ | with_reducible refine rd_next ?_
  | with_reducible refine rd_test ?_ | with_reducible refine rd_bl ?_ | with_reducible refine rd_lst ?_ | with_reducible refine rd_tup ?_ | with_reducible refine rd_gsub ?_ | with_reducible refine rd_U ?_ | with_reducible refine rd_un ?_
  | with_reducible refine rd_tB ?_ | with_reducible refine rd_and ?_ | with_reducible refine rd_or ?_ | with_reducible refine rd_not ?_ | with_reducible refine rd_call ?_ | with_reducible refine rd_retN ?_ | with_reducible refine rd_drop ?_
  | with_reducible refine rd_abs ?_ | with_reducible refine rd_intI ?_ | with_reducible refine rd_intB ?_ | with_reducible refine rd_max2 ?_ | with_reducible refine rd_min2 ?_
  | ((with_reducible refine' rd_ixL ?hp ?hi ?_); (case hp => first | exact SqL.of upd_same | assumption | (exact SqL.of (by assumption)) | (refine SqL.of ?_; walk_at "hp"; done)); (case hi => exact rfl))
  | ((with_reducible refine' rd_setL ?hp ?hi ?_); (case hp => first | exact upd_same | assumption); (case hi => first | (show ixN _ _ = some 0; exact rfl) | (show ixN _ _ = some 1; exact rfl) | (show ixN _ _ = some 2; exact rfl)))
  | ((with_reducible refine' rd_len ?hp ?_); (case hp => first | exact SqL.of upd_same | assumption | (exact SqL.of (by assumption)) | (refine SqL.of ?_; walk_at "hp"; done)))
  | ((with_reducible refine rd_I ?hc ?_); (case hc => first | (show (0 : Int) < _; omega) | (refine CMul.le ?_ <;> omega) | (refine CMul.ri ?_ <;> omega) | (refine CDiv.of ?_ <;> omega) | exact CPowW.of (n := 4) rfl (by decide) (by decide)))
  | with_reducible refine rd_sz rfl ?_
  | ((with_reducible refine' rd_cat ?hp ?hq ?hl ?_); (case hp => walk_at "hp"; done); (case hq => walk_at "hp"; done); (case hl => first | exact Nat.le_trans (Nat.le_of_ble_eq_true (rfl : Nat.ble _ 1000 = true)) (by decide) | decide))
  | with_reducible refine rd_v1 ?_ | with_reducible refine rd_v2 ?_ | with_reducible refine rd_get ?_ | with_reducible refine rd_get2 ?_
  | (with_reducible show ∀ p : Addr, _ = none → _; (intro p hp; generalize e : upd _ p _ = H'; obtain ⟨s, q⟩ := new_of hp e; clear e))
  | (with_reducible show ∀ H2 : Hp, Same _ H2 → _; intro H2 s2)
  | (with_reducible show ∀ (a : Addr) (H2 : Hp), _ = none → Same _ H2 → XAt H2 a _ → _; intro a2 H2 n2 s2 x2)
  | ((with_reducible refine' rd_rep ?hp ?h1 ?h2 ?hl ?_); (case hp => walk_at "hp"; done); (case h1 => decide); (case h2 => decide); (case hl => exact Nat.le_trans (Nat.le_of_ble_eq_true (rfl : Nat.ble _ 1000 = true)) (by decide)))
  | with_reducible refine rd_gcons ?_ | with_reducible refine rd_gnil ?_ | with_reducible refine rd_yes ?_ | with_reducible refine rd_iEnum ?_ | with_reducible refine rd_iRng1 ?_ | with_reducible refine rd_iList ?_
  | (rw [upd_upd]))
local macro_rules | `(tactic| walk_at "rd") => `(tactic| (repeat (first | walk_at "rd1" | dsimp only [List.set])))
section
variable {P : Program} {w : World} {K : PySem.W.Frag} {mg : Str → Option Value} {base : Heap}
theorem nz (a : Int) : 0 ≤ (if a < 0 then -a else a) := by split <;> omega

theorem sc_ok_source : FnScope ["_law_script", "_law_at", "_law_whole"] ["_law_script", "_law_at"] (defScope (top 17)) := ⟨rfl, rfl, rfl, by decide +kernel, rfl, by decide +kernel, by decide +kernel⟩
theorem ok_source {f : Addr} {fd : FuncData} (F : FnAt K "_law_source" "_law_source" (top 17) f fd) (T : Blt mg) : FnOk P w K mg base CX0 1 f fd ["_law_script", "_law_at"] (spSource K) := by
  refine F.ok sc_ok_source (fun vs H Q E h => ?_) (fun cdv A outer s H vs Q E hr h => ⟨_, PSs.nox (
      (pss_cons
        (ps_set (i := 2) sc_ok_source.nd rfl (Or.inl rfl) pe_int)
      (pss_cons
        (ps_if (pt_cmpR op_lt (pv 1) (pe_callB c_len (by rfl) T.len PySem.boot_len (pa_cons (pv 0) pa_nil)) (nomark _))
          (pss_one
            (ps_set (i := 2) sc_ok_source.nd rfl (Or.inl rfl) (pe_ix ix_list (pv 0) (pv 1) (fun _ _ => rfl))))
          pss_nil)
      (pss_one
        (ps_ret (pe_lst (pa_cons (pe_op op_mul (pe_callB c_abs (by rfl) T.abs (by decide +kernel) (pa_cons (pv 2) pa_nil)) (pe_callTy c_int (by rfl) T.int (by decide +kernel) (pa_cons (pe_cmpR op_ge (pe_callB c_abs (by rfl) T.abs (by decide +kernel) (pa_cons (pv 2) pa_nil)) (pe_op op_powW pe_int pe_int) (nomark _)) pa_nil))) (pa_cons (pe_op op_add (pe_op op_mul (pe_op op_add (pe_op op_add (pe_op op_mod (pv 2) pe_int) (pe_op op_mul pe_int (pv 1))) pe_int) pe_int) (pv 1)) (pa_cons pe_int pa_nil)))))))) ), ?_⟩)
  · obtain ⟨a, ns, i, rfl, _⟩ := h
    rfl
  · obtain ⟨a, ns, i, rfl, hS, h0, h1, k⟩ := h
    rw [show L2.start ["_law_script", "_law_at", "_law_whole"] [(V.ref a), (V.int i)] = [some (V.ref a), some (V.int i), none] from rfl]
    have fin : ∀ (x : Int) (b : Bool), CMul (if x < 0 then -x else x) (if b = true then 1 else 0) := fun x b => by
      right
      cases b <;> decide
    have last : ∀ (x : Int) (b : Bool) p H', H p = none → Same H H' → H' p = some (.lst [.int ((if x < 0 then -x else x) * (if b = true then 1 else 0)), .int ((x % 2305843009213693951 + 9341 * i + 29) * 16807 + i), .int 0]) → Q (.ref p) H' := fun x b p H' hp s1 q => by
      refine k p _ H' hp s1 q ⟨_, _, _, rfl, ?_, by omega, by omega, by omega, by omega⟩
      have := nz x
      cases b
      · simp
      · simpa using this
    walk_at "rd"
    refine ite2 (fun hlt => ?_) (fun _ => ?_)
    · have hlt' : i < (ns.map V.int).length := of_decide_eq_true hlt
      have hx : ∃ x, ns[i.toNat]? = some x := by
        rw [List.length_map] at hlt'
        exact ⟨_, List.getElem?_eq_getElem (by omega)⟩
      obtain ⟨x, hx⟩ := hx
      walk_at "rd"
      refine rd_ixL (v := .int x) hS ?_ ?_
      · rw [show i = (i.toNat : Int) by omega]
        exact atI_nat (by rw [List.getElem?_map, hx]; rfl)
      · walk_at "rd"
        exact last x _ _ _ (by assumption) (by assumption) (by assumption)
    · walk_at "rd"
      exact last 0 _ _ _ (by assumption) (by assumption) (by assumption)


theorem sc_ok_draw : FnScope ["_law_source_here", "_law_many", "_law_digit", "_law_mixed"] ["_law_source_here", "_law_many"] (defScope (top 18)) := ⟨rfl, rfl, rfl, by decide +kernel, rfl, by decide +kernel, by decide +kernel⟩
theorem ok_draw {f : Addr} {fd : FuncData} (F : FnAt K "_law_draw" "_law_draw" (top 18) f fd)  : FnOk P w K mg base CX0 1 f fd ["_law_source_here", "_law_many"] (spDraw) := by
  refine F.ok sc_ok_draw (fun vs H Q E h => ?_) (fun cdv A outer s H vs Q E hr h => ⟨_, PSs.nox (
      (pss_cons
        (ps_if (pt_cmpR op_gt (pe_ix ix_list (pv 0) pe_int (fun _ _ => rfl)) pe_int (nomark _))
          (pss_cons
            (ps_set (i := 2) sc_ok_draw.nd rfl (Or.inl rfl) (pe_op op_mod (pe_ix ix_list (pv 0) pe_int (fun _ _ => rfl)) (pv 1)))
          (pss_cons
            (ps_asg (pe_op op_fdiv (pe_ix ix_list (pv 0) pe_int (fun _ _ => rfl)) (pv 1)) (pg_sub (pv 0) pe_int set_list))
          (pss_one
            (ps_ret (pv 2)))))
          pss_nil)
      (pss_cons
        (ps_asg (pe_op op_add (pe_ix ix_list (pv 0) pe_int (fun _ _ => rfl)) pe_int) (pg_sub (pv 0) pe_int set_list))
      (pss_cons
        (ps_set (i := 3) sc_ok_draw.nd rfl (Or.inl rfl) (pe_op op_mod (pe_op op_powW (pe_op op_add (pe_ix ix_list (pv 0) pe_int (fun _ _ => rfl)) (pe_op op_mul pe_int (pe_ix ix_list (pv 0) pe_int (fun _ _ => rfl)))) pe_int) pe_int))
      (pss_cons
        (ps_set (i := 3) sc_ok_draw.nd rfl (Or.inl rfl) (pe_op op_mod (pe_op op_powW (pe_op op_add (pe_op op_fdiv (pv 3) pe_int) (pe_op op_mul pe_int (pe_ix ix_list (pv 0) pe_int (fun _ _ => rfl)))) pe_int) pe_int))
      (pss_one
        (ps_ret (pe_op op_mod (pe_op op_fdiv (pv 3) pe_int) (pv 1)))))))) ), ?_⟩)
  · obtain ⟨p, o, n, m, rfl, _⟩ := h
    rfl
  · obtain ⟨p, o, n, m, rfl, hp, ⟨x, y, c, rfl, hx, hy, hy2, hc, hc2⟩, hn, hm, hm2, k⟩ := h
    rw [show L2.start ["_law_source_here", "_law_many", "_law_digit", "_law_mixed"] [(V.ref p), (V.int m)] = [some (V.ref p), some (V.int m), none, none] from rfl]
    walk_at "rd"
    refine ite2 (fun hlt => ?_) (fun _ => ?_)
    · have hlt' : 0 < x := of_decide_eq_true hlt
      walk_at "rd"
      refine k _ _ (Int.emod_nonneg _ (by omega)) (Int.emod_lt_of_pos _ (by omega)) ⟨_, _, _, rfl, Int.ediv_nonneg hx (by omega), hy, hy2, hc, by omega⟩
    · walk_at "rd"
      refine rd_I (CPowW.of (n := 82) (m := 3) rfl ?_ (by decide)) ?_
      · omega
      walk_at "rd"
      have hz := Int.emod_nonneg ((y + 1000033 * (c + 1)) ^ Int.toNat 3) (show (2305843009213693921 : Int) ≠ 0 by decide)
      have hz2 := Int.emod_lt_of_pos ((y + 1000033 * (c + 1)) ^ Int.toNat 3) (show (0 : Int) < 2305843009213693921 by decide)
      generalize (y + 1000033 * (c + 1)) ^ Int.toNat 3 % 2305843009213693921 = z at hz hz2
      refine rd_I (CPowW.of (n := 66) (m := 2) rfl ?_ (by decide)) ?_
      · omega
      walk_at "rd"
      refine k _ _ (Int.emod_nonneg _ (by omega)) (Int.emod_lt_of_pos _ (by omega)) ⟨_, _, _, rfl, hx, hy, hy2, by omega, by omega⟩


theorem sc_ok_odd : FnScope ["_law_source_here", "_law_items"] ["_law_source_here"] (defScope (top 19)) := ⟨rfl, rfl, rfl, by decide +kernel, rfl, by decide +kernel, by decide +kernel⟩
theorem ok_odd {f : Addr} {fd : FuncData} (F : FnAt K "_law_odd" "_law_odd" (top 19) f fd) (T : Blt mg) (cD : Cal P w K mg base CX0 1 "_law_draw" ["_law_source_here", "_law_many"] spDraw []) : FnOk P w K mg base CX0 2 f fd ["_law_source_here"] (spOdd K) := by
  refine F.ok sc_ok_odd (fun vs H Q E h => ?_) (fun cdv A outer s H vs Q E hr h => ⟨_, PSs.nox (
      (pss_cons
        (ps_set (i := 1) sc_ok_odd.nd rfl (Or.inl rfl) (pe_lst (pa_cons pe_bl (pa_cons pe_bl (pa_cons (pe_un un_neg pe_int) (pa_cons (pe_op op_powW pe_int pe_int) (pa_cons pe_str (pa_cons pe_str (pa_cons pe_str (pa_cons pe_str (pa_cons (pe_lst pa_nil) (pa_cons (pe_tup pa_nil) (pa_cons (pe_tup (pa_cons pe_int pa_nil)) (pa_cons (pe_lst (pa_cons pe_int pa_nil)) (pa_cons (pe_tup (pa_cons pe_str pa_nil)) (pa_cons pe_int (pa_cons pe_str (pa_cons (pe_lst (pa_cons pe_non pa_nil)) pa_nil))))))))))))))))))
      (pss_one
        (ps_ret (pe_ix ix_list (pv 1) (pe_c cD (hr.mono (by decide)) pass0 (pa_cons (pv 0) (pa_cons (pe_callB c_len (by rfl) T.len PySem.boot_len (pa_cons (pv 1) pa_nil)) pa_nil))) (fun _ _ => rfl))))) ), ?_⟩)
  · obtain ⟨p, o, n, rfl, _⟩ := h
    rfl
  · obtain ⟨p, o, n, rfl, hp, hs, hn, k⟩ := h
    rw [show L2.start ["_law_source_here", "_law_items"] [(V.ref p)] = [some (V.ref p), none] from rfl]
    walk_at "rd"
    rename_i p1 n1 H1 s1 q1 p2 n2 H2 s2 q2 p3 n3 H3 s3 q3 p4 n4 H4 s4 q4 p5 n5 H5 s5 q5 p6 n6 H6 s6 q6 p7 n7 H7 s7 q7
    refine ⟨p, o, n, 16, rfl, ?_, hs, by omega, by omega, by omega, fun r o' h0 h1 hs' => ?_⟩
    · walk_at "hp"
    have a2 := s1.trans s2
    have a3 := a2.trans s3
    have a4 := a3.trans s4
    have a5 := a4.trans s5
    have a6 := a5.trans s6
    have a7 := a6.trans s7
    have e7 : upd H7 p o' p7 = _ := (upd_ne (ne_of_none (a6 _ _ hp) n7).symm).trans q7
    have st : ∀ {b : Addr} {u : HO} (f : H b = none) (e : H7 b = some u) (z : Hp), (∀ b o, H b = none → upd H7 p o' b = some o → z b = some o) → z b = some u := fun {b u} f e z kz =>
      kz b u f ((upd_ne (ne_of_none hp f).symm).trans e)
    have t1 := st n1 ((((((s2.trans s3).trans s4).trans s5).trans s6).trans s7) _ _ q1)
    have t2 := st (s1.free n2) (((((s3.trans s4).trans s5).trans s6).trans s7) _ _ q2)
    have t3 := st (a2.free n3) ((((s4.trans s5).trans s6).trans s7) _ _ q3)
    have t4 := st (a3.free n4) (((s5.trans s6).trans s7) _ _ q4)
    have t5 := st (a4.free n5) ((s6.trans s7) _ _ q5)
    have t6 := st (a5.free n6) (s7 _ _ q6)
    have fr : ∀ b u, b ≠ p → H b = some u → upd H7 p o' b = some u := fun b u hb e => (upd_ne hb).trans (a7 b u e)
    have sr : ∃ o'', upd H7 p o' p = some o'' ∧ SrcO o'' (n + 1) := ⟨o', upd_same, hs'⟩
    have cs : r = 0 ∨ r = 1 ∨ r = 2 ∨ r = 3 ∨ r = 4 ∨ r = 5 ∨ r = 6 ∨ r = 7 ∨ r = 8 ∨ r = 9 ∨ r = 10 ∨ r = 11 ∨ r = 12 ∨ r = 13 ∨ r = 14 ∨ r = 15 := by omega
    rcases cs with rfl | rfl | rfl | rfl | rfl | rfl | rfl | rfl | rfl | rfl | rfl | rfl | rfl | rfl | rfl | rfl
    · exact rd_ixL (SqL.of e7) rfl (k _ (.bool true) _ ⟨by decide +kernel, by decide +kernel, by decide +kernel⟩ (fun z kz => .bl _) fr sr)
    · exact rd_ixL (SqL.of e7) rfl (k _ (.bool false) _ ⟨by decide +kernel, by decide +kernel, by decide +kernel⟩ (fun z kz => .bl _) fr sr)
    · exact rd_ixL (SqL.of e7) rfl (k _ (.int (-1)) _ ⟨by decide +kernel, by decide +kernel, by decide +kernel⟩ (fun z kz => .int _) fr sr)
    · exact rd_ixL (SqL.of e7) rfl (k _ (.int (10 ^ Int.toNat 30)) _ ⟨by decide +kernel, by decide +kernel, by decide +kernel⟩ (fun z kz => .int _) fr sr)
    · exact rd_ixL (SqL.of e7) rfl (k _ (.str "") _ ⟨by decide +kernel, by decide +kernel, by decide +kernel⟩ (fun z kz => .str _) fr sr)
    · exact rd_ixL (SqL.of e7) rfl (k _ (.str "A") _ ⟨by decide +kernel, by decide +kernel, by decide +kernel⟩ (fun z kz => .str _) fr sr)
    · exact rd_ixL (SqL.of e7) rfl (k _ (.str "a b") _ ⟨by decide +kernel, by decide +kernel, by decide +kernel⟩ (fun z kz => .str _) fr sr)
    · exact rd_ixL (SqL.of e7) rfl (k _ (.str "abcdefg") _ ⟨by decide +kernel, by decide +kernel, by decide +kernel⟩ (fun z kz => .str _) fr sr)
    · exact rd_ixL (SqL.of e7) rfl (k _ (.list []) _ ⟨by decide +kernel, by decide +kernel, by decide +kernel⟩ (fun z kz => .lst (SqL.of (t1 z kz)) .nil) fr sr)
    · exact rd_ixL (SqL.of e7) rfl (k _ (.tuple []) _ ⟨by decide +kernel, by decide +kernel, by decide +kernel⟩ (fun z kz => .tup (SqT.of (t2 z kz)) .nil) fr sr)
    · exact rd_ixL (SqL.of e7) rfl (k _ (.tuple [.int 0]) _ ⟨by decide +kernel, by decide +kernel, by decide +kernel⟩ (fun z kz => .tup (SqT.of (t3 z kz)) (.cons (.int 0) .nil)) fr sr)
    · exact rd_ixL (SqL.of e7) rfl (k _ (.list [.int 0]) _ ⟨by decide +kernel, by decide +kernel, by decide +kernel⟩ (fun z kz => .lst (SqL.of (t4 z kz)) (.cons (.int 0) .nil)) fr sr)
    · exact rd_ixL (SqL.of e7) rfl (k _ (.tuple [.str "a"]) _ ⟨by decide +kernel, by decide +kernel, by decide +kernel⟩ (fun z kz => .tup (SqT.of (t5 z kz)) (.cons (.str "a") .nil)) fr sr)
    · exact rd_ixL (SqL.of e7) rfl (k _ (.int 3001) _ ⟨by decide +kernel, by decide +kernel, by decide +kernel⟩ (fun z kz => .int _) fr sr)
    · exact rd_ixL (SqL.of e7) rfl (k _ (.str "a1") _ ⟨by decide +kernel, by decide +kernel, by decide +kernel⟩ (fun z kz => .str _) fr sr)
    · exact rd_ixL (SqL.of e7) rfl (k _ (.list [.none]) _ ⟨by decide +kernel, by decide +kernel, by decide +kernel⟩ (fun z kz => .lst (SqL.of (t6 z kz)) (.cons .non .nil)) fr sr)

end
def cl (i : Nat) : Str := (["BadShape", "BadKind", "BadValue", "WrongKind", "BadText", "UnknownShape", "UnknownCell", "NoEntry", "BadStep", "Busy", "Changed", "Endless", "LateCycle", "Failed"] : List Str).getD i ""
def kbT : List (List Bool) := [[true, true, false, false, false, false, false, false, true, false, false, false, false, false, false, false, false, false, false, false, false, false], [true, true, false, false, false, false, false, false, false, true, false, false, false, false, false, false, false, false, false, false, false, false], [true, true, false, false, false, false, false, false, false, false, true, false, false, false, false, false, false, false, false, false, false, false], [true, true, false, false, false, false, false, false, false, false, false, true, false, false, false, false, false, false, false, false, false, false], [true, true, false, false, false, false, false, false, false, false, false, false, true, false, false, false, false, false, false, false, false, false], [false, false, true, true, false, false, false, false, false, false, false, false, false, true, false, false, false, false, false, false, false, false], [false, false, true, true, false, false, false, false, false, false, false, false, false, false, true, false, false, false, false, false, false, false], [false, false, true, true, false, false, false, false, false, false, false, false, false, false, false, true, false, false, false, false, false, false], [false, false, true, false, true, false, false, false, false, false, false, false, false, false, false, false, true, false, false, false, false, false], [false, false, false, false, false, true, false, false, false, false, false, false, false, false, false, false, false, true, false, false, false, false], [false, false, false, false, false, true, false, false, false, false, false, false, false, false, false, false, false, false, true, false, false, false], [false, false, false, false, false, true, false, false, false, false, false, false, false, false, false, false, false, false, false, true, false, false], [false, false, false, false, false, true, false, false, false, false, false, false, false, false, false, false, false, false, false, false, true, false], [false, false, false, false, false, false, true, false, false, false, false, false, false, false, false, false, false, false, false, false, false, true]]
def kb (i j : Nat) : Bool := (kbT.getD i []).getD j false
def tstV (K : PySem.W.Frag) (j : Nat) : V := ([.ref (ga K "CopyError"), .ty "ValueError", .ty "LookupError", .ty "KeyError", .ty "IndexError", .ty "RuntimeError", .ty "ArithmeticError", .ty "OverflowError", .ref (ga K "BadShape"), .ref (ga K "BadKind"), .ref (ga K "BadValue"), .ref (ga K "WrongKind"), .ref (ga K "BadText"), .ref (ga K "UnknownShape"), .ref (ga K "UnknownCell"), .ref (ga K "NoEntry"), .ref (ga K "BadStep"), .ref (ga K "Busy"), .ref (ga K "Changed"), .ref (ga K "Endless"), .ref (ga K "LateCycle"), .ref (ga K "Failed")] : List V).getD j .non
def tst (K : PySem.W.Frag) (j : Nat) : Value := ([.ref (ga K "CopyError"), .type "ValueError", .type "LookupError", .type "KeyError", .type "IndexError", .type "RuntimeError", .type "ArithmeticError", .type "OverflowError", .ref (ga K "BadShape"), .ref (ga K "BadKind"), .ref (ga K "BadValue"), .ref (ga K "WrongKind"), .ref (ga K "BadText"), .ref (ga K "UnknownShape"), .ref (ga K "UnknownCell"), .ref (ga K "NoEntry"), .ref (ga K "BadStep"), .ref (ga K "Busy"), .ref (ga K "Changed"), .ref (ga K "Endless"), .ref (ga K "LateCycle"), .ref (ga K "Failed")] : List Value).getD j .none
def basesR (i : Nat) : List Bool := [kb i 0, kb i 1, kb i 2, kb i 3, kb i 4, kb i 5, kb i 6, kb i 7]
def classR (i : Nat) : List Bool := [kb i 8, kb i 9, kb i 10, kb i 11, kb i 12, kb i 13, kb i 14, kb i 15, kb i 16, kb i 17, kb i 18, kb i 19, kb i 20, kb i 21]
structure Txt (P : Program) (w : World) (K : PySem.W.Frag) (mg : Str → Option Value) (base : Heap) : Prop extends Blt mg where
  e_BadShape : PySem.W.excIn K (ga K "BadShape") [.type "ValueError", .type "Exception", .type "BaseException", .type "object"] "ValueError.__new__" = true
  k_BadShape : PySem.W.keepIn K (.ref (ga K "BadShape")) = true
  g_BadShape : mg "BadShape" = some (.ref (ga K "BadShape"))
  x_BadKind : X1 P w K mg base "BadKind" (ga K "BadKind") "given" "ValueError" "ValueError.__new__"
  g_BadKind : mg "BadKind" = some (.ref (ga K "BadKind"))
  x_BadValue : X1 P w K mg base "BadValue" (ga K "BadValue") "value" "ValueError" "ValueError.__new__"
  g_BadValue : mg "BadValue" = some (.ref (ga K "BadValue"))
  x_WrongKind : X1 P w K mg base "WrongKind" (ga K "WrongKind") "cell" "ValueError" "ValueError.__new__"
  g_WrongKind : mg "WrongKind" = some (.ref (ga K "WrongKind"))
  e_BadText : PySem.W.excIn K (ga K "BadText") [.type "ValueError", .type "Exception", .type "BaseException", .type "object"] "ValueError.__new__" = true
  k_BadText : PySem.W.keepIn K (.ref (ga K "BadText")) = true
  g_BadText : mg "BadText" = some (.ref (ga K "BadText"))
  x_UnknownShape : X1 P w K mg base "UnknownShape" (ga K "UnknownShape") "given" "LookupError" "LookupError.__new__"
  g_UnknownShape : mg "UnknownShape" = some (.ref (ga K "UnknownShape"))
  x_UnknownCell : X1 P w K mg base "UnknownCell" (ga K "UnknownCell") "cell" "LookupError" "LookupError.__new__"
  g_UnknownCell : mg "UnknownCell" = some (.ref (ga K "UnknownCell"))
  x_NoEntry : X1 P w K mg base "NoEntry" (ga K "NoEntry") "cell" "LookupError" "LookupError.__new__"
  g_NoEntry : mg "NoEntry" = some (.ref (ga K "NoEntry"))
  x_BadStep : X1 P w K mg base "BadStep" (ga K "BadStep") "given" "IndexError" "IndexError.__new__"
  g_BadStep : mg "BadStep" = some (.ref (ga K "BadStep"))
  e_Busy : PySem.W.excIn K (ga K "Busy") [.type "RuntimeError", .type "Exception", .type "BaseException", .type "object"] "RuntimeError.__new__" = true
  k_Busy : PySem.W.keepIn K (.ref (ga K "Busy")) = true
  g_Busy : mg "Busy" = some (.ref (ga K "Busy"))
  x_Changed : X1 P w K mg base "Changed" (ga K "Changed") "cell" "RuntimeError" "RuntimeError.__new__"
  g_Changed : mg "Changed" = some (.ref (ga K "Changed"))
  x_Endless : X1 P w K mg base "Endless" (ga K "Endless") "cell" "RuntimeError" "RuntimeError.__new__"
  g_Endless : mg "Endless" = some (.ref (ga K "Endless"))
  x_LateCycle : X1 P w K mg base "LateCycle" (ga K "LateCycle") "cell" "RuntimeError" "RuntimeError.__new__"
  g_LateCycle : mg "LateCycle" = some (.ref (ga K "LateCycle"))
  x_Failed : X2 P w K mg base "Failed" (ga K "Failed") "cell" "word" "ArithmeticError" "ArithmeticError.__new__"
  g_Failed : mg "Failed" = some (.ref (ga K "Failed"))
  g_CopyError : mg "CopyError" = some (.ref (ga K "CopyError"))
  xc : ∀ i, i < 14 → ∃ B n, XcC K (ga K (cl i)) B n
  kit : ∀ i, i < 14 → ∀ j, j < 22 → PySem.W.kitOne K (.ref (ga K (cl i))) (tst K j) = some (kb i j)
section
variable {P : Program} {w : World} {K : PySem.W.Frag} {mg : Str → Option Value} {base : Heap}
theorem sci_BadKind : FnScope ["self", "given"] ["self", "given"] (defScope (inClass (top 3) 0)) := ⟨rfl, rfl, rfl, by decide +kernel, rfl, by decide +kernel, by decide +kernel⟩
theorem oki_BadKind {f : Addr} {fd : FuncData} (F : FnAt K "__init__" "BadKind.__init__" (inClass (top 3) 0) f fd) {C : Addr} (T : XcC K C "ValueError" "ValueError.__new__") (no : PySem.W.findIn K (.ref C) "given" = some none) : FnOk P w K mg base CX0 1 f fd ["self", "given"] (spX1 C "given") := by
  refine F.ok sci_BadKind (fun vs H Q E h => ?_) (fun cdv A outer s H vs Q E hr h => ⟨_, PSs.nox (pss_one (ps_xst (B := "ValueError") (newId := "ValueError.__new__") (pv 0) (pv 1))), ?_⟩)
  · obtain ⟨a, v, rfl, _⟩ := h
    rfl
  · obtain ⟨a, v, rfl, ha, k⟩ := h
    exact ⟨_, rfl, _, rfl, a, C, rfl, T, no, .inl ⟨ha, fun dx hd ne => k dx hd ne⟩⟩
theorem sci_BadValue : FnScope ["self", "value"] ["self", "value"] (defScope (inClass (top 4) 0)) := ⟨rfl, rfl, rfl, by decide +kernel, rfl, by decide +kernel, by decide +kernel⟩
theorem oki_BadValue {f : Addr} {fd : FuncData} (F : FnAt K "__init__" "BadValue.__init__" (inClass (top 4) 0) f fd) {C : Addr} (T : XcC K C "ValueError" "ValueError.__new__") (no : PySem.W.findIn K (.ref C) "value" = some none) : FnOk P w K mg base CX0 1 f fd ["self", "value"] (spX1 C "value") := by
  refine F.ok sci_BadValue (fun vs H Q E h => ?_) (fun cdv A outer s H vs Q E hr h => ⟨_, PSs.nox (pss_one (ps_xst (B := "ValueError") (newId := "ValueError.__new__") (pv 0) (pv 1))), ?_⟩)
  · obtain ⟨a, v, rfl, _⟩ := h
    rfl
  · obtain ⟨a, v, rfl, ha, k⟩ := h
    exact ⟨_, rfl, _, rfl, a, C, rfl, T, no, .inl ⟨ha, fun dx hd ne => k dx hd ne⟩⟩
theorem sci_WrongKind : FnScope ["self", "cell"] ["self", "cell"] (defScope (inClass (top 5) 0)) := ⟨rfl, rfl, rfl, by decide +kernel, rfl, by decide +kernel, by decide +kernel⟩
theorem oki_WrongKind {f : Addr} {fd : FuncData} (F : FnAt K "__init__" "WrongKind.__init__" (inClass (top 5) 0) f fd) {C : Addr} (T : XcC K C "ValueError" "ValueError.__new__") (no : PySem.W.findIn K (.ref C) "cell" = some none) : FnOk P w K mg base CX0 1 f fd ["self", "cell"] (spX1 C "cell") := by
  refine F.ok sci_WrongKind (fun vs H Q E h => ?_) (fun cdv A outer s H vs Q E hr h => ⟨_, PSs.nox (pss_one (ps_xst (B := "ValueError") (newId := "ValueError.__new__") (pv 0) (pv 1))), ?_⟩)
  · obtain ⟨a, v, rfl, _⟩ := h
    rfl
  · obtain ⟨a, v, rfl, ha, k⟩ := h
    exact ⟨_, rfl, _, rfl, a, C, rfl, T, no, .inl ⟨ha, fun dx hd ne => k dx hd ne⟩⟩
theorem sci_UnknownShape : FnScope ["self", "given"] ["self", "given"] (defScope (inClass (top 7) 0)) := ⟨rfl, rfl, rfl, by decide +kernel, rfl, by decide +kernel, by decide +kernel⟩
theorem oki_UnknownShape {f : Addr} {fd : FuncData} (F : FnAt K "__init__" "UnknownShape.__init__" (inClass (top 7) 0) f fd) {C : Addr} (T : XcC K C "LookupError" "LookupError.__new__") (no : PySem.W.findIn K (.ref C) "given" = some none) : FnOk P w K mg base CX0 1 f fd ["self", "given"] (spX1 C "given") := by
  refine F.ok sci_UnknownShape (fun vs H Q E h => ?_) (fun cdv A outer s H vs Q E hr h => ⟨_, PSs.nox (pss_one (ps_xst (B := "LookupError") (newId := "LookupError.__new__") (pv 0) (pv 1))), ?_⟩)
  · obtain ⟨a, v, rfl, _⟩ := h
    rfl
  · obtain ⟨a, v, rfl, ha, k⟩ := h
    exact ⟨_, rfl, _, rfl, a, C, rfl, T, no, .inl ⟨ha, fun dx hd ne => k dx hd ne⟩⟩
theorem sci_UnknownCell : FnScope ["self", "cell"] ["self", "cell"] (defScope (inClass (top 8) 0)) := ⟨rfl, rfl, rfl, by decide +kernel, rfl, by decide +kernel, by decide +kernel⟩
theorem oki_UnknownCell {f : Addr} {fd : FuncData} (F : FnAt K "__init__" "UnknownCell.__init__" (inClass (top 8) 0) f fd) {C : Addr} (T : XcC K C "LookupError" "LookupError.__new__") (no : PySem.W.findIn K (.ref C) "cell" = some none) : FnOk P w K mg base CX0 1 f fd ["self", "cell"] (spX1 C "cell") := by
  refine F.ok sci_UnknownCell (fun vs H Q E h => ?_) (fun cdv A outer s H vs Q E hr h => ⟨_, PSs.nox (pss_one (ps_xst (B := "LookupError") (newId := "LookupError.__new__") (pv 0) (pv 1))), ?_⟩)
  · obtain ⟨a, v, rfl, _⟩ := h
    rfl
  · obtain ⟨a, v, rfl, ha, k⟩ := h
    exact ⟨_, rfl, _, rfl, a, C, rfl, T, no, .inl ⟨ha, fun dx hd ne => k dx hd ne⟩⟩
theorem sci_NoEntry : FnScope ["self", "cell"] ["self", "cell"] (defScope (inClass (top 9) 0)) := ⟨rfl, rfl, rfl, by decide +kernel, rfl, by decide +kernel, by decide +kernel⟩
theorem oki_NoEntry {f : Addr} {fd : FuncData} (F : FnAt K "__init__" "NoEntry.__init__" (inClass (top 9) 0) f fd) {C : Addr} (T : XcC K C "LookupError" "LookupError.__new__") (no : PySem.W.findIn K (.ref C) "cell" = some none) : FnOk P w K mg base CX0 1 f fd ["self", "cell"] (spX1 C "cell") := by
  refine F.ok sci_NoEntry (fun vs H Q E h => ?_) (fun cdv A outer s H vs Q E hr h => ⟨_, PSs.nox (pss_one (ps_xst (B := "LookupError") (newId := "LookupError.__new__") (pv 0) (pv 1))), ?_⟩)
  · obtain ⟨a, v, rfl, _⟩ := h
    rfl
  · obtain ⟨a, v, rfl, ha, k⟩ := h
    exact ⟨_, rfl, _, rfl, a, C, rfl, T, no, .inl ⟨ha, fun dx hd ne => k dx hd ne⟩⟩
theorem sci_BadStep : FnScope ["self", "given"] ["self", "given"] (defScope (inClass (top 10) 0)) := ⟨rfl, rfl, rfl, by decide +kernel, rfl, by decide +kernel, by decide +kernel⟩
theorem oki_BadStep {f : Addr} {fd : FuncData} (F : FnAt K "__init__" "BadStep.__init__" (inClass (top 10) 0) f fd) {C : Addr} (T : XcC K C "IndexError" "IndexError.__new__") (no : PySem.W.findIn K (.ref C) "given" = some none) : FnOk P w K mg base CX0 1 f fd ["self", "given"] (spX1 C "given") := by
  refine F.ok sci_BadStep (fun vs H Q E h => ?_) (fun cdv A outer s H vs Q E hr h => ⟨_, PSs.nox (pss_one (ps_xst (B := "IndexError") (newId := "IndexError.__new__") (pv 0) (pv 1))), ?_⟩)
  · obtain ⟨a, v, rfl, _⟩ := h
    rfl
  · obtain ⟨a, v, rfl, ha, k⟩ := h
    exact ⟨_, rfl, _, rfl, a, C, rfl, T, no, .inl ⟨ha, fun dx hd ne => k dx hd ne⟩⟩
theorem sci_Changed : FnScope ["self", "cell"] ["self", "cell"] (defScope (inClass (top 12) 0)) := ⟨rfl, rfl, rfl, by decide +kernel, rfl, by decide +kernel, by decide +kernel⟩
theorem oki_Changed {f : Addr} {fd : FuncData} (F : FnAt K "__init__" "Changed.__init__" (inClass (top 12) 0) f fd) {C : Addr} (T : XcC K C "RuntimeError" "RuntimeError.__new__") (no : PySem.W.findIn K (.ref C) "cell" = some none) : FnOk P w K mg base CX0 1 f fd ["self", "cell"] (spX1 C "cell") := by
  refine F.ok sci_Changed (fun vs H Q E h => ?_) (fun cdv A outer s H vs Q E hr h => ⟨_, PSs.nox (pss_one (ps_xst (B := "RuntimeError") (newId := "RuntimeError.__new__") (pv 0) (pv 1))), ?_⟩)
  · obtain ⟨a, v, rfl, _⟩ := h
    rfl
  · obtain ⟨a, v, rfl, ha, k⟩ := h
    exact ⟨_, rfl, _, rfl, a, C, rfl, T, no, .inl ⟨ha, fun dx hd ne => k dx hd ne⟩⟩
theorem sci_Endless : FnScope ["self", "cell"] ["self", "cell"] (defScope (inClass (top 13) 0)) := ⟨rfl, rfl, rfl, by decide +kernel, rfl, by decide +kernel, by decide +kernel⟩
theorem oki_Endless {f : Addr} {fd : FuncData} (F : FnAt K "__init__" "Endless.__init__" (inClass (top 13) 0) f fd) {C : Addr} (T : XcC K C "RuntimeError" "RuntimeError.__new__") (no : PySem.W.findIn K (.ref C) "cell" = some none) : FnOk P w K mg base CX0 1 f fd ["self", "cell"] (spX1 C "cell") := by
  refine F.ok sci_Endless (fun vs H Q E h => ?_) (fun cdv A outer s H vs Q E hr h => ⟨_, PSs.nox (pss_one (ps_xst (B := "RuntimeError") (newId := "RuntimeError.__new__") (pv 0) (pv 1))), ?_⟩)
  · obtain ⟨a, v, rfl, _⟩ := h
    rfl
  · obtain ⟨a, v, rfl, ha, k⟩ := h
    exact ⟨_, rfl, _, rfl, a, C, rfl, T, no, .inl ⟨ha, fun dx hd ne => k dx hd ne⟩⟩
theorem sci_LateCycle : FnScope ["self", "cell"] ["self", "cell"] (defScope (inClass (top 14) 0)) := ⟨rfl, rfl, rfl, by decide +kernel, rfl, by decide +kernel, by decide +kernel⟩
theorem oki_LateCycle {f : Addr} {fd : FuncData} (F : FnAt K "__init__" "LateCycle.__init__" (inClass (top 14) 0) f fd) {C : Addr} (T : XcC K C "RuntimeError" "RuntimeError.__new__") (no : PySem.W.findIn K (.ref C) "cell" = some none) : FnOk P w K mg base CX0 1 f fd ["self", "cell"] (spX1 C "cell") := by
  refine F.ok sci_LateCycle (fun vs H Q E h => ?_) (fun cdv A outer s H vs Q E hr h => ⟨_, PSs.nox (pss_one (ps_xst (B := "RuntimeError") (newId := "RuntimeError.__new__") (pv 0) (pv 1))), ?_⟩)
  · obtain ⟨a, v, rfl, _⟩ := h
    rfl
  · obtain ⟨a, v, rfl, ha, k⟩ := h
    exact ⟨_, rfl, _, rfl, a, C, rfl, T, no, .inl ⟨ha, fun dx hd ne => k dx hd ne⟩⟩
theorem sci_Failed : FnScope ["self", "cell", "word"] ["self", "cell", "word"] (defScope (inClass (top 15) 0)) := ⟨rfl, rfl, rfl, by decide +kernel, rfl, by decide +kernel, by decide +kernel⟩
theorem oki_Failed {f : Addr} {fd : FuncData} (F : FnAt K "__init__" "Failed.__init__" (inClass (top 15) 0) f fd) {C : Addr} (T : XcC K C "ArithmeticError" "ArithmeticError.__new__") (no : PySem.W.findIn K (.ref C) "cell" = some none) (no2 : PySem.W.findIn K (.ref C) "word" = some none) : FnOk P w K mg base CX0 1 f fd ["self", "cell", "word"] (spX2 C "cell" "word") := by
  refine F.ok sci_Failed (fun vs H Q E h => ?_) (fun cdv A outer s H vs Q E hr h => ⟨_, PSs.nox (pss_cons (ps_xst (B := "ArithmeticError") (newId := "ArithmeticError.__new__") (pv 0) (pv 1)) (pss_one (ps_xst (B := "ArithmeticError") (newId := "ArithmeticError.__new__") (pv 0) (pv 2)))), ?_⟩)
  · obtain ⟨a, v, u, rfl, _⟩ := h
    rfl
  · obtain ⟨a, v, u, rfl, ha, k⟩ := h
    exact ⟨_, rfl, _, rfl, a, C, rfl, T, no, .inl ⟨ha, fun dx hd ne => ⟨_, rfl, _, rfl, a, C, rfl, T, no2, .inr ⟨dx, _, upd_same, by rw [upd_ne ne, upd_same], by show 1 ≤ 900; decide, k dx hd ne⟩⟩⟩⟩
def spIs (K : PySem.W.Frag) (R : Nat → List Bool) : Sp := fun vs H Q _ => ∃ (e : Addr) (i : Nat), vs = [.ref e] ∧ i < 14 ∧ XAt H e (ga K (cl i)) ∧ ∀ p H', H p = none → Same H H' → H' p = some (.lst ((R i).map V.bl)) → Q (.ref p) H'
theorem isx (T : Txt P w K mg base) {H : Hp} {e : Addr} {i : Nat} (hi : i < 14) (x : XAt H e (ga K (cl i))) (j : Nat) (hj : j < 22) (H' : Hp) (s : Same H H') (Q : VK) (q : Q (.bl (kb i j)) H') : rIsX K [.ref e, tstV K j] H' Q := by
  obtain ⟨B, n, xc⟩ := T.xc i hi
  obtain ⟨d, he, hd⟩ := x.same s
  refine rd_isX (u := tst K j) ?_ xc he hd (T.kit i hi j hj) q
  have : j = 0 ∨ j = 1 ∨ j = 2 ∨ j = 3 ∨ j = 4 ∨ j = 5 ∨ j = 6 ∨ j = 7 ∨ j = 8 ∨ j = 9 ∨ j = 10 ∨ j = 11 ∨ j = 12 ∨ j = 13 ∨ j = 14 ∨ j = 15 ∨ j = 16 ∨ j = 17 ∨ j = 18 ∨ j = 19 ∨ j = 20 ∨ j = 21 := by omega
  rcases this with rfl | rfl | rfl | rfl | rfl | rfl | rfl | rfl | rfl | rfl | rfl | rfl | rfl | rfl | rfl | rfl | rfl | rfl | rfl | rfl | rfl | rfl <;> first | exact ClsV.ty _ | exact ClsV.own _
local macro_rules | `(tactic| walk_at "sm") => `(tactic| (repeat (first | assumption | exact Same.refl _ | refine Same.trans ?_ (by assumption))))

theorem sc_ok_bases : FnScope ["_law_error", "_law_found"] ["_law_error"] (defScope (top 20)) := ⟨rfl, rfl, rfl, by decide +kernel, rfl, by decide +kernel, by decide +kernel⟩
theorem ok_bases {f : Addr} {fd : FuncData} (F : FnAt K "_law_bases" "_law_bases" (top 20) f fd) (T : Txt P w K mg base) : FnOk P w K mg base CX0 1 f fd ["_law_error"] (spIs K basesR) := by
  refine F.ok sc_ok_bases (fun vs H Q E h => ?_) (fun cdv A outer s H vs Q E hr h => ⟨_, PSs.nox (
      (pss_cons
        (ps_set (i := 1) sc_ok_bases.nd rfl (Or.inl rfl) (pe_lst (pa_cons (pe_callB call_isX (by rfl) T.isi (by decide +kernel) (pa_cons (pv 0) (pa_cons (pe_glob (v := .ref (ga K "CopyError")) rfl T.g_CopyError rfl) pa_nil))) (pa_cons (pe_callB call_isX (by rfl) T.isi (by decide +kernel) (pa_cons (pv 0) (pa_cons (pe_bltn (v := .ty "ValueError") (by rfl) T.ve (by decide +kernel) rfl) pa_nil))) (pa_cons (pe_callB call_isX (by rfl) T.isi (by decide +kernel) (pa_cons (pv 0) (pa_cons (pe_bltn (v := .ty "LookupError") (by rfl) T.le (by decide +kernel) rfl) pa_nil))) pa_nil)))))
      (pss_cons
        (ps_set (i := 1) sc_ok_bases.nd rfl (Or.inl rfl) (pe_op op_cat (pv 1) (pe_lst (pa_cons (pe_callB call_isX (by rfl) T.isi (by decide +kernel) (pa_cons (pv 0) (pa_cons (pe_bltn (v := .ty "KeyError") (by rfl) T.ke (by decide +kernel) rfl) pa_nil))) (pa_cons (pe_callB call_isX (by rfl) T.isi (by decide +kernel) (pa_cons (pv 0) (pa_cons (pe_bltn (v := .ty "IndexError") (by rfl) T.ie (by decide +kernel) rfl) pa_nil))) (pa_cons (pe_callB call_isX (by rfl) T.isi (by decide +kernel) (pa_cons (pv 0) (pa_cons (pe_bltn (v := .ty "RuntimeError") (by rfl) T.re (by decide +kernel) rfl) pa_nil))) pa_nil))))))
      (pss_one
        (ps_ret (pe_op op_cat (pv 1) (pe_lst (pa_cons (pe_callB call_isX (by rfl) T.isi (by decide +kernel) (pa_cons (pv 0) (pa_cons (pe_bltn (v := .ty "ArithmeticError") (by rfl) T.ae (by decide +kernel) rfl) pa_nil))) (pa_cons (pe_callB call_isX (by rfl) T.isi (by decide +kernel) (pa_cons (pv 0) (pa_cons (pe_bltn (v := .ty "OverflowError") (by rfl) T.oe (by decide +kernel) rfl) pa_nil))) pa_nil)))))))) ), ?_⟩)
  · obtain ⟨e, i, rfl, _⟩ := h
    rfl
  · obtain ⟨e, i, rfl, hi, hx, k⟩ := h
    rw [show L2.start ["_law_error", "_law_found"] [(V.ref e)] = [some (V.ref e), none] from rfl]
    walk_at "rd"
    refine isx T hi hx 0 (by decide) _ (by walk_at "sm") _ ?_
    walk_at "rd"
    refine isx T hi hx 1 (by decide) _ (by walk_at "sm") _ ?_
    walk_at "rd"
    refine isx T hi hx 2 (by decide) _ (by walk_at "sm") _ ?_
    walk_at "rd"
    refine isx T hi hx 3 (by decide) _ (by walk_at "sm") _ ?_
    walk_at "rd"
    refine isx T hi hx 4 (by decide) _ (by walk_at "sm") _ ?_
    walk_at "rd"
    refine isx T hi hx 5 (by decide) _ (by walk_at "sm") _ ?_
    walk_at "rd"
    refine isx T hi hx 6 (by decide) _ (by walk_at "sm") _ ?_
    walk_at "rd"
    refine isx T hi hx 7 (by decide) _ (by walk_at "sm") _ ?_
    walk_at "rd"
    refine' k _ _ (Same.free ?s ?n) ?t ?q
    case n => assumption
    case q => assumption
    case s => walk_at "sm"
    case t => walk_at "sm"


theorem sc_ok_classes : FnScope ["_law_error", "_law_found"] ["_law_error"] (defScope (top 21)) := ⟨rfl, rfl, rfl, by decide +kernel, rfl, by decide +kernel, by decide +kernel⟩
theorem ok_classes {f : Addr} {fd : FuncData} (F : FnAt K "_law_classes" "_law_classes" (top 21) f fd) (T : Txt P w K mg base) : FnOk P w K mg base CX0 1 f fd ["_law_error"] (spIs K classR) := by
  refine F.ok sc_ok_classes (fun vs H Q E h => ?_) (fun cdv A outer s H vs Q E hr h => ⟨_, PSs.nox (
      (pss_cons
        (ps_set (i := 1) sc_ok_classes.nd rfl (Or.inl rfl) (pe_lst (pa_cons (pe_callB call_isX (by rfl) T.isi (by decide +kernel) (pa_cons (pv 0) (pa_cons (pe_glob (v := .ref (ga K "BadShape")) rfl T.g_BadShape rfl) pa_nil))) (pa_cons (pe_callB call_isX (by rfl) T.isi (by decide +kernel) (pa_cons (pv 0) (pa_cons (pe_glob (v := .ref (ga K "BadKind")) rfl T.g_BadKind rfl) pa_nil))) (pa_cons (pe_callB call_isX (by rfl) T.isi (by decide +kernel) (pa_cons (pv 0) (pa_cons (pe_glob (v := .ref (ga K "BadValue")) rfl T.g_BadValue rfl) pa_nil))) pa_nil)))))
      (pss_cons
        (ps_set (i := 1) sc_ok_classes.nd rfl (Or.inl rfl) (pe_op op_cat (pv 1) (pe_lst (pa_cons (pe_callB call_isX (by rfl) T.isi (by decide +kernel) (pa_cons (pv 0) (pa_cons (pe_glob (v := .ref (ga K "WrongKind")) rfl T.g_WrongKind rfl) pa_nil))) (pa_cons (pe_callB call_isX (by rfl) T.isi (by decide +kernel) (pa_cons (pv 0) (pa_cons (pe_glob (v := .ref (ga K "BadText")) rfl T.g_BadText rfl) pa_nil))) (pa_cons (pe_callB call_isX (by rfl) T.isi (by decide +kernel) (pa_cons (pv 0) (pa_cons (pe_glob (v := .ref (ga K "UnknownShape")) rfl T.g_UnknownShape rfl) pa_nil))) pa_nil))))))
      (pss_cons
        (ps_set (i := 1) sc_ok_classes.nd rfl (Or.inl rfl) (pe_op op_cat (pv 1) (pe_lst (pa_cons (pe_callB call_isX (by rfl) T.isi (by decide +kernel) (pa_cons (pv 0) (pa_cons (pe_glob (v := .ref (ga K "UnknownCell")) rfl T.g_UnknownCell rfl) pa_nil))) (pa_cons (pe_callB call_isX (by rfl) T.isi (by decide +kernel) (pa_cons (pv 0) (pa_cons (pe_glob (v := .ref (ga K "NoEntry")) rfl T.g_NoEntry rfl) pa_nil))) (pa_cons (pe_callB call_isX (by rfl) T.isi (by decide +kernel) (pa_cons (pv 0) (pa_cons (pe_glob (v := .ref (ga K "BadStep")) rfl T.g_BadStep rfl) pa_nil))) pa_nil))))))
      (pss_cons
        (ps_set (i := 1) sc_ok_classes.nd rfl (Or.inl rfl) (pe_op op_cat (pv 1) (pe_lst (pa_cons (pe_callB call_isX (by rfl) T.isi (by decide +kernel) (pa_cons (pv 0) (pa_cons (pe_glob (v := .ref (ga K "Busy")) rfl T.g_Busy rfl) pa_nil))) (pa_cons (pe_callB call_isX (by rfl) T.isi (by decide +kernel) (pa_cons (pv 0) (pa_cons (pe_glob (v := .ref (ga K "Changed")) rfl T.g_Changed rfl) pa_nil))) (pa_cons (pe_callB call_isX (by rfl) T.isi (by decide +kernel) (pa_cons (pv 0) (pa_cons (pe_glob (v := .ref (ga K "Endless")) rfl T.g_Endless rfl) pa_nil))) pa_nil))))))
      (pss_one
        (ps_ret (pe_op op_cat (pv 1) (pe_lst (pa_cons (pe_callB call_isX (by rfl) T.isi (by decide +kernel) (pa_cons (pv 0) (pa_cons (pe_glob (v := .ref (ga K "LateCycle")) rfl T.g_LateCycle rfl) pa_nil))) (pa_cons (pe_callB call_isX (by rfl) T.isi (by decide +kernel) (pa_cons (pv 0) (pa_cons (pe_glob (v := .ref (ga K "Failed")) rfl T.g_Failed rfl) pa_nil))) pa_nil)))))))))) ), ?_⟩)
  · obtain ⟨e, i, rfl, _⟩ := h
    rfl
  · obtain ⟨e, i, rfl, hi, hx, k⟩ := h
    rw [show L2.start ["_law_error", "_law_found"] [(V.ref e)] = [some (V.ref e), none] from rfl]
    walk_at "rd"
    refine isx T hi hx 8 (by decide) _ (by walk_at "sm") _ ?_
    walk_at "rd"
    refine isx T hi hx 9 (by decide) _ (by walk_at "sm") _ ?_
    walk_at "rd"
    refine isx T hi hx 10 (by decide) _ (by walk_at "sm") _ ?_
    walk_at "rd"
    refine isx T hi hx 11 (by decide) _ (by walk_at "sm") _ ?_
    walk_at "rd"
    refine isx T hi hx 12 (by decide) _ (by walk_at "sm") _ ?_
    walk_at "rd"
    refine isx T hi hx 13 (by decide) _ (by walk_at "sm") _ ?_
    walk_at "rd"
    refine isx T hi hx 14 (by decide) _ (by walk_at "sm") _ ?_
    walk_at "rd"
    refine isx T hi hx 15 (by decide) _ (by walk_at "sm") _ ?_
    walk_at "rd"
    refine isx T hi hx 16 (by decide) _ (by walk_at "sm") _ ?_
    walk_at "rd"
    refine isx T hi hx 17 (by decide) _ (by walk_at "sm") _ ?_
    walk_at "rd"
    refine isx T hi hx 18 (by decide) _ (by walk_at "sm") _ ?_
    walk_at "rd"
    refine isx T hi hx 19 (by decide) _ (by walk_at "sm") _ ?_
    walk_at "rd"
    refine isx T hi hx 20 (by decide) _ (by walk_at "sm") _ ?_
    walk_at "rd"
    refine isx T hi hx 21 (by decide) _ (by walk_at "sm") _ ?_
    walk_at "rd"
    refine' k _ _ (Same.free ?s ?n) ?t ?q
    case n => assumption
    case q => assumption
    case s => walk_at "sm"
    case t => walk_at "sm"

def spFields (K : PySem.W.Frag) : Sp := fun vs H Q _ => ∃ (a b : V) (da db : PyData), vs = [a, b] ∧ Dp K H a da ∧ Dp K H b db ∧ OddD da ∧ OddD db ∧ ∀ H', Same H H' → Q (.bl true) H'

theorem sc_ok_fields : FnScope ["_law_a", "_law_b", "_law_found"] ["_law_a", "_law_b"] (defScope (top 22)) := ⟨rfl, rfl, rfl, by decide +kernel, rfl, by decide +kernel, by decide +kernel⟩
theorem ok_fields {f : Addr} {fd : FuncData} (F : FnAt K "_law_fields_right" "_law_fields_right" (top 22) f fd) (T : Txt P w K mg base) : FnG P w K mg base CX0 4 f fd ["_law_a", "_law_b"] (spFields K) := by
  refine F.okG sc_ok_fields (fun vs H Q E h => ?_) (fun cdv A outer s H vs Q E hr hgd h => ⟨_, PSs.nox (
      (pss_cons
        (ps_set (i := 2) sc_ok_fields.nd rfl (Or.inl rfl) (pe_lst (pa_cons (pe_x1 PySem.F.excBase_ValueError T.x_BadKind (hr.mono (by decide)) (pv 0)) (pa_cons (pe_x1 PySem.F.excBase_ValueError T.x_BadValue (hr.mono (by decide)) (pv 0)) (pa_cons (pe_x1 PySem.F.excBase_ValueError T.x_WrongKind (hr.mono (by decide)) (pv 0)) (pa_cons (pe_x1 PySem.F.excBase_LookupError T.x_UnknownShape (hr.mono (by decide)) (pv 0)) (pa_cons (pe_x1 PySem.F.excBase_LookupError T.x_UnknownCell (hr.mono (by decide)) (pv 0)) pa_nil)))))))
      (pss_cons
        (ps_set (i := 2) sc_ok_fields.nd rfl (Or.inl rfl) (pe_op op_cat (pv 2) (pe_lst (pa_cons (pe_x1 PySem.F.excBase_LookupError T.x_NoEntry (hr.mono (by decide)) (pv 0)) (pa_cons (pe_x1 PySem.F.excBase_IndexError T.x_BadStep (hr.mono (by decide)) (pv 0)) (pa_cons (pe_x1 PySem.F.excBase_RuntimeError T.x_Changed (hr.mono (by decide)) (pv 0)) (pa_cons (pe_x1 PySem.F.excBase_RuntimeError T.x_Endless (hr.mono (by decide)) (pv 0)) (pa_cons (pe_x1 PySem.F.excBase_RuntimeError T.x_LateCycle (hr.mono (by decide)) (pv 0)) pa_nil))))))))
      (pss_cons
        (ps_set (i := 2) sc_ok_fields.nd rfl (Or.inl rfl) (pe_op op_cat (pv 2) (pe_lst (pa_cons (pe_x2 false PySem.F.excBase_ArithmeticError T.x_Failed (hr.mono (by decide)) (pv 0) (pv 1)) (pa_cons (pe_x2k false PySem.F.excBase_ArithmeticError T.x_Failed (hr.mono (by decide)) (pv 1) (pv 0)) (pa_cons (pe_x1k PySem.F.excBase_ValueError T.x_BadKind (hr.mono (by decide)) (pv 0)) (pa_cons (pe_x1k PySem.F.excBase_ValueError T.x_BadValue (hr.mono (by decide)) (pv 0)) pa_nil)))))))
      (pss_cons
        (ps_set (i := 2) sc_ok_fields.nd rfl (Or.inl rfl) (pe_op op_cat (pv 2) (pe_lst (pa_cons (pe_x1k PySem.F.excBase_ValueError T.x_WrongKind (hr.mono (by decide)) (pv 0)) (pa_cons (pe_x1k PySem.F.excBase_LookupError T.x_UnknownShape (hr.mono (by decide)) (pv 0)) (pa_cons (pe_x1k PySem.F.excBase_LookupError T.x_NoEntry (hr.mono (by decide)) (pv 0)) pa_nil))))))
      (pss_cons
        (ps_expr (pe_bm PySem.F.plainAttrs_list PySem.F.slot_list_append PySem.F.type_list_append mt_append (pv 2) (pa_cons (pe_x1k PySem.F.excBase_IndexError T.x_BadStep (hr.mono (by decide)) (pv 0)) pa_nil)))
      (pss_one
        (ps_ret (pe_cmpR op_eq (pe_callB (call_repr hgd hr.units) (by rfl) T.repr (by decide +kernel) (pa_cons (pe_op op_cat (pv 2) (pe_lst (pa_cons (pe_x2 true PySem.F.excBase_ArithmeticError T.x_Failed (hr.mono (by decide)) (pv 0) (pv 1)) (pa_cons (pe_x2k true PySem.F.excBase_ArithmeticError T.x_Failed (hr.mono (by decide)) (pv 1) (pv 0)) pa_nil)))) pa_nil)) (pe_callB (call_repr hgd hr.units) (by rfl) T.repr (by decide +kernel) (pa_cons (pe_op op_cat (pe_op op_rep (pe_lst (pa_cons (pv 0) pa_nil)) pe_int) (pe_lst (pa_cons (pv 1) (pa_cons (pv 1) pa_nil)))) pa_nil)) (nomark _))))))))) ), ?_⟩)
  · obtain ⟨a, b, da, db, rfl, _⟩ := h
    rfl
  · obtain ⟨a, b, da, db, rfl, ha, hb, oa, ob, k⟩ := h
    rw [show L2.start ["_law_a", "_law_b", "_law_found"] [a, b] = [some a, some b, none] from rfl]
    walk_at "rd"
    refine rd_bmL ?_
    walk_at "rd"
    refine tyL (SqL.of (by assumption)) ?_
    walk_at "rd"
    rename_i pF nF HF sF qF HG sG
    have fr : H pF = none := by
      refine' Same.free ?s nF
      case s => walk_at "sm"
    refine rd_append (sG _ _ qF) (by show 17 < sizeLine; decide) ?_
    generalize e : upd HG pF _ = HM
    have sM : Same H HM := by
      rw [← e]
      refine Same.mut ?_ fr
      walk_at "sm"
    have qM : HM pF = some (.lst (List.replicate 18 a)) := by
      rw [← e]
      exact upd_same
    clear e
    have dd : ∀ H', Same H H' → DpAll K H' (List.replicate 18 a ++ [b, b]) (List.replicate 18 da ++ [db, db]) := fun H' s' =>
      ((DpAll.rep (ha.same s') 18).app (.cons (hb.same s') (.cons (hb.same s') .nil)))
    have al : ∀ d ∈ List.replicate 18 da ++ [db, db], OddD d := fun d hd => by
      rcases List.mem_append.mp hd with h | h
      · rw [(List.mem_replicate.mp h).2]; exact oa
      · simp at h; rw [h]; exact ob
    have sh : (PyData.list (List.replicate 18 da ++ [db, db])).showable = true := showable_list fun d hd => (al d hd).1
    have ln : (PyData.list (List.replicate 18 da ++ [db, db])).shown.length ≤ sizeLine := Nat.le_trans (shown_list_le fun d hd => (al d hd).2.1) (by rw [List.length_append, List.length_replicate]; show 60 * 20 + 2 * 20 + 3 ≤ sizeLine; decide)
    have dp : (PyData.list (List.replicate 18 da ++ [db, db])).depth ≤ 60 := Nat.le_trans (depth_list fun d hd => (al d hd).2.2) (by decide)
    walk_at "rd"
    refine rd_repr (.lst (SqL.of (by assumption)) (dd _ (by walk_at "sm"))) sh ln dp ?_
    walk_at "rd"
    refine rd_repr (.lst (SqL.of (by assumption)) (dd _ (by walk_at "sm"))) sh ln dp ?_
    refine rd_eq rfl ?_
    rw [decide_eq_true rfl]
    exact k _ (by walk_at "sm")

end
end K01
namespace K01
open PySem PySem.Spec PyProof.Rows L2 He Hx

local macro_rules | `(tactic| walk_at "hp") => `(tactic| (repeat (first | assumption | refine Same.at (by assumption) ?_)))
local macro_rules | `(tactic| walk_at "rd1") => `(tactic| first
  | ((with_reducible refine' rd_var ?h ?_); (case h => exact rfl))
  | with_reducible refine rd_c ?_ | with_reducible refine rd_op ?_ | with_reducible refine rd_I0 ?_ | with_reducible refine rd_cb ?_ | with_reducible refine rd_cons ?_ | with_reducible refine rd_nil ?_
  | with_reducible refine rd_seq ?_ | with_reducible refine rd_asg ?_ | with_reducible refine rd_gname ?_ | with_reducible refine rd_if ?_ | with_reducible refine rd_ret ?_ | with_reducible refine rd_next ?_
  | with_reducible refine rd_test ?_ | with_reducible refine rd_bl ?_ | with_reducible refine rd_lst ?_ | with_reducible refine rd_tup ?_ | with_reducible refine rd_gsub ?_ | with_reducible refine rd_U ?_ | with_reducible refine rd_un ?_
  | with_reducible refine rd_tB ?_ | with_reducible refine rd_and ?_ | with_reducible refine rd_or ?_ | with_reducible refine rd_not ?_ | with_reducible refine rd_call ?_ | with_reducible refine rd_retN ?_ | with_reducible refine rd_drop ?_
  | with_reducible refine rd_abs ?_ | with_reducible refine rd_intI ?_ | with_reducible refine rd_intB ?_ | with_reducible refine rd_max2 ?_ | with_reducible refine rd_min2 ?_
  | ((with_reducible refine' rd_ixL ?hp ?hi ?_); (case hp => first | exact SqL.of upd_same | assumption | (exact SqL.of (by assumption)) | (refine SqL.of ?_; walk_at "hp"; done)); (case hi => exact rfl))
  | ((with_reducible refine' rd_setL ?hp ?hi ?_); (case hp => first | exact upd_same | assumption); (case hi => first | (show ixN _ _ = some 0; exact rfl) | (show ixN _ _ = some 1; exact rfl) | (show ixN _ _ = some 2; exact rfl)))
  | ((with_reducible refine' rd_len ?hp ?_); (case hp => first | exact SqL.of upd_same | assumption | (exact SqL.of (by assumption)) | (refine SqL.of ?_; walk_at "hp"; done)))
  | ((with_reducible refine rd_I ?hc ?_); (case hc => first | (show (0 : Int) < _; omega) | (refine CMul.le ?_ <;> omega) | (refine CMul.ri ?_ <;> omega) | (refine CDiv.of ?_ <;> omega) | exact CPowW.of (n := 4) rfl (by decide) (by decide)))
  | with_reducible refine rd_sz rfl ?_
  | ((with_reducible refine' rd_cat ?hp ?hq ?hl ?_); (case hp => walk_at "hp"; done); (case hq => walk_at "hp"; done); (case hl => first | exact Nat.le_trans (Nat.le_of_ble_eq_true (rfl : Nat.ble _ 1000 = true)) (by decide) | decide))
  | with_reducible refine rd_v1 ?_ | with_reducible refine rd_v2 ?_ | with_reducible refine rd_get ?_ | with_reducible refine rd_get2 ?_
  | (with_reducible show ∀ p : Addr, _ = none → _; (intro p hp; generalize e : upd _ p _ = H'; obtain ⟨s, q⟩ := new_of hp e; clear e))
  | (with_reducible show ∀ H2 : Hp, Same _ H2 → _; intro H2 s2)
  | (with_reducible show ∀ (a : Addr) (H2 : Hp), _ = none → Same _ H2 → XAt H2 a _ → _; intro a2 H2 n2 s2 x2)
  | ((with_reducible refine' rd_rep ?hp ?h1 ?h2 ?hl ?_); (case hp => walk_at "hp"; done); (case h1 => decide); (case h2 => decide); (case hl => exact Nat.le_trans (Nat.le_of_ble_eq_true (rfl : Nat.ble _ 1000 = true)) (by decide)))
  | with_reducible refine rd_gcons ?_ | with_reducible refine rd_gnil ?_ | with_reducible refine rd_yes ?_ | with_reducible refine rd_iEnum ?_ | with_reducible refine rd_iRng1 ?_ | with_reducible refine rd_iList ?_
  | (rw [upd_upd]))
local macro_rules | `(tactic| walk_at "rd") => `(tactic| (repeat (first | walk_at "rd1" | dsimp only [List.set])))
local macro_rules | `(tactic| walk_at "sm") => `(tactic| (repeat (first | assumption | exact Same.refl _ | refine Same.trans ?_ (by assumption))))
section
variable {P : Program} {w : World} {K : PySem.W.Frag} {mg : Str → Option Value} {base : Heap}
theorem rowAt {H : Hp} {p : Addr} {xs ys : List V} (h : H p = some (.lst xs)) (e : xs = ys) : H p = some (.lst ys) := e ▸ h
def spBR (K : PySem.W.Frag) : Sp := fun vs H Q _ => ∃ (a : V), vs = [a] ∧ ∀ H', Same H H' → Q (.bl true) H'

theorem sc_ok_br : FnScope ["_law_a", "_law_own", "_law_due", "_law_at", "_law_error", "_law_spot"] ["_law_a"] (defScope (top 23)) := ⟨rfl, rfl, rfl, by decide +kernel, rfl, by decide +kernel, by decide +kernel⟩
theorem ok_br {f : Addr} {fd : FuncData} (F : FnAt K "_law_bases_right" "_law_bases_right" (top 23) f fd) (T : Txt P w K mg base) (cB : Cal P w K mg base CX0 1 "_law_bases" ["_law_error"] (spIs K basesR) []) (cC : Cal P w K mg base CX0 1 "_law_classes" ["_law_error"] (spIs K classR) []) : FnOk P w K mg base CX0 4 f fd ["_law_a"] (spBR K) := by
  refine F.ok sc_ok_br (fun vs H Q E h => ?_) (fun cdv A outer s H vs Q E hr h => ⟨_, PSs.nox (
      (pss_cons
        (ps_set (i := 1) sc_ok_br.nd rfl (Or.inl rfl) (pe_lst (pa_cons (pe_mkx0 PySem.F.excBase_ValueError T.e_BadShape T.k_BadShape rfl T.g_BadShape) (pa_cons (pe_v1 PySem.F.excBase_ValueError T.x_BadKind (hr.mono (by decide)) (pv 0)) (pa_cons (pe_v1 PySem.F.excBase_ValueError T.x_BadValue (hr.mono (by decide)) (pv 0)) (pa_cons (pe_v1 PySem.F.excBase_ValueError T.x_WrongKind (hr.mono (by decide)) (pv 0)) (pa_cons (pe_mkx0 PySem.F.excBase_ValueError T.e_BadText T.k_BadText rfl T.g_BadText) (pa_cons (pe_v1 PySem.F.excBase_LookupError T.x_UnknownShape (hr.mono (by decide)) (pv 0)) (pa_cons (pe_v1 PySem.F.excBase_LookupError T.x_UnknownCell (hr.mono (by decide)) (pv 0)) (pa_cons (pe_v1 PySem.F.excBase_LookupError T.x_NoEntry (hr.mono (by decide)) (pv 0)) pa_nil))))))))))
      (pss_cons
        (ps_set (i := 1) sc_ok_br.nd rfl (Or.inl rfl) (pe_op op_cat (pv 1) (pe_lst (pa_cons (pe_v1 PySem.F.excBase_IndexError T.x_BadStep (hr.mono (by decide)) (pv 0)) (pa_cons (pe_mkx0 PySem.F.excBase_RuntimeError T.e_Busy T.k_Busy rfl T.g_Busy) (pa_cons (pe_v1 PySem.F.excBase_RuntimeError T.x_Changed (hr.mono (by decide)) (pv 0)) (pa_cons (pe_v1 PySem.F.excBase_RuntimeError T.x_Endless (hr.mono (by decide)) (pv 0)) (pa_cons (pe_v1 PySem.F.excBase_RuntimeError T.x_LateCycle (hr.mono (by decide)) (pv 0)) (pa_cons (pe_v2 PySem.F.excBase_ArithmeticError T.x_Failed (hr.mono (by decide)) (pv 0) (pv 0)) pa_nil)))))))))
      (pss_cons
        (ps_set (i := 2) sc_ok_br.nd rfl (Or.inl rfl) (pe_op op_cat (pe_op op_rep (pe_lst (pa_cons (pe_op op_cat (pe_lst (pa_cons pe_bl (pa_cons pe_bl pa_nil))) (pe_op op_rep (pe_lst (pa_cons pe_bl pa_nil)) pe_int)) pa_nil)) pe_int) (pe_op op_rep (pe_lst (pa_cons (pe_op op_cat (pe_lst (pa_cons pe_bl (pa_cons pe_bl (pa_cons pe_bl (pa_cons pe_bl pa_nil))))) (pe_op op_rep (pe_lst (pa_cons pe_bl pa_nil)) pe_int)) pa_nil)) pe_int)))
      (pss_cons
        (ps_set (i := 2) sc_ok_br.nd rfl (Or.inl rfl) (pe_op op_cat (pe_op op_cat (pv 2) (pe_lst (pa_cons (pe_lst (pa_cons pe_bl (pa_cons pe_bl (pa_cons pe_bl (pa_cons pe_bl (pa_cons pe_bl (pa_cons pe_bl (pa_cons pe_bl (pa_cons pe_bl pa_nil))))))))) pa_nil))) (pe_op op_rep (pe_lst (pa_cons (pe_op op_cat (pe_op op_rep (pe_lst (pa_cons pe_bl pa_nil)) pe_int) (pe_lst (pa_cons pe_bl (pa_cons pe_bl (pa_cons pe_bl pa_nil))))) pa_nil)) pe_int)))
      (pss_cons
        (ps_expr (pe_bm PySem.F.plainAttrs_list PySem.F.slot_list_append PySem.F.type_list_append mt_append (pv 2) (pa_cons (pe_op op_cat (pe_op op_rep (pe_lst (pa_cons pe_bl pa_nil)) pe_int) (pe_lst (pa_cons pe_bl (pa_cons pe_bl pa_nil)))) pa_nil)))
      (pss_cons
        (ps_for PassesOwn.never rfl (pi_enum (by rfl) T.enum (pa_cons (pv 1) pa_nil)) (pg_tup rfl (pgs_cons (pg_name (i := 3) sc_ok_br.nd rfl (Or.inr rfl)) (pgs_cons (pg_name (i := 4) sc_ok_br.nd rfl (Or.inl rfl)) pgs_nil)))
          (pss_one
            (ps_if (PW.pt (pw_or (pt_cmpR (op_neD hr.units) (pe_c cB (hr.mono (by decide)) pass0 (pa_cons (pv 4) pa_nil)) (pe_ix ix_list (pv 2) (pv 3) (fun _ _ => rfl)) (nomark _)) (pw_or1 (pt_cmpR (op_neD hr.units) (pe_c cC (hr.mono (by decide)) pass0 (pa_cons (pv 4) pa_nil)) (pe_lc (own := [("_law_spot", 5)]) (g := gName 5) (tt := tYes) rfl sc_ok_br.nd (pi_range1 rfl T.range (pa_cons pe_int pa_nil)) (blkOk_by (N := ["_law_a", "_law_own", "_law_due", "_law_at", "_law_error", "_law_spot"]) (sc := defScope (top 23)) (by decide +kernel)) (fun _ _ _ _ _ => (pg_name (i := 5) sc_ok_br.nd rfl (Or.inl rfl))) (fun _ _ _ _ _ => pts_nil) (fun _ _ _ _ _ => (pe_cmpR op_eq (pv 5) (pv 3) (nomark _)))) (nomark _)))))
              (pss_one
                (ps_ret pe_bl))
              pss_nil)))
      (pss_one
        (ps_ret pe_bl)))))))) ), ?_⟩)
  · obtain ⟨a, rfl, _⟩ := h
    rfl
  · obtain ⟨a, rfl, k⟩ := h
    rw [show L2.start ["_law_a", "_law_own", "_law_due", "_law_at", "_law_error", "_law_spot"] [a] = [some a, none, none, none, none, none] from rfl]
    walk_at "rd"
    refine rd_bmL ?_
    walk_at "rd"
    rename_i pD nD HD sD qD
    refine tyL (SqL.of qD) ?_
    walk_at "rd"
    rename_i pF nF HF1 sF qF pR nR HR sR qR pT nT HT sT qT p5 n5 H5 s5 q5
    have ne5 : p5 ≠ pD := (ne_of_none (((sF.trans sR).trans sT) _ _ qD) n5).symm
    refine rd_appS ((((sF.trans sR).trans sT).trans s5) _ _ qD) nD (sD.trans (((sF.trans sR).trans sT).trans s5)) (by show 13 < sizeLine; decide) fun HM sM fM qM => ?_
    have q5M := (fM p5 ne5).trans q5
    clear s5 sT sR sF n5 nT nR nF q5 qT qR qF
    obtain ⟨due, hdue, hlen, LD⟩ : ∃ due, HM pD = some (.lst due) ∧ due.length = 14 ∧ Lst (fun i v => ∃ q, v = .ref q ∧ HM q = some (.lst ((basesR i).map V.bl))) 0 due := by
      refine ⟨_, qM, rfl, ?_⟩
      repeat' (refine' Lst.cons ?_ ?_)
      all_goals first
        | exact Lst.nil
        | (refine ⟨_, rfl, Eq.trans q5M rfl⟩; done)
        | (refine ⟨_, rfl, ?_⟩; apply rowAt; (walk_at "hp"); rfl)
    clear qM
    walk_at "rd"
    refine' rd_forE rfl ?hO ?LO (fun i σ H' => ∃ v2 v3 v4 v5, σ = [some a, v2, some (V.ref pD), v3, v4, v5] ∧ Same HM H') ⟨_, none, none, none, rfl, Same.refl _⟩ (fun i σ H' ⟨_, _, _, _, _, z⟩ => z) ?turn ?done
    case hO => walk_at "hp"
    case LO =>
      show Lst (fun i v => ∃ e, v = V.ref e ∧ XAt HM e (ga K (cl i))) 0 _
      repeat' (refine' Lst.cons ?_ ?_)
      all_goals first
        | exact Lst.nil
        | (refine' ⟨_, rfl, XAt.same ?s ?x⟩; (case x => first | assumption | exact XAt.of0 (by assumption)); (case s => walk_at "sm"))
    case done =>
      rintro σ' H' ⟨v2, v3, v4, v5, rfl, sH⟩
      walk_at "rd"
      exact k _ (by walk_at "sm")
    case turn =>
      rintro i x T σ' H' ⟨e, rfl, xe⟩ hi ⟨v2, v3, v4, v5, rfl, sH⟩ hT
      have hi14 : i < 14 := hi
      obtain ⟨y, hy, q, rfl, hq⟩ := LD.at (i := i) (by rw [hlen]; exact hi14)
      refine rd_gtup upd_same rfl ?_
      generalize e1 : upd H' T _ = H1
      have s1 : Same H' H1 := by
        rw [← e1]
        exact Same.new hT
      clear e1
      walk_at "rd"
      refine ⟨e, i, rfl, hi14, xe.same (by walk_at "sm"), fun pb Hb nb sb qb => ?_⟩
      walk_at "rd"
      refine rd_ixL (SqL.of (by walk_at "hp")) (atI_nat hy) ?_
      refine rd_neD (.lst (SqL.of qb) (DpAll.bls _)) (.lst (SqL.of (by walk_at "hp")) (DpAll.bls _)) ?_ ?_ ?_
      · rfl
      · rfl
      rw [eqv_bls]
      walk_at "rd"
      refine iteF ?_
      walk_at "rd"
      refine ⟨e, i, rfl, hi14, xe.same (by walk_at "sm"), fun pc Hc nc sc qc => ?_⟩
      walk_at "rd"
      refine rd_lcR (fun j : Nat => V.bl (decide (V.int (j : Int) = V.int (i : Int)))) (by decide) (fun j hj H' Q' q => ?_) (fun j => by rfl) (fun pe He ne se qe => ?_)
      · refine rd_op (rd_var (by rfl) (rd_var (by rfl) (rd_eq (by rfl) q)))
      have hc : (List.range 14).map (fun j : Nat => V.bl (decide (V.int (j : Int) = V.int (i : Int)))) = (classR i).map V.bl := by
        rcases (show i = 0 ∨ i = 1 ∨ i = 2 ∨ i = 3 ∨ i = 4 ∨ i = 5 ∨ i = 6 ∨ i = 7 ∨ i = 8 ∨ i = 9 ∨ i = 10 ∨ i = 11 ∨ i = 12 ∨ i = 13 by omega) with rfl | rfl | rfl | rfl | rfl | rfl | rfl | rfl | rfl | rfl | rfl | rfl | rfl | rfl <;> rfl
      rw [hc] at qe
      refine rd_neD (.lst (SqL.of (by walk_at "hp")) (DpAll.bls _)) (.lst (SqL.of qe) (DpAll.bls _)) ?_ ?_ ?_
      · rfl
      · rfl
      rw [eqv_bls]
      walk_at "rd"
      refine iteF ?_
      walk_at "rd"
      refine ⟨_, _, _, _, rfl, ?_⟩
      walk_at "sm"

end
end K01
namespace K01
open PySem PySem.Spec PyProof.Rows L2 He Hx

local macro_rules | `(tactic| walk_at "hp") => `(tactic| (repeat (first | assumption | refine Same.at (by assumption) ?_)))
local macro_rules | `(tactic| walk_at "rd1") => `(tactic| first
  | ((with_reducible refine' rd_var ?h ?_); (case h => exact rfl))
  | with_reducible refine rd_c ?_ | with_reducible refine rd_op ?_ | with_reducible refine rd_I0 ?_ | with_reducible refine rd_cb ?_ | with_reducible refine rd_cons ?_ | with_reducible refine rd_nil ?_
  | with_reducible refine rd_seq ?_ | with_reducible refine rd_asg ?_ | with_reducible refine rd_gname ?_ | with_reducible refine rd_if ?_ | with_reducible refine rd_ret ?_ | with_reducible refine rd_next ?_
  | with_reducible refine rd_test ?_ | with_reducible refine rd_bl ?_ | with_reducible refine rd_lst ?_ | with_reducible refine rd_tup ?_ | with_reducible refine rd_gsub ?_ | with_reducible refine rd_U ?_ | with_reducible refine rd_un ?_
  | with_reducible refine rd_tB ?_ | with_reducible refine rd_and ?_ | with_reducible refine rd_or ?_ | with_reducible refine rd_not ?_ | with_reducible refine rd_call ?_ | with_reducible refine rd_retN ?_ | with_reducible refine rd_drop ?_
  | with_reducible refine rd_abs ?_ | with_reducible refine rd_intI ?_ | with_reducible refine rd_intB ?_ | with_reducible refine rd_max2 ?_ | with_reducible refine rd_min2 ?_
  | ((with_reducible refine' rd_ixL ?hp ?hi ?_); (case hp => first | exact SqL.of upd_same | assumption | (exact SqL.of (by assumption)) | (refine SqL.of ?_; walk_at "hp"; done)); (case hi => exact rfl))
  | ((with_reducible refine' rd_setL ?hp ?hi ?_); (case hp => first | exact upd_same | assumption); (case hi => first | (show ixN _ _ = some 0; exact rfl) | (show ixN _ _ = some 1; exact rfl) | (show ixN _ _ = some 2; exact rfl)))
  | ((with_reducible refine' rd_len ?hp ?_); (case hp => first | exact SqL.of upd_same | assumption | (exact SqL.of (by assumption)) | (refine SqL.of ?_; walk_at "hp"; done)))
  | ((with_reducible refine rd_I ?hc ?_); (case hc => first | (show (0 : Int) < _; omega) | (refine CMul.le ?_ <;> omega) | (refine CMul.ri ?_ <;> omega) | (refine CDiv.of ?_ <;> omega) | exact CPowW.of (n := 4) rfl (by decide) (by decide)))
  | with_reducible refine rd_sz rfl ?_
  | ((with_reducible refine' rd_cat ?hp ?hq ?hl ?_); (case hp => walk_at "hp"; done); (case hq => walk_at "hp"; done); (case hl => first | exact Nat.le_trans (Nat.le_of_ble_eq_true (rfl : Nat.ble _ 1000 = true)) (by decide) | decide))
  | with_reducible refine rd_v1 ?_ | with_reducible refine rd_v2 ?_ | with_reducible refine rd_get ?_ | with_reducible refine rd_get2 ?_
  | (with_reducible show ∀ p : Addr, _ = none → _; (intro p hp; generalize e : upd _ p _ = H'; obtain ⟨s, q⟩ := new_of hp e; clear e))
  | (with_reducible show ∀ H2 : Hp, Same _ H2 → _; intro H2 s2)
  | (with_reducible show ∀ (a : Addr) (H2 : Hp), _ = none → Same _ H2 → XAt H2 a _ → _; intro a2 H2 n2 s2 x2)
  | ((with_reducible refine' rd_rep ?hp ?h1 ?h2 ?hl ?_); (case hp => walk_at "hp"; done); (case h1 => decide); (case h2 => decide); (case hl => exact Nat.le_trans (Nat.le_of_ble_eq_true (rfl : Nat.ble _ 1000 = true)) (by decide)))
  | with_reducible refine rd_gcons ?_ | with_reducible refine rd_gnil ?_ | with_reducible refine rd_yes ?_ | with_reducible refine rd_iEnum ?_ | with_reducible refine rd_iRng1 ?_ | with_reducible refine rd_iList ?_
  | (rw [upd_upd]))
local macro_rules | `(tactic| walk_at "rd") => `(tactic| (repeat (first | walk_at "rd1" | dsimp only [List.set])))
local macro_rules | `(tactic| walk_at "sm") => `(tactic| (repeat (first | assumption | exact Same.refl _ | refine Same.trans ?_ (by assumption))))
section
variable {P : Program} {w : World} {K : PySem.W.Frag} {mg : Str → Option Value} {base : Heap}
def spLaw (K : PySem.W.Frag) : Sp := fun vs H Q _ => ∃ (a : Addr) (ns : List Int), vs = [.ref a] ∧ SqL K H a (ns.map V.int) ∧ ∀ H', Q (.bl true) H'

theorem sc_ok_law : FnScope ["_law_script", "_law_at", "_law_source_here"] ["_law_script"] (defScope (top 24)) := ⟨rfl, rfl, rfl, by decide +kernel, rfl, by decide +kernel, by decide +kernel⟩
theorem ok_law {f : Addr} {fd : FuncData} (F : FnAt K "law" "law" (top 24) f fd) (T : Blt mg) (cS : Cal P w K mg base CX0 1 "_law_source" ["_law_script", "_law_at"] (spSource K) []) (cO : Cal P w K mg base CX0 2 "_law_odd" ["_law_source_here"] (spOdd K) []) (cF : CalG P w K mg base CX0 4 "_law_fields_right" ["_law_a", "_law_b"] (spFields K) []) (cR : Cal P w K mg base CX0 4 "_law_bases_right" ["_law_a"] (spBR K) []) : FnG P w K mg base CX0 5 f fd ["_law_script"] (spLaw K) := by
  refine F.okG sc_ok_law (fun vs H Q E h => ?_) (fun cdv A outer s H vs Q E hr hgd h => ⟨_, PSs.nox (
      (pss_cons
        (ps_for PassesOwn.never rfl (pi_range1 rfl T.range (pa_cons (pe_callB (c_max2 rfl) (by rfl) T.max (by decide +kernel) (pa_cons pe_int (pa_cons (pe_callB (c_min2 rfl) (by rfl) T.min (by decide +kernel) (pa_cons pe_int (pa_cons (pe_callB c_len (by rfl) T.len PySem.boot_len (pa_cons (pv 0) pa_nil)) pa_nil))) pa_nil))) pa_nil)) (pg_name (i := 1) sc_ok_law.nd rfl (Or.inl rfl))
          (pss_cons
            (ps_set (i := 2) sc_ok_law.nd rfl (Or.inl rfl) (pe_c cS (hr.mono (by decide)) pass0 (pa_cons (pv 0) (pa_cons (pv 1) pa_nil))))
          (pss_one
            (ps_if (PW.pt (pw_or (pt_not (pt_val (pe_cG cF hgd (hr.mono (by decide)) pass0 (pa_cons (pe_c cO (hr.mono (by decide)) pass0 (pa_cons (pv 2) pa_nil)) (pa_cons (pe_c cO (hr.mono (by decide)) pass0 (pa_cons (pv 2) pa_nil)) pa_nil))))) (pw_or1 (pt_not (pt_val (pe_c cR (hr.mono (by decide)) pass0 (pa_cons (pe_c cO (hr.mono (by decide)) pass0 (pa_cons (pv 2) pa_nil)) pa_nil)))))))
              (pss_one
                (ps_ret pe_bl))
              pss_nil))))
      (pss_one
        (ps_ret pe_bl))) ), ?_⟩)
  · obtain ⟨a, ns, rfl, _⟩ := h
    rfl
  · obtain ⟨a, ns, rfl, hS, k⟩ := h
    rw [show L2.start ["_law_script", "_law_at", "_law_source_here"] [(V.ref a)] = [some (V.ref a), none, none] from rfl]
    walk_at "rd"
    refine' rd_forR ?h1 ?h2 ?hA (fun _ σ H' => ∃ v1 v2, σ = [some (V.ref a), v1, v2] ∧ Same H H') ⟨_, _, rfl, Same.refl _⟩ ?hs ?hd
    case hA =>
      intro Q' q
      walk_at "rd"
      exact q
    case h1 => split <;> (try split) <;> omega
    case h2 => split <;> (try split) <;> omega
    case hd =>
      rintro σ' H' ⟨v1, v2, rfl, sH⟩
      walk_at "rd"
      exact k _
    case hs =>
      rintro i σ' H' hi ⟨v1, v2, rfl, sH⟩
      have hi4 : i ≤ 4 := by
        revert hi
        split <;> (try split) <;> omega
      walk_at "rd"
      refine ⟨a, ns, i, rfl, sH.seq hS, by omega, by omega, fun p o H1 np s1 q1 hs1 => ?_⟩
      walk_at "rd"
      refine ⟨p, o, 0, rfl, q1, hs1, by decide, fun x dx H2 ox rx k2 ⟨o2, q2, hs2⟩ => ?_⟩
      walk_at "rd"
      refine ⟨p, o2, _, rfl, q2, hs2, by decide, fun y dy H3 oy ry k3 ⟨o3, q3, hs3⟩ => ?_⟩
      have n3 : ∀ {b u}, b ≠ p → H2 b = some u → H3 b = some u := fun hb e => k3 _ _ hb e
      walk_at "rd"
      have np1 : ∀ {b}, H1 b = none → b ≠ p := fun e hb => by
        rw [hb, q1] at e
        cases e
      have S3 : Same H' H3 := fun b u e => by
        have hb : b ≠ p := fun h => by
          rw [h, np] at e
          cases e
        exact k3 _ _ hb (k2 _ _ hb (s1 _ _ e))
      refine ⟨x, y, dx, dy, rfl, rx _ (fun b u e1 e2 => k3 _ _ (np1 e1) e2), ry _ (fun b u _ e2 => e2), ox, oy, fun H4 s4 => ?_⟩
      walk_at "rd"
      refine iteF ?_
      walk_at "rd"
      refine ⟨p, o3, _, rfl, s4 _ _ q3, hs3, by decide, fun z dz H5 oz rz k5 _ => ?_⟩
      walk_at "rd"
      refine ⟨z, rfl, fun H6 s6 => ?_⟩
      walk_at "rd"
      refine iteF ?_
      walk_at "rd"
      refine ⟨_, _, rfl, fun b u e => ?_⟩
      have hb : b ≠ p := fun h => by
        have := sH _ _ e
        rw [h, np] at this
        cases this
      exact s6 _ _ (k5 _ _ hb (s4 _ _ (S3 _ _ (sH _ _ e))))

end
end K01
namespace K01
open PySem PySem.Spec PyProof.Rows L2 He Hx
abbrev Row := PySem.Challenge.rw_copymemos_k01_errors_and_their_fields
def gdef (i : Nat) (x : Str) : DefX := ⟨fun K => ga K x, x, x, defArgs (top i), defBody (top i), defScope (top i), [], []⟩
def mdef (i j : Nat) (C m q : Str) : DefX := ⟨fun K => ma K (ga K C) m, m, q, defArgs (inClass (top i) j), defBody (inClass (top i) j), defScope (inClass (top i) j), [], []⟩
def fn : List DefX := [mdef 3 0 "BadKind" "__init__" "BadKind.__init__",
  mdef 4 0 "BadValue" "__init__" "BadValue.__init__",
  mdef 5 0 "WrongKind" "__init__" "WrongKind.__init__",
  mdef 7 0 "UnknownShape" "__init__" "UnknownShape.__init__",
  mdef 8 0 "UnknownCell" "__init__" "UnknownCell.__init__",
  mdef 9 0 "NoEntry" "__init__" "NoEntry.__init__",
  mdef 10 0 "BadStep" "__init__" "BadStep.__init__",
  mdef 12 0 "Changed" "__init__" "Changed.__init__",
  mdef 13 0 "Endless" "__init__" "Endless.__init__",
  mdef 14 0 "LateCycle" "__init__" "LateCycle.__init__",
  mdef 15 0 "Failed" "__init__" "Failed.__init__",
  gdef 17 "_law_source",
  gdef 18 "_law_draw",
  gdef 19 "_law_odd",
  gdef 22 "_law_fields_right",
  gdef 20 "_law_bases",
  gdef 21 "_law_classes",
  gdef 23 "_law_bases_right",
  gdef 24 "law"]
def fx : List (PySem.W.Frag → Bool) := [fun K => (Fa.free "len").ok K,
  fun K => (Fa.free "abs").ok K,
  fun K => (Fa.free "int").ok K,
  fun K => (Fa.free "range").ok K,
  fun K => (Fa.free "max").ok K,
  fun K => (Fa.free "min").ok K,
  fun K => (Fa.free "repr").ok K,
  fun K => (Fa.free "isinstance").ok K,
  fun K => (Fa.free "enumerate").ok K,
  fun K => (Fa.free "ValueError").ok K,
  fun K => (Fa.free "LookupError").ok K,
  fun K => (Fa.free "KeyError").ok K,
  fun K => (Fa.free "IndexError").ok K,
  fun K => (Fa.free "RuntimeError").ok K,
  fun K => (Fa.free "ArithmeticError").ok K,
  fun K => (Fa.free "OverflowError").ok K,
  fun K => (Fa.glo "BadShape").ok K,
  fun K => (Fa.glo "BadKind").ok K,
  fun K => (Fa.glo "BadValue").ok K,
  fun K => (Fa.glo "WrongKind").ok K,
  fun K => (Fa.glo "BadText").ok K,
  fun K => (Fa.glo "UnknownShape").ok K,
  fun K => (Fa.glo "UnknownCell").ok K,
  fun K => (Fa.glo "NoEntry").ok K,
  fun K => (Fa.glo "BadStep").ok K,
  fun K => (Fa.glo "Busy").ok K,
  fun K => (Fa.glo "Changed").ok K,
  fun K => (Fa.glo "Endless").ok K,
  fun K => (Fa.glo "LateCycle").ok K,
  fun K => (Fa.glo "Failed").ok K,
  fun K => (Fa.glo "CopyError").ok K,
  fun K => (Fa.glo "_law_source").ok K,
  fun K => (Fa.glo "_law_draw").ok K,
  fun K => (Fa.glo "_law_odd").ok K,
  fun K => (Fa.glo "_law_fields_right").ok K,
  fun K => (Fa.glo "_law_bases").ok K,
  fun K => (Fa.glo "_law_classes").ok K,
  fun K => (Fa.glo "_law_bases_right").ok K,
  fun K => (Fa.glo "law").ok K,
  fun K => xcB K (ga K "BadShape") "ValueError" "ValueError.__new__",
  fun K => xcB K (ga K "BadKind") "ValueError" "ValueError.__new__",
  fun K => xcB K (ga K "BadValue") "ValueError" "ValueError.__new__",
  fun K => xcB K (ga K "WrongKind") "ValueError" "ValueError.__new__",
  fun K => xcB K (ga K "BadText") "ValueError" "ValueError.__new__",
  fun K => xcB K (ga K "UnknownShape") "LookupError" "LookupError.__new__",
  fun K => xcB K (ga K "UnknownCell") "LookupError" "LookupError.__new__",
  fun K => xcB K (ga K "NoEntry") "LookupError" "LookupError.__new__",
  fun K => xcB K (ga K "BadStep") "IndexError" "IndexError.__new__",
  fun K => xcB K (ga K "Busy") "RuntimeError" "RuntimeError.__new__",
  fun K => xcB K (ga K "Changed") "RuntimeError" "RuntimeError.__new__",
  fun K => xcB K (ga K "Endless") "RuntimeError" "RuntimeError.__new__",
  fun K => xcB K (ga K "LateCycle") "RuntimeError" "RuntimeError.__new__",
  fun K => xcB K (ga K "Failed") "ArithmeticError" "ArithmeticError.__new__",
  fun K => decide (PySem.W.findIn K (.ref (ga K "BadKind")) "given" = some none),
  fun K => decide (PySem.W.findIn K (.ref (ga K "BadKind")) "__init__" = some (some (.ref (ma K (ga K "BadKind") "__init__")))),
  fun K => decide (PySem.W.typeIn K (.ref (ma K (ga K "BadKind") "__init__")) = some (.type "function")),
  fun K => decide (PySem.W.findIn K (.ref (ga K "BadValue")) "value" = some none),
  fun K => decide (PySem.W.findIn K (.ref (ga K "BadValue")) "__init__" = some (some (.ref (ma K (ga K "BadValue") "__init__")))),
  fun K => decide (PySem.W.typeIn K (.ref (ma K (ga K "BadValue") "__init__")) = some (.type "function")),
  fun K => decide (PySem.W.findIn K (.ref (ga K "WrongKind")) "cell" = some none),
  fun K => decide (PySem.W.findIn K (.ref (ga K "WrongKind")) "__init__" = some (some (.ref (ma K (ga K "WrongKind") "__init__")))),
  fun K => decide (PySem.W.typeIn K (.ref (ma K (ga K "WrongKind") "__init__")) = some (.type "function")),
  fun K => decide (PySem.W.findIn K (.ref (ga K "UnknownShape")) "given" = some none),
  fun K => decide (PySem.W.findIn K (.ref (ga K "UnknownShape")) "__init__" = some (some (.ref (ma K (ga K "UnknownShape") "__init__")))),
  fun K => decide (PySem.W.typeIn K (.ref (ma K (ga K "UnknownShape") "__init__")) = some (.type "function")),
  fun K => decide (PySem.W.findIn K (.ref (ga K "UnknownCell")) "cell" = some none),
  fun K => decide (PySem.W.findIn K (.ref (ga K "UnknownCell")) "__init__" = some (some (.ref (ma K (ga K "UnknownCell") "__init__")))),
  fun K => decide (PySem.W.typeIn K (.ref (ma K (ga K "UnknownCell") "__init__")) = some (.type "function")),
  fun K => decide (PySem.W.findIn K (.ref (ga K "NoEntry")) "cell" = some none),
  fun K => decide (PySem.W.findIn K (.ref (ga K "NoEntry")) "__init__" = some (some (.ref (ma K (ga K "NoEntry") "__init__")))),
  fun K => decide (PySem.W.typeIn K (.ref (ma K (ga K "NoEntry") "__init__")) = some (.type "function")),
  fun K => decide (PySem.W.findIn K (.ref (ga K "BadStep")) "given" = some none),
  fun K => decide (PySem.W.findIn K (.ref (ga K "BadStep")) "__init__" = some (some (.ref (ma K (ga K "BadStep") "__init__")))),
  fun K => decide (PySem.W.typeIn K (.ref (ma K (ga K "BadStep") "__init__")) = some (.type "function")),
  fun K => decide (PySem.W.findIn K (.ref (ga K "Changed")) "cell" = some none),
  fun K => decide (PySem.W.findIn K (.ref (ga K "Changed")) "__init__" = some (some (.ref (ma K (ga K "Changed") "__init__")))),
  fun K => decide (PySem.W.typeIn K (.ref (ma K (ga K "Changed") "__init__")) = some (.type "function")),
  fun K => decide (PySem.W.findIn K (.ref (ga K "Endless")) "cell" = some none),
  fun K => decide (PySem.W.findIn K (.ref (ga K "Endless")) "__init__" = some (some (.ref (ma K (ga K "Endless") "__init__")))),
  fun K => decide (PySem.W.typeIn K (.ref (ma K (ga K "Endless") "__init__")) = some (.type "function")),
  fun K => decide (PySem.W.findIn K (.ref (ga K "LateCycle")) "cell" = some none),
  fun K => decide (PySem.W.findIn K (.ref (ga K "LateCycle")) "__init__" = some (some (.ref (ma K (ga K "LateCycle") "__init__")))),
  fun K => decide (PySem.W.typeIn K (.ref (ma K (ga K "LateCycle") "__init__")) = some (.type "function")),
  fun K => decide (PySem.W.findIn K (.ref (ga K "Failed")) "cell" = some none),
  fun K => decide (PySem.W.findIn K (.ref (ga K "Failed")) "word" = some none),
  fun K => decide (PySem.W.findIn K (.ref (ga K "Failed")) "__init__" = some (some (.ref (ma K (ga K "Failed") "__init__")))),
  fun K => decide (PySem.W.typeIn K (.ref (ma K (ga K "Failed") "__init__")) = some (.type "function")),
  fun K => PySem.W.excIn K (ga K "BadShape") [.type "ValueError", .type "Exception", .type "BaseException", .type "object"] "ValueError.__new__",
  fun K => PySem.W.keepIn K (.ref (ga K "BadShape")),
  fun K => PySem.W.excIn K (ga K "BadText") [.type "ValueError", .type "Exception", .type "BaseException", .type "object"] "ValueError.__new__",
  fun K => PySem.W.keepIn K (.ref (ga K "BadText")),
  fun K => PySem.W.excIn K (ga K "Busy") [.type "RuntimeError", .type "Exception", .type "BaseException", .type "object"] "RuntimeError.__new__",
  fun K => PySem.W.keepIn K (.ref (ga K "Busy")),
  fun K => (List.range 14).all fun i => (List.range 22).all fun j => decide (PySem.W.kitOne K (.ref (ga K (cl i))) (tst K j) = some (kb i j))]
abbrev R : PySem.W.OpenRow := PySem.W.OpenLaw.row Row
abbrev hk : PySem.W.Hook := hookX 5 fx fn
def ob (s : PySem.W.SharedT) : AlX := obsXG 5 fx fn (HandSHeadRun.getT s)
theorem ob_eq (s : PySem.W.SharedT) : ob s = hk.obs s.abs := obsXG_eq (HandSHeadRun.getT_eq s)
def loose : List Str := (["CopyError", "BadShape", "BadKind", "BadValue", "WrongKind", "BadText", "UnknownShape", "UnknownCell", "NoEntry", "BadStep", "Busy", "Changed", "Endless", "LateCycle", "Failed", "_law_source", "_law_draw", "_law_odd", "_law_bases", "_law_classes", "_law_fields_right", "_law_bases_right"] : List Str)
theorem run (w : World) : HandSHeadRun.RunEq R (PySem.W.view R.prog [24]) hk ob 4000 loose w := by
  intro os
  kernel_rfl
theorem facts {P : Program} {w : World} {K : PySem.W.Frag} {h : Heap} {mg : Str → Option Value} {f : Addr} (X : K.In h) (G : h.Ns mainGlobals mg) (hfa : mg ("law" : Str) = some (.ref f)) (c : SaysX fx fn K) :
    ∃ fd : FuncData, (∀ (s : Shared) (v : Value), BindsTo s fd ⟨[v], []⟩ [("_law_script", v)]) ∧ ∀ base : Heap, K.In base → base.Ns mainGlobals mg → FnG P w K mg base CX0 5 f fd ["_law_script"] (spLaw K) := by
  obtain ⟨d0, D0⟩ := c.def_ 0
  obtain ⟨d1, D1⟩ := c.def_ 1
  obtain ⟨d2, D2⟩ := c.def_ 2
  obtain ⟨d3, D3⟩ := c.def_ 3
  obtain ⟨d4, D4⟩ := c.def_ 4
  obtain ⟨d5, D5⟩ := c.def_ 5
  obtain ⟨d6, D6⟩ := c.def_ 6
  obtain ⟨d7, D7⟩ := c.def_ 7
  obtain ⟨d8, D8⟩ := c.def_ 8
  obtain ⟨d9, D9⟩ := c.def_ 9
  obtain ⟨d10, D10⟩ := c.def_ 10
  obtain ⟨e0, E0⟩ := c.def_ 11
  obtain ⟨e1, E1⟩ := c.def_ 12
  obtain ⟨e2, E2⟩ := c.def_ 13
  obtain ⟨e3, E3⟩ := c.def_ 14
  obtain ⟨e4, E4⟩ := c.def_ 15
  obtain ⟨e5, E5⟩ := c.def_ 16
  obtain ⟨e6, E6⟩ := c.def_ 17
  obtain ⟨e7, E7⟩ := c.def_ 18
  have e := hfa.symm.trans (He.glo_ok X G (c.fact 38))
  cases e
  have b := FunD.bindsA (ps := ["_law_script"]) E7 fun _ _ _ _ _ _ us hl => match us, hl with | [_], _ => rfl
  refine ⟨e7, fun s v => b s [v] rfl, fun base _ _ => ?_⟩
  have B : Blt mg := { len := He.free_ok X G (c.fact 0), abs := He.free_ok X G (c.fact 1), int := He.free_ok X G (c.fact 2), range := He.free_ok X G (c.fact 3), max := He.free_ok X G (c.fact 4), min := He.free_ok X G (c.fact 5), repr := He.free_ok X G (c.fact 6), isi := He.free_ok X G (c.fact 7), enum := He.free_ok X G (c.fact 8), ve := He.free_ok X G (c.fact 9), le := He.free_ok X G (c.fact 10), ke := He.free_ok X G (c.fact 11), ie := He.free_ok X G (c.fact 12), re := He.free_ok X G (c.fact 13), ae := He.free_ok X G (c.fact 14), oe := He.free_ok X G (c.fact 15) }
  have T : Txt P w K mg base := { B with
    e_BadShape := (c.fact 87)
    k_BadShape := (c.fact 88)
    g_BadShape := He.glo_ok X G (c.fact 16)
    x_BadKind := ⟨xcB_ok (c.fact 40), He.glo_ok X G (c.fact 17), (of_decide_eq_true (c.fact 53)), _, d0, (of_decide_eq_true (c.fact 54)), (of_decide_eq_true (c.fact 55)), oki_BadKind D0 (xcB_ok (c.fact 40)) (of_decide_eq_true (c.fact 53)),
      FunD.kbK D0 rel_pos (fun _ _ _ _ _ _ us ws l1 l2 => match us, ws, l1, l2 with | [_, _], [], _, _ => rfl), FunD.kbK D0 rel_kw (fun _ _ _ _ _ _ us ws l1 l2 => match us, ws, l1, l2 with | [_], [_], _, _ => rfl)⟩
    g_BadKind := He.glo_ok X G (c.fact 17)
    x_BadValue := ⟨xcB_ok (c.fact 41), He.glo_ok X G (c.fact 18), (of_decide_eq_true (c.fact 56)), _, d1, (of_decide_eq_true (c.fact 57)), (of_decide_eq_true (c.fact 58)), oki_BadValue D1 (xcB_ok (c.fact 41)) (of_decide_eq_true (c.fact 56)),
      FunD.kbK D1 rel_pos (fun _ _ _ _ _ _ us ws l1 l2 => match us, ws, l1, l2 with | [_, _], [], _, _ => rfl), FunD.kbK D1 rel_kw (fun _ _ _ _ _ _ us ws l1 l2 => match us, ws, l1, l2 with | [_], [_], _, _ => rfl)⟩
    g_BadValue := He.glo_ok X G (c.fact 18)
    x_WrongKind := ⟨xcB_ok (c.fact 42), He.glo_ok X G (c.fact 19), (of_decide_eq_true (c.fact 59)), _, d2, (of_decide_eq_true (c.fact 60)), (of_decide_eq_true (c.fact 61)), oki_WrongKind D2 (xcB_ok (c.fact 42)) (of_decide_eq_true (c.fact 59)),
      FunD.kbK D2 rel_pos (fun _ _ _ _ _ _ us ws l1 l2 => match us, ws, l1, l2 with | [_, _], [], _, _ => rfl), FunD.kbK D2 rel_kw (fun _ _ _ _ _ _ us ws l1 l2 => match us, ws, l1, l2 with | [_], [_], _, _ => rfl)⟩
    g_WrongKind := He.glo_ok X G (c.fact 19)
    e_BadText := (c.fact 89)
    k_BadText := (c.fact 90)
    g_BadText := He.glo_ok X G (c.fact 20)
    x_UnknownShape := ⟨xcB_ok (c.fact 44), He.glo_ok X G (c.fact 21), (of_decide_eq_true (c.fact 62)), _, d3, (of_decide_eq_true (c.fact 63)), (of_decide_eq_true (c.fact 64)), oki_UnknownShape D3 (xcB_ok (c.fact 44)) (of_decide_eq_true (c.fact 62)),
      FunD.kbK D3 rel_pos (fun _ _ _ _ _ _ us ws l1 l2 => match us, ws, l1, l2 with | [_, _], [], _, _ => rfl), FunD.kbK D3 rel_kw (fun _ _ _ _ _ _ us ws l1 l2 => match us, ws, l1, l2 with | [_], [_], _, _ => rfl)⟩
    g_UnknownShape := He.glo_ok X G (c.fact 21)
    x_UnknownCell := ⟨xcB_ok (c.fact 45), He.glo_ok X G (c.fact 22), (of_decide_eq_true (c.fact 65)), _, d4, (of_decide_eq_true (c.fact 66)), (of_decide_eq_true (c.fact 67)), oki_UnknownCell D4 (xcB_ok (c.fact 45)) (of_decide_eq_true (c.fact 65)),
      FunD.kbK D4 rel_pos (fun _ _ _ _ _ _ us ws l1 l2 => match us, ws, l1, l2 with | [_, _], [], _, _ => rfl), FunD.kbK D4 rel_kw (fun _ _ _ _ _ _ us ws l1 l2 => match us, ws, l1, l2 with | [_], [_], _, _ => rfl)⟩
    g_UnknownCell := He.glo_ok X G (c.fact 22)
    x_NoEntry := ⟨xcB_ok (c.fact 46), He.glo_ok X G (c.fact 23), (of_decide_eq_true (c.fact 68)), _, d5, (of_decide_eq_true (c.fact 69)), (of_decide_eq_true (c.fact 70)), oki_NoEntry D5 (xcB_ok (c.fact 46)) (of_decide_eq_true (c.fact 68)),
      FunD.kbK D5 rel_pos (fun _ _ _ _ _ _ us ws l1 l2 => match us, ws, l1, l2 with | [_, _], [], _, _ => rfl), FunD.kbK D5 rel_kw (fun _ _ _ _ _ _ us ws l1 l2 => match us, ws, l1, l2 with | [_], [_], _, _ => rfl)⟩
    g_NoEntry := He.glo_ok X G (c.fact 23)
    x_BadStep := ⟨xcB_ok (c.fact 47), He.glo_ok X G (c.fact 24), (of_decide_eq_true (c.fact 71)), _, d6, (of_decide_eq_true (c.fact 72)), (of_decide_eq_true (c.fact 73)), oki_BadStep D6 (xcB_ok (c.fact 47)) (of_decide_eq_true (c.fact 71)),
      FunD.kbK D6 rel_pos (fun _ _ _ _ _ _ us ws l1 l2 => match us, ws, l1, l2 with | [_, _], [], _, _ => rfl), FunD.kbK D6 rel_kw (fun _ _ _ _ _ _ us ws l1 l2 => match us, ws, l1, l2 with | [_], [_], _, _ => rfl)⟩
    g_BadStep := He.glo_ok X G (c.fact 24)
    e_Busy := (c.fact 91)
    k_Busy := (c.fact 92)
    g_Busy := He.glo_ok X G (c.fact 25)
    x_Changed := ⟨xcB_ok (c.fact 49), He.glo_ok X G (c.fact 26), (of_decide_eq_true (c.fact 74)), _, d7, (of_decide_eq_true (c.fact 75)), (of_decide_eq_true (c.fact 76)), oki_Changed D7 (xcB_ok (c.fact 49)) (of_decide_eq_true (c.fact 74)),
      FunD.kbK D7 rel_pos (fun _ _ _ _ _ _ us ws l1 l2 => match us, ws, l1, l2 with | [_, _], [], _, _ => rfl), FunD.kbK D7 rel_kw (fun _ _ _ _ _ _ us ws l1 l2 => match us, ws, l1, l2 with | [_], [_], _, _ => rfl)⟩
    g_Changed := He.glo_ok X G (c.fact 26)
    x_Endless := ⟨xcB_ok (c.fact 50), He.glo_ok X G (c.fact 27), (of_decide_eq_true (c.fact 77)), _, d8, (of_decide_eq_true (c.fact 78)), (of_decide_eq_true (c.fact 79)), oki_Endless D8 (xcB_ok (c.fact 50)) (of_decide_eq_true (c.fact 77)),
      FunD.kbK D8 rel_pos (fun _ _ _ _ _ _ us ws l1 l2 => match us, ws, l1, l2 with | [_, _], [], _, _ => rfl), FunD.kbK D8 rel_kw (fun _ _ _ _ _ _ us ws l1 l2 => match us, ws, l1, l2 with | [_], [_], _, _ => rfl)⟩
    g_Endless := He.glo_ok X G (c.fact 27)
    x_LateCycle := ⟨xcB_ok (c.fact 51), He.glo_ok X G (c.fact 28), (of_decide_eq_true (c.fact 80)), _, d9, (of_decide_eq_true (c.fact 81)), (of_decide_eq_true (c.fact 82)), oki_LateCycle D9 (xcB_ok (c.fact 51)) (of_decide_eq_true (c.fact 80)),
      FunD.kbK D9 rel_pos (fun _ _ _ _ _ _ us ws l1 l2 => match us, ws, l1, l2 with | [_, _], [], _, _ => rfl), FunD.kbK D9 rel_kw (fun _ _ _ _ _ _ us ws l1 l2 => match us, ws, l1, l2 with | [_], [_], _, _ => rfl)⟩
    g_LateCycle := He.glo_ok X G (c.fact 28)
    x_Failed := ⟨xcB_ok (c.fact 52), He.glo_ok X G (c.fact 29), (of_decide_eq_true (c.fact 83)), (of_decide_eq_true (c.fact 84)), by decide, _, d10, (of_decide_eq_true (c.fact 85)), (of_decide_eq_true (c.fact 86)), oki_Failed D10 (xcB_ok (c.fact 52)) (of_decide_eq_true (c.fact 83)) (of_decide_eq_true (c.fact 84)),
      FunD.kbK D10 rel_pos (fun _ _ _ _ _ _ us ws l1 l2 => match us, ws, l1, l2 with | [_, _, _], [], _, _ => rfl), FunD.kbK D10 rel_kwr (fun _ _ _ _ _ _ us ws l1 l2 => match us, ws, l1, l2 with | [_], [_, _], _, _ => rfl)⟩
    g_Failed := He.glo_ok X G (c.fact 29)
    g_CopyError := He.glo_ok X G (c.fact 30)
    xc := fun i hi => by
      rcases (show i = 0 ∨ i = 1 ∨ i = 2 ∨ i = 3 ∨ i = 4 ∨ i = 5 ∨ i = 6 ∨ i = 7 ∨ i = 8 ∨ i = 9 ∨ i = 10 ∨ i = 11 ∨ i = 12 ∨ i = 13 by omega) with rfl | rfl | rfl | rfl | rfl | rfl | rfl | rfl | rfl | rfl | rfl | rfl | rfl | rfl
      · exact ⟨_, _, xcB_ok (c.fact 39)⟩
      · exact ⟨_, _, xcB_ok (c.fact 40)⟩
      · exact ⟨_, _, xcB_ok (c.fact 41)⟩
      · exact ⟨_, _, xcB_ok (c.fact 42)⟩
      · exact ⟨_, _, xcB_ok (c.fact 43)⟩
      · exact ⟨_, _, xcB_ok (c.fact 44)⟩
      · exact ⟨_, _, xcB_ok (c.fact 45)⟩
      · exact ⟨_, _, xcB_ok (c.fact 46)⟩
      · exact ⟨_, _, xcB_ok (c.fact 47)⟩
      · exact ⟨_, _, xcB_ok (c.fact 48)⟩
      · exact ⟨_, _, xcB_ok (c.fact 49)⟩
      · exact ⟨_, _, xcB_ok (c.fact 50)⟩
      · exact ⟨_, _, xcB_ok (c.fact 51)⟩
      · exact ⟨_, _, xcB_ok (c.fact 52)⟩
    kit := fun i hi j hj => of_decide_eq_true (List.all_eq_true.mp (List.all_eq_true.mp (c.fact 93) i (List.mem_range.mpr hi)) j (List.mem_range.mpr hj)) }
  have c0 : Cal P w K mg base CX0 _ "_law_source" ["_law_script", "_law_at"] _ [] := ⟨_, _, _, ok_source E0 B, He.glo_ok X G (c.fact 31), E0.kp, E0.bindsN fun _ _ _ _ _ _ us hl => match us, hl with | [_, _], _ => rfl, .nil⟩
  have c1 : Cal P w K mg base CX0 _ "_law_draw" ["_law_source_here", "_law_many"] _ [] := ⟨_, _, _, ok_draw E1, He.glo_ok X G (c.fact 32), E1.kp, E1.bindsN fun _ _ _ _ _ _ us hl => match us, hl with | [_, _], _ => rfl, .nil⟩
  have c2 : Cal P w K mg base CX0 _ "_law_odd" ["_law_source_here"] _ [] := ⟨_, _, _, ok_odd E2 B c1, He.glo_ok X G (c.fact 33), E2.kp, E2.bindsN fun _ _ _ _ _ _ us hl => match us, hl with | [_], _ => rfl, .nil⟩
  have c3 : CalG P w K mg base CX0 _ "_law_fields_right" ["_law_a", "_law_b"] _ [] := ⟨_, _, _, ok_fields E3 T, He.glo_ok X G (c.fact 34), E3.kp, E3.bindsN fun _ _ _ _ _ _ us hl => match us, hl with | [_, _], _ => rfl, .nil⟩
  have c4 : Cal P w K mg base CX0 _ "_law_bases" ["_law_error"] _ [] := ⟨_, _, _, ok_bases E4 T, He.glo_ok X G (c.fact 35), E4.kp, E4.bindsN fun _ _ _ _ _ _ us hl => match us, hl with | [_], _ => rfl, .nil⟩
  have c5 : Cal P w K mg base CX0 _ "_law_classes" ["_law_error"] _ [] := ⟨_, _, _, ok_classes E5 T, He.glo_ok X G (c.fact 36), E5.kp, E5.bindsN fun _ _ _ _ _ _ us hl => match us, hl with | [_], _ => rfl, .nil⟩
  have c6 : Cal P w K mg base CX0 _ "_law_bases_right" ["_law_a"] _ [] := ⟨_, _, _, ok_br E6 T c4 c5, He.glo_ok X G (c.fact 37), E6.kp, E6.bindsN fun _ _ _ _ _ _ us hl => match us, hl with | [_], _ => rfl, .nil⟩
  exact ok_law E7 B c0 c2 c3 c6
end K01
open PySem PySem.W PySem.Calls PyProof.Rows
theorem PySem.Challenge.cw_copymemos_k01_errors_and_their_fields_holds : PySem.Challenge.rw_copymemos_k01_errors_and_their_fields.Holds := by
  w_on; o_law
  refine HandSHeadRun.head_any (r := OpenLaw.row PySem.Challenge.rw_copymemos_k01_errors_and_their_fields) (q := view (OpenLaw.row PySem.Challenge.rw_copymemos_k01_errors_and_their_fields).prog [24]) (H := K01.hk) (ob := K01.ob) (M := 4000) (loose := K01.loose) (d := HandSHeadRun.topDef (OpenLaw.row PySem.Challenge.rw_copymemos_k01_errors_and_their_fields).prog 24) (kwd := []) K01.ob_eq
    (by kernel_rfl) (fun s => by kernel_rfl) K01.run (by kernel_rfl) (by kernel_rfl) (by kernel_rfl) (by rfl) (by first | assumption | decide +kernel) (by decide +kernel) ⟨rfl, rfl, rfl, rfl, rfl, by decide +kernel⟩ ?hw ?hc
  case hw => w_witness2
  case hc =>
    refine L2.walk_ofG (l := PySem.Challenge.rw_copymemos_k01_errors_and_their_fields) (n := 63) (k := 5) (x := "_law_script") (CX := L2.CX0) rfl (by decide) (by kernel_rfl) ⟨rfl, by decide, by decide⟩ ?F (fun _ _ _ _ z => z)
    intro w mg fa h Y G hmg0
    obtain ⟨K, KX, c⟩ := Y
    have hmg : mg ("law" : PySem.Str) = some (.ref fa) := by
      have e : (HandSHeadRun.topDef (OpenLaw.row PySem.Challenge.rw_copymemos_k01_errors_and_their_fields).prog 24).name = ("law" : PySem.Str) := by kernel_rfl
      rw [← e]
      exact hmg0
    obtain ⟨fd, hb, hF⟩ := K01.facts (P := (PySem.Challenge.rw_copymemos_k01_errors_and_their_fields).prog) (w := w) KX G hmg c
    exact ⟨K, fd, K01.spLaw K, KX, hb, fun H a ns hl _ hS => ⟨a, ns, rfl, hS, fun _ => rfl⟩, hF⟩
