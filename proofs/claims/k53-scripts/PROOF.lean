import PyProof.Rows.All
import Wide.All
import OpenK.AllK
import Wide.FinOn
import HandS.Base
import HandS.Call
import HandS.Ends
import HandS.Words
import HandS.WordsExc
import HandS.Defaults
import HandS.Head0
import HandS.Head1
import HandS.Head2
import HandS.HeadEnd
import HandS.HeadHook1
import HandS.HeadHook2
import HandS.Property
import PyProof.ReprRoads
import HandS.List
import HandS.Exc
import KE.KExcInit
import KE.KExcIs
import HandS.ExcInit
import HandS.Dict
import HandS.Comp
import HandS.WordsList
import HandS.WordsDict
import KE.KStar
import HandS.DictComp
import HandS.MakeKwOnly
import HandS.Star
import HandS.Sort
import HandS.IsInst
import HandS.ExcOwn
import HandS.Walk
import HandS.Steps
import HandS.Lambda
import HandS.EndTab
import HandS.HeadHook4
import HandS.Nested
import HandS.NestedK
import HandS.OwnEq
import PySem.Challenge.RW_watchtree_k53_scripts_told_apart
import PyProof.ExcBaseAll.ValueError
import KE.GoesEnum
import KE.GoesEnumKw
import KE.KTurns
import HandS.Iter
import PyProof.Rows.CallKw2
import KE.GoesZip
import PyProof.NeKinds
import PyProof.StrOps2
import HandS.Style
import HandS.Text
import HandS.StrMore
import HandS.NoneIn
import PyProof.RulesMatch
import HandS.DictTup
import HandS.Codes
import KE.KDictZip
import KE.KDictOf
import HandS.TryOnly
import HandS.RaiseMore
import HandS.TupMul
import HandS.TupAny
import HandS.TupSets
import HandS.Set
import HandS.Strs
import OpenK.KMore
import PyProof.EqAt
import KE.KTryMore
set_option Elab.async false
set_option linter.all false
set_option maxRecDepth 100000
set_option maxHeartbeats 0
/-! the head's facts by a Bool of one's own -/
namespace WHd
open PySem PySem.Spec PyProof.Rows L2
def obsW (chk : PySem.W.Frag → Bool) (fn : List He.DefD) (K : PySem.W.Frag) : He.AlD := (chk K && fn.all fun d => d.ok K, fn.map fun d => He.fnW K d.at_)
def SaysW (chk : PySem.W.Frag → Bool) (fn : List He.DefD) (K : PySem.W.Frag) : Prop := obsW chk fn K = He.valD fn
def obsWG (n : Nat) (chk : PySem.W.Frag → Bool) (fn : List He.DefD) (g : Addr → Option Obj) : He.AlD := obsW chk fn (He.frG g (sysModules :: cStatics :: He.asD g n))
def hookW (n : Nat) (chk : PySem.W.Frag → Bool) (fn : List He.DefD) : PySem.W.Hook where
  α := He.AlD
  obs := fun s => obsWG n chk fn s.heap.get?
  val := fun _ => He.valD fn
  says := fun _ h => ∃ K : PySem.W.Frag, K.In h ∧ SaysW chk fn K
  of := fun _ _ e => ⟨_, He.frG_in, e⟩
  keeps := fun _ _ _ ⟨K, hK, c⟩ k => ⟨K, PySem.W.Frag.In.keeps hK k, c⟩
theorem obsWG_eq {n : Nat} {chk : PySem.W.Frag → Bool} {fn : List He.DefD} {g : Addr → Option Obj} {s : Shared} (h : ∀ a, g a = s.heap.get? a) : obsWG n chk fn g = (hookW n chk fn).obs s := by
  have e : g = s.heap.get? := funext h
  rw [e] <;> rfl
section
variable {chk : PySem.W.Frag → Bool} {fn : List He.DefD} {K : PySem.W.Frag}
theorem SaysW.chk_ (c : SaysW chk fn K) : chk K = true :=
  (He.ba (show (chk K && fn.all fun d => d.ok K) = true from congrArg (fun z : He.AlD => z.1) c)).1
theorem SaysW.def_ (c : SaysW chk fn K) (i : Nat) {d : He.DefD} (h : fn[i]? = some d := by rfl) : ∃ fd, FunD K d.name d.qual d.params d.body d.scope (d.dvs K) (d.kws K) (He.fAd K d.at_) fd := by
  have c2 := (He.ba (show (chk K && fn.all fun d => d.ok K) = true from congrArg (fun z : He.AlD => z.1) c)).2
  have e : fn.map (fun d => He.fnW K d.at_) = fn.map He.DefD.val := congrArg (fun z : He.AlD => z.2) c
  have e2 : (fn.map fun d => He.fnW K d.at_)[i]? = (fn.map He.DefD.val)[i]? := by rw [e]
  rw [List.getElem?_map, List.getElem?_map, h] at e2
  exact He.DefD.funD (Option.some.inj e2) (List.all_eq_true.mp c2 d (List.mem_of_getElem? h))
end
end WHd

set_option Elab.async false
set_option linter.all false
set_option maxRecDepth 100000
set_option maxHeartbeats 0
/-! the head's facts, defs found by any path (getters too) -/
namespace WHe
open PySem PySem.Spec PyProof.Rows L2
structure DefP where
  loc : PySem.W.Frag → Addr
  name : Str
  qual : Str
  params : Arguments
  body : List Stmt
  scope : Scope
def DefP.val (d : DefP) : He.FnW := some (d.name, d.qual, d.params, .stmts d.body, d.scope, mainGlobals, [], builtinsNs)
def obsP (K : PySem.W.Frag) (a : Addr) : He.FnW := match K.lookup a with
  | some ⟨_, _, .func fd, _⟩ => some (fd.name, fd.qualname, fd.params, fd.body, fd.scope, fd.globals, fd.closure, fd.builtins)
  | _ => none
def DefP.ok (K : PySem.W.Frag) (d : DefP) : Bool := PySem.W.keepIn K (.ref (d.loc K)) && (match K.lookup (d.loc K) with
  | some ⟨_, _, .func fd, _⟩ => PySem.W.codeIn K fd.code d.qual && He.dflB K fd.defaults []
  | _ => false)
theorem DefP.funD {K : PySem.W.Frag} {d : DefP} (e : obsP K (d.loc K) = d.val) (c : d.ok K = true) : ∃ fd, FunD K d.name d.qual d.params d.body d.scope [] [] (d.loc K) fd := by
  obtain ⟨kp, c2⟩ := He.ba c
  unfold obsP at e
  generalize hl : K.lookup (d.loc K) = lo at c2 e
  match lo with
  | none => cases c2
  | some ⟨oc, od, dt, osl⟩ =>
    cases dt with
    | func fd =>
      cases fd
      rename_i n1 n2 n3 n4 n5 n6 n7 n8 n9 n10 n11 n12 n13 n14 n15
      simp only [DefP.val, Option.some.injEq, Prod.mk.injEq] at e
      obtain ⟨rfl, rfl, rfl, rfl, rfl, rfl, rfl, rfl⟩ := e
      obtain ⟨k1, k2⟩ := He.ba c2
      exact ⟨_, ⟨oc, od, n8, n9, n10, n11, n12, n13, n14, osl, rfl, hl, k1, He.dflB_ok k2, .inl rfl⟩, kp⟩
    | _ => cases c2
def obsK (chk : PySem.W.Frag → Bool) (fn : List DefP) (K : PySem.W.Frag) : He.AlD := (chk K && fn.all fun d => d.ok K, fn.map fun d => obsP K (d.loc K))
def valK (fn : List DefP) : He.AlD := (true, fn.map DefP.val)
def SaysK (chk : PySem.W.Frag → Bool) (fn : List DefP) (K : PySem.W.Frag) : Prop := obsK chk fn K = valK fn
def obsKG (n : Nat) (chk : PySem.W.Frag → Bool) (fn : List DefP) (g : Addr → Option Obj) : He.AlD := obsK chk fn (He.frG g (sysModules :: cStatics :: He.asD g n))
def hookK (n : Nat) (chk : PySem.W.Frag → Bool) (fn : List DefP) : PySem.W.Hook where
  α := He.AlD
  obs := fun s => obsKG n chk fn s.heap.get?
  val := fun _ => valK fn
  says := fun _ h => ∃ K : PySem.W.Frag, K.In h ∧ SaysK chk fn K
  of := fun _ _ e => ⟨_, He.frG_in, e⟩
  keeps := fun _ _ _ ⟨K, hK, c⟩ k => ⟨K, PySem.W.Frag.In.keeps hK k, c⟩
theorem obsKG_eq {n : Nat} {chk : PySem.W.Frag → Bool} {fn : List DefP} {g : Addr → Option Obj} {s : Shared} (h : ∀ a, g a = s.heap.get? a) : obsKG n chk fn g = (hookK n chk fn).obs s := by
  have e : g = s.heap.get? := funext h
  rw [e] <;> rfl
section
variable {chk : PySem.W.Frag → Bool} {fn : List DefP} {K : PySem.W.Frag}
theorem SaysK.chk_ (c : SaysK chk fn K) : chk K = true := (He.ba (show (chk K && fn.all fun d => d.ok K) = true from congrArg (fun z : He.AlD => z.1) c)).1
theorem SaysK.def_ (c : SaysK chk fn K) (i : Nat) {d : DefP} (h : fn[i]? = some d := by rfl) : ∃ fd, FunD K d.name d.qual d.params d.body d.scope [] [] (d.loc K) fd := by
  have c2 := (He.ba (show (chk K && fn.all fun d => d.ok K) = true from congrArg (fun z : He.AlD => z.1) c)).2
  have e : fn.map (fun d => obsP K (d.loc K)) = fn.map DefP.val := congrArg (fun z : He.AlD => z.2) c
  have e2 : (fn.map fun d => obsP K (d.loc K))[i]? = (fn.map DefP.val)[i]? := by rw [e]
  rw [List.getElem?_map, List.getElem?_map, h] at e2
  exact DefP.funD (Option.some.inj e2) (List.all_eq_true.mp c2 d (List.mem_of_getElem? h))
end
/-! ### classes of data -/
/-- the getter of a property -/
def pgAd (K : PySem.W.Frag) (C f : Str) : Addr := match PySem.W.recIn K (He.ma K (He.ga K C) f) "property" with
  | some (.ref g :: _) => g
  | _ => 0
def propB (K : PySem.W.Frag) (C f : Str) : Bool := decide (PySem.W.findIn K (.ref (He.ga K C)) f = some (some (.ref (He.ma K (He.ga K C) f)))) && (decide (PySem.W.specialIn K (.ref (He.ma K (He.ga K C) f)) "__get__" = some (some (.builtin "property.__get__"))) &&
  (decide (PySem.W.takesIn K (.ref (He.ma K (He.ga K C) f)) = some true) && (match PySem.W.recIn K (He.ma K (He.ga K C) f) "property" with
    | some (.ref _ :: _) => true
    | _ => false)))
theorem propB_ok {K : PySem.W.Frag} {C f : Str} (h : propB K C f = true) : PropOf K (He.ga K C) f (He.ma K (He.ga K C) f) (pgAd K C f) := by
  obtain ⟨h1, h⟩ := He.ba h
  obtain ⟨h2, h⟩ := He.ba h
  obtain ⟨h3, h4⟩ := He.ba h
  refine ⟨of_decide_eq_true h1, of_decide_eq_true h2, of_decide_eq_true h3, ?_⟩
  unfold pgAd
  split at h4
  · rename_i g r e
    exact ⟨r, by rw [e]⟩
  · cases h4
/-- the method m of C stands at D's -/
def methB (K : PySem.W.Frag) (C m D : Str) : Bool := decide (PySem.W.findIn K (.ref (He.ga K C)) m = some (some (.ref (He.fAd K (D, some m))))) && (PySem.W.isFn K (.ref (He.fAd K (D, some m))) && PySem.W.keepIn K (.ref (He.fAd K (D, some m))))
theorem methB_ok {K : PySem.W.Frag} {C m D : Str} (h : methB K C m D = true) : Meth K (He.ga K C) m (He.fAd K (D, some m)) := by
  obtain ⟨h1, h⟩ := He.ba h
  obtain ⟨h2, h3⟩ := He.ba h
  exact ⟨of_decide_eq_true h1, h2, h3⟩
/-- what isinstance, ==, != ask of a class of data -/
structure DatC (K : PySem.W.Frag) (C : Addr) (e : Addr) : Prop where
  cls : Cls K C
  ca : PySem.W.findIn K (.ref C) "__class__" = some (some (.builtin "object.__class__"))
  cn : PySem.W.specialIn K (.builtin "object.__class__") "__get__" = some (some (.builtin "getset_descriptor.__get__"))
  ct : PySem.W.takesIn K (.builtin "object.__class__") = some true
  ob : PySem.W.mroIn K C (.type "object") = some true
  ne : PySem.W.findIn K (.ref C) "__ne__" = some (some (.builtin "object.__ne__"))
  eq : PySem.W.findIn K (.ref C) "__eq__" = some (some (.ref e))
  fn : PySem.W.isFn K (.ref e) = true
def datB (K : PySem.W.Frag) (C : Str) : Bool := (He.Fa.cls C).ok K && (decide (PySem.W.findIn K (.ref (He.ga K C)) "__class__" = some (some (.builtin "object.__class__"))) && (decide (PySem.W.specialIn K (.builtin "object.__class__") "__get__" = some (some (.builtin "getset_descriptor.__get__"))) &&
  (decide (PySem.W.takesIn K (.builtin "object.__class__") = some true) && (decide (PySem.W.mroIn K (He.ga K C) (.type "object") = some true) && (decide (PySem.W.findIn K (.ref (He.ga K C)) "__ne__" = some (some (.builtin "object.__ne__"))) &&
  (decide (PySem.W.findIn K (.ref (He.ga K C)) "__eq__" = some (some (.ref (He.fAd K (C, some "__eq__"))))) && PySem.W.isFn K (.ref (He.fAd K (C, some "__eq__")))))))))
theorem datB_ok {K : PySem.W.Frag} {C : Str} (h : datB K C = true) : DatC K (He.ga K C) (He.fAd K (C, some "__eq__")) := by
  obtain ⟨h1, h⟩ := He.ba h
  obtain ⟨h2, h⟩ := He.ba h
  obtain ⟨h3, h⟩ := He.ba h
  obtain ⟨h4, h⟩ := He.ba h
  obtain ⟨h5, h⟩ := He.ba h
  obtain ⟨h6, h⟩ := He.ba h
  obtain ⟨h7, h8⟩ := He.ba h
  exact ⟨He.cls_ok h1, of_decide_eq_true h2, of_decide_eq_true h3, of_decide_eq_true h4, of_decide_eq_true h5, of_decide_eq_true h6, of_decide_eq_true h7, h8⟩
def kitB (K : PySem.W.Frag) (q : Str × Str × Bool) : Bool := decide (PySem.W.kitOne K (.ref (He.ga K q.1)) (.ref (He.ga K q.2.1)) = some q.2.2)
def sysB (K : PySem.W.Frag) : Bool := match K.lookup sysModules with
  | some o => decide (o.cls = .type "dict")
  | none => false
theorem sysB_ok {K : PySem.W.Frag} (h : sysB K = true) : ∃ o, K.lookup sysModules = some o ∧ o.cls = .type "dict" := by
  unfold sysB at h
  split at h
  · rename_i o e
    exact ⟨o, e, of_decide_eq_true h⟩
  · cases h
end WHe

set_option Elab.async false
set_option linter.all false
set_option maxRecDepth 100000
set_option maxHeartbeats 4000000
/-! defs that are called where no repr is under way (the law's own def): repr of lists, tuples and empty dicts -/
namespace WXG
open PySem PySem.Spec PyProof.Rows L2
/-- a def's promise, where no repr is under way -/
structure FnG (P : Program) (w : World) (K : PySem.W.Frag) (mg : Str → Option Value) (base : Heap) (CX : CXT) (k : Nat) (f : Addr) (fd : FuncData) (ps : List Str) (sp : Sp) : Prop where
  len : ∀ vs H Q E, sp vs H Q E → vs.length = ps.length
  run : ∀ (A : Around) (outer : List Env) (s : Shared) (H : Hp) (args : Args) (us : List Value) (vs : List V) (Q : VK) (E : XK), Room k A → A.guards = some [] → Env0 P w K mg base A outer s H →
    BindsTo s fd args (ps.zip us) → Vals vs us → sp vs H Q E → codeAny (model P w) A (.call (.ref f) args) (CR CX outer P w H s Q E) s
section
variable {CX : CXT} {P : Program} {w : World} {K : PySem.W.Frag} {mg : Str → Option Value} {base : Heap} {k : Nat} {f : Addr} {x qual : Str} {params : Arguments} {body : List Stmt} {scope : Scope} {dvs : List V} {kws : List (Str × V)} {fd : FuncData} {N ps : List Str} {sp : Sp}
theorem FnG.of (F : FunD K x qual params body scope dvs kws f fd) (S : FnScope N ps scope) (len : ∀ vs H Q E, sp vs H Q E → vs.length = ps.length)
    (hbody : ∀ (cdv : Value) (A : Around) (outer : List Env) (s : Shared) (H : Hp) (vs : List V) (Q : VK) (E : XK), Room k (A.deeper (envOfC qual scope s.heap.objs.size f cdv)) → (A.deeper (envOfC qual scope s.heap.objs.size f cdv)).guards = some [] → sp vs H Q E →
      ∃ t, PSs (cxOf CX P w K mg base N qual scope f cdv A outer s H E) body t ∧ t { nx := fun _ H' => Q .non H', rt := Q } (start N vs) H) : FnG P w K mg base CX (k + 1) f fd ps sp := by
  obtain ⟨oc, od, dV, kV, doc, pm, an, cdv, ct, osl, rfl, lk, hcd, _, _⟩ := F.ex
  refine ⟨len, fun A outer s H args us vs Q E hr hg e0 hb r hsp => ?_⟩
  have KX : K.In s.heap := e0.mod.kin.keeps fun b o e => (e0.bs b o e).1
  have lim : s.heap.NoLimit := e0.mod.nolimit.keeps fun b o e => (e0.bs b o e).1
  refine codeAny_call_function hr.depth (KX _ _ lk) rfl S.co S.gen rfl (PySem.W.codeRec_of KX hcd) (hb _ _ _ _ (wpAny_newFunctionEnv_cells S.kind (fun y hy => ?_) fun env he s1 x => ?_))
  · rcases S.par y.1 (List.of_mem_zip hy).1 with q | q
    · exact .inl q
    · exact .inr ⟨q, PySem.W.cellsFrom_some _ _ _ (.inl q)⟩
  subst he
  obtain ⟨t, ht, hq⟩ := hbody cdv A outer s H vs Q E (hr.deeper _) hg hsp
  refine ⟨lim.keeps x.toInCall.keep, codeAny_func (wpAny_mono (ht.run [] s1 (start N vs) H _ (inv_start S hr.hd e0 (len _ _ _ _ hsp) r x) hq) (fun fl s' hs => ?_) fun _ _ z => z)⟩
  cases fl with
  | ret u =>
    obtain ⟨v, σ', H', J, rv, q⟩ := hs
    exact ⟨v, H', J.os, J.bare, J.base, J.hok, rv, q⟩
  | next =>
    obtain ⟨σ', H', J, q⟩ := hs
    exact ⟨.non, H', J.os, J.bare, J.base, J.hok, rfl, q⟩
  | brk =>
    obtain ⟨_, _, _, q⟩ := hs
    exact q.elim
  | cont =>
    obtain ⟨_, _, _, q⟩ := hs
    exact q.elim
theorem FnOk.toG {fd : FuncData} (F : FnOk P w K mg base CX k f fd ps sp) : FnG P w K mg base CX k f fd ps sp := ⟨F.len, fun A outer s H args us vs Q E hr _ e0 hb r h => F.run A outer s H args us vs Q E hr e0 hb r h⟩
end

/-! ### the end of a law's row -/
theorem hid_ns {h : Heap} {H : Hp} {b : Addr} {m : Str → Option Value} (n : H b = none) (z : h.Ns b m) : (hidT h H).Ns b m := by
  obtain ⟨o, es, ep, e, d, r⟩ := z
  exact ⟨o, es, ep, hidT_get e n, d, r⟩
theorem law_callG {P : Program} {w : World} {K : PySem.W.Frag} {mg mb : Str → Option Value} {CX : CXT} {k : Nat} {fa a : Addr} {fd : FuncData} {x : Str} {sp : Sp} {s₁ : Shared} {vs : List Value} {ns : List Int}
    (KX : K.In s₁.heap) (hns : s₁.heap.Ns mainGlobals mg) (hb : s₁.heap.Ns builtinsNs mb) (hbb : ∀ x : Str, x ≠ "__name__" → mb x = bootBuiltins x) (hlim : s₁.heap.NoLimit) (hg : s₁.gens = #[])
    (ha : s₁.heap.get? a = some { cls := .type "list", data := .seq vs.toArray }) (hi : IntsAre vs ns) (hl : ns.length ≤ sizeLine) (hr : Room k callerA)
    (F : ∀ base : Heap, K.In base → base.Ns mainGlobals mg → FnG P w K mg base CX k fa fd [x] sp) (hbind : ∀ (s : Shared) (u : Value), BindsTo s fd ⟨[u], []⟩ [(x, u)])
    (hsp : ∀ H : Hp, Only H → SqL K H a (ns.map V.int) → sp [.ref a] H (fun v _ => v = .bl true) fun _ _ _ => False)
    (hCX : ∀ H e s', CX [] H s₁ (fun _ _ _ => False) e s' → False) :
    codeAny (model P w) callerA (.call (.ref fa) ⟨[.ref a], []⟩) (fun r s' => r = .ok (.ret (.bool true)) ∧ OldK s₁.heap s'.heap ∧ s'.os = s₁.os ∧ AllBare s'.gens) s₁ := by
  have lenV := hi.length
  have rv : Vals (ns.map V.int) vs := vals_ints hi
  have go : ∀ H : Hp, Only H → SqL K H a (ns.map V.int) → HOk P w H s₁.heap → (∀ b, H b ≠ none → b = a) → (H a ≠ none → K.lookup a = none) →
      codeAny (model P w) callerA (.call (.ref fa) ⟨[.ref a], []⟩) (fun r s' => r = .ok (.ret (.bool true)) ∧ OldK s₁.heap s'.heap ∧ s'.os = s₁.os ∧ AllBare s'.gens) s₁ := by
    intro H hO hS hok hA hK
    have isA : ∀ {b : Addr} {u : HO}, H b = some u → b = a := fun {b u} q => hA b (by rw [q]; exact fun z => nomatch z)
    have nsN : ∀ {b : Addr} {m : Str → Option Value}, s₁.heap.Ns b m → H b = none := fun {b m} z => by
      obtain ⟨o, es, ep, e, d, _⟩ := z
      cases q : H b with
      | none => rfl
      | some u =>
        rw [isA q, ha] at e
        cases e
        cases d
    have hKb : K.In (hidT s₁.heap H) := fun b o e => hidT_get (KX b o e) (by
      cases q : H b with
      | none => rfl
      | some u =>
        have eb := isA q
        subst eb
        rw [hK (by rw [q]; exact fun z => nomatch z)] at e
        cases e)
    have nsB : (hidT s₁.heap H).Ns mainGlobals mg := hid_ns (nsN hns) hns
    obtain ⟨mc, hm1, hm2⟩ := hlim
    have e0 : Env0 P w K mg (hidT s₁.heap H) callerA [] s₁ H := ⟨rfl, ⟨hKb, nsB, ⟨mb, hid_ns (nsN hb) hb, hbb⟩, ⟨mc, hid_ns (nsN hm1) hm1, hm2⟩⟩, fun b o e => of_hidT e, Nat.le_of_eq (hidT_size _ _), trivial, fun b z => (nomatch (show b ∈ ([] : List Addr) from z)), hok, .of_eq hg⟩
    refine codeAny_mono ((F _ hKb nsB).run callerA [] s₁ H ⟨[.ref a], []⟩ [.ref a] [.ref a] _ _ hr rfl e0 (hbind s₁ (.ref a)) (.cons rfl .nil) (hsp H hO hS)) fun r s' h => ?_
    cases r with
    | error e => exact (hCX H e s' h).elim
    | ok fl =>
      cases fl with
      | next => exact h.elim
      | brk => exact h.elim
      | cont => exact h.elim
      | ret u =>
        obtain ⟨v, H', os, bare, un, hok', r', q⟩ := h
        obtain rfl : v = .bl true := q
        obtain rfl : u = Value.bool true := r'
        refine ⟨rfl, OldK.of_keep fun b o e => ?_, os, bare⟩
        cases q : H b with
        | none => exact un.keep b o e q (fun z => nomatch (show b ∈ ([] : List Addr) from z)) (fun z => nomatch z)
        | some u =>
          rcases hO b with z | ⟨ob, xs, z⟩
          · rw [q] at z
            cases z
          · obtain ⟨e1, _⟩ := hok b _ z
            obtain ⟨e2, _⟩ := hok' b _ (un.frzs b ob _ z)
            rw [e] at e1
            cases e1
            exact e2
  cases hk : K.lookup a with
  | some o =>
    have e := KX a o hk
    rw [ha] at e
    cases e
    exact go (fun _ => none) (fun _ => .inl rfl) (.inr ⟨_, vs.toArray, _, hk, rfl, rfl, rfl, by rw [List.size_toArray, lenV]; exact hl, by simpa using rv⟩) (fun b u z => nomatch (show (none : Option HO) = some u from z)) (fun b z => absurd rfl z) fun z => absurd rfl z
  | none =>
    refine go (fun b => if b = a then some (.frz { cls := .type "list", data := .seq vs.toArray } (.lst (ns.map V.int))) else none) (fun b => ?_) (.inl (.inr ⟨_, if_pos rfl⟩)) (fun b u z => ?_) (fun b z => ?_) fun _ => hk
    · by_cases hb : b = a
      · exact .inr ⟨_, _, if_pos hb⟩
      · exact .inl (if_neg hb)
    · by_cases hb : b = a
      · have z' := (if_pos hb).symm.trans z
        cases z'
        subst hb
        exact ⟨ha, by rw [List.length_map]; exact hl, vs, _, rv, ha⟩
      · exact nomatch (if_neg hb).symm.trans z
    · by_cases hb : b = a
      · exact hb
      · exact absurd (if_neg hb) z
theorem walk_G {l : PySem.W.OpenLaw} {n k : Nat} {q : Program} {loose : List Str} {XP : (Str → Option Value) → Heap → Prop} {YP : World → Heap → Prop} {d : DefRec} {CX : CXT} {x : Str}
    (hn : l.most = some n) (hn2 : n ≤ sizeLine) (hdf : d.params.defaults = []) (hr : Room k callerA)
    (F : ∀ (w : World) (mg : Str → Option Value) (fa : Addr) (h : Heap), YP w h → h.Ns mainGlobals mg → mg d.name = some (.ref fa) →
      ∃ (K : PySem.W.Frag) (fd : FuncData) (sp : Sp), K.In h ∧ (∀ (s : Shared) (u : Value), BindsTo s fd ⟨[u], []⟩ [(x, u)]) ∧
        (∀ (H : Hp) (a : Addr) (ns : List Int), ns.length ≤ n → Only H → SqL K H a (ns.map V.int) → sp [.ref a] H (fun v _ => v = .bl true) fun _ _ _ => False) ∧
        ∀ base : Heap, K.In base → base.Ns mainGlobals mg → FnG l.prog w K mg base CX k fa fd [x] sp)
    (hCX : ∀ (H : Hp) (s : Shared) (e : Value) (s' : Shared), CX [] H s (fun _ _ _ => False) e s' → False) :
    PySem.W.WalkO q loose XP YP l.row.toRowW d [] (fun f vs => PySem.call f vs) := by
  refine Att.attach_call hn hdf fun w s₀ s₁ mg mb fa o pm cd doc a vs ns G Y ho hd hcd hmg hobj hints hlen hg => ?_
  obtain ⟨K, fd, sp, KX, hb, hsp, hF⟩ := F w mg fa _ Y G.T.g hmg
  exact law_callG KX G.T.g G.T.b G.T.builtins G.T.nolimit hg hobj hints (Nat.le_trans hlen hn2) hr hF hb (fun H hO hS => hsp H a ns hlen hO hS) fun H e s' => hCX H s₁ e s'

/-! ### repr -/
mutual
/-- data: lists, tuples, empty dicts, flat ones -/
inductive Dq (K : PySem.W.Frag) (H : Hp) : V → PyData → Prop
  | non : Dq K H .non .none
  | bl (b : Bool) : Dq K H (.bl b) (.bool b)
  | int (i : Int) : Dq K H (.int i) (.int i)
  | str (x : Str) : Dq K H (.str x) (.str x)
  | lst {a : Addr} {xs : List V} {ds : List PyData} : SqL K H a xs → DqAll K H xs ds → Dq K H (.ref a) (.list ds)
  | tup {a : Addr} {xs : List V} {ds : List PyData} : SqT K H a xs → DqAll K H xs ds → Dq K H (.ref a) (.tuple ds)
  | emp {a : Addr} : H a = some (.dK []) → Dq K H (.ref a) (.dict [])
inductive DqAll (K : PySem.W.Frag) (H : Hp) : List V → List PyData → Prop
  | nil : DqAll K H [] []
  | cons {v : V} {vs : List V} {d : PyData} {ds : List PyData} : Dq K H v d → DqAll K H vs ds → DqAll K H (v :: vs) (d :: ds)
end
section
variable {X : Cx} {pins : List (Addr × Obj)} {σ : L2.St} {H : Hp} {s : Shared}
/-- the table of modules is the head's -/
def SysK (K : PySem.W.Frag) : Prop := ∃ o, K.lookup sysModules = some o ∧ o.cls = .type "dict"
theorem ne_sys (I : Inv X pins σ H s) (S : SysK X.K) {a : Addr} {o : Obj} (ho : s.heap.get? a = some o) (hc : o.cls = .type "list") : a ≠ sysModules := fun e => by
  obtain ⟨o', h1, h2⟩ := S
  have q := I.kIn _ _ h1
  rw [← e, ho] at q
  cases q
  rw [hc] at h2
  exact absurd h2 (by decide)
mutual
theorem Dq.reads (I : Inv X pins σ H s) (S : SysK X.K) : ∀ (d : PyData) (v : V) (u : Value), Dq X.K H v d → RelV v u → ∃ as, Reads s.heap u d as ∧ sysModules ∉ as
  | .none, _, _, h, r => by
    cases h; cases r
    exact ⟨_, Reads.none, fun z => nomatch z⟩
  | .bool b, _, _, h, r => by
    cases h; cases r
    exact ⟨_, Reads.bool b, fun z => nomatch z⟩
  | .int i, _, _, h, r => by
    cases h
    obtain ⟨t, rfl⟩ := r
    exact ⟨_, Reads.int i t, fun z => nomatch z⟩
  | .str x, _, _, h, r => by
    cases h
    obtain ⟨t, rfl⟩ := r
    exact ⟨_, Reads.str x t, fun z => nomatch z⟩
  | .list ds, _, _, h, r => by
    cases h with
    | lst hs ha =>
      cases r
      obtain ⟨its, rv, ⟨o, n, ho, hc, _, hd⟩, _⟩ := I.list hs
      obtain ⟨as, hr, hn⟩ := DqAll.reads I S ds _ its ha rv
      refine ⟨_, Reads.list ho hc hd hr, fun z => ?_⟩
      rcases List.mem_cons.mp z with z | z
      · exact ne_sys I S ho hc z.symm
      · exact hn z
  | .tuple ds, _, _, h, r => by
    cases h with
    | tup hs ha =>
      cases r
      obtain ⟨its, rv, ⟨o, ho, hc, n, hd⟩, _⟩ := I.tuple hs
      obtain ⟨as, hr, hn⟩ := DqAll.reads I S ds _ its ha rv
      exact ⟨_, Reads.tuple ho hc hd hr, hn⟩
  | .dict kvs, _, _, h, r => by
    cases h with
    | emp ha =>
      cases r
      obtain ⟨_, hsy, vs, rv, o, es, ep, ho, hx, hd, _, he, _⟩ := I.hok _ _ ha
      cases rv
      have e0 : es.toList = [] := List.length_eq_zero_iff.mp he.length
      refine ⟨_, Reads.dict ho hx.1 hd (as := []) (bs := []) (by rw [e0]; exact ReadsAll.nil) (by rw [e0]; exact ReadsAll.nil), fun z => ?_⟩
      rcases List.mem_cons.mp z with z | z
      · rw [← z] at hsy
        exact absurd hsy (by decide)
      · exact nomatch z
theorem DqAll.reads (I : Inv X pins σ H s) (S : SysK X.K) : ∀ (ds : List PyData) (vs : List V) (us : List Value), DqAll X.K H vs ds → Vals vs us → ∃ as, ReadsAll s.heap us ds as ∧ sysModules ∉ as
  | [], _, _, h, r => by
    cases h; cases r
    exact ⟨_, ReadsAll.nil, fun z => nomatch z⟩
  | d :: ds, _, _, h, r => by
    cases h with
    | cons h1 h2 =>
      cases r with
      | cons r1 r2 =>
        obtain ⟨as, q1, n1⟩ := Dq.reads I S d _ _ h1 r1
        obtain ⟨bs, q2, n2⟩ := DqAll.reads I S ds _ _ h2 r2
        refine ⟨_, ReadsAll.cons q1 q2, fun z => ?_⟩
        rcases List.mem_append.mp z with z | z
        · exact n1 z
        · exact n2 z
end
/-- repr(v), v an object -/
def rRepr (K : PySem.W.Frag) : List V → Hp → VK → Prop := fun xs H Q => ∃ (a : Addr) (d : PyData), xs = [.ref a] ∧ Dq K H (.ref a) d ∧ d.showable = true ∧ d.depth ≤ 60 ∧ d.shown.length ≤ sizeLine ∧ Q (.str d.shown) H
theorem call_reprQ (S : SysK X.K) (hg : X.A.guards = some []) (hu : X.A.units + 64 < cLine) : CallR X (.builtin "repr") (rRepr X.K) := by
  intro pins s σ H xs us Q I r h
  obtain ⟨a, d, rfl, hd, hs, hdp, hz, q⟩ := h
  cases r with
  | cons rx rr =>
    cases rr
    cases rx
    obtain ⟨as, hr, hn⟩ := Dq.reads I S d _ _ hd rfl
    exact repr_of_reads' hr hs (fun _ => hn) hg (by omega) (fun _ _ z => z) (fun h' u tk kk => ⟨.str d.shown, H, I.kept kk, ⟨u, rfl⟩, q⟩) hz
end
end WXG

set_option Elab.async false
set_option linter.all false
set_option maxRecDepth 100000
set_option maxHeartbeats 2000000
/-! a caught error that stays known behind its try -/
namespace WKp
open PySem PySem.Spec PyProof.Rows L2
/-- the object of an own exception, made long ago: its class, its dict -/
def exK (a C : Addr) (d : Option Addr) : HO := .ext fun h => ∃ (oe : Obj) (vs : Array Value), h.get? a = some oe ∧ oe.cls = .ref C ∧ oe.dict = d ∧ oe.data = .fields vs
theorem exK_ok {P : Program} {w : World} {H : Hp} {h : Heap} {a C : Addr} {d : Option Addr} {oe : Obj} {vs : Array Value} (e : h.get? a = some oe) (z : Zc (.ref C) d oe) (hd : oe.data = .fields vs) : ObjOk P w H h a (exK a C d) :=
  ⟨⟨oe, vs, e, z.1, z.2, hd⟩, ⟨oe, e⟩, fun h1 h2 ⟨o, ws, p, q⟩ k => ⟨o, ws, k o p, q⟩⟩
theorem exK_at {P : Program} {w : World} {H : Hp} {h : Heap} {a C : Addr} {d : Option Addr} (x : HOk P w H h) (e : H a = some (exK a C d)) : ∃ (oe : Obj) (vs : Array Value), h.get? a = some oe ∧ oe.cls = .ref C ∧ oe.dict = d ∧ oe.data = .fields vs := (x a _ e).1
section
variable {X : Cx} {pins : List (Addr × Obj)} {σ : L2.St} {H : Hp} {s : Shared}
/-- a pinned object that is new since the def's entry is known from now on -/
theorem track {a : Addr} {oe : Obj} {o : HO} (I : Inv X ((a, oe) :: pins) σ H s) (n0 : X.s_0.heap.get? a = none) (np : ∀ p ∈ X.pn ++ pins, p.1 ≠ a) (new : ObjOk X.prog X.w (upd H a o) s.heap a o) : Inv X pins σ (upd H a o) s := by
  obtain ⟨ha, na, nL, nF, nC⟩ := I.pin (a, oe) (List.mem_append_right _ List.mem_cons_self)
  have ne : ∀ {b : Addr} {u : HO}, H b = some u → b ≠ a := fun {b u} e z => by
    rw [z] at e
    exact absurd (na.symm.trans e) (by simp)
  refine ⟨I.ok, I.os, I.bare, ⟨I.base.keep, I.base.slot, fun b u e n hx => ?_, I.base.there, fun b xs e => ?_, fun b u v e => ?_, fun b ps e => ?_⟩, I.loc, I.cell, ?_, fun x c hc => ?_, fun p hp => ?_, fun b u e => ?_, I.len⟩
  · rw [upd_ne (fun z => by rw [z, n0] at e; cases e)]
    exact I.base.free b u e n hx
  · have := I.base.tups b xs e
    rw [upd_ne (ne this)]
    exact this
  · have := I.base.frzs b u v e
    rw [upd_ne (ne this)]
    exact this
  · obtain ⟨more, this⟩ := I.base.tbls b ps e
    exact ⟨more, by rw [upd_ne (ne this)]; exact this⟩
  · rw [upd_ne (Ne.symm nL)]
    exact I.free
  · have hca : c ≠ a := fun z => by
      obtain ⟨v, hv⟩ := I.cell x c hc
      obtain ⟨ob, h1, h2⟩ := hv
      rw [z] at h1
      have e := ha.symm.trans h1
      cases e
      exact nC v (by first | exact h2 | exact h2.2)
    rw [upd_ne hca]
    exact I.freeC x c hc
  · obtain ⟨h1, h2, h3⟩ := I.pin p (by
      rcases List.mem_append.mp hp with h | h
      · exact List.mem_append_left _ h
      · exact List.mem_append_right _ (List.mem_cons_of_mem _ h))
    exact ⟨h1, by rw [upd_ne (np p hp)]; exact h2, h3⟩
  · by_cases hb : b = a
    · subst hb
      rw [upd_same] at e
      cases e
      exact new
    · rw [upd_ne hb] at e
      exact (I.hok b u e).stay (fun c v _ q => q) (fun c q => by rw [upd_ne (ne q)]; exact q) (fun c xs q => by rw [upd_ne (ne q)]; exact q)
/-- what the clause 'except x as n: q = n' wishes: slot i is n's, slot j is q's -/
def wKeep (K : PySem.W.Frag) (c : Value) (i j : Nat) (Wout : WX) (D : Ends) : WX := fun cls d σ H =>
  ∃ b, PySem.W.exmOne K cls c = some b ∧ (b = true → ∃ C, cls = .ref C ∧ ∀ a, H a = none → D.nx (((σ.set i (some (.ref a))).set j (some (.ref a))).set i none) (upd H a (exK a C d))) ∧ (b = false → Wout cls d σ H)
theorem keep_pin {a : Addr} {oe : Obj} (I : Inv (X.suite a ((a, oe) :: (X.pn ++ pins))) [] σ H s) (ok : X.Ok) : Inv X ((a, oe) :: pins) σ H s :=
  ⟨ok, I.os, I.bare, I.base, I.loc, I.cell, I.free, I.freeC, fun p hp => I.pin p (List.mem_append_left _ (by
    rcases List.mem_append.mp hp with h | h
    · exact List.mem_cons_of_mem _ (List.mem_append_left _ h)
    · rcases List.mem_cons.mp h with h | h
      · rw [h]; exact List.mem_cons_self
      · exact List.mem_cons_of_mem _ (List.mem_append_right _ h))), I.hok, I.len⟩
theorem ps_try_keep {x n q : Str} {c : Value} {i j : Nat} {body : List Stmt} {np pos pos' p1 p2 p3 : Pos} {tb : WX → TS} {Wout : WX} (hs : X.stack = X.env :: X.outer) (hf : X.env.frame = some X.env.locals) (hx : X.ex = []) (hN : X.N.Nodup) (hi : X.N[i]? = some n) (hj : X.N[j]? = some q)
    (hln : X.env.kindOf n = some .local) (hlq : X.env.kindOf q = some .local) (hc : Names X x c) (tk : Takes X Wout)
    (hb : ∀ (W : WX) (pn : List (Addr × Obj)) (xe : Value → Shared → Prop), Takes (X.tr pn xe) W → PassesOwn (model X.prog X.w) X.A X.env xe → PSs (X.tr pn xe) body (tb W))
    (hsu : ∀ (a : Addr) (oe : Obj) (pn : List (Addr × Obj)), PSs (X.suite a ((a, oe) :: pn)) [.Assign [.Name q p1] (.Name n p2) p3] (tAsg (tVar i) (gName j))) :
    PS X (.Try body [.ExceptHandler (some (.Name x np)) (some n) [.Assign [.Name q p1] (.Name n p2) p3] pos'] [] [] pos) (fun D σ H => tb (wKeep X.K c i j Wout D) D σ H) := by
  refine ⟨fun pins s σ H D I h => ?_⟩
  have ok := I.ok
  have hfr : X.A.frames = some (X.env :: X.outer) := by rw [ok.frames, hs]
  have hloc : Loc X.env.scope n := .inl hln
  refine wpAny_Try_except ?_
  refine wpAny_mono ((hb (wKeep X.K c i j Wout D) (X.pn ++ pins) (fun e s₁ => wpAny (model X.prog X.w) X.A (noteFrame e X.env) (fun _ s₂ => wpAny (model X.prog X.w) X.A (setFlight e none) (fun _ s₃ =>
    wpAny (model X.prog X.w) X.A (handleBy e X.env [.ExceptHandler (some (.Name x np)) (some n) [.Assign [.Name q p1] (.Name n p2) p3] pos']) (SP X pins D) X.xe s₃) X.xe s₂) X.xe s₁) (fun u s' xx => ?_) PassesOwn.looking).run [] s σ H D (I.toTry _) h) (fun f s1 hsp => ?_) (fun _ _ z => z)
  · obtain ⟨a, B, sI, pins', σ', H', cls, d, rfl, J', nb, up, sky, na, os, ag, b, hb1, hyes, hno⟩ := xx
    have J : Inv X pins σ' H' sI := J'.ofTry ok
    have sky' : Sky B (X.env :: X.outer) a (Zc cls d) X.env.locals s'.heap := by rw [← hs]; exact sky
    show wpAny (model X.prog X.w) X.A (noteFrame (.ref a) X.env) _ _ _
    refine Sky.land Zc.steady hfr hf sky' fun h3 fl3 up3 => ?_
    have J3 : Inv X pins σ' H' { s' with heap := h3 } := J.landed nb fl3.1 (up.trans up3) os ag
    obtain ⟨oe3, vs3, he3, hz3, hd3⟩ := fl3.there
    have nfr : a ∉ frs (X.env :: X.outer) := fun hm => by
      obtain ⟨_, o', e', hnf⟩ := fl3.2.2.1.mem hm
      rw [he3] at e'; cases e'
      exact hnf _ hd3
    have nL : a ≠ X.env.locals := fun z => nfr (List.mem_filterMap.mpr ⟨X.env, List.mem_cons_self, by rw [hf, z]⟩)
    have nF : a ∉ X.fs := fun hm => by
      obtain ⟨e, he, q⟩ := List.mem_filterMap.mp hm
      exact nfr (List.mem_filterMap.mpr ⟨e, List.mem_cons_of_mem _ he, q⟩)
    have nI : ∀ o, sI.heap.get? a ≠ some o := fun o e => by
      have := nb a o e (by rw [hs]; exact nfr)
      rw [fl3.2.1] at this
      cases this
    have n0 : X.s_0.heap.get? a = none := by
      cases e : X.s_0.heap.get? a with
      | none => rfl
      | some o =>
        obtain ⟨o', e'⟩ := J.base.there a o e (by rw [hx]; simp)
        exact absurd e' (nI o')
    have npn : ∀ p ∈ X.pn ++ pins, p.1 ≠ a := fun p hp z => by
      have := (J.pin p hp).1
      rw [z] at this
      exact nI _ this
    have S3 := J3.suite he3 hd3 na nL nF
    refine wpAny_handleBy_cons (codeAny_handlers_test ?_) (by intro q; cases q)
    have LT : PySem.W.Looks (model X.prog X.w) h3 (typeOf (.ref a)) cls := fun A Q E s k q => wpAny_typeOf_ref (k _ _ he3) (by rw [hz3.1]; exact q)
    have LM := PySem.W.exm_one (M := model X.prog X.w) (J3.kIn) LT hb1
    have test : ∀ {Q : Value → Shared → Prop} {E : Value → Shared → Prop}, Q c { s' with heap := h3 } → wpAny (model X.prog X.w) (X.A.mark (some (.ref a))) (eval (.Name x np) X.env) Q E { s' with heap := h3 } := fun {Q E} q => by
      obtain ⟨hg, hdbg, hm | ⟨hm, hv, hnn⟩⟩ := hc
      · exact ld_glob (X := X.suite a ((a, oe3) :: (X.pn ++ pins))) S3 hg hm q hdbg
      · exact ld_blt (X := X.suite a ((a, oe3) :: (X.pn ++ pins))) S3 hg hm hv q hnn hdbg
    refine test (LM.here ?_)
    cases b with
    | true =>
      obtain ⟨C, rfl, hyes2⟩ := hyes rfl
      refine codeAny_handlers_suite_as ?_
      refine HandSPX.lands_againZ fl3 fun h4 fl4 up4 => ?_
      have J4 : Inv X pins σ' H' { s' with heap := h4 } := J.landed nb fl4.1 ((up.trans up3).trans up4) os ag
      obtain ⟨oe4, vs4, he4, hz4, hd4⟩ := fl4.there
      have S4 := J4.suite he4 hd4 na nL nF
      refine store_ok (X := X.suite a ((a, oe4) :: (X.pn ++ pins))) (v := .ref a) S4 hN hi hloc rfl (fun s5 S5 => ?_) (.inr hln)
      have hil : i < σ'.length := by
        rw [J.len]
        exact (List.getElem?_eq_some_iff.mp hi).1
      refine wpAny_mono ((hsu a oe4 (X.pn ++ pins)).run [] s5 _ H' { nx := fun σ6 H6 => σ6 = (σ'.set i (some (.ref a))).set j (some (.ref a)) ∧ H6 = H', rt := fun _ _ => False, bk := fun _ _ => False, ct := fun _ _ => False } S5 ⟨.ref a, by rw [List.getElem?_set_self hil], rfl, rfl⟩) (fun f s6 hsp => ?_) (fun _ _ z => False.elim z)
      have end_ : ∀ {σ6 : L2.St} {H6 : Hp} {Q : Shared → Prop}, Inv (X.suite a ((a, oe4) :: (X.pn ++ pins))) [] σ6 H6 s6 → (∀ s7, Inv X ((a, oe4) :: pins) (σ6.set i none) H6 s7 → Q s7) →
          wpAny (model X.prog X.w) X.A (do bindName X.env n .none; unbindBehindTheSuite X.env n pos') (fun _ s7 => Q s7) X.xe s6 := fun {σ6 H6 Q} S6 hq => gone_ok (keep_pin S6 ok) hN hi hln hq
      cases f with
      | next =>
        obtain ⟨σ6, H6, S6, rfl, rfl⟩ := hsp
        refine end_ S6 fun s7 J7 => ⟨_, _, track J7 n0 npn ?_, hyes2 a na⟩
        exact exK_ok (J7.pin (a, oe4) (List.mem_append_right _ List.mem_cons_self)).1 hz4 hd4
      | brk =>
        obtain ⟨σ6, H6, S6, q6⟩ := hsp
        exact q6.elim
      | cont =>
        obtain ⟨σ6, H6, S6, q6⟩ := hsp
        exact q6.elim
      | ret u =>
        obtain ⟨v6, σ6, H6, S6, r6, q6⟩ := hsp
        exact q6.elim
    | false =>
      show wpAny _ X.A (handleBy (.ref a) X.env []) _ _ _
      refine wpAny_handleBy_nil ?_
      obtain ⟨k1, k2, k3, oe, vs, T, oT, ts', he, hz, hd, h1, hr⟩ := id fl3
      unfold PySem.passOn
      refine wpAny_bind (wpAny_field he hd h1 ?_)
      rw [if_neg (show ¬ ((Value.ref T == Value.none) = true) from by simp)]
      have fin : wpAny (model X.prog X.w) X.A (setFlight (.ref a) X.env.frame) (fun _ s4 => wpAny (model X.prog X.w) X.A (throw (.ref a) : Sem Flow) (SP X pins D) X.xe s4) X.xe { s' with heap := h3 } := by
        rw [hf]
        refine HandSPX.setFlight_upZ fl3 fun h4 hh4 up4 => wpAny_throw (tk _ _ ?_)
        exact ⟨a, B, sI, pins, σ', H', cls, d, rfl, J, nb, (up.trans up3).trans up4, .inr (.inr (by rw [hs]; exact hh4)), na, os, ag, hno rfl⟩
      first
        | exact wpAny_bind (wpAny_pure (wpAny_bind fin))
        | exact wpAny_bind fin
  · cases f with
    | next =>
      obtain ⟨σ', H', J', q⟩ := hsp
      exact wpAny_execs_nil ⟨σ', H', J'.ofTry ok, q⟩
    | brk =>
      obtain ⟨σ', H', J', q⟩ := hsp
      exact ⟨σ', H', J'.ofTry ok, q⟩
    | cont =>
      obtain ⟨σ', H', J', q⟩ := hsp
      exact ⟨σ', H', J'.ofTry ok, q⟩
    | ret u =>
      obtain ⟨v, σ', H', J', r, q⟩ := hsp
      exact ⟨v, σ', H', J'.ofTry ok, r, q⟩
end
end WKp

set_option Elab.async false
set_option linter.all false
set_option maxRecDepth 100000
set_option maxHeartbeats 4000000
/-! exceptions of the program's own classes as values: made, with a field stored by their __init__, read, asked by isinstance -/
namespace WXE
open PySem PySem.Spec PyProof.Rows L2 Builtin.ObjectAttr

/-- what the written part says of an exception class of the program -/
structure XC (K : PySem.W.Frag) (C : Addr) (B newId initId : String) (bmB : List Value) : Prop where
  fb : ExcBaseFacts B newId initId bmB
  sf : StoreFacts B bmB "object.__setattr__" "object"
  ini : PySem.W.excInitIn K C bmB newId = true
  ovr : PySem.W.excOver K C bmB = true
  hd : PySem.W.hasDictIn K C = true
  sa : PySem.W.findIn K (.ref C) "__setattr__" = some (some (.builtin "object.__setattr__"))
  ga : PySem.W.findIn K (.ref C) "__getattribute__" = some (some (.builtin "BaseException.__getattribute__"))
  gg : PySem.W.findIn K (.ref C) "__getattr__" = some none
  ex : PySem.W.subIn K (.ref C) (.type "BaseException") = some true
  cc : PySem.W.findIn K (.ref C) "__class__" = some (some (.builtin "object.__class__"))
  mo : PySem.W.mroIn K C (.type "object") = some true
  kp : PySem.W.keepIn K (.ref C) = true
  gs : PySem.W.specialIn K (.builtin "object.__class__") "__get__" = some (some (.builtin "getset_descriptor.__get__"))
  tk : PySem.W.takesIn K (.builtin "object.__class__") = some true

section
variable {prog : Program} {w : World} {A : Around} {E : Value → Shared → Prop} {hp : Heap} {g : Array GenState} {d : Drawn} {t : Nat} {os : OsState}
theorem set_first {K : PySem.W.Frag} {B : String} {bmB : List Value} {x C t0 : Addr} {name : Str} {v : Value} {Q : Unit → Shared → Prop}
    (SF : StoreFacts B bmB "object.__setattr__" "object") (X : K.In hp) (hx : hp.get? x = some (PySem.W.excObj C t0 none .none))
    (hov : PySem.W.excOver K C bmB = true) (hh : PySem.W.hasDictIn K C = true)
    (hs : PySem.W.findIn K (.ref C) "__setattr__" = some (some (.builtin "object.__setattr__"))) (ha : PySem.W.findIn K (.ref C) name = some none)
    (hq : ∀ h' tk' dx, (∀ b o, b ≠ x → hp.get? b = some o → h'.get? b = some o) → hp.objs.size ≤ dx → dx ≠ x →
      h'.get? x = some (PySem.W.excObj C t0 (some dx) .none) → h'.Ns1 dx (fun y => if y = name then some v else none) → Q () ⟨h', g, d, tk', os⟩) :
    wpAny (model prog w) A (setAttr (.ref x) name v) Q E ⟨hp, g, d, t, os⟩ := by
  obtain ⟨cd, hc, hd'⟩ := PySem.W.any_some hh
  have hxs : x ≠ hp.objs.size := Nat.ne_of_lt (Heap.lt_size hx)
  refine PySem.W.set_plain X (od := none) ⟨hx, rfl, rfl, trivial⟩ hs ?_
  refine PySem.W.osa_openX (s := ⟨hp, g, d, t + 1, os⟩) (od := none) SF X ⟨hx, rfl, rfl, trivial⟩ hov (by unfold PySem.W.takerIn; rw [ha]; rfl) fun b => ?_
  refine wpAny_bind (wpAny_pure (wpAny_bind (PySem.W.instanceDict_exc (s := ⟨hp, g, d, t + 1, os⟩) hx (PySem.W.looks_clsIn X hc) hd' ?_)))
  show wpAny _ _ (storeInDict hp.objs.size (.str name _) name v) _ _ _
  have hx1 : (hp.push (PySem.W.dictOf [] 0)).get? x = some (PySem.W.excObj C t0 none .none) := Heap.get?_push_of_some _ hx
  refine PySem.HandSPX.store_in_new ⟨_, #[], _, (Heap.get?_update_ne _ _ _ _ hxs.symm).trans (Heap.get?_push_at rfl rfl), rfl, fun e he => absurd he (by simp), fun _ => rfl⟩ fun h' tk' hn' hs' => ?_
  refine hq h' tk' hp.objs.size (fun b o hb ho => ?_) (Nat.le_refl _) hxs.symm ?_ hn'
  · exact (hs'.2 b (Nat.ne_of_lt (Heap.lt_size ho))).trans ((Heap.get?_update_ne _ _ _ _ hb).trans (Heap.get?_push_of_some _ ho))
  · exact (hs'.2 x hxs).trans (Heap.get?_update_self _ hx1 rfl)
end

section
variable {X : Cx} {pins : List (Addr × Obj)} {σ : L2.St} {H : Hp} {s : Shared} {a C dx : Addr} {f : Str} {y : V} {u : Value} {fs : List (Str × V)} {B newId initId : String} {bmB : List Value} {A : Around} {E : Value → Shared → Prop}
/-- one object changed in its place, one new beside it -/
theorem inv_pair {h' : Heap} {tk' : Nat} {o o1 o2 : HO} (I : Inv X pins σ H s) (e : H a = some o) (hno : ∀ z, o ≠ .own z) (hnt : ∀ xs, o ≠ .tup xs) (hnf : ∀ ob v, o ≠ .frz ob v) (hnb : ∀ ps, o ≠ .tbl ps)
    (k : ∀ b ob, b ≠ a → s.heap.get? b = some ob → h'.get? b = some ob) (dn : s.heap.objs.size ≤ dx) (hx : ∃ ob, h'.get? a = some ob)
    (w1 : ∀ H', ObjOk X.prog X.w H' h' dx o1) (w2 : ∀ H', ObjOk X.prog X.w H' h' a o2) : Inv X pins σ (upd (upd H dx o1) a o2) { s with heap := h', toks := tk' } := by
  have hnd : H dx = none := I.hok.fresh dn
  have nd : ∀ {b : Addr} {ob : Obj}, s.heap.get? b = some ob → b ≠ dx := fun {b ob} q => Nat.ne_of_lt (Nat.lt_of_lt_of_le (Heap.lt_size q) dn)
  have na : ∀ {b : Addr}, H b = none → b ≠ a := fun {b} n z => by
    rw [z, e] at n
    cases n
  have apart : ∀ {b : Addr} {u : HO}, H b = some u → o ≠ u → b ≠ a := fun {b u} q n z => by
    rw [z, e] at q
    exact n (Option.some.inj q)
  refine I.un (t' := tk') ⟨fun b ob q n _ _ => k b ob (na n) q, fun b ob q n _ _ => ⟨ob.slots, k b ob (na n) q⟩, fun b ob q n _ => ?_, fun b ob q _ => ?_, fun b xs q => ?_, fun b ob v q => ?_, fun b ps q => ⟨#[], ?_⟩⟩ fun b ob q => ?_
  · rw [upd_ne (na n), upd_ne (nd q)]
    exact n
  · by_cases hb : b = a
    · rw [hb]
      exact hx
    · exact ⟨ob, k b ob hb q⟩
  · rw [upd_ne (apart q (hnt _)), upd_ne (ne_of_none q hnd)]
    exact q
  · rw [upd_ne (apart q (hnf _ _)), upd_ne (ne_of_none q hnd)]
    exact q
  · rw [upd_ne (apart q (hnb _)), upd_ne (ne_of_none q hnd), q]
    simp
  · by_cases hb : b = a
    · subst hb
      rw [upd_same] at q
      cases q
      exact w2 _
    · rw [upd_ne hb] at q
      by_cases hd : b = dx
      · subst hd
        rw [upd_same] at q
        cases q
        exact w1 _
      · rw [upd_ne hd] at q
        refine (I.hok b ob q).stay (fun c v hc z => k c v ?_ z) (fun c hc => ?_) fun c xs hc => ?_
        · rcases hc with hc | hc
          · rw [hc]
            exact hb
          · exact apart hc (hno _)
        · rw [upd_ne (apart hc (hno _)), upd_ne (ne_of_none hc hnd)]
          exact hc
        · rw [upd_ne (apart hc (hnt _)), upd_ne (ne_of_none hc hnd)]
          exact hc
/-- self.f = y, its first field -/
theorem xset_ok {Q : Unit → Shared → Prop} (T : XC X.K C B newId initId bmB) (I : Inv X pins σ H s) (e : H a = some (exo a C none)) (hno : PySem.W.findIn X.K (.ref C) f = some none) (ry : RelV y u)
    (h : ∀ dx s', H dx = none → dx ≠ a → Inv X pins σ (upd (upd H dx (exd dx [(f, y)])) a (exo a C (some dx))) s' → Q () s') : wpAny (model X.prog X.w) A (setAttr (.ref a) f u) Q E s := by
  obtain ⟨t1, ho⟩ := exo_at I.hok e
  obtain ⟨hp, g, d, t, os⟩ := s
  refine set_first T.sf I.kIn ho T.ovr T.hd T.sa hno fun h' tk' dx k dn dne hx hn => ?_
  exact h dx _ (I.hok.fresh dn) dne (inv_pair I e (fun _ => exo_own) (fun _ => exo_tup) (fun _ _ => exo_frz) (fun _ => exo_tbl) k dn ⟨_, hx⟩ (fun _ => exd_ok hn (relO_put (fs := []) ry fun _ => True.intro)) fun _ => exo_ok hx)
/-- B.__init__(self, ..) -/
theorem xinit_ok {us : List Value} {Q : Value → Shared → Prop} (T : XC X.K C B newId initId bmB) (I : Inv X pins σ H s) (e : H a = some (exo a C none)) (hl : us.length ≤ sizeLine) (h : ∀ s', Inv X pins σ H s' → Q .none s') :
    wpAny (model X.prog X.w) A (call (.builtin initId) (.ref a :: us)) Q E s := by
  obtain ⟨t1, ho⟩ := exo_at I.hok e
  obtain ⟨nm, N, qn, bs, bm, hdct, sn, sub, ab, col, dd, k0, k1, k2, k3, k5, hC, hT⟩ := PySem.W.excInit_of I.kIn T.ini
  obtain ⟨hp, g, d, t, os⟩ := s
  refine wpAny_call (PySem.HandSPX.init_base T.fb hT hC ho hl fun h' t2 k hx => ?_)
  have J := I.write (t' := t) (x := a) (e := a) (o := exo a C none) (by rw [e]; exact True.intro) (.inl rfl) k ⟨_, hx⟩ (exo_ok hx)
  have eu : upd H a (exo a C none) = H := funext fun b => by
    by_cases hb : b = a
    · rw [hb, upd_same, e]
    · rw [upd_ne hb]
  rw [eu] at J
  exact h _ J
end

/-! ### readings and rules -/
/-- B.__init__(self, ..), read off an own class above -/
def tXini (K : PySem.W.Frag) (initId : String) (ta : TA) : TE := fun σ H Q => ta σ H fun vs H1 => ∃ (a C : Addr) (ws : List V) (B newId : String) (bmB : List Value),
  vs = .ref a :: ws ∧ ws.length ≤ 1000 ∧ XC K C B newId initId bmB ∧ H1 a = some (exo a C none) ∧ Q .non H1
/-- self.f = e on an exception without a field -/
def tXst (K : PySem.W.Frag) (f : Str) (to te : TE) : TS := fun D σ H => te σ H fun y H1 => to σ H1 fun x H2 => ∃ (a C : Addr) (B newId initId : String) (bmB : List Value),
  x = .ref a ∧ XC K C B newId initId bmB ∧ PySem.W.findIn K (.ref C) f = some none ∧ H2 a = some (exo a C none) ∧
    ∀ dx, H2 dx = none → dx ≠ a → D.nx σ (upd (upd H2 dx (exd dx [(f, y)])) a (exo a C (some dx)))
/-- C(..), C's own __init__ keeping sp: the exception stays as a value -/
def tXmk (C : Addr) (n m : Nat) (sp : Sp) (E : XK) (gV : List V → List V → List V) (ta tk : TA) : TE := fun σ H Q => ta σ H fun vs H1 => tk σ H1 fun zs H2 => vs.length = n ∧ zs.length = m ∧ n ≤ 1000 ∧
  ∀ a, H2 a = none → sp (gV (.ref a :: vs) zs) (upd H2 a (exo a C none)) (fun v H3 => v = .non ∧ Q (.ref a) H3) E
/-- e.f of an exception -/
def tXfld (K : PySem.W.Frag) (f : Str) (te : TE) : TE := fun σ H Q => te σ H fun x H1 => ∃ (a C dx : Addr) (fs : List (Str × V)) (v : V) (B newId initId : String) (bmB : List Value),
  x = .ref a ∧ H1 a = some (exo a C (some dx)) ∧ H1 dx = some (exd dx fs) ∧ XC K C B newId initId bmB ∧ PySem.W.findIn K (.ref C) f = some none ∧ fs.lookup f = some v ∧ Q v H1
/-- a whole exception at a -/
def XAt (H : Hp) (a C : Addr) : Prop := H a = some (exo a C none) ∨ ∃ dx fs, H a = some (exo a C (some dx)) ∧ H dx = some (exd dx fs)
/-- isinstance(e, c) | isinstance(e, (c, ..)) -/
def rXis (K : PySem.W.Frag) : List V → Hp → VK → Prop := fun xs H Q => ∃ (a C : Addr) (c : V) (B newId initId : String) (bmB : List Value) (b : Bool),
  xs = [.ref a, c] ∧ XAt H a C ∧ XC K C B newId initId bmB ∧ ((∃ cv, (∀ u, RelV c u → u = cv) ∧ PySem.W.kitOne K (.ref C) cv = some b) ∨
    ∃ p cs, c = .ref p ∧ H p = some (.tup cs) ∧ ∀ us, Vals cs us → PySem.W.kitAny K (.ref C) us = some b) ∧ Q (.bl b) H

section
variable {X : Cx} {o e : Expr} {es : List Expr} {to te : TE} {ta tk : TA} {f x : Str} {p p' p1 p2 pos : Pos} {initId : String}
theorem pe_xini {C0 : Addr} {pl : Sem Bool} (hg : Gl X x) (hm : X.mg x = some (.ref C0)) (hr : PySem.W.readsIn X.K C0 (.type "type") = true)
    (hs : PySem.W.specialIn X.K (.ref C0) "__getattribute__" = some (some (.builtin "type.__getattribute__"))) (hf : PySem.W.findCls X.K (.ref C0) (.type "type") "__init__" = some (.val (.builtin initId)))
    (hh : PySem.W.handedIn (.builtin initId) = true) (ha : PA X (e :: es) ta) (hdb : (x == ("__debug__" : Str)) = false := by decide)
    (hc : eval (.Call (.Attribute (.Name x p1) "__init__" p2) (e :: es) [] pos) X.env = (do
      let ov ← eval (.Name x p1) X.env
      standAt p2.atName
      let (f, first) ← holding [ov] (getMethod ov "__init__" pl)
      callWith pos f first (backTo pos (starEach (e :: es) X.env)) (backToKw pos (keywordEach [] X.env))) := by rfl)
    (he : starEach (e :: es) X.env = (false, eval e X.env) :: starEach es X.env := by rfl) (hpl : (backTo pos (starEach es X.env)).any (·.1) = false := by rfl) :
    PE X (.Call (.Attribute (.Name x p1) "__init__" p2) (e :: es) [] pos) (tXini X.K initId ta) := by
  refine ⟨fun pins s σ H Q I h => ?_⟩
  refine PySem.W.methodCall_KW (ld_glob I hg hm ?_ hdb) hc
  refine PySem.W.method_cls I.kIn hs (PySem.W.cls_value I.kIn hr hf hh ?_)
  show wpAny _ _ (callWith pos (Value.builtin initId) [] (backTo pos (starEach (e :: es) X.env)) []) _ _ _
  refine PyProof.Rows.callWith_method1 (thn (ha.run pos pins _ σ H _ (I.tok _) h) fun us s1 ⟨vs, H1, I1, r1, a, C, ws, B, newId, bmB, ev, hl, T, ea, q⟩ => ?_) he hpl
  subst ev
  cases r1 with
  | @cons _ u0 _ ur ra rw' =>
    obtain rfl : u0 = Value.ref a := ra
    exact xinit_ok T I1 ea (by rw [← Paired.length rw', sizeLine_eq]; omega) fun s' J => ⟨.non, H1, J, rfl, q⟩
theorem ps_xst (ho : PE X o to) (he : PE X e te) (hs : swapsWith e (some (.Attribute o f p')) pos.line X.env = pure false := by rfl) : PS X (.Assign [.Attribute o f p'] e pos) (tXst X.K f to te) := by
  refine ⟨fun pins s σ H D I h => ?_⟩
  refine plainObj_wpAny_Assign_Attribute (thn (he.run pins s σ H _ I h) fun v s1 ⟨y, H1, I1, r1, q1⟩ => thn (ho.run pins s1 σ H1 _ I1 q1) fun u s2 ⟨x, H2, I2, r2, a, C, B, n, i, bm, ex, T, hno, ea, q⟩ => ?_) hs
  subst ex
  obtain rfl : u = Value.ref a := r2
  exact xset_ok T I2 ea hno r1 fun dx s' nx ne J => ⟨σ, _, J, q dx nx ne⟩
theorem pe_xfld (he : PE X e te) (hb : attributeBase e f X.env (eval e X.env) = eval e X.env := by rfl) : PE X (.Attribute e f pos) (tXfld X.K f te) := by
  refine ⟨fun pins s σ H Q I h => ?_⟩
  refine attr_of hb (thn (he.run pins s σ H _ I h) fun u s1 hh => ?_)
  obtain ⟨x, H1, I1, rx, a, C, dx, fs, v, B, n, i, bm, ex, ea, ed, T, hno, l, q⟩ := hh
  subst ex
  obtain rfl : u = Value.ref a := rx
  obtain ⟨t1, ho⟩ := exo_at I1.hok ea
  obtain ⟨mA, hns, rel⟩ := exd_at I1.hok ed
  obtain ⟨od, hod, hl⟩ := lookIn_ns hns
  obtain ⟨u, hu, ru⟩ := RelO.some_of (v := v) (o := mA f) (by rw [← l]; exact rel f)
  refine HandSPX.exc_get I1.kIn (od := some od) ⟨ho, rfl, rfl, hod⟩ T.ga T.gg T.ex (PySem.W.findObj_own T.hd hno rfl (by rw [hl, hu])) (handed_of ru) ⟨v, H1, I1.tok _, ru, q⟩
theorem x_inst {pins : List (Addr × Obj)} {σ : L2.St} {H : Hp} {s : Shared} {a C : Addr} (I : Inv X pins σ H s) (h : XAt H a C) : ∃ ox od, PySem.W.InstAt s.heap a ox C od := by
  rcases h with ea | ⟨dx, fs, ea, ed⟩
  · obtain ⟨t1, ho⟩ := exo_at I.hok ea
    exact ⟨_, none, ho, rfl, rfl, trivial⟩
  · obtain ⟨t1, ho⟩ := exo_at I.hok ea
    obtain ⟨mA, hns, rel⟩ := exd_at I.hok ed
    obtain ⟨od, hod, hl⟩ := lookIn_ns hns
    exact ⟨_, some od, ho, rfl, rfl, hod⟩
theorem call_xis : CallR X (.builtin "isinstance") (rXis X.K) := by
  intro pins s σ H xs us Q I r h
  obtain ⟨a, C, c, B, n, i, bm, b, rfl, xa, T, hk, q⟩ := h
  cases r with
  | cons rx rr =>
    cases rr with
    | cons rt rr =>
      cases rr
      cases rx
      obtain ⟨ox, od, J⟩ := x_inst I xa
      have hcl : (PySem.W.clsIn X.K C).isSome = true := by
        obtain ⟨cd, hc, _⟩ := PySem.W.any_some T.hd
        rw [hc] <;> rfl
      have Z := PySem.W.kitx_exc (x := a) (ox := ox) (od := od) hcl T.ga T.gg T.ex T.cc T.gs T.tk T.mo
      rcases hk with ⟨cv, hcv, e⟩ | ⟨p, cs, rfl, hp, e⟩
      · have ec := hcv _ rt
        subst ec
        exact PySem.W.kia_one Z I.kIn J e (fun z => nomatch z) fun tk => ⟨.bl b, H, I.kept (t' := tk) fun _ _ z => z, rfl, q⟩
      · cases rt
        obtain ⟨_, its, rv, ⟨⟨oc, odd, odt, osl⟩, ho, hc, m, hd⟩⟩ := I.hok p _ hp
        dsimp only at hc hd
        subst hc hd
        exact PySem.W.kia_tup Z I.kIn J ho (e its rv) (fun z => nomatch z) fun tk => ⟨.bl b, H, I.kept (t' := tk) fun _ _ z => z, rfl, q⟩
end

/-- the same by a Bool -/
def xcB (K : PySem.W.Frag) (C : Addr) (newId : String) (bmB : List Value) : Bool :=
  PySem.W.excInitIn K C bmB newId && (PySem.W.excOver K C bmB && (PySem.W.hasDictIn K C && (decide (PySem.W.findIn K (.ref C) "__setattr__" = some (some (.builtin "object.__setattr__"))) &&
  (decide (PySem.W.findIn K (.ref C) "__getattribute__" = some (some (.builtin "BaseException.__getattribute__"))) && (decide (PySem.W.findIn K (.ref C) "__getattr__" = some none) &&
  (decide (PySem.W.subIn K (.ref C) (.type "BaseException") = some true) && (decide (PySem.W.findIn K (.ref C) "__class__" = some (some (.builtin "object.__class__"))) &&
  (decide (PySem.W.mroIn K C (.type "object") = some true) && (PySem.W.keepIn K (.ref C) && (decide (PySem.W.specialIn K (.builtin "object.__class__") "__get__" = some (some (.builtin "getset_descriptor.__get__"))) &&
  decide (PySem.W.takesIn K (.builtin "object.__class__") = some true)))))))))))
theorem xcB_ok {K : PySem.W.Frag} {C : Addr} {B newId initId : String} {bmB : List Value} (fb : ExcBaseFacts B newId initId bmB) (sf : StoreFacts B bmB "object.__setattr__" "object") (h : xcB K C newId bmB = true) : XC K C B newId initId bmB := by
  unfold xcB at h
  simp only [Bool.and_eq_true, decide_eq_true_eq] at h
  obtain ⟨h1, h2, h3, h4, h5, h6, h7, h8, h9, h10, h11, h12⟩ := h
  exact ⟨fb, sf, h1, h2, h3, h4, h5, h6, h7, h8, h9, h10, h11, h12⟩
end WXE

set_option Elab.async false
set_option linter.all false
set_option maxRecDepth 100000
set_option maxHeartbeats 2000000
/-! a kept error: its field, isinstance -/
namespace WKp
open PySem PySem.Spec PyProof.Rows L2 WXE
def KAt (H : Hp) (a C : Addr) : Prop := ∃ dx fs, H a = some (exK a C (some dx)) ∧ H dx = some (exd dx fs)
def tKfld (K : PySem.W.Frag) (f : Str) (te : TE) : TE := fun σ H Q => te σ H fun x H1 => ∃ (a C dx : Addr) (fs : List (Str × V)) (v : V) (B newId initId : String) (bmB : List Value),
  x = .ref a ∧ H1 a = some (exK a C (some dx)) ∧ H1 dx = some (exd dx fs) ∧ XC K C B newId initId bmB ∧ PySem.W.findIn K (.ref C) f = some none ∧ fs.lookup f = some v ∧ Q v H1
def rKis (K : PySem.W.Frag) : List V → Hp → VK → Prop := fun xs H Q => ∃ (a C : Addr) (c : V) (B newId initId : String) (bmB : List Value) (b : Bool),
  xs = [.ref a, c] ∧ KAt H a C ∧ XC K C B newId initId bmB ∧ ((∃ cv, (∀ u, RelV c u → u = cv) ∧ PySem.W.kitOne K (.ref C) cv = some b) ∨
    ∃ p cs, c = .ref p ∧ H p = some (.tup cs) ∧ ∀ us, Vals cs us → PySem.W.kitAny K (.ref C) us = some b) ∧ Q (.bl b) H
section
variable {X : Cx} {e : Expr} {te : TE} {f : Str} {pos : Pos}
theorem k_inst {pins : List (Addr × Obj)} {σ : L2.St} {H : Hp} {s : Shared} {a C dx : Addr} {fs : List (Str × V)} (I : Inv X pins σ H s) (ea : H a = some (exK a C (some dx))) (ed : H dx = some (exd dx fs)) :
    ∃ (ox od : Obj) (mA : Str → Option Value), PySem.W.InstAt s.heap a ox C (some od) ∧ (∀ f, RelO (fs.lookup f) (mA f)) ∧ ∀ y, PySem.W.lookIn y od = some (mA y) := by
  obtain ⟨oe, vs, ha, hc, hd, hv⟩ := exK_at I.hok ea
  obtain ⟨mA, hns, rel⟩ := exd_at I.hok ed
  obtain ⟨od, hod, hl⟩ := lookIn_ns hns
  exact ⟨oe, od, mA, ⟨ha, hc, by unfold PySem.W.notCls; rw [hv] <;> rfl, by rw [hd]; exact hod⟩, rel, hl⟩
theorem pe_kfld (he : PE X e te) (hb : attributeBase e f X.env (eval e X.env) = eval e X.env := by rfl) : PE X (.Attribute e f pos) (tKfld X.K f te) := by
  refine ⟨fun pins s σ H Q I h => ?_⟩
  refine attr_of hb (thn (he.run pins s σ H _ I h) fun u s1 hh => ?_)
  obtain ⟨x, H1, I1, rx, a, C, dx, fs, v, B, n, i, bm, ex, ea, ed, T, hno, l, q⟩ := hh
  subst ex
  obtain rfl : u = Value.ref a := rx
  obtain ⟨ox, od, mA, J, rel, hl⟩ := k_inst I1 ea ed
  obtain ⟨u, hu, ru⟩ := RelO.some_of (v := v) (o := mA f) (by rw [← l]; exact rel f)
  refine HandSPX.exc_get I1.kIn J T.ga T.gg T.ex (PySem.W.findObj_own T.hd hno rfl (by rw [hl, hu])) (handed_of ru) ⟨v, H1, I1.tok _, ru, q⟩
theorem call_kis : CallR X (.builtin "isinstance") (rKis X.K) := by
  intro pins s σ H xs us Q I r h
  obtain ⟨a, C, c, B, n, i, bm, b, rfl, ⟨dx, fs, ea, ed⟩, T, hk, q⟩ := h
  cases r with
  | cons rx rr =>
    cases rr with
    | cons rt rr =>
      cases rr
      cases rx
      obtain ⟨ox, od, mA, J, _, _⟩ := k_inst I ea ed
      have hcl : (PySem.W.clsIn X.K C).isSome = true := by
        obtain ⟨cd, hc, _⟩ := PySem.W.any_some T.hd
        rw [hc] <;> rfl
      have Z := PySem.W.kitx_exc (x := a) (ox := ox) (od := some od) hcl T.ga T.gg T.ex T.cc T.gs T.tk T.mo
      rcases hk with ⟨cv, hcv, e⟩ | ⟨p, cs, rfl, hp, e⟩
      · have ec := hcv _ rt
        subst ec
        exact PySem.W.kia_one Z I.kIn J e (fun z => nomatch z) fun tk => ⟨.bl b, H, I.kept (t' := tk) fun _ _ z => z, rfl, q⟩
      · cases rt
        obtain ⟨_, its, rv, ⟨⟨oc, odd, odt, osl⟩, ho, hc, m, hd⟩⟩ := I.hok p _ hp
        dsimp only at hc hd
        subst hc hd
        exact PySem.W.kia_tup Z I.kIn J ho (e its rv) (fun z => nomatch z) fun tk => ⟨.bl b, H, I.kept (t' := tk) fun _ _ z => z, rfl, q⟩
end
end WKp

set_option Elab.async false
set_option linter.all false
set_option maxRecDepth 100000
set_option maxHeartbeats 2000000
/-! readings that only add objects: what holds of the value and the heap behind, whatever was added before -/
namespace WEv
open PySem PySem.Spec L2
abbrev HP (α : Type) := α → Hp → Prop
/-- what stays true when objects are added -/
def Mn {α : Type} (P : HP α) : Prop := ∀ x H H', Same H H' → P x H → P x H'
def EvP (te : TE) (σ : L2.St) (H : Hp) (P : HP V) : Prop := ∀ H1, Same H H1 → ∀ Q : VK, (∀ v H2, Same H1 H2 → P v H2 → Q v H2) → te σ H1 Q
def EvA (ta : TA) (σ : L2.St) (H : Hp) (P : HP (List V)) : Prop := ∀ H1, Same H H1 → ∀ Q : List V → Hp → Prop, (∀ v H2, Same H1 H2 → P v H2 → Q v H2) → ta σ H1 Q
def EvT (tt : TT) (σ : L2.St) (H : Hp) (b : Bool) : Prop := ∀ H1, Same H H1 → ∀ Q : Bool → Hp → Prop, (∀ H2, Same H1 H2 → Q b H2) → tt σ H1 Q
/-- a list object whose items are told -/
def LstP (n : Nat) (P : HP (List V)) : HP V := fun v H => ∃ p xs, v = .ref p ∧ H p = some (.lst xs) ∧ xs.length = n ∧ P xs H
theorem same_new {H : Hp} {p : Addr} {o : HO} (h : H p = none) : Same H (upd H p o) := fun a u e => by
  rw [upd_ne (ne_of_none e h)]
  exact e
theorem same_put {H H' : Hp} {p : Addr} {o : HO} (e : Same H H') (h : H p = none) : Same H (upd H' p o) := fun a u ha => by
  rw [upd_ne (ne_of_none ha h)]
  exact e a u ha
theorem mn_lst {n : Nat} {P : HP (List V)} (m : Mn P) : Mn (LstP n P) := fun _ _ _ s ⟨p, xs, e, h, l, q⟩ => ⟨p, xs, e, s _ _ h, l, m _ _ _ s q⟩
theorem mn_is {α : Type} {x : α} : Mn (fun y _ => y = x) := fun _ _ _ _ e => e
theorem mn_pure {α : Type} {p : α → Prop} : Mn (fun y _ => p y) := fun _ _ _ _ e => e
section
variable {σ : L2.St} {H H' : Hp} {te ta tb : TE} {tr : TA} {P P' Pa Pb : HP V} {Ps : HP (List V)} {v : V} {D : Ends} {n m : Nat}
theorem EvP.mono (s : Same H H') (h : EvP te σ H P) : EvP te σ H' P := fun H1 e => h H1 (s.trans e)
theorem EvP.imp (h : EvP te σ H P) (k : ∀ v H, P v H → P' v H) : EvP te σ H P' := fun H1 e Q q => h H1 e Q fun v H2 s p => q v H2 s (k v H2 p)
theorem EvP.keep {R : Hp → Prop} (h : EvP te σ H P) (hR : R H) (mR : ∀ H H', Same H H' → R H → R H') : EvP te σ H (fun v H => P v H ∧ R H) := fun H1 e Q q => h H1 e Q fun v H2 s p => q v H2 s ⟨p, mR _ _ (e.trans s) hR⟩
theorem p_var {i : Nat} (h : σ[i]? = some (some v)) : EvP (tVar i) σ H (fun x _ => x = v) := fun H1 _ _ q => ⟨v, h, q _ H1 (Same.refl H1) rfl⟩
theorem p_c : EvP (tC v) σ H (fun x _ => x = v) := fun H1 _ _ q => q _ H1 (Same.refl H1) rfl
theorem a_nil : EvA tNil σ H (fun vs _ => vs = []) := fun H1 _ _ q => q _ H1 (Same.refl H1) rfl
theorem a_cons (m : Mn P) (h : EvP te σ H P) (hr : EvA tr σ H Ps) : EvA (tCons te tr) σ H (fun vs H => ∃ x xs, vs = x :: xs ∧ P x H ∧ Ps xs H) := fun H1 e Q q =>
  h H1 e _ fun x H2 s2 p2 => hr H2 (e.trans s2) _ fun xs H3 s3 p3 => q _ H3 (s2.trans s3) ⟨x, xs, rfl, m _ _ _ s3 p2, p3⟩
theorem p_lst (h : EvA tr σ H Ps) (m : Mn Ps) (hl : ∀ xs H, Ps xs H → xs.length = n) (hn : n ≤ 100000 := by decide) : EvP (tLst tr) σ H (LstP n Ps) := fun H1 e _ q =>
  h H1 e _ fun xs H2 s2 p2 => ⟨Nat.le_trans (Nat.le_of_eq (hl _ _ p2)) (Nat.le_trans hn (by decide)), fun p hp => q _ _ (s2.trans (same_new hp)) ⟨p, xs, rfl, upd_same, hl _ _ p2, m _ _ _ (same_new hp) p2⟩⟩
theorem s_asg {i : Nat} (h : EvP te σ H P) (k : ∀ v H1, Same H H1 → P v H1 → D.nx (σ.set i (some v)) H1) : tAsg te (gName i) D σ H := h H (Same.refl H) _ k
theorem s_ret (h : EvP te σ H P) (k : ∀ v H1, Same H H1 → P v H1 → D.rt v H1) : tRet te D σ H := h H (Same.refl H) _ k
theorem EvA.imp {Ps' : HP (List V)} (h : EvA tr σ H Ps) (k : ∀ v H, Ps v H → Ps' v H) : EvA tr σ H Ps' := fun H1 e Q q => h H1 e Q fun v H2 s p => q v H2 s (k v H2 p)
end
end WEv

set_option Elab.async false
set_option linter.all false
set_option maxRecDepth 100000
set_option maxHeartbeats 2000000
/-! readings that leave the heap: one value -/
namespace WRd
open PySem PySem.Spec L2
def Ev (te : TE) (σ : L2.St) (H : Hp) (v : V) : Prop := ∀ Q : VK, Q v H → te σ H Q
def EvL (ta : TA) (σ : L2.St) (H : Hp) (vs : List V) : Prop := ∀ Q : List V → Hp → Prop, Q vs H → ta σ H Q
def EvB (tt : TT) (σ : L2.St) (H : Hp) (b : Bool) : Prop := ∀ Q : Bool → Hp → Prop, Q b H → tt σ H Q
section
variable {K : PySem.W.Frag} {σ : L2.St} {H : Hp} {te ta tb td ty tv : TE} {tr : TA} {tt tu : TT} {v x y : V} {vs : List V} {i j : Int} {n : Nat} {m : Addr} {kvs : List (Key × V)} {k : Key} {D : Ends} {a b c : Bool}
theorem ev_var (h : σ[n]? = some (some v)) : Ev (tVar n) σ H v := fun _ q => ⟨v, h, q⟩
theorem ev_c : Ev (tC v) σ H v := fun _ q => q
theorem evl_nil : EvL tNil σ H [] := fun _ q => q
theorem evl_cons (h : Ev ta σ H x) (g : EvL tr σ H vs) : EvL (tCons ta tr) σ H (x :: vs) := fun _ q => h _ (g _ q)
theorem ev_opI {C : Int → Int → Prop} {g : Int → Int → V} (ha : Ev ta σ H (.int i)) (hb : Ev tb σ H (.int j)) (hc : C i j) : Ev (tOp (rI C g) ta tb) σ H (g i j) := fun _ q => ha _ (hb _ ⟨i, j, rfl, rfl, hc, q⟩)
theorem ev_op0 {g : Int → Int → V} (ha : Ev ta σ H (.int i)) (hb : Ev tb σ H (.int j)) : Ev (tOp (rI0 g) ta tb) σ H (g i j) := fun _ q => ha _ (hb _ ⟨i, j, rfl, rfl, q⟩)
theorem ev_iI {C : Int → Int → Prop} {g : Int → Int → Int} (ha : Ev ta σ H (.int i)) (hb : Ev tb σ H (.int j)) (hc : C i j) : Ev (tOp (rI C fun i j => .int (g i j)) ta tb) σ H (.int (g i j)) := fun _ q => ha _ (hb _ ⟨i, j, rfl, rfl, hc, q⟩)
theorem ev_i0 {g : Int → Int → Int} (ha : Ev ta σ H (.int i)) (hb : Ev tb σ H (.int j)) : Ev (tOp (rI0 fun i j => .int (g i j)) ta tb) σ H (.int (g i j)) := fun _ q => ha _ (hb _ ⟨i, j, rfl, rfl, q⟩)
theorem ev_op {r : R2} (ha : Ev ta σ H x) (hb : Ev tb σ H y) (hr : ∀ Q : VK, Q v H → r x y H Q) : Ev (tOp r ta tb) σ H v := fun _ q => ha _ (hb _ (hr _ q))
theorem ev_cb {r : List V → Hp → VK → Prop} (ha : EvL tr σ H vs) (hr : ∀ Q : VK, Q v H → r vs H Q) : Ev (tCB r tr) σ H v := fun _ q => ha _ (hr _ q)
theorem ev_int1 (ha : EvL tr σ H [.int i]) : Ev (tCB (fun xs H Q => (∃ i, xs = [.int i] ∧ Q (.int i) H) ∨ ∃ k, xs = [.bl k] ∧ Q (.int (if k then 1 else 0)) H) tr) σ H (.int i) := ev_cb ha fun _ q => .inl ⟨i, rfl, q⟩
theorem ev_dget (hd : Ev td σ H (.ref m)) (hy : Ev ty σ H (kV k)) (hm : H m = some (.dK kvs)) (hv : valV kvs k = some v) : Ev (tDGet td ty) σ H v := fun _ q => hd _ (hy _ ⟨m, v, rfl, .inl ⟨kvs, k, .inl hm, rfl, hv.symm⟩, q⟩)
theorem st_dput (hv : Ev tv σ H v) (hd : Ev td σ H (.ref m)) (hy : Ev ty σ H (kV k)) (hm : H m = some (.dK kvs)) (hl : kvs.length < sizeLine) (q : D.nx σ (upd H m (.dK (putK kvs k v)))) : sDPut td ty tv D σ H :=
  hv _ (hd _ (hy _ ⟨m, _, rfl, .inl ⟨kvs, k, hm, rfl, hl, rfl⟩, q⟩))
theorem st_asg (h : Ev te σ H v) (q : D.nx (σ.set n (some v)) H) : tAsg te (gName n) D σ H := h _ q
theorem st_ret (h : Ev te σ H v) (q : D.rt v H) : tRet te D σ H := h _ q
theorem st_if {t u : TS} (h : EvB tt σ H b) (q : if b = true then t D σ H else u D σ H) : tIfS tt t u D σ H := h _ q
theorem evb_test (h : Ev te σ H (.bl b)) : EvB (tTest te) σ H b := fun _ q => h _ ⟨b, rfl, q⟩
theorem evb_cmp {g : Int → Int → Bool} (ha : Ev ta σ H (.int i)) (hb : Ev tb σ H (.int j)) : EvB (tTest (tOp (rI0 fun i j => .bl (g i j)) ta tb)) σ H (g i j) := fun _ q => ha _ (hb _ ⟨i, j, rfl, rfl, _, rfl, q⟩)
theorem evb_and (h : EvB tt σ H a) (g : a = true → EvB tu σ H b) : EvB (tAnd tt tu) σ H (a && b) := fun Q q => h _ (by
  cases a with
  | true => exact g rfl _ q
  | false => exact q)
end
end WRd

set_option Elab.async false
set_option linter.all false
set_option maxRecDepth 100000
set_option maxHeartbeats 4000000
/-! an exception of the program made by a call with keywords -/
namespace WXE
open PySem PySem.Spec PyProof.Rows L2 Builtin.ObjectAttr
section
variable {prog : Program} {w : World} {M : Model} {A : Around} {E : Value → Shared → Prop} {R : Result → Shared → Prop} {h : Heap} {g : Array GenState} {d : Drawn} {t : Nat} {os : OsState}
variable {nm q : Str} {C N : Addr} {bs bm bmB : List Value} {hdct : Bool} {sn : List Str} {sub : List Value} {ab : Bool} {col : Option Bool} {dd : Option Addr} {k0 k1 k2 k3 k5 : Option Value} {B newId initId : String}
theorem ck_new (FB : ExcBaseFacts B newId initId bmB) (hT : ∀ Y : String, bm.contains (.type Y) = bmB.contains (.type Y)) {args : List Value} {kw : List (Str × Value)} {Q : Unit → Shared → Prop}
    (hC : h.get? C = some (excClassObj nm q C N bs bm hdct sn sub ab col dd k0 k1 k2 k3 k5 newId)) (hq : Q () ⟨h, g, d, t, os⟩) :
    wpAny M A (checkBuiltinCall newId ⟨.ref C :: args, kw⟩) Q E ⟨h, g, d, t, os⟩ := by
  have z1 : (Value.ref C :: bm).contains (.type B) = true := by rw [List.contains_cons, hT, FB.hasB, Bool.or_true]
  have z2 := FB.noStar
  simp only [checkBuiltinCall, FB.newKind, FB.newSplit, FB.newRow]
  repeat (first
    | refine wpAny_loadPart_at hC ?_
    | (refine wpAny_isSubtype_exc hC ?_; rw [z1])
    | refine wpAny_staticBase_exc hC ?_
    | refine wpAny_madeBy_exc hC ?_
    | simp only [bne_self_eq_false, Bool.false_eq_true, if_false]
    | wp_step)
  exact hq
theorem ck_made (FB : ExcBaseFacts B newId initId bmB) (hT : ∀ Y : String, bm.contains (.type Y) = bmB.contains (.type Y)) {args : List Value} {kw : List (Str × Value)}
    (hC : h.get? C = some (excClassObj nm q C N bs bm hdct sn sub ab col dd k0 k1 k2 k3 k5 newId))
    (hq : R (.ok (.ret (.ref (h.objs.size + 1)))) ⟨(h.push (PySem.W.kdv_tup args)).push (PySem.HandSPX.excO C h.objs.size), g, d, t, os⟩) (hz : args.length ≤ sizeLine) :
    codeAny (model prog w) A (.builtin newId ⟨.ref C :: args, kw⟩) R ⟨h, g, d, t, os⟩ := by
  have z0 := FB.ends
  have z1 : (Value.ref C :: bm).contains (.type B) = true := by rw [List.contains_cons, hT, FB.hasB, Bool.or_true]
  have z2 : (Value.ref C :: bm).contains (.type "AttributeError") = false := by rw [List.contains_cons, hT, FB.noAttr]; rfl
  have z3 : (Value.ref C :: bm).contains (.type "NameError") = false := by rw [List.contains_cons, hT, FB.noName]; rfl
  refine codeAny_builtinAt FB.entry ?_
  unfold Builtin.«BaseException.__new__»
  refine PySem.wpAt_bind ?_
  show PySem.wpAt _ _ _ (stack >>= _) _ _ _
  refine PySem.wpAt_bind (PySem.wpAt_stack fun p below => PySem.wpAt_of_wpAny ?_)
  wp_walk
  refine PySem.wpAt_of_wpAny ?_
  rw [FB.owner]
  repeat (first
    | with_reducible refine wpAny_madeHere_exc FB.canon hC ?_
    | with_reducible refine wpAny_loadPart_at hC ?_
    | (with_reducible refine wpAny_isSubtype_exc hC ?_; first | rw [z1] | rw [z2] | rw [z3])
    | wp_step)
  show R _ _
  rw [Heap.size_push]
  exact hq
theorem ck_type (FB : ExcBaseFacts B newId initId bmB) (hT : ∀ Y : String, bm.contains (.type Y) = bmB.contains (.type Y)) {args : List Value} {kw : List (Str × Value)} {fI : Addr} {Q : Fin → Shared → Prop}
    (hC : h.get? C = some (excClassObj nm q C N bs bm hdct sn sub ab col dd k0 k1 k2 k3 k5 newId))
    (hi : PySem.W.Looks (model prog w) h (typeLookup (.ref C) "__init__") (some (.ref fI))) (hb : ∀ self, PySem.W.Looks (model prog w) h (bindSpecial (.ref fI) self) (.ref fI, [self])) (hz : args.length ≤ sizeLine)
    (hq : codeAny (model prog w) A (.call (.ref fI) ⟨.ref (h.objs.size + 1) :: args, kw⟩)
      (fun r s' => match r with
        | .ok (.ret v) => v = .none ∧ Q (.done (.ret (.ref (h.objs.size + 1)))) s'
        | .ok _ => False
        | .error e => E e s')
      ⟨(h.push (PySem.W.kdv_tup args)).push (PySem.HandSPX.excO C h.objs.size), g, d, t, os⟩) :
    wpAny (model prog w) A (Builtin.«type.__call__» ⟨.ref C :: args, kw⟩) Q E ⟨h, g, d, t, os⟩ := by
  repeat (first | with_reducible refine wpAny_loadPart_at hC ?_ | with_reducible refine wpAny_madeBy_exc hC ?_ | wp_step)
  refine codeAny_call_builtin_code (Code.quiet_builtin _ FB.quiet) (ck_new FB hT hC ?_)
  refine ck_made FB hT hC ?_ hz
  show wpAny _ _ _ _ _ _
  have kk : ∀ b o, h.get? b = some o → ((h.push (PySem.W.kdv_tup args)).push (PySem.HandSPX.excO C h.objs.size)).get? b = some o := fun b o z => Heap.get?_push_of_some _ (Heap.get?_push_of_some _ z)
  have hC1 := kk _ _ hC
  have hnew : ((h.push (PySem.W.kdv_tup args)).push (PySem.HandSPX.excO C h.objs.size)).get? (h.objs.size + 1) = some (PySem.HandSPX.excO C h.objs.size) := by heap_get
  have hself : (Value.ref C :: bm).contains (.ref C) = true := by simp
  have look1 := hi.keeps kk
  have bind1 := (hb (.ref (h.objs.size + 1))).keeps kk
  unfold isInstance
  repeat (first
    | with_reducible refine wpAny_loadPart_at hnew ?_
    | (with_reducible refine wpAny_isSubtype_exc hC1 ?_; rw [hself])
    | wp_step)
  show wpAny _ _ (typeLookup (.ref C) _) _ _ _
  refine look1.at ?_
  refine wpAny_holding (wpAny_bind (bind1.at ?_))
  refine wpAny_bind (wpAny_call (codeAny_mono hq fun r s' z => ?_))
  rcases r with e | (v | _ | _ | _) <;> first | exact z | exact z.elim | skip
  obtain ⟨rfl, z⟩ := z
  first
    | exact wpAny_pure (wpAny_pure z)
    | (wp_walk; exact z)
theorem ck_tc {args : List Value} {kw : List (Str × Value)} {Q : Unit → Shared → Prop} (hC : h.get? C = some (excClassObj nm q C N bs bm hdct sn sub ab col dd k0 k1 k2 k3 k5 newId))
    (hq : Q () ⟨h, g, d, t, os⟩) : wpAny M A (checkBuiltinCall "type.__call__" ⟨.ref C :: args, kw⟩) Q E ⟨h, g, d, t, os⟩ := by
  have z1 := tc_sub
  have z2 : (⟨h, g, d, t, os⟩ : Shared).TypeIs (.ref C) "type" := ⟨_, hC, rfl⟩
  simp only [checkBuiltinCall, tc_kind, tc_split]
  repeat (any_goals (first
    | assumption
    | with_reducible refine wpAny_loadPart_at hC ?_
    | with_reducible refine wpAny_onRaise ?_
    | with_reducible refine wpAny_map ?_
    | wp_step))
theorem ck_call (FB : ExcBaseFacts B newId initId bmB) (hT : ∀ Y : String, bm.contains (.type Y) = bmB.contains (.type Y)) {args : List Value} {kw : List (Str × Value)} {fI : Addr}
    (hC : h.get? C = some (excClassObj nm q C N bs bm hdct sn sub ab col dd k0 k1 k2 k3 k5 newId))
    (hi : PySem.W.Looks (model prog w) h (typeLookup (.ref C) "__init__") (some (.ref fI))) (hb : ∀ self, PySem.W.Looks (model prog w) h (bindSpecial (.ref fI) self) (.ref fI, [self])) (hz : args.length ≤ sizeLine)
    (hq : codeAny (model prog w) (A.under (.builtin "type.__call__" ⟨.ref C :: args, kw⟩)) (.call (.ref fI) ⟨.ref (h.objs.size + 1) :: args, kw⟩) (PySem.W.InitBack (h.objs.size + 1) R)
      ⟨(h.push (PySem.W.kdv_tup args)).push (PySem.HandSPX.excO C h.objs.size), g, d, t, os⟩) :
    codeAny (model prog w) A (.call (.ref C) ⟨args, kw⟩) R ⟨h, g, d, t, os⟩ := by
  have z1 := tc_lookup
  have z2 := tc_bind (.ref C)
  have z3 : (⟨h, g, d, t, os⟩ : Shared).TypeIs (.ref C) "type" := ⟨_, hC, rfl⟩
  refine codeAny_of_tree ?_
  show wpAny _ _ (callAny (.ref C) _) _ _ _
  repeat (any_goals (first | assumption | with_reducible refine wpAny_loadPart_at hC ?_ | wp_step))
  refine ⟨rfl, ?_⟩
  refine codeAny_call_builtin_at (Code.quiet_builtin _ (by decide +kernel)) entry_typeCall (ck_tc hC (ck_type FB hT hC hi hb hz ?_))
  refine codeAny_mono hq fun r s' z => ?_
  rcases r with e | (v | _ | _ | _) <;> exact z
end

section
variable {X : Cx} {CX : CXT} {k n : Nat} {C fI : Addr} {fd : FuncData} {ps ks : List Str} {sp : Sp} {E : XK} {x : Str} {p pos : Pos} {e : Expr} {es : List Expr} {kws : List Keyword} {ta tk : TA} {g : List Value → List Value → List Value} {gV : List V → List V → List V}
  {B newId initId : String} {bmB : List Value}
theorem run_xmk {pins : List (Addr × Obj)} {σ : L2.St} {H : Hp} {s : Shared} {Q : VK} {us ws : List Value} {vs zs : List V} (T : XC X.K C B newId initId bmB) (iC : PySem.W.findIn X.K (.ref C) "__init__" = some (some (.ref fI)))
    (tI : PySem.W.typeIn X.K (.ref fI) = some (.type "function")) (F : FnOk X.prog X.w X.K X.mg X.base CX k fI fd ps sp) (hr : Room (k + 1) X.A) (hb : KBn X.K fd ps (n + 1) ks g gV) (hx : Passes CX X E)
    (I : Inv X pins σ H s) (r : Vals vs us) (rz : Vals zs ws) (l1 : vs.length = n) (l2 : zs.length = ks.length) (hn : n ≤ 1000)
    (h : ∀ a, H a = none → sp (gV (.ref a :: vs) zs) (upd H a (exo a C none)) (fun v H2 => v = .non ∧ Q (.ref a) H2) E) :
    wpAny (model X.prog X.w) X.A (call (.ref C) us (ks.zip ws)) (EP X pins σ Q) X.xe s := by
  obtain ⟨nm, N, qn, bs, bm, hdct, sn, sub, ab, col, dd, k0, k1, k2, k3, k5, hC, hT⟩ := PySem.W.excInit_of I.kIn T.ini
  obtain ⟨hp, gg, dr, tk, os⟩ := s
  have hsz : hp.objs.size ≤ hp.objs.size + 1 := Nat.le_succ _
  have hq := h (hp.objs.size + 1) (I.hok.fresh hsz)
  have kk : ∀ b o, hp.get? b = some o → ((hp.push (PySem.W.kdv_tup us)).push (PySem.HandSPX.excO C hp.objs.size)).get? b = some o := fun b o z => Heap.get?_push_of_some _ (Heap.get?_push_of_some _ z)
  have hnew : ((hp.push (PySem.W.kdv_tup us)).push (PySem.HandSPX.excO C hp.objs.size)).get? (hp.objs.size + 1) = some (PySem.HandSPX.excO C hp.objs.size) := by heap_get
  have I2 : Inv X pins σ (upd H (hp.objs.size + 1) (exo (hp.objs.size + 1) C none)) ⟨(hp.push (PySem.W.kdv_tup us)).push (PySem.HandSPX.excO C hp.objs.size), gg, dr, tk, os⟩ :=
    I.laid (t' := tk) (o := exo (hp.objs.size + 1) C none) kk hsz (exo_ok hnew)
  have r2 : Vals (V.ref (hp.objs.size + 1) :: vs) (Value.ref (hp.objs.size + 1) :: us) := .cons rfl r
  have r3 := hb.rel r2 rz
  have hus : us.length ≤ sizeLine := by
    rw [← Paired.length r, sizeLine_eq]
    omega
  refine wpAny_call (ck_call T.fb hT hC (PySem.W.looks_findIn I.kIn iC) (fun self => PySem.W.bind_fn I.kIn self tI) hus
    (codeAny_mono (F.run _ X.stack _ _ ⟨Value.ref (hp.objs.size + 1) :: us, ks.zip ws⟩ (g (Value.ref (hp.objs.size + 1) :: us) ws) _ _ E (hr.make C us (ks.zip ws)) (I2.env0.make C us (ks.zip ws))
      (hb.to _ (Value.ref (hp.objs.size + 1) :: us) ws I2.kIn (r2.length.symm.trans (congrArg Nat.succ l1)) (rz.length.symm.trans l2)) r3 hq) fun r s' hq' => ?_))
  cases r with
  | error er => exact hx pins σ _ _ er s' I2 hq'
  | ok fl =>
    cases fl with
    | ret u =>
      obtain ⟨v, H', I3, rv, ev, q3⟩ := I2.after hq'
      subst ev
      exact ⟨rv, V.ref (hp.objs.size + 1), H', I3, rfl, q3⟩
    | next => exact False.elim hq'
    | brk => exact False.elim hq'
    | cont => exact False.elim hq'
/-- C(e, ..) -/
theorem pe_xmk (T : XC X.K C B newId initId bmB) (iC : PySem.W.findIn X.K (.ref C) "__init__" = some (some (.ref fI))) (tI : PySem.W.typeIn X.K (.ref fI) = some (.type "function"))
    (F : FnOk X.prog X.w X.K X.mg X.base CX k fI fd ps sp) (hr : Room (k + 1) X.A) (hg : Gl X x) (hm : X.mg x = some (.ref C)) (hb : KBn X.K fd ps (n + 1) [] g gV) (hx : Passes CX X E) (ha : PA X (e :: es) ta)
    (hdb : (x == ("__debug__" : Str)) = false := by decide) (he : starEach (e :: es) X.env = (false, eval e X.env) :: starEach es X.env := by rfl) (hpl : (backTo pos (starEach es X.env)).any (·.1) = false := by rfl) :
    PE X (.Call (.Name x p) (e :: es) [] pos) (tXmk C n 0 sp E gV ta tNil) := by
  refine ⟨fun pins s σ H Q I h => ?_⟩
  refine wpAny_Call_Name_kw (ld_glob I hg hm ?_ hdb)
  exact PySem.W.callWith_K (h₀ := X.base) I.ok.mod.kin T.kp (thn (ha.run pos pins s σ H _ I h) fun us s1 ⟨vs, H1, I1, r, l1, l2, hn, q⟩ => ⟨I1.kIn, run_xmk (ws := []) (zs := []) T iC tI F hr hb hx I1 r .nil l1 l2 hn q⟩) he hpl
/-- C() -/
theorem pe_xmk0 (T : XC X.K C B newId initId bmB) (iC : PySem.W.findIn X.K (.ref C) "__init__" = some (some (.ref fI))) (tI : PySem.W.typeIn X.K (.ref fI) = some (.type "function"))
    (F : FnOk X.prog X.w X.K X.mg X.base CX k fI fd ps sp) (hr : Room (k + 1) X.A) (hg : Gl X x) (hm : X.mg x = some (.ref C)) (hb : KBn X.K fd ps (0 + 1) [] g gV) (hx : Passes CX X E)
    (hdb : (x == ("__debug__" : Str)) = false := by decide) : PE X (.Call (.Name x p) [] [] pos) (tXmk C 0 0 sp E gV tNil tNil) := by
  refine ⟨fun pins s σ H Q I h => ?_⟩
  refine wpAny_Call_Name_kw (ld_glob I hg hm ?_ hdb)
  obtain ⟨l1, l2, hn, q⟩ := h
  exact PySem.W.callWith_K0 I.kIn T.kp (run_xmk (us := []) (vs := []) (ws := []) (zs := []) T iC tI F hr hb hx I .nil .nil l1 l2 hn q)
/-- C(k = v, ..) -/
theorem pe_xmkK (T : XC X.K C B newId initId bmB) (iC : PySem.W.findIn X.K (.ref C) "__init__" = some (some (.ref fI))) (tI : PySem.W.typeIn X.K (.ref fI) = some (.type "function"))
    (F : FnOk X.prog X.w X.K X.mg X.base CX k fI fd ps sp) (hr : Room (k + 1) X.A) (hg : Gl X x) (hm : X.mg x = some (.ref C)) (hb : KBn X.K fd ps (0 + 1) ks g gV) (hx : Passes CX X E) (hkw : PK X kws tk)
    (hall : (backToKw pos (keywordEach kws X.env)).all (·.1.isSome) = true := by rfl) (hks : (backToKw pos (keywordEach kws X.env)).filterMap (·.1) = ks := by rfl)
    (hdb : (x == ("__debug__" : Str)) = false := by decide) (hpl : ((backTo pos (starEach [] X.env)).any (·.1) || (backToKw pos (keywordEach kws X.env)).any (·.1.isNone)) = false := by rfl) :
    PE X (.Call (.Name x p) [] kws pos) (tXmk C 0 ks.length sp E gV tNil tk) := by
  refine ⟨fun pins s σ H Q I h => ?_⟩
  refine wpAny_Call_Name_kw (ld_glob I hg hm ?_ hdb)
  refine PySem.W.callWith_KW0 (h₀ := X.base) I.ok.mod.kin T.kp hall (thn (hkw.run pos pins s σ H _ I h) fun ws s1 ⟨zs, H1, I1, rz, l1, l2, hn, q⟩ => ⟨I1.kIn, ?_⟩) hpl
  rw [hks]
  exact run_xmk (us := []) (vs := []) T iC tI F hr hb hx I1 .nil rz l1 l2 hn q
end
end WXE

set_option Elab.async false
set_option linter.all false
set_option maxRecDepth 100000
set_option maxHeartbeats 2000000
/-! readings that only add objects: predicates of values, lists of them -/
namespace WLf
open PySem PySem.Spec L2 WEv WRd WXE
def Is (x : V) : HP V := fun v _ => v = x
def Fa : List (HP V) → List V → Hp → Prop
  | [], [], _ => True
  | P :: Ps, v :: vs, H => P v H ∧ Fa Ps vs H
  | _, _, _ => False
/-- a list object whose items are told -/
def LF (Ps : List (HP V)) : HP V := fun v H => ∃ p xs, v = .ref p ∧ H p = some (.lst xs) ∧ Fa Ps xs H
theorem Fa.len : ∀ {Ps : List (HP V)} {vs : List V} {H : Hp}, Fa Ps vs H → vs.length = Ps.length
  | [], [], _, _ => rfl
  | _ :: _, _ :: _, _, h => congrArg (· + 1) (Fa.len h.2)
  | [], _ :: _, _, h => h.elim
  | _ :: _, [], _, h => h.elim
theorem Fa.app : ∀ {Ps Qs : List (HP V)} {vs us : List V} {H : Hp}, Fa Ps vs H → Fa Qs us H → Fa (Ps ++ Qs) (vs ++ us) H
  | [], _, [], _, _, _, g => g
  | _ :: _, _, _ :: _, _, _, h, g => ⟨h.1, Fa.app h.2 g⟩
  | [], _, _ :: _, _, _, h, _ => h.elim
  | _ :: _, _, [], _, _, h, _ => h.elim
theorem Fa.get : ∀ {Ps : List (HP V)} {vs : List V} {H : Hp} {n : Nat} {P : HP V}, Fa Ps vs H → Ps[n]? = some P → ∃ v, vs[n]? = some v ∧ P v H
  | _ :: _, _ :: _, _, 0, _, h, e => ⟨_, rfl, by cases e; exact h.1⟩
  | _ :: _, _ :: _, _, n + 1, _, h, e => Fa.get (n := n) h.2 e
  | [], _ :: _, _, _, _, h, _ => h.elim
  | _ :: _, [], _, _, _, h, _ => h.elim
theorem Fa.is : ∀ {ys : List V} {vs : List V} {H : Hp}, Fa (ys.map Is) vs H → vs = ys
  | [], [], _, _ => rfl
  | _ :: _, _ :: _, _, h => by rw [show _ = _ from h.1, Fa.is h.2]
  | [], _ :: _, _, h => h.elim
  | _ :: _, [], _, h => h.elim
theorem mn_nil : Mn (Fa []) := fun vs H H' _ h => by
  cases vs with
  | nil => exact h
  | cons _ _ => exact h
theorem mn_cons {P : HP V} {Ps : List (HP V)} (m : Mn P) (ms : Mn (Fa Ps)) : Mn (Fa (P :: Ps)) := fun vs H H' s h => by
  cases vs with
  | nil => exact h
  | cons v vs => exact ⟨m _ _ _ s h.1, ms _ _ _ s h.2⟩
theorem Fa.cut : ∀ {Ps Qs : List (HP V)} {vs : List V} {H : Hp}, Fa (Ps ++ Qs) vs H → ∃ us ws, vs = us ++ ws ∧ Fa Ps us H ∧ Fa Qs ws H
  | [], _, vs, _, h => ⟨[], vs, rfl, trivial, h⟩
  | _ :: _, _, v :: vs, _, h => by
    obtain ⟨us, ws, e, h1, h2⟩ := Fa.cut h.2
    exact ⟨v :: us, ws, by rw [e]; rfl, ⟨h.1, h1⟩, h2⟩
  | _ :: _, _, [], _, h => h.elim
theorem mn_app {Ps Qs : List (HP V)} (ms : Mn (Fa Ps)) (mt : Mn (Fa Qs)) : Mn (Fa (Ps ++ Qs)) := fun vs H H' s h => by
  obtain ⟨us, ws, rfl, h1, h2⟩ := h.cut
  exact (ms _ _ _ s h1).app (mt _ _ _ s h2)
theorem mn_lf {Ps : List (HP V)} (m : Mn (Fa Ps)) : Mn (LF Ps) := fun _ _ _ s ⟨p, xs, e, h, q⟩ => ⟨p, xs, e, s _ _ h, m _ _ _ s q⟩
theorem mn_i {x : V} : Mn (Is x) := fun _ _ _ _ e => e
structure G (te : TE) (σ : L2.St) (H : Hp) (P : HP V) : Prop where
  ev : EvP te σ H P
  mn : Mn P
structure GA (ta : TA) (σ : L2.St) (H : Hp) (Ps : List (HP V)) : Prop where
  ev : EvA ta σ H (Fa Ps)
  mn : Mn (Fa Ps)
section
variable {K : PySem.W.Frag} {σ : L2.St} {H H' : Hp} {te ta tb td ty tv : TE} {tr : TA} {v x y : V} {vs : List V} {P Pa Pb : HP V} {Ps Qs : List (HP V)} {D : Ends} {n : Nat} {C : Addr} {f : Str} {B newId initId : String} {bmB : List Value}
theorem g_var {i : Nat} (h : σ[i]? = some (some v)) : G (tVar i) σ H (Is v) := ⟨p_var h, mn_i⟩
theorem g_varP {i : Nat} (h : σ[i]? = some (some v)) (p : P v H) (m : Mn P) : G (tVar i) σ H P := ⟨fun H1 s _ q => ⟨v, h, q _ H1 (Same.refl H1) (m _ _ _ s p)⟩, m⟩
theorem g_c : G (tC v) σ H (Is v) := ⟨p_c, mn_i⟩
theorem ga_nil : GA tNil σ H [] := ⟨fun H1 _ _ q => q _ H1 (Same.refl H1) trivial, mn_nil⟩
theorem ga_cons (h : G te σ H P) (g : GA tr σ H Ps) : GA (tCons te tr) σ H (P :: Ps) := ⟨fun H1 e Q q => h.ev H1 e _ fun x H2 s2 p2 => g.ev H2 (e.trans s2) _ fun xs H3 s3 p3 => q _ H3 (s2.trans s3) ⟨h.mn _ _ _ s3 p2, p3⟩, mn_cons h.mn g.mn⟩
theorem g_lst (h : GA tr σ H Ps) (hn : Ps.length ≤ 100000 := by exact Nat.le_of_ble_eq_true rfl) : G (tLst tr) σ H (LF Ps) := ⟨fun H1 e _ q =>
  h.ev H1 e _ fun xs H2 s2 p2 => ⟨by rw [p2.len]; exact Nat.le_trans hn (by decide), fun p hp => q _ _ (s2.trans (same_new hp)) ⟨p, xs, rfl, upd_same, h.mn _ _ _ (same_new hp) p2⟩⟩, mn_lf h.mn⟩
theorem g_cat (ha : G ta σ H (LF Ps)) (hb : G tb σ H (LF Qs)) (ma : Mn (Fa Ps)) (mb : Mn (Fa Qs)) (hn : Ps.length + Qs.length ≤ 100000 := by exact Nat.le_of_ble_eq_true rfl) : G (tOp rCat ta tb) σ H (LF (Ps ++ Qs)) := ⟨fun H1 e _ q =>
  ha.ev H1 e _ fun a H2 s2 pa => hb.ev H2 (e.trans s2) _ fun b H3 s3 pb => by
    obtain ⟨p, xs, rfl, hp, fa⟩ := ha.mn _ _ _ s3 pa
    obtain ⟨p', zs, rfl, hp', fb⟩ := pb
    refine ⟨p, p', xs, zs, rfl, rfl, hp, hp', by rw [fa.len, fb.len]; exact Nat.le_trans hn (by decide), fun r hr => q _ _ ((s2.trans s3).trans (same_new hr)) ⟨r, _, rfl, upd_same, (ma _ _ _ (same_new hr) fa).app (mb _ _ _ (same_new hr) fb)⟩⟩, mn_lf (mn_app ma mb)⟩
theorem g_asg {i : Nat} (h : G te σ H P) (k : ∀ v H1, Same H H1 → P v H1 → D.nx (σ.set i (some v)) H1) : tAsg te (gName i) D σ H := h.ev H (Same.refl H) _ k
theorem g_ret (h : G te σ H P) (k : ∀ v H1, Same H H1 → P v H1 → D.rt v H1) : tRet te D σ H := h.ev H (Same.refl H) _ k
/-- the n-th of a list -/
theorem g_ix {i : Nat} (h : σ[i]? = some (some v)) (p : LF Ps v H) (hn : Ps[n]? = some P) (m : Mn P) : G (tOp (rIxL K) (tVar i) (tC (.int (n : Int)))) σ H P := ⟨fun H1 e _ q => by
  obtain ⟨l, xs, rfl, hl, fa⟩ := p
  obtain ⟨x, hx, px⟩ := fa.get hn
  exact ⟨_, h, l, xs, n, x, rfl, rfl, .of (e _ _ hl), atI_nat hx, q _ H1 (Same.refl H1) (m _ _ _ e px)⟩, m⟩
/-! exceptions -/
def XN (C : Addr) : HP V := fun v H => ∃ e, v = .ref e ∧ H e = some (exo e C none)
def XF (C : Addr) (f : Str) (y : V) : HP V := fun v H => ∃ e dx, v = .ref e ∧ H e = some (exo e C (some dx)) ∧ H dx = some (exd dx [(f, y)])
theorem mn_xn : Mn (XN C) := fun _ _ _ s ⟨e, q, h⟩ => ⟨e, q, s _ _ h⟩
theorem mn_xf : Mn (XF C f y) := fun _ _ _ s ⟨e, dx, q, h, g⟩ => ⟨e, dx, q, s _ _ h, s _ _ g⟩
def spI0 (C : Addr) : Sp := fun vs H Q _ => ∃ a, vs = [.ref a] ∧ H a = some (exo a C none) ∧ Q .non H
def spI1 (C : Addr) (f : Str) : Sp := fun vs H Q _ => ∃ a y, vs = [.ref a, y] ∧ H a = some (exo a C none) ∧ ∀ dx, H dx = none → dx ≠ a → Q .non (upd (upd H dx (exd dx [(f, y)])) a (exo a C (some dx)))
theorem spI1_of {H : Hp} {a : Addr} {E : XK} {Q : VK} (ha : H a = none) (q : ∀ H2, Same H H2 → XF C f y (.ref a) H2 → Q (.ref a) H2) : spI1 C f [.ref a, y] (upd H a (exo a C none)) (fun v H3 => v = .non ∧ Q (.ref a) H3) E := by
  refine ⟨a, y, rfl, upd_same, fun dx hdx hne => ⟨rfl, q _ (fun b o e => ?_) ⟨a, dx, rfl, upd_same, ?_⟩⟩⟩
  · have h1 : b ≠ a := ne_of_none e ha
    have h2 : H dx = none := by rwa [upd_ne hne] at hdx
    rw [upd_ne h1, upd_ne (ne_of_none e h2), upd_ne h1]
    exact e
  · rw [upd_ne hne]
    exact upd_same
theorem g_mk1 {E : XK} (h : G te σ H (Is y)) : G (tXmk C 1 0 (spI1 C f) E (fun us _ => us) (tCons te tNil) tNil) σ H (XF C f y) := ⟨fun H1 e _ q =>
  h.ev H1 e _ fun x H2 s2 px => by
    obtain rfl : x = y := px
    exact ⟨rfl, rfl, by decide, fun a ha => spI1_of ha fun H3 s3 p3 => q _ _ (s2.trans s3) p3⟩, mn_xf⟩
theorem g_mkK {E : XK} (h : G te σ H (Is y)) : G (tXmk C 0 1 (spI1 C f) E (fun vs zs => vs ++ zs) tNil (tCons te tNil)) σ H (XF C f y) := ⟨fun H1 e _ q =>
  h.ev H1 e _ fun x H2 s2 px => by
    obtain rfl : x = y := px
    exact ⟨rfl, rfl, by decide, fun a ha => spI1_of ha fun H3 s3 p3 => q _ _ (s2.trans s3) p3⟩, mn_xf⟩
theorem g_mk0 {E : XK} : G (tXmk C 0 0 (spI0 C) E (fun us _ => us) tNil tNil) σ H (XN C) := ⟨fun H1 e _ q =>
  ⟨rfl, rfl, by decide, fun a ha => ⟨a, rfl, upd_same, rfl, q _ _ (same_new ha) ⟨a, rfl, upd_same⟩⟩⟩, mn_xn⟩
theorem g_fld (T : XC K C B newId initId bmB) (hn : PySem.W.findIn K (.ref C) f = some none) (h : G te σ H (XF C f y)) : G (tXfld K f te) σ H (Is y) := ⟨fun H1 e _ q =>
  h.ev H1 e _ fun x H2 s2 px => by
    obtain ⟨a, dx, rfl, h1, h2⟩ := px
    exact ⟨a, C, dx, [(f, y)], y, B, newId, initId, bmB, rfl, h1, h2, T, hn, by simp [List.lookup], q _ _ s2 rfl⟩, mn_i⟩
/-- isinstance(e, c), c a class or a type -/
theorem g_xis {a : Addr} {c : V} {cv : Value} {b : Bool} {i : Nat} (h : σ[i]? = some (some (.ref a))) (hx : XAt H a C) (T : XC K C B newId initId bmB) (hc : ∀ u, RelV c u → u = cv) (hk : PySem.W.kitOne K (.ref C) cv = some b) :
    G (tCB (rXis K) (tCons (tVar i) (tCons (tC c) tNil))) σ H (Is (.bl b)) := ⟨fun H1 e Q q => ⟨_, h, a, C, c, B, newId, initId, bmB, b, rfl, by
      rcases hx with hx | ⟨dx, fs, h1, h2⟩
      · exact .inl (e _ _ hx)
      · exact .inr ⟨dx, fs, e _ _ h1, e _ _ h2⟩, T, .inl ⟨cv, hc, hk⟩, q _ H1 (Same.refl H1) rfl⟩, mn_i⟩
theorem mv_xat (a : Addr) (H H' : Hp) (s : Same H H') (h : XAt H a C) : XAt H' a C := by
  rcases h with h | ⟨dx, fs, h1, h2⟩
  · exact .inl (s _ _ h)
  · exact .inr ⟨dx, fs, s _ _ h1, s _ _ h2⟩
theorem pe_globR {X : Cx} {x : Str} {a : Addr} {pos : Pos} (hg : Gl X x) (hm : X.mg x = some (.ref a)) (hd : (x == ("__debug__" : Str)) = false := by decide) : PE X (.Name x pos) (tC (.ref a)) := pe_glob hg hm rfl hd
theorem pe_bltnT {X : Cx} {x : Str} {n : String} {pos : Pos} (hg : Gl X x) (hm : X.mg x = none) (hv : bootBuiltins x = some (.type n)) (hn : x ≠ "__name__" := by decide) (hd : (x == ("__debug__" : Str)) = false := by decide) : PE X (.Name x pos) (tC (.ty n)) := pe_bltn (v := .ty n) hg hm hv rfl hn hd
theorem ref_cls {a : Addr} : ∀ u, RelV (.ref a) u → u = .ref a := fun _ h => h
theorem ty_cls {n : String} : ∀ u, RelV (.ty n) u → u = .type n := fun _ h => h
end
end WLf

set_option Elab.async false
set_option linter.all false
set_option maxRecDepth 100000
set_option maxHeartbeats 2000000
/-! calls by a mapping behind two stars: C(e, .., *xs, **d) -/
namespace WSt
open PySem PySem.Spec PyProof.Rows L2 StX
section
variable {prog : Program} {w : World} {K : Type} [DecidableEq K] {knd : KeyKind prog w K} {A : Around} {E : Value → Shared → Prop} {s : Shared}
theorem find_new {d : Addr} {vs : List (K × Value)} {k : K} {key : Value} {Q : Option Nat → Shared → Prop} (hm : s.heap.DictOf knd d vs) (hkey : knd.is k key = true) (hn : k ∉ vs.map (·.1)) (h : Q none s) : wpAny (model prog w) A (dictFind d key (knd.hash k)) Q E s := by
  obtain ⟨o, es, ep, ho, hc, hd, hk, hp, _⟩ := hm
  refine wpAny_dictFind_of hkey ho hd hk ?_
  have e1 : (es.findIdx? fun e => knd.is k e.key) = vs.findIdx? fun kv => decide (kv.1 = k) := by
    rw [← hp.findIdx k]
    obtain ⟨l⟩ := es
    simp
  have e2 : (vs.findIdx? fun kv => decide (kv.1 = k)) = none := by
    rw [List.findIdx?_eq_none_iff]
    intro x hx
    exact decide_eq_false fun e => hn (List.mem_map.mpr ⟨x, hx, e⟩)
  rw [e1, e2]
  exact h
theorem put_new {d : Addr} {vs : List (K × Value)} {k : K} {key v : Value} {Q : Unit → Shared → Prop} (hm : s.heap.DictOf knd d vs) (hkey : knd.is k key = true) (hn : k ∉ vs.map (·.1)) (hz : vs.length ≤ sizeLine)
    (h : ∀ h', h'.DictOf knd d (vs ++ [(k, v)]) → Heap.SameBut d s.heap h' → Q () { s with heap := h' }) : wpAny (model prog w) A (dictPut d (knd.hash k) key v) Q E s := by
  obtain ⟨o, es, ep, ho, hc, hd, hk, hp, hnd⟩ := id hm
  have hes : es.size ≤ sizeLine := by
    have e1 := hp.length
    have e2 : es.toList.length = es.size := by simp
    omega
  unfold dictPut
  refine wpAny_bind (find_new hm hkey hn ?_)
  dsimp only
  refine wpAny_updateDictKeys (hz := hes) ho hd (h _ ⟨_, _, ep + 1, Heap.get?_update_self _ ho (Obj.isFreed_of_dict (Obj.data_mapDictKeys hd _)), hc.mapDictKeys _, Obj.data_mapDictKeys hd _, hk.push hkey _, ?_, ?_⟩ (Heap.SameBut.update ..))
  · have := hp.append hkey (knd.hash k) v
    obtain ⟨l⟩ := es
    simpa using this
  · rw [List.map_append, List.nodup_append]
    refine ⟨hnd, by simp, ?_⟩
    intro a ha b hb
    simp only [List.map_cons, List.map_nil, List.mem_singleton] at hb
    subst hb
    exact fun e => hn (e ▸ ha)
end
def StrK (kvs : List (Key × V)) : Prop := ∀ kv ∈ kvs, ∃ z : Str, kv.1 = Sum.inr z
section
variable {X : Cx} {pins : List (Addr × Obj)} {σ : L2.St} {H : Hp} {s : Shared} {A : Around} {E : Value → Shared → Prop} {a d : Addr} {kvs : List (Key × V)}
theorem merge_run {Q : Unit → Shared → Prop} (I : Inv X pins σ H s) (ha : H a = some (.dK kvs)) (hd : H d = some (.dK [])) (hne : a ≠ d) (hs : StrK kvs) (h : ∀ s', Inv X pins σ (upd H d (.dK kvs)) s' → Q () s') :
    wpAny (model X.prog X.w) A (mergeMapping d (.ref a) true) Q E s := by
  obtain ⟨z, hsy, vs, rel, dd⟩ := dk_of I.hok ha
  obtain ⟨_, _, vd, rd, ddd⟩ := dk_of I.hok hd
  cases rd
  unfold mergeMapping
  refine wpAny_bind (wpAny_isInstance dd.typeIs PySem.F.sub_dict_dict ?_)
  rw [if_pos rfl]
  refine wpAny_bind (wpAny_specialOf dd.typeIs PySem.F.slot_dict_iter.lookup ?_)
  refine wpAny_bind (wpAny_pure ?_)
  show wpAny _ _ (if (a == sysModules) = true then _ else _) _ _ _
  rw [if_neg (by rw [hsy]; exact Bool.false_ne_true)]
  obtain ⟨od, esd, epd, hod, hcd, hdd, hkd, hpd, _⟩ := id ddd
  obtain ⟨oa, esa, epa, hoa, hca, hda, hka, hpa, hna⟩ := id dd
  refine wpAny_bind (wpAny_dictEntries hod hdd ?_)
  have hed : esd.isEmpty = true := by
    have := hpd.length
    simpa [Array.isEmpty] using this
  rw [if_pos hed]
  refine wpAny_bind (wpAny_dictEntries hoa hda ?_)
  refine wpAny_bind ?_
  refine MeetsSeq2.wpAny_forIn_array _ (fun rest _ s' => s' = s ∧ ∀ e ∈ rest, e ∈ esa) _ ?_ ?_ esa _ ⟨rfl, fun e he => by simpa using he⟩
  · rintro e rest b s' ⟨rfl, hr⟩
    obtain ⟨k, hk, _⟩ := hka e (hr e List.mem_cons_self)
    rcases keyIs_shape hk with ⟨i, t, _, ek⟩ | ⟨x, t, _, ek⟩
    · rw [ek]
      exact wpAny_pure ⟨rfl, fun e he => hr e (List.mem_cons_of_mem _ he)⟩
    · rw [ek]
      exact wpAny_pure ⟨rfl, fun e he => hr e (List.mem_cons_of_mem _ he)⟩
  · rintro b s' ⟨rfl, _⟩
    refine wpAny_bind (wpAny_dictEntries hoa hda ?_)
    refine wpAny_bind (wpAny_dictEpoch hoa hda ?_)
    have hsz : esa.size = kvs.length := by
      rw [rel.length, ← hpa.length]
      simp
    have hkv := rel.keys
    refine wpAny_bind (wpAny_forIn_list _ (fun rest _ s2 => ∃ i, rest = List.range' i (esa.size - i) ∧ i ≤ esa.size ∧ s2.heap.get? a = some oa ∧ Inv X pins σ (upd H d (.dK (kvs.take i))) s2) _ ?_ ?_ _ _ ⟨0, by rw [List.range_eq_range', Nat.sub_zero], Nat.zero_le _, hoa, ?_⟩)
    · rintro i rest b s2 ⟨j, hr, hj, ho2, I2⟩
      have hlt : j < esa.size := by
        rcases Nat.lt_or_ge j esa.size with q | q
        · exact q
        · rw [show esa.size - j = 0 by omega] at hr
          cases hr
      rw [show esa.size - j = (esa.size - (j + 1)) + 1 by omega, List.range'_succ] at hr
      obtain ⟨rfl, rfl⟩ := List.cons.inj hr
      refine wpAny_bind (wpAny_dictEntries ho2 hda ?_)
      have hltv : i < vs.length := by rw [← hpa.length]; simpa using hlt
      obtain ⟨hk, hv⟩ := hpa.get? (i := i) (e := esa[i]) (k := (vs[i]).1) (v := (vs[i]).2) (by simp) (by simp [hltv])
      rw [Array.getElem?_eq_getElem hlt]
      dsimp only
      have hltk : i < kvs.length := by rw [rel.length]; exact hltv
      have ek : kvs[i].1 = vs[i].1 := by
        have : (kvs.map (·.1))[i]? = (vs.map (·.1))[i]? := by rw [hkv]
        simpa [hltk, hltv] using this
      obtain ⟨x, hx, rx⟩ := KV.at' rel (i := i) (k := (vs[i]).1) (v := (vs[i]).2) (by simp [hltv])
      have ex : kvs[i] = (vs[i].1, x) := by
        rw [List.getElem?_eq_getElem hltk] at hx
        exact Option.some.inj hx
      obtain ⟨k', hk', hh⟩ := hka esa[i] (Array.getElem_mem hlt)
      obtain rfl : k' = vs[i].1 := (mixKind X.prog X.w).inj _ _ _ hk' hk
      obtain ⟨zd, hsd, vd, rd, dd2⟩ := dk_of I2.hok (upd_same (a := d))
      have hnot : vs[i].1 ∉ vd.map (·.1) := by
        rw [← rd.keys, List.map_take, hkv]
        intro hm
        obtain ⟨j, hj1, hj2⟩ := List.mem_iff_getElem.mp hm
        rw [List.length_take, List.length_map] at hj1
        rw [List.getElem_take, List.getElem_map] at hj2
        have := List.pairwise_iff_getElem.mp hna j i (by rw [List.length_map]; omega) (by rw [List.length_map]; exact hltv) (by omega)
        rw [List.getElem_map, List.getElem_map] at this
        exact this hj2
      have hzd : vd.length ≤ sizeLine := by rw [← rd.length]; exact zd
      rw [hh]
      refine wpAny_bind (wpAny_holding ?_)
      rw [if_pos rfl]
      refine wpAny_bind (find_new dd2 hk hnot ?_)
      rw [if_neg (by simp)]
      refine put_new dd2 hk hnot hzd fun h' dd3 hsb => ?_
      have ho3 : h'.get? a = some oa := (hsb.2 a hne).trans ho2
      have et : kvs.take (i + 1) = kvs.take i ++ [(vs[i].1, x)] := by rw [List.take_succ, List.getElem?_eq_getElem hltk, ex]; rfl
      have he : ∃ q, h'.get? d = some q := let ⟨q, _, _, hq, _⟩ := dd3; ⟨q, hq⟩
      have I3 : Inv X pins σ (upd H d (.dK (kvs.take (i + 1)))) { s2 with heap := h' } := by
        rw [← upd_upd (o := .dK (kvs.take i))]
        refine d_write (t' := s2.toks) I2 (by rw [upd_same]; exact True.intro) hsb he (dk_new (by rw [List.length_take]; omega) hsd ?_ dd3)
        rw [et, hv]
        exact Paired.snoc rd ⟨rfl, rx⟩
      refine wpAny_bind (wpAny_dictEpoch ho3 hda ?_)
      rw [if_neg (by simp)]
      exact wpAny_pure ⟨i + 1, rfl, hlt, ho3, I3⟩
    · rintro b s2 ⟨j, hr, hj, ho2, I2⟩
      have e : j = esa.size := by
        rcases Nat.lt_or_ge j esa.size with q | q
        · rw [show esa.size - j = (esa.size - (j + 1)) + 1 by omega, List.range'_succ] at hr
          cases hr
        · omega
      subst e
      rw [hsz, List.take_length] at I2
      exact wpAny_pure (h _ I2)
    · rw [List.take_zero, show upd H d (.dK []) = H from by
        funext b
        unfold upd
        split
        · rename_i q
          rw [q]
          exact hd.symm
        · rfl]
      exact I
theorem kv_vals : ∀ {kvs : List (Key × V)} {vs : List (Key × Value)}, KV kvs vs → Vals (kvs.map (·.2)) (vs.map (·.2))
  | _, _, .nil => .nil
  | _, _, .cons r t => .cons r.2 (kv_vals t)
theorem kwin_run {f : Value} {zs : List Str} {Q : List (Str × Value) → Shared → Prop} (I : Inv X pins σ H s) (hd : H d = some (.dK kvs)) (hz : kvs.map (·.1) = zs.map Sum.inr) (h : ∀ ws, Vals (kvs.map (·.2)) ws → Q (zs.zip ws) s) :
    wpAny (model X.prog X.w) A (keywordsIn f d) Q E s := by
  obtain ⟨z, hsy, vs, rel, dd⟩ := dk_of I.hok hd
  obtain ⟨o, es, ep, ho, hc, hda, hk, hp, hn⟩ := dd
  have hkv := rel.keys
  have hl : es.toList.length = vs.length := hp.length
  have hlz : vs.length = zs.length := by
    have := congrArg List.length (hkv.symm.trans hz)
    simpa using this
  have hv : Vals (kvs.map (·.2)) (vs.map (·.2)) := by
    exact kv_vals rel
  unfold keywordsIn
  refine wpAny_bind (wpAny_dictEntries ho hda ?_)
  refine wpAny_bind (MeetsSeq2.wpAny_forIn_array _ (fun rest b s' => s' = s ∧ ∃ i, rest = es.toList.drop i ∧ i ≤ es.toList.length ∧ b = (zs.zip (vs.map (·.2))).take i) _ ?_ ?_ es _ ⟨rfl, 0, by simp, by simp, by simp⟩)
  · rintro e rest b s' ⟨rfl, i, hr, hi, hb⟩
    have hlt : i < es.toList.length := by
      rcases Nat.lt_or_ge i es.toList.length with q | q
      · exact q
      · rw [List.drop_eq_nil_of_le q] at hr
        cases hr
    rw [List.drop_eq_getElem_cons hlt] at hr
    obtain ⟨rfl, rfl⟩ := List.cons.inj hr
    have hltv : i < vs.length := by omega
    have hltz : i < zs.length := by omega
    obtain ⟨hk1, hv1⟩ := hp.get? (i := i) (e := es.toList[i]) (k := (vs[i]).1) (v := (vs[i]).2) (by simp [hlt]) (by simp [hltv])
    have ek : vs[i].1 = Sum.inr zs[i] := by
      have : (vs.map (·.1))[i]? = (zs.map (Sum.inr : Str → Key))[i]? := by rw [← hkv, hz]
      simpa [hltv, hltz] using this
    rw [ek] at hk1
    rcases keyIs_shape (k := Sum.inr zs[i]) hk1 with ⟨j, t, q, _⟩ | ⟨x, t, q, ex⟩
    · exact nomatch q
    · have q' := Sum.inr.inj q
      rw [ex, ← q']
      refine wpAny_pure ⟨rfl, i + 1, rfl, hlt, ?_⟩
      rw [List.take_succ, hb, hv1]
      congr 1
      have hz1 : i < (zs.zip (vs.map (·.2))).length := by rw [List.length_zip, List.length_map]; omega
      rw [List.getElem?_eq_getElem hz1]
      simp
  · rintro b s' ⟨rfl, i, hr, hi, hb⟩
    have e : i = es.toList.length := by
      rcases Nat.lt_or_ge i es.toList.length with q | q
      · rw [List.drop_eq_getElem_cons q] at hr
        cases hr
      · omega
    subst e
    rw [List.take_of_length_le (by rw [List.length_zip, List.length_map]; omega)] at hb
    rw [hb]
    exact wpAny_pure (h _ hv)
/-- the dict of the keywords: a new one -/
theorem merged_run {f : Value} {x : Sem Value} {Q : Addr → Shared → Prop} (I : Inv X pins σ H s)
    (h : ∀ d, H d = none → ∀ s', Inv X pins σ (upd H d (.dK [])) s' → wpAny (model X.prog X.w) A x (fun v s1 => ∃ a H1 kvs, v = .ref a ∧ Inv X pins σ H1 s1 ∧ H1 a = some (.dK kvs) ∧ H1 d = some (.dK []) ∧ a ≠ d ∧ StrK kvs ∧ ∀ s2, Inv X pins σ (upd H1 d (.dK kvs)) s2 → Q d s2) E s') :
    wpAny (model X.prog X.w) A (mergedKeywords f [(none, x)]) Q E s := by
  unfold mergedKeywords
  refine wpAny_bind (wpAny_alloc ?_)
  have I1 := I.laid (a := s.heap.objs.size) (o := .dK []) (t' := s.toks) (fun _ _ q => Heap.get?_push_of_some _ q) (Nat.le_refl _) (dk_empty s.heap I.big)
  refine wpAny_bind (wpAny_holding ?_)
  refine wpAny_bind ?_
  rw [List.forIn_cons]
  refine wpAny_bind (wpAny_bind (wpAny_pure ?_))
  refine wpAny_bind (wpAny_mono (h _ (I.hok.fresh (Nat.le_refl _)) _ I1) (fun v s1 hv => ?_) fun _ _ q => q)
  obtain ⟨a, H1, kvs, rfl, I2, ha, hd, hne, hs, k⟩ := hv
  refine wpAny_bind (wpAny_onRaise (wpAny_holding (wpAny_tryCatch (wpAny_onRaise (merge_run I2 ha hd hne hs fun s2 I3 => ?_)))))
  refine wpAny_pure ?_
  dsimp only
  rw [List.forIn_nil]
  exact wpAny_pure (wpAny_pure (wpAny_pure (k s2 I3)))
end
section
variable {M : Model} {A : Around} {E : Value → Shared → Prop} {s : Shared} {K : PySem.W.Frag} {pos : Pos} {f : Value} {first : List Value} {a0 x : Sem Value} {rest : List (Bool × Sem Value)}
theorem evalArgs_ss {Q : Args → Shared → Prop} (h : wpAny M A (spliced ((false, a0) :: rest)) (fun us s1 => wpAny M A (mergedKeywords f [(none, x)]) (fun d s2 => wpAny M A (keywordsIn f d) (fun kw s3 => Q ⟨us, kw⟩ s3) E s2) E s1) E s) :
    wpAny M A (evalArgs f true ((false, a0) :: rest) [(none, x)]) Q E s := by
  unfold evalArgs
  refine wpAny_bind (wpAny_mono h (fun us s1 h1 => wpAny_bind (wpAny_pure ?_)) fun _ _ q => q)
  refine wpAny_holding ?_
  rw [if_neg (by simp)]
  refine wpAny_bind (wpAny_mono h1 (fun d s2 h2 => ?_) fun _ _ q => q)
  refine wpAny_bind (wpAny_pure ?_)
  refine wpAny_bind (wpAny_holding (wpAny_mono h2 (fun kw s3 h3 => wpAny_pure h3) fun _ _ q => q))
theorem callWith_ss {Q : Value → Shared → Prop} (hk : PySem.W.keepIn K f = true) (h : wpAny M A (evalArgs f true ((false, a0) :: rest) [(none, x)]) (fun a s1 => K.In s1.heap ∧ wpAny M A (call f (first ++ a.pos) a.kw) Q E s1) E s) :
    wpAny M A (callWith pos f first ((false, a0) :: rest) [(none, x)]) Q E s := by
  unfold callWith
  refine wpAny_bind (wpAny_holding (wpAny_mono h (fun a s1 h1 => wpAny_bind (wpAny_standAt ?_)) fun _ _ q => q))
  obtain ⟨k, hk', L⟩ := PySem.W.keeps_K (M := M) hk _ h1.1
  refine wpAny_bind (L.here ?_)
  have tail : ∀ {t : Sem Value}, wpAny M A t Q E s1 → wpAny M A (t >>= fun r => holding [r] point >>= fun _ => pure r) Q E s1 :=
    fun ht => wpAny_bind (wpAny_mono ht (fun r s2 hr => wpAny_bind (wpAny_holding (wpAny_point (wpAny_pure hr)))) fun _ _ q => q)
  have marked (mk : Value) : wpAny M A (callMarked mk f (first ++ a.pos) a.kw) Q E s1 := by
    unfold callMarked
    exact Calls.wpAny_keep h1.2
  have hst : (((false, a0) :: rest).any (·.1) || [((none : Option Str), x)].any (·.1.isNone)) = true := by simp
  simp only [hst]
  rcases hk' with rfl | rfl | rfl <;> dsimp only <;> first | exact tail (marked _) | exact tail (wpAny_operating h1.2)
end
/-! ### an __init__ called with keywords -/
abbrev SpK := List V → List V → Hp → VK → XK → Prop
def FnK (P : Program) (w : World) (K : PySem.W.Frag) (mg : Str → Option Value) (base : Heap) (CX : CXT) (k : Nat) (f : Addr) (ks : List Str) (sp : SpK) : Prop :=
  ∀ (A : Around) (outer : List Env) (s : Shared) (H : Hp) (us ws : List Value) (vs zs : List V) (Q : VK) (E : XK), Room k A → Env0 P w K mg base A outer s H → Vals vs us → Vals zs ws → zs.length = ks.length → sp vs zs H Q E →
    codeAny (model P w) A (.call (.ref f) ⟨us, ks.zip ws⟩) (CR CX outer P w H s Q E) s
section
variable {CX : CXT} {P : Program} {w : World} {K : PySem.W.Frag} {mg : Str → Option Value} {base : Heap} {k n : Nat} {f : Addr} {name qual : Str} {params : Arguments} {body : List Stmt} {scope : Scope} {dV kV doc pm cdv ct oc : Value} {an od : Option Addr}
  {osl : Array (Option Value)} {N ps ks : List Str} {sp : Sp} {fd : FuncData} {g : List Value → List Value → List Value} {gV : List V → List V → List V}
theorem FnK.of_ok (F : FnOk P w K mg base CX k f fd ps sp) (hb : KBn K fd ps n ks g gV) (X : ∀ {A outer s H}, Env0 P w K mg base A outer s H → K.In s.heap) : FnK P w K mg base CX k f ks (fun vs zs H Q E => vs.length = n ∧ sp (gV vs zs) H Q E) := by
  intro A outer s H us ws vs zs Q E hr e0 r rz hl h
  exact F.run A outer s H ⟨us, ks.zip ws⟩ _ _ Q E hr e0 (hb.to s us ws (X e0) (r.length.symm.trans h.1) (rz.length.symm.trans hl)) (hb.rel r rz) h.2
/-- def f(a, .., *v, k = .., ..) with all keywords given -/
theorem fn_starK {pv : Str} (lk : K.lookup f = some ⟨oc, od, .func (PySem.W.fnOf name qual params body scope dV kV doc pm an cdv ct), osl⟩) (hcd : PySem.W.codeIn K cdv qual = true) (S : FnScope N (ps ++ ks ++ [pv]) scope) (hCX : CXUp CX)
    (hb : ∀ us rest ws : List Value, us.length = ps.length → ws.length = ks.length → bindArgs (PySem.W.fnOf name qual params body scope dV kV doc pm an cdv ct) ⟨us ++ rest, ks.zip ws⟩ = (newTuple rest >>= fun t => pure ((ps ++ ks).zip (us ++ ws) ++ [(pv, t)])))
    (hbody : ∀ (A : Around) (outer : List Env) (s : Shared) (H : Hp) (vs : List V) (Q : VK) (E : XK), Room k (A.deeper (envOfC qual scope s.heap.objs.size f cdv)) → sp vs H Q E →
      ∃ t, PSs (cxOf CX P w K mg base N qual scope f cdv A outer s H E) body t ∧ t { nx := fun _ H' => Q .non H', rt := Q } (start N vs) H) :
    FnK P w K mg base CX (k + 1) f ks (fun vs zs H Q E => ∃ as rest, vs = as ++ rest ∧ as.length = ps.length ∧ rest.length ≤ sizeLine ∧ ∀ p, H p = Option.none → sp (as ++ zs ++ [V.ref p]) (upd H p (.tup rest)) Q E) := by
  intro A outer s H us ws vs zs Q E hr e0 r rz hlz hsp
  obtain ⟨as, rest, rfl, hl, hz, hq⟩ := hsp
  obtain ⟨u1, u2, rfl, r1, r2⟩ := vals_split r
  have hn : H s.heap.objs.size = Option.none := e0.hok.fresh (Nat.le_refl _)
  have hl1 : u1.length = ps.length := by rw [← r1.length]; exact hl
  have hl2 : u2.length ≤ sizeLine := by rw [← r2.length]; exact hz
  have hl3 : ws.length = ks.length := by rw [← rz.length]; exact hlz
  refine run_bnd (ps := ps ++ ks ++ [pv]) lk hcd S hr e0 (G := fun xs H2 => ∃ p, H p = Option.none ∧ xs = as ++ zs ++ [V.ref p] ∧ H2 = upd H p (.tup rest)) (fun A' Ex Q' h => ?_) fun s2 H2 xs ⟨p, hp, ex, eH⟩ hr' => ?_
  · rw [hb u1 u2 ws hl1 hl3]
    refine wpAny_bind (wpAny_newTuple (wpAny_pure ?_) hl2)
    have new : ObjOk P w (upd H s.heap.objs.size (.tup rest)) (s.heap.push ({ cls := .type "tuple", data := .seq u2.toArray } : Obj)) s.heap.objs.size (.tup rest) := ⟨hz, u2, r2, ⟨_, Heap.get?_push_size _ rfl, rfl, _, rfl⟩⟩
    have un := un_laid (fs := frs outer) (s := s) (o := ({ cls := .type "tuple", data := .seq u2.toArray } : Obj)) (u := .tup rest) hn
    have z := h _ _ (as ++ zs ++ [V.ref s.heap.objs.size]) (u1 ++ ws ++ [Value.ref s.heap.objs.size]) (env0_laid e0 new) un rfl (fun e s' => hCX outer s H _ _ E e s' un (fun b o q => Heap.get?_push_of_some _ q) rfl) ((r1.append rz).append (.cons rfl .nil))
      (by simp only [List.length_append, List.length_cons, List.length_nil, hl, hlz]) ⟨_, hn, rfl, rfl⟩
    rw [List.zip_append (by rw [List.length_append, List.length_append, hl1, hl3])] at z
    exact z
  · subst ex eH
    exact hbody A outer s2 _ _ Q E hr' (hq p hp)
end
section
variable {X : Cx} {CX : CXT} {k : Nat} {f C : Addr} {ks : List Str} {sp : SpK} {E : XK} {x : Str} {p pos : Pos} {e em : Expr} {es : List Expr} {kws : List Keyword} {t tk : TA} {tm : TE}
theorem run_makeF {pins : List (Addr × Obj)} {σ : L2.St} {H : Hp} {s : Shared} {Q : VK} {us ws : List Value} {vs zs : List V} (M : Mk X.K C f) (F : FnK X.prog X.w X.K X.mg X.base CX k f ks sp) (hr : Room (k + 1) X.A) (hx : Passes CX X E)
    (I : Inv X pins σ H s) (r : Vals vs us) (rz : Vals zs ws) (l2 : zs.length = ks.length)
    (h : ∀ x dx, H x = none → H dx = none → dx ≠ x → sp (.ref x :: vs) zs (upd (upd H dx (.own x)) x (.ins C dx [])) (fun v H2 => v = .non ∧ Q (.ref x) H2) E) :
    wpAny (model X.prog X.w) X.A (call (.ref C) us (ks.zip ws)) (EP X pins σ Q) X.xe s := by
  have hq := h (s.heap.objs.size + 1) s.heap.objs.size (I.hok.fresh (Nat.le_succ _)) (I.hok.fresh (Nat.le_refl _)) (Nat.ne_of_lt (Nat.lt_succ_self _))
  have I2 := Inv.made (C := C) I
  have r1 : Vals (V.ref (s.heap.objs.size + 1) :: vs) (Value.ref (s.heap.objs.size + 1) :: us) := .cons rfl r
  refine wpAny_call (make_map (f := f) I.kIn M.makes M.init (beq_iff_eq.mp M.fn) (codeAny_mono (F _ X.stack _ _ (Value.ref (s.heap.objs.size + 1) :: us) ws _ zs _ E (hr.make C us (ks.zip ws)) (I2.env0.make C us (ks.zip ws)) r1 rz l2 hq) fun r s' hq' => ?_))
  cases r with
  | error e => exact hx pins σ _ _ e s' I2 hq'
  | ok fl =>
    cases fl with
    | ret u =>
      obtain ⟨v, H', I3, rv, ev, q3⟩ := I2.after hq'
      subst ev
      exact ⟨rv, ⟨V.ref (s.heap.objs.size + 1), H', I3, rfl, q3⟩⟩
    | next => exact False.elim hq'
    | brk => exact False.elim hq'
    | cont => exact False.elim hq'
/-- C(e, .., **d) -/
def tMkSS (C : Addr) (ks : List Str) (sp : SpK) (E : XK) (t : TA) (tm : TE) : TE := fun σ H Q => t σ H fun vs H1 => ∀ d, H1 d = none → tm σ (upd H1 d (.dK [])) fun y H2 => ∃ a kvs, y = .ref a ∧ H2 a = some (.dK kvs) ∧ H2 d = some (.dK []) ∧ a ≠ d ∧ kvs.map (·.1) = ks.map Sum.inr ∧
  ∀ x dx, upd H2 d (.dK kvs) x = none → upd H2 d (.dK kvs) dx = none → dx ≠ x → sp (.ref x :: vs) (kvs.map (·.2)) (upd (upd (upd H2 d (.dK kvs)) dx (.own x)) x (.ins C dx [])) (fun v H3 => v = .non ∧ Q (.ref x) H3) E
theorem pe_mkSS (M : Mk X.K C f) (F : FnK X.prog X.w X.K X.mg X.base CX k f ks sp) (hr : Room (k + 1) X.A) (hg : Gl X x) (hm : X.mg x = some (.ref C)) (hx : Passes CX X E) (ha : PA X (e :: es) t) (he : PE X em tm)
    (hkw : keywordEach kws X.env = [(none, eval em X.env)] := by rfl) (hdb : (x == ("__debug__" : Str)) = false := by decide) (hst : starEach (e :: es) X.env = (false, eval e X.env) :: starEach es X.env := by rfl) :
    PE X (.Call (.Name x p) (e :: es) kws pos) (tMkSS C ks sp E t tm) := by
  refine ⟨fun pins s σ H Q I h => ?_⟩
  refine wpAny_Call_Name_kw (ld_glob I hg hm ?_ hdb)
  rw [hkw, hst]
  have ha' := ha.run pos pins s σ H _ I h
  rw [hst] at ha'
  refine callWith_ss M.kp (evalArgs_ss (thn ha' fun us s1 hv => ?_))
  obtain ⟨vs, H1, I1, r, q⟩ := hv
  refine merged_run I1 fun d hd s2 I2 => ?_
  refine wpAny_bind (thn (he.run pins s2 σ _ _ I2 (q d hd)) fun v s3 ⟨y, H2, I3, ry, a, kvs, ey, h1, h2, hne, hks, q2⟩ => wpAny_bind (wpAny_standAt (wpAny_pure ?_)))
  subst ey
  refine ⟨a, H2, kvs, ry, I3, h1, h2, hne, fun kv hkv => ?_, fun s4 I4 => ?_⟩
  · have : kv.1 ∈ kvs.map (·.1) := List.mem_map.mpr ⟨kv, hkv, rfl⟩
    rw [hks] at this
    obtain ⟨z, _, ez⟩ := List.mem_map.mp this
    exact ⟨z, ez.symm⟩
  · refine kwin_run I4 upd_same hks fun ws rw_ => ⟨I4.kIn, ?_⟩
    exact run_makeF M F hr hx I4 r rw_ (by rw [List.length_map]; have := congrArg List.length hks; simpa using this) q2
end
end WSt

set_option Elab.async false
set_option linter.all false
set_option maxRecDepth 100000
set_option maxHeartbeats 2000000
/-! name = {k: v for ..}; C(.., k=..) by a promise of keywords -/
namespace WDc
open PySem PySem.Spec PyProof.Rows L2 StX WSt
section
variable {X : Cx}
theorem ps_setDc {i : Nat} {y : Str} {py : Pos} {kx vx tg iter : Expr} {ifs : List Expr} {scope : Scope} {own : List (Str × Nat)} {pos spos : Pos} {wi : TI} {g : TG} {tt : TT} {tk tv : TE} (hc : X.calm = true) (hN : X.N.Nodup) (hy : X.N[i]? = some y) (hyl : X.env.scope.names.lookup y = some .local)
    (hsw : swapsWith (.DictComp kx vx [⟨tg, iter, ifs, 0⟩] scope pos) (some (.Name y py)) spos.line X.env = pure true) (hi : PI X tg iter wi) (ok : BlkOk X.N X.env.scope scope own)
    (hg : ∀ (s : Shared) (H : Hp) (C : Addr) (cl : List (Str × Addr)) (fp : List Addr), PG (X.blk s H scope (compEnvC scope cl C X.env) fp) tg g) (ht : ∀ (s : Shared) (H : Hp) (C : Addr) (cl : List (Str × Addr)) (fp : List Addr), PTs (X.blk s H scope (compEnvC scope cl C X.env) fp) ifs tt)
    (hk : ∀ (s : Shared) (H : Hp) (C : Addr) (cl : List (Str × Addr)) (fp : List Addr), PE (X.blk s H scope (compEnvC scope cl C X.env) fp) kx tk)
    (he : ∀ (s : Shared) (H : Hp) (C : Addr) (cl : List (Str × Addr)) (fp : List Addr), PE (X.blk s H scope (compEnvC scope cl C X.env) fp) vx tv) (hs : ∀ x, foldedSetIterable iter X.env x = pure x := by intro _; rfl) :
    PS X (.Assign [.Name y py] (.DictComp kx vx [⟨tg, iter, ifs, 0⟩] scope pos) spos) (tAsg (tDc wi g tt tk tv (own.map (·.2))) (gName i)) := by
  refine ⟨fun pins s σ H D I h => ?_⟩
  rw [exec_Assign_Name_used _ _ _ _ hsw]
  refine wpAny_bind (wpAny_standAt (wpAny_bind ?_))
  show wpAny _ X.A (do let _ ← comprehension (.DictComp kx vx [⟨tg, iter, ifs, 0⟩] scope pos) scope X.env (firstIterPos [⟨tg, iter, ifs, 0⟩] pos) newDict false (eval iter X.env) (some (assign (.Name y py) X.env))) _ _ s
  have h : tDc wi g tt tk tv (own.map (·.2)) σ H (fun x H1 => gName i x σ H1 D.nx) := h
  refine wpAny_bind (thn (dc_core (Qf := fun _ s' => SP X pins D .next s') hc hN I hi ok hg ht hk he hs h fun L C s' m H' I' q hn f => ?_) fun _ s' hq => wpAny_pure (wpAny_pure hq))
  show wpAny _ _ (assign (.Name y py) X.env (.ref L)) _ _ _
  refine wpAny_assign_Name (store_ok2 (v := V.ref L) I' hN hy (.inl hyl) rfl (fun s2 I2 ⟨a, sb, ha⟩ => ?_) (.inr hyl))
  obtain ⟨f0, f1, f2, f3, f4, f5⟩ := f
  have haC : C ≠ a := by
    rcases ha with z | z
    · rw [z]; exact f1
    · exact fun e => f4 y a z e.symm
  refine ⟨m, hn.sameBut sb haC, fun h3 sb3 => ?_⟩
  exact ⟨_, H', I2.turned (t' := s2.toks) (fun b o hb e => (sb3.2 b hb).trans e) f0 f1 f3 f4 f5, q⟩
theorem sw_trueD {kx vx : Expr} {gs : List Comprehension} {scope : Scope} {pos py : Pos} {y : Str} {l : Nat} {env : Env} (hk : env.scope.kind = .function) (hy : env.scope.names.lookup y = some .local) (hl : (py.line == pos.line) = true)
    (ha : (scope.names.any fun (n, k) => n == y && (k == .local || k == .cell)) = false) : swapsWith (.DictComp kx vx gs scope pos) (some (.Name y py)) l env = pure true := by
  have ky : env.kindOf y = some .local := hy
  have hb : env.blockKind = .function := by unfold Env.blockKind; rw [hk]; rfl
  unfold swapsWith
  simp only [hb, ky, ha, Expr.pos, hl]
  rfl
end
section
variable {X : Cx} {CX : CXT} {k : Nat} {f C : Addr} {ks : List Str} {sp : SpK} {E : XK} {x : Str} {p pos : Pos} {e : Expr} {es : List Expr} {kws : List Keyword} {t tk : TA}
/-- C(e, .., k=.., ..) -/
def tMkKF (C : Addr) (sp : SpK) (n : Nat) (E : XK) (t tk : TA) : TE := fun σ H Q => t σ H fun vs H1 => tk σ H1 fun zs H2 => zs.length = n ∧
  ∀ x dx, H2 x = none → H2 dx = none → dx ≠ x → sp (.ref x :: vs) zs (upd (upd H2 dx (.own x)) x (.ins C dx [])) (fun v H3 => v = .non ∧ Q (.ref x) H3) E
theorem pe_mkKF (M : Mk X.K C f) (F : FnK X.prog X.w X.K X.mg X.base CX k f ks sp) (hr : Room (k + 1) X.A) (hg : Gl X x) (hm : X.mg x = some (.ref C)) (hx : Passes CX X E) (ha : PA X (e :: es) t) (hkw : PK X kws tk)
    (hall : (backToKw pos (keywordEach kws X.env)).all (·.1.isSome) = true := by rfl) (hks : (backToKw pos (keywordEach kws X.env)).filterMap (·.1) = ks := by rfl) (hdb : (x == ("__debug__" : Str)) = false := by decide)
    (he : starEach (e :: es) X.env = (false, eval e X.env) :: starEach es X.env := by rfl) (hpl : ((backTo pos (starEach (e :: es) X.env)).any (·.1) || (backToKw pos (keywordEach kws X.env)).any (·.1.isNone)) = false := by rfl) :
    PE X (.Call (.Name x p) (e :: es) kws pos) (tMkKF C sp ks.length E t tk) := by
  refine ⟨fun pins s σ H Q I h => ?_⟩
  refine wpAny_Call_Name_kw (ld_glob I hg hm ?_ hdb)
  refine PySem.W.callWith_KW (h₀ := X.base) I.ok.mod.kin M.kp hall (thn (ha.run pos pins s σ H _ I h) fun us s1 ⟨vs, H1, I1, r, q⟩ => ?_) hpl he
  refine thn (hkw.run pos pins s1 σ H1 _ I1 q) fun ws s2 ⟨zs, H2, I2, rz, l2, q2⟩ => ⟨I2.kIn, ?_⟩
  rw [hks]
  exact run_makeF M F hr hx I2 r rz l2 q2
end
/-! readings that name the fragment, for blocks -/
theorem ixlK {X : Cx} {K : PySem.W.Frag} (h : X.K = K := by rfl) : IxR X (rIxL K) := h ▸ ix_list
theorem ixtK {X : Cx} {K : PySem.W.Frag} (h : X.K = K := by rfl) : IxR X (rIxT K) := h ▸ ix_tup
theorem isiK {X : Cx} {K : PySem.W.Frag} (h : X.K = K := by rfl) : CallR X (.builtin "isinstance") (rIsi K) := h ▸ call_isi
end WDc

set_option Elab.async false
set_option linter.all false
set_option maxRecDepth 100000
set_option maxHeartbeats 2000000
/-! raising own exceptions with their own __init__: the class's facts by a Bool; calls that may raise, in a try -/
namespace WXO
open PySem PySem.Spec PyProof.Rows L2 WXE WLf
def oexB (K : PySem.W.Frag) (C : Addr) : Bool := (match K.lookup C with
  | some ⟨.type "type", _, .cls cd, sl⟩ => (match cd.mro, sl.toList with
    | .ref C' :: bm, [_, _, _, _, some (.builtin n), _] => C' == C && n == "ValueError.__new__" && !cd.hasDel && cd.hasDict && PySem.HandSPX.refsVE bm
    | _, _ => false)
  | _ => false) && (decide (PySem.W.typeIn K (.ref C) = some (.type "type")))
theorem oexB_ok {K : PySem.W.Frag} {C : Addr} {B newId initId : String} {bmB : List Value} (T : XC K C B newId initId bmB) (h : oexB K C = true) : OexC K C := by
  obtain ⟨q, ty⟩ := He.ba h
  refine ⟨?_, T.sa, T.ex, of_decide_eq_true ty, T.kp⟩
  split at q
  · rename_i dd cd sl ho
    split at q
    · rename_i C' bm k0 k1 k2 k3 n k5 hm hs
      simp only [Bool.and_eq_true, beq_iff_eq, Bool.not_eq_true'] at q
      obtain ⟨⟨⟨⟨rfl, rfl⟩, hdel⟩, hdc⟩, ht⟩ := q
      obtain ⟨nm, bs, mro, ns, qn, hd, sn, sub, ab, col, del⟩ := cd
      dsimp only at hm hdel hdc
      subst hm hdel hdc
      have hsl : sl = #[k0, k1, k2, k3, some (.builtin "ValueError.__new__"), k5] := by
        obtain ⟨l⟩ := sl
        simp only at hs
        rw [hs]
      subst hsl
      exact ⟨nm, qn, ns, bs, bm, sn, sub, ab, col, dd, k0, k1, k2, k3, k5, ho, ht⟩
    · cases q
  · cases q
/-- a raised error of the class at C with its one field -/
def Err (H : Hp) (C : Addr) (f : Str) (y : V) (E : XK) : Prop := ∀ d H', Same H H' → H d = none → H' d = some (.xd [(f, y)]) → E (.ref C) (some d) H'
theorem Err.mono {H H' : Hp} {C : Addr} {f : Str} {y : V} {E : XK} (h : Err H C f y E) (s : Same H H') : Err H' C f y E := fun d H2 s2 hd hx => h d H2 (s.trans s2) (Same.free s hd) hx
/-- raise C(e): what follows -/
theorem raise_of {C : Addr} {f : Str} {y : V} {E : XK} {te : TE} {σ : L2.St} {H : Hp} {cls : Value → Option Addr → Hp → Prop} (h : WEv.EvP te σ H (Is y)) (k : Err H C f y cls) : tMkO C (spI1 C f) [] (tCons te tNil) σ H cls :=
  h H (Same.refl H) _ fun x H1 s1 e => by
    obtain rfl : x = y := e
    refine ⟨Nat.le_of_ble_eq_true rfl, fun a ha => ⟨a, x, rfl, upd_same, fun d hd hne => ⟨rfl, d, [(f, x)], upd_same, ?_, ?_, ?_⟩⟩⟩
    · rw [upd_ne hne]; exact upd_same
    · rwa [upd_ne hne] at hd
    · have h1 : H1 d = none := by rwa [upd_ne hne] at hd
      refine k d _ (fun b o hb => ?_) (Same.free s1 h1) upd_same
      have hb1 := s1 _ _ hb
      have ba : b ≠ a := ne_of_none hb1 ha
      have bd : b ≠ d := ne_of_none hb1 h1
      rw [upd_ne bd, del_ne ba, upd_ne ba, upd_ne bd, upd_ne ba]
      exact hb1
theorem takes_e {X : Cx} {E : XK} (hs : X.stack = X.env :: X.outer) (hf : X.env.frame = some X.env.locals) (hex : X.ex = []) {E₁ : Value → Shared → Prop}
    (hx : X.xe = fun e s' => wpAny (model X.prog X.w) X.A (leaving X.env e) (fun _ s'' => L2.CX X.prog X.w X.outer X.H_0 X.s_0 E e s'') E₁ s') : Passes (L2.CX X.prog X.w) X E :=
  passes_call (W := fun cls d _ H => E cls d H) (takes_of hs hf hex hx) fun _ _ _ _ h => h
/-! a kept error whose dict is L2's .xd -/
def KXt (H : Hp) (a C : Addr) (f : Str) (y : V) : Prop := ∃ dx, H a = some (WKp.exK a C (some dx)) ∧ H dx = some (.xd [(f, y)])
theorem xd_at {P : Program} {w : World} {H : Hp} {h : Heap} {dx : Addr} {fs : List (Str × V)} (hok : HOk P w H h) (he : H dx = some (.xd fs)) : ∃ mA, h.Ns1 dx mA ∧ ∀ f, RelO (fs.lookup f) (mA f) := hok dx _ he
theorem kx_inst {X : Cx} {pins : List (Addr × Obj)} {σ : L2.St} {H : Hp} {s : Shared} {a C : Addr} {f : Str} {y : V} (I : Inv X pins σ H s) (k : KXt H a C f y) :
    ∃ (ox od : Obj) (mA : Str → Option Value), PySem.W.InstAt s.heap a ox C (some od) ∧ (∀ g, RelO (([(f, y)] : List (Str × V)).lookup g) (mA g)) ∧ ∀ y, PySem.W.lookIn y od = some (mA y) := by
  obtain ⟨dx, ea, ed⟩ := k
  obtain ⟨oe, vs, ha, hc, hd, hv⟩ := WKp.exK_at I.hok ea
  obtain ⟨mA, hns, rel⟩ := xd_at I.hok ed
  obtain ⟨od, hod, hl⟩ := lookIn_ns hns
  exact ⟨oe, od, mA, ⟨ha, hc, by unfold PySem.W.notCls; rw [hv] <;> rfl, by rw [hd]; exact hod⟩, rel, hl⟩
def tKf (K : PySem.W.Frag) (f : Str) (te : TE) : TE := fun σ H Q => te σ H fun x H1 => ∃ (a C : Addr) (y : V) (B newId initId : String) (bmB : List Value),
  x = .ref a ∧ KXt H1 a C f y ∧ XC K C B newId initId bmB ∧ PySem.W.findIn K (.ref C) f = some none ∧ Q y H1
def rKi (K : PySem.W.Frag) : List V → Hp → VK → Prop := fun xs H Q => ∃ (a C : Addr) (f : Str) (y c : V) (B newId initId : String) (bmB : List Value) (b : Bool),
  xs = [.ref a, c] ∧ KXt H a C f y ∧ XC K C B newId initId bmB ∧ ((∃ cv, (∀ u, RelV c u → u = cv) ∧ PySem.W.kitOne K (.ref C) cv = some b) ∨
    ∃ p cs, c = .ref p ∧ H p = some (.tup cs) ∧ ∀ us, Vals cs us → PySem.W.kitAny K (.ref C) us = some b) ∧ Q (.bl b) H
section
variable {X : Cx} {e : Expr} {te : TE} {f : Str} {pos : Pos}
theorem pe_kf (he : PE X e te) (hb : attributeBase e f X.env (eval e X.env) = eval e X.env := by rfl) : PE X (.Attribute e f pos) (tKf X.K f te) := by
  refine ⟨fun pins s σ H Q I h => ?_⟩
  refine attr_of hb (thn (he.run pins s σ H _ I h) fun u s1 hh => ?_)
  obtain ⟨x, H1, I1, rx, a, C, v, B, n, i, bm, ex, ka, T, hno, q⟩ := hh
  subst ex
  obtain rfl : u = Value.ref a := rx
  obtain ⟨ox, od, mA, J, rel, hl⟩ := kx_inst I1 ka
  obtain ⟨u, hu, ru⟩ := RelO.some_of (v := v) (o := mA f) (by have := rel f; simpa [List.lookup] using this)
  refine HandSPX.exc_get I1.kIn J T.ga T.gg T.ex (PySem.W.findObj_own T.hd hno rfl (by rw [hl, hu])) (handed_of ru) ⟨v, H1, I1.tok _, ru, q⟩
theorem call_ki : CallR X (.builtin "isinstance") (rKi X.K) := by
  intro pins s σ H xs us Q I r h
  obtain ⟨a, C, f, y, c, B, n, i, bm, b, rfl, ka, T, hk, q⟩ := h
  cases r with
  | cons rx rr =>
    cases rr with
    | cons rt rr =>
      cases rr
      cases rx
      obtain ⟨ox, od, mA, J, _, _⟩ := kx_inst I ka
      have hcl : (PySem.W.clsIn X.K C).isSome = true := by
        obtain ⟨cd, hc, _⟩ := PySem.W.any_some T.hd
        rw [hc] <;> rfl
      have Z := PySem.W.kitx_exc (x := a) (ox := ox) (od := some od) hcl T.ga T.gg T.ex T.cc T.gs T.tk T.mo
      rcases hk with ⟨cv, hcv, e⟩ | ⟨p, cs, rfl, hp, e⟩
      · have ec := hcv _ rt
        subst ec
        exact PySem.W.kia_one Z I.kIn J e (fun z => nomatch z) fun tk => ⟨.bl b, H, I.kept (t' := tk) fun _ _ z => z, rfl, q⟩
      · cases rt
        obtain ⟨_, its, rv, ⟨⟨oc, odd, odt, osl⟩, ho, hc, m, hd⟩⟩ := I.hok p _ hp
        dsimp only at hc hd
        subst hc hd
        exact PySem.W.kia_tup Z I.kIn J ho (e its rv) (fun z => nomatch z) fun tk => ⟨.bl b, H, I.kept (t' := tk) fun _ _ z => z, rfl, q⟩
end
end WXO

set_option Elab.async false
set_option linter.all false
set_option maxRecDepth 100000
set_option maxHeartbeats 2000000
namespace WLf
open PySem PySem.Spec L2 WEv WRd WXE
theorem dpall_bls {K : PySem.W.Frag} {H : Hp} : ∀ bs : List Bool, DpAll K H (bs.map V.bl) (bs.map PyData.bool)
  | [] => .nil
  | b :: bs => .cons (.bl b) (dpall_bls bs)
theorem is_list {ys xs : List V} {H : Hp} (h : Fa (ys.map Is) xs H) : xs = ys := h.is
section
variable {K : PySem.W.Frag} {σ : L2.St} {H H' : Hp} {te ta tb td ty tv : TE} {tr : TA} {tt tu : TT} {v x y : V} {vs : List V} {P Pa Pb : HP V} {Ps Qs : List (HP V)} {D : Ends} {n : Nat} {b c : Bool}
theorem lf_dp {bs : List Bool} (h : LF ((bs.map V.bl).map Is) v H) : Dp K H v (.list (bs.map PyData.bool)) := by
  obtain ⟨p, xs, rfl, hp, fa⟩ := h
  obtain rfl := fa.is
  exact .lst (.of hp) (dpall_bls bs)
theorem mn_is {ys : List V} : Mn (Fa (ys.map Is)) := by
  induction ys with
  | nil => exact mn_nil
  | cons y ys ih => exact mn_cons mn_i ih
theorem et_ne {bs : List Bool} (ha : G ta σ H (LF ((bs.map V.bl).map Is))) (hb : G tb σ H (LF ((bs.map V.bl).map Is))) (hs : SeqAt.shaped (.list (bs.map PyData.bool)) = true) : EvT (tTest (tOp (rNeD K) ta tb)) σ H false := fun H1 e _ q =>
  ha.ev H1 e _ fun a H2 s2 pa => hb.ev H2 (e.trans s2) _ fun c H3 s3 pc => by
    refine ⟨_, _, lf_dp (ha.mn _ _ _ s3 pa), lf_dp pc, hs, hs, ?_⟩
    rw [SeqAt.eqv_refl _ (SeqAt.canLay_of_shaped hs)]
    exact ⟨false, rfl, q _ (s2.trans s3)⟩
theorem et_or0 (h : EvT tt σ H false) (g : EvT tu σ H b) : EvT (tOr tt tu) σ H b := fun H1 e Q q => h H1 e _ fun H2 s2 => g H2 (e.trans s2) _ fun H3 s3 => q _ (s2.trans s3)
theorem et_val (h : G te σ H (Is (.bl b))) : EvT (tB te) σ H b := fun H1 e Q q => h.ev H1 e _ fun x H2 s2 p => ⟨b, p, q _ s2⟩
theorem s_no {t u : TS} (h : EvT tt σ H false) (q : ∀ H1, Same H H1 → u D σ H1) : tIfS tt t u D σ H := h H (Same.refl H) _ fun H1 s => q H1 s
theorem s_yes {t u : TS} (h : EvT tt σ H true) (q : ∀ H1, Same H H1 → t D σ H1) : tIfS tt t u D σ H := h H (Same.refl H) _ fun H1 s => q H1 s
/-- [e for v in range(n)], e only read -/
theorem g_lcr {v : Nat} {m : Nat} (f : Nat → V) (hm : m ≤ 1000) (h : ∀ i H1, i < m → Same H H1 → Ev te ((σ.set v none).set v (some (.int ((0 : Int) + (i : Nat))))) H1 (f i)) :
    G (tLc (iRng1 (tCons (tC (.int (m : Int))) tNil)) (gName v) tYes te [v]) σ H (LF (((List.range m).map f).map Is)) := by
  refine ⟨fun H1 e Q q => ?_, mn_lf mn_is⟩
  refine ⟨m, rfl, by omega, by omega, fun D hD => ?_⟩
  show ∃ W, _
  refine lc_it (walk_range (lo := 0) (n := m)) (fun i H' => Same H1 H' ∧ H' D = some (.lst ((List.range i).map f))) ⟨same_new hD, upd_same⟩ (fun _ _ _ _ => trivial) (fun i x H2 H3 hi p y => ?_) (fun H2 p => ?_)
  · obtain ⟨s2, hd⟩ := p
    obtain ⟨rfl, rfl⟩ := y
    refine ⟨(List.set_set ..).trans (List.set_set ..), ?_⟩
    refine h i _ hi (e.trans s2) _ ⟨_, hd, ?_, same_put s2 hD, ?_⟩
    · rw [List.length_map, List.length_range]
      exact Nat.lt_of_lt_of_le hi (Nat.le_trans hm (by decide))
    · rw [upd_same, List.range_succ, List.map_append]
      rfl
  · exact q _ _ p.1 ⟨D, _, rfl, p.2, by
      have : ∀ ys : List V, Fa (ys.map Is) ys H2 := fun ys => by
        induction ys with
        | nil => trivial
        | cons y ys ih => exact ⟨rfl, ih⟩
      exact this _⟩
theorem g_eq {xs ys : List V} (h : G te σ H (LF (xs.map Is))) (e : xs = ys) : G te σ H (LF (ys.map Is)) := e ▸ h
theorem ty2 {n1 n2 : String} : ∀ us, Vals [V.ty n1, V.ty n2] us → us = [.type n1, .type n2] := fun us r => by
  cases r with
  | cons r1 r =>
    cases r with
    | cons r2 r =>
      cases r
      cases r1
      cases r2
      rfl
/-- isinstance(e, (T1, T2)) -/
theorem g_xis2 {a C : Addr} {n1 n2 B newId initId : String} {bmB : List Value} {b : Bool} {i : Nat} (h : σ[i]? = some (some (.ref a))) (hx : XAt H a C) (T : XC K C B newId initId bmB) (hk : PySem.W.kitAny K (.ref C) [.type n1, .type n2] = some b) :
    G (tCB (rXis K) (tCons (tVar i) (tCons (tTup (tCons (tC (.ty n1)) (tCons (tC (.ty n2)) tNil))) tNil))) σ H (Is (.bl b)) := ⟨fun H1 e Q q => ⟨_, h, (by decide : 2 ≤ sizeLine), fun p hp => ⟨a, C, .ref p, B, newId, initId, bmB, b, rfl, mv_xat a _ _ (same_new hp) (mv_xat a _ _ e hx), T, .inr ⟨p, _, rfl, upd_same, fun us r => by rw [ty2 us r]; exact hk⟩, q _ _ (same_new hp) rfl⟩⟩, mn_i⟩
theorem g_imp (h : G te σ H P) (k : ∀ v H, P v H → Pa v H) (m : Mn Pa) : G te σ H Pa := ⟨h.ev.imp k, m⟩
theorem ev_g (h : ∀ H1, Same H H1 → Ev te σ H1 v) : G te σ H (Is v) := ⟨fun H1 e Q q => h H1 e _ (q _ H1 (Same.refl H1) rfl), mn_i⟩
/-- a call that only adds objects -/
theorem g_call1 {sp : Sp} {E : XK} (ha : G ta σ H (Is x)) (hs : ∀ H1, Same H H1 → ∀ Q : VK, (∀ v H2, Same H1 H2 → P v H2 → Q v H2) → sp [x] H1 Q E) (m : Mn P) : G (tCall sp [] E (tCons ta tNil)) σ H P := ⟨fun H1 e Q q =>
  ha.ev H1 e _ fun a H2 s2 pa => by
    obtain rfl : a = x := pa
    exact hs H2 (e.trans s2) _ fun v H3 s3 p3 => q _ _ (s2.trans s3) p3, m⟩
end
end WLf

set_option Elab.async false
set_option linter.all false
set_option maxRecDepth 100000
set_option maxHeartbeats 2000000
/-! values of any kind that are given to plans, and what stands for them in the heap -/
namespace WPv
open PySem PySem.Spec PyProof.Rows L2 WEv WRd WLf
abbrev CW (K : PySem.W.Frag) : Addr := He.ga K "WorkerPlan"
abbrev CS (K : PySem.W.Frag) : Addr := He.ga K "SupervisorPlan"
inductive Pv where
  | non | bl (b : Bool) | int (i : Int) | str (s : Str) | dic | tup (l : List Pv) | lst (l : List Pv) | wrk (l : List Pv) | sup (n d : Nat)
def WIns (K : PySem.W.Frag) (dx q : Addr) : HO := .ins (CW K) dx [("own_settings", .ref q), ("own_count", .int 1), ("own_depth", .int 1)]
def SIns (K : PySem.W.Frag) (dx q c : Addr) (n k : Nat) : HO := .ins (CS K) dx [("own_settings", .ref q), ("own_children", .ref c), ("own_count", .int n), ("own_depth", .int k)]
/-- a script whose rows and deeds have the form that is asked for a look for 'add' -/
def rowForm : Pv → Bool
  | .tup [_, _, _, .tup ds] => ds.all fun d => match d with
    | .tup (.str _ :: _) => true
    | _ => false
  | _ => false
def scrForm : Pv → Bool
  | .tup rs => rs.all rowForm
  | _ => false
mutual
/-- N: where its lists and dicts may stand -/
def At (K : PySem.W.Frag) (N : Addr → Prop) : Pv → HP V
  | .non => fun v _ => v = .non
  | .bl b => fun v _ => v = .bl b
  | .int i => fun v _ => v = .int i
  | .str s => fun v _ => v = .str s ∧ s.length ≤ 1000
  | .dic => fun v H => ∃ p, v = .ref p ∧ N p ∧ H p = some (.dK [])
  | .tup l => fun v H => ∃ p xs, v = .ref p ∧ SqT K H p xs ∧ AtL K N l xs H ∧ l.length ≤ 1000
  | .lst l => fun v H => ∃ p xs, v = .ref p ∧ N p ∧ H p = some (.lst xs) ∧ AtL K N l xs H ∧ l.length ≤ 1000
  | .wrk l => fun v H => ∃ a dx q xs, v = .ref a ∧ H a = some (WIns K dx q) ∧ SqT K H q xs ∧ (∃ a1 a2 a3 a4 a5 a6 s, l = [a1, a2, a3, a4, a5, a6, s] ∧ scrForm s = true) ∧ AtL K N l xs H
  | .sup n d => fun v H => ∃ a dx q c, v = .ref a ∧ H a = some (SIns K dx q c n d)
def AtL (K : PySem.W.Frag) (N : Addr → Prop) : List Pv → HP (List V)
  | [] => fun xs _ => xs = []
  | p :: l => fun xs H => ∃ y ys, xs = y :: ys ∧ At K N p y H ∧ AtL K N l ys H
end
/-- all but lists and dicts that do not stand in N -/
def Kn (N : Addr → Prop) (H H' : Hp) : Prop := ∀ b o, H b = some o → (∀ xs, o = .lst xs → N b) → (∀ kvs, o = .dK kvs → N b) → H' b = some o
theorem Kn.same {N : Addr → Prop} {H H' : Hp} (s : Same H H') : Kn N H H' := fun b o h _ _ => s b o h
theorem Kn.trans {N : Addr → Prop} {H H1 H2 : Hp} (a : Kn N H H1) (b : Kn N H1 H2) : Kn N H H2 := fun c o h h1 h2 => b c o (a c o h h1 h2) h1 h2
theorem Kn.lst {N : Addr → Prop} {H : Hp} {l : Addr} {xs : List V} {x : HO} (hl : H l = some (.lst xs)) (hn : ¬ N l) : Kn N H (upd H l x) := fun b o h h1 _ => by
  rw [upd_ne (fun z => by rw [z, hl] at h; cases h; exact hn (z ▸ h1 _ rfl))]
  exact h
theorem Kn.dK {N : Addr → Prop} {H : Hp} {l : Addr} {xs : List (Key × V)} {x : HO} (hl : H l = some (.dK xs)) (hn : ¬ N l) : Kn N H (upd H l x) := fun b o h _ h1 => by
  rw [upd_ne (fun z => by rw [z, hl] at h; cases h; exact hn (z ▸ h1 _ rfl))]
  exact h
theorem sqt_kn {K : PySem.W.Frag} {N : Addr → Prop} {H H' : Hp} {a : Addr} {xs : List V} (e : Kn N H H') (h : SqT K H a xs) : SqT K H' a xs := by
  rcases h with (h | ⟨o, h⟩) | h
  · exact .inl (.inl (e _ _ h (fun _ z => nomatch z) (fun _ z => nomatch z)))
  · exact .inl (.inr ⟨o, e _ _ h (fun _ z => nomatch z) (fun _ z => nomatch z)⟩)
  · exact .inr h
theorem sqt_same {K : PySem.W.Frag} {H H' : Hp} {a : Addr} {xs : List V} (e : Same H H') (h : SqT K H a xs) : SqT K H' a xs := sqt_kn (N := fun _ => True) (Kn.same e) h
mutual
theorem at_kn {K : PySem.W.Frag} {N : Addr → Prop} {H H' : Hp} (e : Kn N H H') : ∀ (p : Pv) {v : V}, At K N p v H → At K N p v H'
  | .non, _, h => h
  | .bl _, _, h => h
  | .int _, _, h => h
  | .str _, _, h => h
  | .dic, _, ⟨p, e1, hn, h⟩ => ⟨p, e1, hn, e _ _ h (fun _ z => nomatch z) (fun _ _ => hn)⟩
  | .tup l, _, ⟨p, xs, e1, h, a, z⟩ => ⟨p, xs, e1, sqt_kn e h, atl_kn e l a, z⟩
  | .lst l, _, ⟨p, xs, e1, hn, h, a, z⟩ => ⟨p, xs, e1, hn, e _ _ h (fun _ _ => hn) (fun _ z => nomatch z), atl_kn e l a, z⟩
  | .wrk l, _, ⟨a, dx, q, xs, e1, h, h1, h2, h3⟩ => ⟨a, dx, q, xs, e1, e _ _ h (fun _ z => nomatch z) (fun _ z => nomatch z), sqt_kn e h1, h2, atl_kn e l h3⟩
  | .sup n d, _, ⟨a, dx, q, c, e1, h⟩ => ⟨a, dx, q, c, e1, e _ _ h (fun _ z => nomatch z) (fun _ z => nomatch z)⟩
theorem atl_kn {K : PySem.W.Frag} {N : Addr → Prop} {H H' : Hp} (e : Kn N H H') : ∀ (l : List Pv) {xs : List V}, AtL K N l xs H → AtL K N l xs H'
  | [], _, h => h
  | p :: l, _, ⟨y, ys, e1, h, h2⟩ => ⟨y, ys, e1, at_kn e p h, atl_kn e l h2⟩
end
mutual
theorem at_imp {K : PySem.W.Frag} {N N' : Addr → Prop} {H : Hp} (e : ∀ a, N a → N' a) : ∀ (p : Pv) {v : V}, At K N p v H → At K N' p v H
  | .non, _, h => h
  | .bl _, _, h => h
  | .int _, _, h => h
  | .str _, _, h => h
  | .dic, _, ⟨p, e1, hn, h⟩ => ⟨p, e1, e _ hn, h⟩
  | .tup l, _, ⟨p, xs, e1, h, a, z⟩ => ⟨p, xs, e1, h, atl_imp e l a, z⟩
  | .lst l, _, ⟨p, xs, e1, hn, h, a, z⟩ => ⟨p, xs, e1, e _ hn, h, atl_imp e l a, z⟩
  | .wrk l, _, ⟨a, dx, q, xs, e1, h, h1, h2, h3⟩ => ⟨a, dx, q, xs, e1, h, h1, h2, atl_imp e l h3⟩
  | .sup n d, _, ⟨a, dx, q, c, e1, h⟩ => ⟨a, dx, q, c, e1, h⟩
theorem atl_imp {K : PySem.W.Frag} {N N' : Addr → Prop} {H : Hp} (e : ∀ a, N a → N' a) : ∀ (l : List Pv) {xs : List V}, AtL K N l xs H → AtL K N' l xs H
  | [], _, h => h
  | p :: l, _, ⟨y, ys, e1, h, h2⟩ => ⟨y, ys, e1, at_imp e p h, atl_imp e l h2⟩
end
theorem mn_at {K : PySem.W.Frag} {N : Addr → Prop} {p : Pv} : Mn (At K N p) := fun _ _ _ s h => at_kn (Kn.same s) p h
theorem mn_atl {K : PySem.W.Frag} {N : Addr → Prop} {l : List Pv} : Mn (AtL K N l) := fun _ _ _ s h => atl_kn (Kn.same s) l h
theorem AtL.len {K : PySem.W.Frag} {N : Addr → Prop} {H : Hp} : ∀ {l : List Pv} {xs : List V}, AtL K N l xs H → xs.length = l.length
  | [], _, h => by
    have : _ = [] := h
    rw [this]; rfl
  | p :: l, _, ⟨y, ys, e, h, h2⟩ => by rw [e, List.length_cons, List.length_cons, AtL.len h2]
theorem AtL.get {K : PySem.W.Frag} {N : Addr → Prop} {H : Hp} : ∀ {l : List Pv} {xs : List V} {i : Nat} {p : Pv}, AtL K N l xs H → l[i]? = some p → ∃ x, xs[i]? = some x ∧ At K N p x H
  | [], _, _, _, _, hp => nomatch hp
  | q :: l, _, 0, p, ⟨y, ys, e, h, h2⟩, hp => by cases hp; exact ⟨y, by rw [e]; rfl, h⟩
  | q :: l, _, i + 1, p, ⟨y, ys, e, h, h2⟩, hp => by
    obtain ⟨x, hx, px⟩ := AtL.get (i := i) h2 hp
    exact ⟨x, by rw [e]; exact hx, px⟩
theorem AtL.get2 {K : PySem.W.Frag} {N : Addr → Prop} {H : Hp} {l : List Pv} {xs : List V} {i : Nat} {x : V} (h : AtL K N l xs H) (hx : xs[i]? = some x) : ∃ p, l[i]? = some p ∧ At K N p x H := by
  have hi := (List.getElem?_eq_some_iff.mp hx).1
  rw [h.len] at hi
  obtain ⟨x', e, px⟩ := h.get (List.getElem?_eq_getElem hi)
  rw [hx] at e
  cases e
  exact ⟨_, List.getElem?_eq_getElem hi, px⟩
theorem AtL.app {K : PySem.W.Frag} {N : Addr → Prop} {H : Hp} : ∀ {l m : List Pv} {xs ys : List V}, AtL K N l xs H → AtL K N m ys H → AtL K N (l ++ m) (xs ++ ys) H
  | [], _, _, _, h, g => by
    have : _ = [] := h
    rw [this]; exact g
  | p :: l, _, _, _, ⟨y, ys, e, h, h2⟩, g => by rw [e]; exact ⟨y, _, rfl, h, AtL.app h2 g⟩
theorem AtL.drop {K : PySem.W.Frag} {N : Addr → Prop} {H : Hp} : ∀ (n : Nat) {l : List Pv} {xs : List V}, AtL K N l xs H → AtL K N (l.drop n) (xs.drop n) H
  | 0, _, _, h => h
  | n + 1, [], _, h => by
    have : _ = [] := h
    rw [this]; exact rfl
  | n + 1, p :: l, _, ⟨y, ys, e, h, h2⟩ => by rw [e]; exact AtL.drop n h2
theorem AtL.one {K : PySem.W.Frag} {N : Addr → Prop} {H : Hp} {p : Pv} {x : V} (h : At K N p x H) : AtL K N [p] [x] H := ⟨x, [], rfl, h, rfl⟩
/-! ### types -/
def tyV (K : PySem.W.Frag) : Pv → Value
  | .non => .type "NoneType"
  | .bl _ => .type "bool"
  | .int _ => .type "int"
  | .str _ => .type "str"
  | .dic => .type "dict"
  | .tup _ => .type "tuple"
  | .lst _ => .type "list"
  | .wrk _ => .ref (CW K)
  | .sup _ _ => .ref (CS K)
/-- what isinstance asks of the classes of plans -/
structure Kt (K : PySem.W.Frag) : Prop where
  dw : ∃ e, WHe.DatC K (CW K) e
  ds : ∃ e, WHe.DatC K (CS K) e
  wb : ∀ n ∈ (["str", "int", "bool", "tuple"] : List String), PySem.W.kitOne K (.ref (CW K)) (.type n) = some false
  sb : ∀ n ∈ (["str", "int", "bool", "tuple"] : List String), PySem.W.kitOne K (.ref (CS K)) (.type n) = some false
  bc : ∀ n ∈ (["NoneType", "bool", "int", "str", "dict", "tuple", "list"] : List String), ∀ c ∈ (["Plan", "BaseWorker", "WorkerPlan", "SupervisorPlan"] : List Str), PySem.W.kitOne K (.type n) (.ref (He.ga K c)) = some false
  wc : PySem.W.kitOne K (.ref (CW K)) (.ref (He.ga K "Plan")) = some true ∧ PySem.W.kitOne K (.ref (CW K)) (.ref (He.ga K "BaseWorker")) = some true ∧ PySem.W.kitOne K (.ref (CW K)) (.ref (CW K)) = some true ∧ PySem.W.kitOne K (.ref (CW K)) (.ref (CS K)) = some false
  sc : PySem.W.kitOne K (.ref (CS K)) (.ref (He.ga K "Plan")) = some true ∧ PySem.W.kitOne K (.ref (CS K)) (.ref (He.ga K "BaseWorker")) = some false ∧ PySem.W.kitOne K (.ref (CS K)) (.ref (CW K)) = some false ∧ PySem.W.kitOne K (.ref (CS K)) (.ref (CS K)) = some true
def ktB (K : PySem.W.Frag) : Bool :=
  (["str", "int", "bool", "tuple"] : List String).all (fun n => decide (PySem.W.kitOne K (.ref (CW K)) (.type n) = some false) && decide (PySem.W.kitOne K (.ref (CS K)) (.type n) = some false)) &&
  ((["NoneType", "bool", "int", "str", "dict", "tuple", "list"] : List String).all fun n => (["Plan", "BaseWorker", "WorkerPlan", "SupervisorPlan"] : List Str).all fun c => decide (PySem.W.kitOne K (.type n) (.ref (He.ga K c)) = some false))
theorem ktB_ok {K : PySem.W.Frag} (h : ktB K = true) {e1 e2 : Addr} (dw : WHe.DatC K (CW K) e1) (ds : WHe.DatC K (CS K) e2)
    (wc : PySem.W.kitOne K (.ref (CW K)) (.ref (He.ga K "Plan")) = some true ∧ PySem.W.kitOne K (.ref (CW K)) (.ref (He.ga K "BaseWorker")) = some true ∧ PySem.W.kitOne K (.ref (CW K)) (.ref (CW K)) = some true ∧ PySem.W.kitOne K (.ref (CW K)) (.ref (CS K)) = some false)
    (sc : PySem.W.kitOne K (.ref (CS K)) (.ref (He.ga K "Plan")) = some true ∧ PySem.W.kitOne K (.ref (CS K)) (.ref (He.ga K "BaseWorker")) = some false ∧ PySem.W.kitOne K (.ref (CS K)) (.ref (CW K)) = some false ∧ PySem.W.kitOne K (.ref (CS K)) (.ref (CS K)) = some true) : Kt K := by
  obtain ⟨h1, h2⟩ := He.ba h
  exact ⟨⟨_, dw⟩, ⟨_, ds⟩, fun n hn => of_decide_eq_true (He.ba (List.all_eq_true.mp h1 n hn)).1, fun n hn => of_decide_eq_true (He.ba (List.all_eq_true.mp h1 n hn)).2,
    fun n hn c hc => of_decide_eq_true (List.all_eq_true.mp (List.all_eq_true.mp h2 n hn) c hc), wc, sc⟩
theorem tyx_tup {K : PySem.W.Frag} {H : Hp} {a : Addr} {xs : List V} (h : SqT K H a xs) : TyX K H (.ref a) (.type "tuple") := by
  rcases h with (h | ⟨o, h⟩) | ⟨o, its, n, h, hc, _⟩
  · exact .base (.tup h)
  · exact .fTuple h
  · exact .kTuple h hc
theorem tyx_ins {K : PySem.W.Frag} {H : Hp} {a C dx e : Addr} {fs : List (Str × V)} (D : WHe.DatC K C e) (h : H a = some (.ins C dx fs)) : TyX K H (.ref a) (.ref C) := .base (.ins h D.cls D.ca D.cn D.ct D.ob)
theorem at_ty {K : PySem.W.Frag} (kt : Kt K) {N : Addr → Prop} {H : Hp} : ∀ (p : Pv) {v : V}, At K N p v H → TyX K H v (tyV K p)
  | .non, _, h => by cases (show _ = V.non from h); exact .base .non
  | .bl b, _, h => by cases (show _ = V.bl b from h); exact .base (.bl b)
  | .int i, _, h => by cases (show _ = V.int i from h); exact .base (.int i)
  | .str s, _, h => by cases (show _ = V.str s from h.1); exact .base (.str s)
  | .dic, _, ⟨p, e1, hn, h⟩ => by rw [e1]; exact .base (.dK h)
  | .tup l, _, ⟨p, xs, e1, h, a⟩ => by rw [e1]; exact tyx_tup h
  | .lst l, _, ⟨p, xs, e1, hn, h, a⟩ => by rw [e1]; exact .base (.lst h)
  | .wrk l, _, ⟨a, dx, q, xs, e1, h, h1, h2, h3⟩ => by
    obtain ⟨e, D⟩ := kt.dw
    rw [e1]; exact tyx_ins D h
  | .sup n d, _, ⟨a, dx, q, c, e1, h⟩ => by
    obtain ⟨e, D⟩ := kt.ds
    rw [e1]; exact tyx_ins D h
def isStr : Pv → Bool
  | .str _ => true
  | _ => false
def isInt : Pv → Bool
  | .int _ => true
  | .bl _ => true
  | _ => false
def isBl : Pv → Bool
  | .bl _ => true
  | _ => false
def isTup : Pv → Bool
  | .tup _ => true
  | _ => false
def isWrk : Pv → Bool
  | .wrk _ => true
  | _ => false
def isSup : Pv → Bool
  | .sup _ _ => true
  | _ => false
theorem kit_f {K : PySem.W.Frag} {n m : String} (h : kitB n m = some false := by decide +kernel) : PySem.W.kitOne K (.type n) (.type m) = some false := kit_ty h
theorem kit_t {K : PySem.W.Frag} {n m : String} (h : kitB n m = some true := by decide +kernel) : PySem.W.kitOne K (.type n) (.type m) = some true := kit_ty h
theorem kit_str {K : PySem.W.Frag} (kt : Kt K) : ∀ p : Pv, PySem.W.kitOne K (tyV K p) (.type "str") = some (isStr p)
  | .non => kit_f | .bl _ => kit_f | .int _ => kit_f | .str _ => kit_t | .dic => kit_f | .tup _ => kit_f | .lst _ => kit_f
  | .wrk _ => kt.wb _ (by decide) | .sup _ _ => kt.sb _ (by decide)
theorem kit_int {K : PySem.W.Frag} (kt : Kt K) : ∀ p : Pv, PySem.W.kitOne K (tyV K p) (.type "int") = some (isInt p)
  | .non => kit_f | .bl _ => kit_t | .int _ => kit_t | .str _ => kit_f | .dic => kit_f | .tup _ => kit_f | .lst _ => kit_f
  | .wrk _ => kt.wb _ (by decide) | .sup _ _ => kt.sb _ (by decide)
theorem kit_bool {K : PySem.W.Frag} (kt : Kt K) : ∀ p : Pv, PySem.W.kitOne K (tyV K p) (.type "bool") = some (isBl p)
  | .non => kit_f | .bl _ => kit_t | .int _ => kit_f | .str _ => kit_f | .dic => kit_f | .tup _ => kit_f | .lst _ => kit_f
  | .wrk _ => kt.wb _ (by decide) | .sup _ _ => kt.sb _ (by decide)
theorem kit_tup {K : PySem.W.Frag} (kt : Kt K) : ∀ p : Pv, PySem.W.kitOne K (tyV K p) (.type "tuple") = some (isTup p)
  | .non => kit_f | .bl _ => kit_f | .int _ => kit_f | .str _ => kit_f | .dic => kit_f | .tup _ => kit_t | .lst _ => kit_f
  | .wrk _ => kt.wb _ (by decide) | .sup _ _ => kt.sb _ (by decide)
theorem kit_bw {K : PySem.W.Frag} (kt : Kt K) : ∀ p : Pv, PySem.W.kitOne K (tyV K p) (.ref (He.ga K "BaseWorker")) = some (isWrk p)
  | .non => kt.bc _ (by decide) _ (by decide +kernel) | .bl _ => kt.bc _ (by decide) _ (by decide +kernel) | .int _ => kt.bc _ (by decide) _ (by decide +kernel) | .str _ => kt.bc _ (by decide) _ (by decide +kernel)
  | .dic => kt.bc _ (by decide) _ (by decide +kernel) | .tup _ => kt.bc _ (by decide) _ (by decide +kernel) | .lst _ => kt.bc _ (by decide) _ (by decide +kernel)
  | .wrk _ => kt.wc.2.1 | .sup _ _ => kt.sc.2.1
theorem kit_plan {K : PySem.W.Frag} (kt : Kt K) : ∀ p : Pv, PySem.W.kitOne K (tyV K p) (.ref (He.ga K "Plan")) = some (isWrk p || isSup p)
  | .non => kt.bc _ (by decide) _ (by decide +kernel) | .bl _ => kt.bc _ (by decide) _ (by decide +kernel) | .int _ => kt.bc _ (by decide) _ (by decide +kernel) | .str _ => kt.bc _ (by decide) _ (by decide +kernel)
  | .dic => kt.bc _ (by decide) _ (by decide +kernel) | .tup _ => kt.bc _ (by decide) _ (by decide +kernel) | .lst _ => kt.bc _ (by decide) _ (by decide +kernel)
  | .wrk _ => kt.wc.1 | .sup _ _ => kt.sc.1
theorem kit_wrk {K : PySem.W.Frag} (kt : Kt K) : ∀ p : Pv, PySem.W.kitOne K (tyV K p) (.ref (CW K)) = some (isWrk p)
  | .non => kt.bc _ (by decide) _ (by decide +kernel) | .bl _ => kt.bc _ (by decide) _ (by decide +kernel) | .int _ => kt.bc _ (by decide) _ (by decide +kernel) | .str _ => kt.bc _ (by decide) _ (by decide +kernel)
  | .dic => kt.bc _ (by decide) _ (by decide +kernel) | .tup _ => kt.bc _ (by decide) _ (by decide +kernel) | .lst _ => kt.bc _ (by decide) _ (by decide +kernel)
  | .wrk _ => kt.wc.2.2.1 | .sup _ _ => kt.sc.2.2.1
theorem kit_sup {K : PySem.W.Frag} (kt : Kt K) : ∀ p : Pv, PySem.W.kitOne K (tyV K p) (.ref (CS K)) = some (isSup p)
  | .non => kt.bc _ (by decide) _ (by decide +kernel) | .bl _ => kt.bc _ (by decide) _ (by decide +kernel) | .int _ => kt.bc _ (by decide) _ (by decide +kernel) | .str _ => kt.bc _ (by decide) _ (by decide +kernel)
  | .dic => kt.bc _ (by decide) _ (by decide +kernel) | .tup _ => kt.bc _ (by decide) _ (by decide +kernel) | .lst _ => kt.bc _ (by decide) _ (by decide +kernel)
  | .wrk _ => kt.wc.2.2.2 | .sup _ _ => kt.sc.2.2.2
/-! ### what the program's tests say of them -/
def cds (s : Str) : List Nat := s.cps.toList
def letter (c : Nat) : Bool := decide (c ∈ (Str.ofString "abcdefghijklmnopqrstuvwxyz").cps.toList)
def sign (c : Nat) : Bool := decide (c ∈ (Str.ofString "abcdefghijklmnopqrstuvwxyz0123456789_").cps.toList)
def isWordS (s : Str) : Bool := decide (1 ≤ s.length) && (decide (s.length ≤ 20) && ((match s.cps.toList[0]? with | some c => letter c | none => false) && s.cps.toList.all sign))
def isWord : Pv → Bool
  | .str s => isWordS s
  | _ => false
def reserved : List V := [.str "own", .str "sender", .str "about"]
def ownReasons : List V := [.str "shutdown", .str "refused", .str "gave_up", .str "killed", .str "nobody"]
def ownWords : List V := [.str "answer", .str "back", .str "ended", .str "down", .str "told"]
def isWordNot (l : List V) : Pv → Bool
  | .str s => isWordS s && !inV (.str s) l
  | _ => false
def isName : Pv → Bool := isWordNot reserved
def isFailure : Pv → Bool := isWordNot ownReasons
def isFree : Pv → Bool := isWordNot ownWords
def isBetween (lo hi : Int) : Pv → Bool
  | .int i => decide (lo ≤ i) && decide (i ≤ hi)
  | _ => false
def isOneOf (ws : List V) : Pv → Bool
  | .str s => inV (.str s) ws
  | _ => false
def isDeadline : Pv → Bool
  | .non => true
  | p => isBetween 0 1000000000 p
def isValue : Pv → Bool := isBetween (-1000000000000) 1000000000000
def isDeedValue : Pv → Bool
  | .tup [.str w, x] => decide (w = ("plus" : Str)) && isValue x
  | .tup _ => false
  | p => isValue p
/-- deeds' values that the look at 'plus' is told of -/
def okDV : Pv → Bool
  | .tup [x, _] => isStr x
  | _ => true
def addRow : Pv → Bool
  | .tup [_, _, _, .tup ds] => ds.any fun d => match d with
    | .tup (.str w :: _) => decide (w = ("add" : Str))
    | _ => false
  | _ => false
def hasAdd : Pv → Bool
  | .tup rs => rs.any addRow
  | _ => false
def isAdded : Pv → Bool
  | .wrk [_, _, _, _, _, _, s] => !hasAdd s
  | _ => false
/-- the text is one of these (a case of a match) -/
def hit (zs : List Str) (w : Str) : Bool := zs.any fun z => decide (V.str w = V.str z)
def words1 : List Str := ["note", "cancel", "mode", "link", "unlink", "monitor", "unmonitor", "remove"]
def hasShape (w : Str) (ps : List Pv) : Bool :=
  if hit words1 w = true then decide (ps.length = 1) && isWord (ps.getD 0 .non)
  else if hit ["send", "ask"] w = true then decide (ps.length = 3) && (isWord (ps.getD 0 .non) && (isFree (ps.getD 1 .non) && isDeedValue (ps.getD 2 .non)))
  else if hit ["reply"] w = true then decide (ps.length = 1) && isDeedValue (ps.getD 0 .non)
  else if hit ["later"] w = true then (decide (ps.length = 3) && isBetween 1 1000000000 (ps.getD 0 .non)) && (isFree (ps.getD 1 .non) && isDeedValue (ps.getD 2 .non))
  else if hit ["trap"] w = true then decide (ps.length = 1) && isBl (ps.getD 0 .non)
  else if hit ["end"] w = true then decide (ps.length = 1) && isFailure (ps.getD 0 .non)
  else if hit ["add"] w = true then decide (ps.length = 2) && (isWord (ps.getD 0 .non) && isAdded (ps.getD 1 .non))
  else false
def isDeed : Pv → Bool
  | .tup (.str w :: ps) => decide (1 ≤ ps.length) && hasShape w ps
  | _ => false
def okDeed : Pv → Bool
  | .tup l => l.all okDV
  | _ => true
def isRow : Pv → Bool
  | .tup [a, b, c, .tup ds] => isWord a && (isWord b && (isBetween 1 1000 c && (decide (ds.length ≤ 8) && ds.all isDeed)))
  | _ => false
def okRow : Pv → Bool
  | .tup [_, _, _, .tup ds] => decide (ds.length ≤ 100) && ds.all okDeed
  | _ => true
def keyOf : Pv → Str × Str
  | .tup (.str a :: .str b :: _) => (a, b)
  | _ => ("", "")
def wrongGo : Nat → List (Str × Str) → List Pv → Option Nat
  | _, _, [] => none
  | i, kn, r :: rs => if (decide (30 ≤ i) || !isRow r || decide (keyOf r ∈ kn)) = true then some i else wrongGo (i + 1) (kn ++ [keyOf r]) rs
def isScript : Pv → Bool
  | .tup rs => (wrongGo 0 [] rs).isNone
  | _ => false
def okScr : Pv → Bool
  | .tup rs => rs.all okRow
  | _ => true
end WPv

set_option Elab.async false
set_option linter.all false
set_option maxRecDepth 100000
set_option maxHeartbeats 2000000
/-! lambdas: the maker's code object told, tables in the heap, the head's facts with tables, the end -/
namespace WLm
open PySem PySem.Spec PyProof.Rows L2 LamX
section
variable {P : Program} {w : World} {K : PySem.W.Frag} {mg : Str → Option Value} {base : Heap} {x qual : Str} {params : Arguments} {body : List Stmt} {scope : Scope} {dvs : List V} {kws : List (Str × V)} {fd : FuncData}
/-- a def's rule, its code object told -/
theorem okC {CX : CXT} {N ps : List Str} {k : Nat} {sp : Sp} {p : Str × Option Str} (F : FunD K x qual params body scope dvs kws (He.fAd K p) fd) (S : FnScope N ps scope) (len : ∀ vs H Q E, sp vs H Q E → vs.length = ps.length)
    (hbody : ∀ (A : Around) (outer : List Env) (s : Shared) (H : Hp) (vs : List V) (Q : VK) (E : XK), Room k (A.deeper (envOfC qual scope s.heap.objs.size (He.fAd K p) (.ref (He.codeOf K p)))) → sp vs H Q E →
      ∃ t, PSs (cxOf CX P w K mg base N qual scope (He.fAd K p) (.ref (He.codeOf K p)) A outer s H E) body t ∧ t { nx := fun _ H' => Q .non H', rt := Q } (start N vs) H) : FnOk P w K mg base CX (k + 1) (He.fAd K p) fd ps sp := by
  obtain ⟨oc, od, dV, kV, doc, pm, an, cdv, ct, osl, rfl, lk, hcd, _, _⟩ := F.ex
  obtain ⟨c, rfl⟩ := He.codeIn_ref hcd
  have e : He.codeOf K p = c := He.codeOf_eq lk rfl
  subst e
  exact fn_of lk hcd S len fun A outer s H vs Q E hr hsp => hbody A outer s H vs Q E hr hsp
end
/-! ### tables stay -/
def Tb (o : HO) : Prop := (∃ ps, o = .tbl ps) ∨ ∃ φ, o = .ext φ
def KpT (H H' : Hp) : Prop := ∀ b o, H b = some o → Tb o → H' b = some o
theorem KpT.same {H H' : Hp} (s : Same H H') : KpT H H' := fun b o h _ => s b o h
theorem TabS.kp {H H' : Hp} {P : Addr} {q : Str} (t : TabS H P q) (e : KpT H H') : TabS H' P q := by
  obtain ⟨ps, h1, h2, h3⟩ := t
  refine ⟨ps, e _ _ h1 (.inl ⟨_, rfl⟩), h2, fun pos cv hc => ?_⟩
  obtain ⟨c, e1, e2⟩ := h3 pos cv hc
  exact ⟨c, e1, e _ _ e2 (.inr ⟨_, rfl⟩)⟩
theorem tabs_kp {T : List (Addr × Str)} {H H' : Hp} (t : Tabs T H) (e : KpT H H') : Tabs T H' := fun p hp => TabS.kp (t p hp) e
theorem tabs_same {T : List (Addr × Str)} {H H' : Hp} (t : Tabs T H) (e : Same H H') : Tabs T H' := t.ext e
/-! ### values stay where tables grow -/
theorem sqt_en {K : PySem.W.Frag} {H H' : Hp} {a : Addr} {xs : List V} (e : ExtN H H') (h : SqT K H a xs) : SqT K H' a xs := by
  rcases h with (h | ⟨o, h⟩) | h
  · exact .inl (.inl (e _ _ h (fun _ z => nomatch z)))
  · exact .inl (.inr ⟨o, e _ _ h (fun _ z => nomatch z)⟩)
  · exact .inr h
theorem sql_en {K : PySem.W.Frag} {H H' : Hp} {a : Addr} {xs : List V} (e : ExtN H H') (h : SqL K H a xs) : SqL K H' a xs := by
  rcases h with (h | ⟨o, h⟩) | h
  · exact .inl (.inl (e _ _ h (fun _ z => nomatch z)))
  · exact .inl (.inr ⟨o, e _ _ h (fun _ z => nomatch z)⟩)
  · exact .inr h
open WPv
mutual
theorem at_en {K : PySem.W.Frag} {N : Addr → Prop} {H H' : Hp} (e : ExtN H H') : ∀ (p : Pv) {v : V}, At K N p v H → At K N p v H'
  | .non, _, h => h
  | .bl _, _, h => h
  | .int _, _, h => h
  | .str _, _, h => h
  | .dic, _, ⟨p, e1, hn, h⟩ => ⟨p, e1, hn, e _ _ h (fun _ z => nomatch z)⟩
  | .tup l, _, ⟨p, xs, e1, h, a, z⟩ => ⟨p, xs, e1, sqt_en e h, atl_en e l a, z⟩
  | .lst l, _, ⟨p, xs, e1, hn, h, a, z⟩ => ⟨p, xs, e1, hn, e _ _ h (fun _ z => nomatch z), atl_en e l a, z⟩
  | .wrk l, _, ⟨a, dx, q, xs, e1, h, h1, h2, h3⟩ => ⟨a, dx, q, xs, e1, e _ _ h (fun _ z => nomatch z), sqt_en e h1, h2, atl_en e l h3⟩
  | .sup n d, _, ⟨a, dx, q, c, e1, h⟩ => ⟨a, dx, q, c, e1, e _ _ h (fun _ z => nomatch z)⟩
theorem atl_en {K : PySem.W.Frag} {N : Addr → Prop} {H H' : Hp} (e : ExtN H H') : ∀ (l : List Pv) {xs : List V}, AtL K N l xs H → AtL K N l xs H'
  | [], _, h => h
  | p :: l, _, ⟨y, ys, e1, h, h2⟩ => ⟨y, ys, e1, at_en e p h, atl_en e l h2⟩
end
/-! ### the head's facts with tables -/
structure SaysL (chk : PySem.W.Frag → Bool) (fn : List WHe.DefP) (tf : List He.Defn) (h : Heap) (K : PySem.W.Frag) : Prop where
  t : WHe.SaysK chk fn K
  hd : ∀ p ∈ tf, PySem.W.codeHdIn K (He.cT K p).1 (He.cT K p).2 = true
  out : ∀ p ∈ tf, K.lookup (He.cT K p).2 = none
  empty : ∀ p ∈ tf, h.get? (He.cT K p).2 = some { cls := .none, data := .fields #[] }
abbrev AlL : Type := He.AlD × Bool
def obsLT (n : Nat) (chk : PySem.W.Frag → Bool) (fn : List WHe.DefP) (tf : List He.Defn) (g : Addr → Option Obj) : AlL := (WHe.obsK chk fn (He.frT g (List.range n)), He.tabsB g tf (He.frT g (List.range n)))
theorem saysL_of {n : Nat} {chk : PySem.W.Frag → Bool} {fn : List WHe.DefP} {tf : List He.Defn} {h : Heap} (e : obsLT n chk fn tf h.get? = (WHe.valK fn, true)) : SaysL chk fn tf h (He.frT h.get? (List.range n)) := by
  have e1 : WHe.obsK chk fn (He.frT h.get? (List.range n)) = WHe.valK fn := congrArg (fun z : AlL => z.1) e
  have h2 : He.tabsB h.get? tf (He.frT h.get? (List.range n)) = true := congrArg (fun z : AlL => z.2) e
  have key : ∀ p ∈ tf, PySem.W.codeHdIn (He.frT h.get? (List.range n)) (He.cT (He.frT h.get? (List.range n)) p).1 (He.cT (He.frT h.get? (List.range n)) p).2 = true ∧ ∃ o, h.get? (He.cT (He.frT h.get? (List.range n)) p).2 = some o ∧ He.emptyTab o = true := fun p hp => by
    obtain ⟨h3, h4⟩ := He.ba (List.all_eq_true.mp h2 p hp)
    refine ⟨h3, ?_⟩
    cases q : h.get? (He.cT (He.frT h.get? (List.range n)) p).2 with
    | none =>
      rw [q] at h4
      cases h4
    | some o =>
      rw [q] at h4
      exact ⟨o, rfl, h4⟩
  exact ⟨e1, fun p hp => (key p hp).1, fun p hp => by
    obtain ⟨_, o, q, z⟩ := key p hp
    exact He.frT_none q z, fun p hp => by
    obtain ⟨_, o, q, z⟩ := key p hp
    rw [q, He.emptyTab_eq z]⟩
def hookT (n : Nat) (chk : PySem.W.Frag → Bool) (fn : List WHe.DefP) (tf : List He.Defn) : PySem.W.Hook where
  α := AlL
  obs := fun s => obsLT n chk fn tf s.heap.get?
  val := fun _ => (WHe.valK fn, true)
  says := fun _ h => ∃ K : PySem.W.Frag, K.In h ∧ SaysL chk fn tf h K
  of := fun _ _ e => ⟨_, He.frT_in, saysL_of e⟩
  keeps := fun _ _ _ ⟨K, hK, c⟩ k => ⟨K, PySem.W.Frag.In.keeps hK k, ⟨c.t, c.hd, c.out, fun p hp => k _ _ (c.empty p hp)⟩⟩
theorem obsLT_eq {n : Nat} {chk : PySem.W.Frag → Bool} {fn : List WHe.DefP} {tf : List He.Defn} {g : Addr → Option Obj} {s : Shared} (h : ∀ a, g a = s.heap.get? a) : obsLT n chk fn tf g = (hookT n chk fn tf).obs s := by
  have e : g = s.heap.get? := funext h
  rw [e] <;> rfl
/-! ### the end -/
theorem walk_T {l : PySem.W.OpenLaw} {n k : Nat} {q : Program} {loose : List Str} {XP : (Str → Option Value) → Heap → Prop} {YP : World → Heap → Prop} {d : DefRec} {CX : CXT} {x : Str}
    (hn : l.most = some n) (hn2 : n ≤ sizeLine) (hdf : d.params.defaults = []) (hr : Room k callerA)
    (F : ∀ (w : World) (mg : Str → Option Value) (fa : Addr) (h : Heap), YP w h → h.Ns mainGlobals mg → mg d.name = some (.ref fa) →
      ∃ (K : PySem.W.Frag) (fd : FuncData) (sp : Sp) (cs : List (Addr × Addr)), K.In h ∧ (∀ p ∈ cs, h.get? p.2 = some { cls := .none, data := .fields #[] }) ∧ (∀ p ∈ cs, K.lookup p.2 = none) ∧ (∀ p ∈ cs, PySem.W.CodeHd h p.1 p.2) ∧ (∀ (s : Shared) (u : Value), BindsTo s fd ⟨[u], []⟩ [(x, u)]) ∧
        (∀ (H : Hp) (a : Addr) (ns : List Int), ns.length ≤ n → (∀ p ∈ cs, H p.2 = some (.tbl #[])) → SqL K H a (ns.map V.int) → sp [.ref a] H (fun v _ => v = .bl true) fun _ _ _ => False) ∧
        ∀ base : Heap, K.In base → base.Ns mainGlobals mg → (∀ p ∈ cs, TabB base mg p.1 p.2) → FnOk l.prog w K mg base CX k fa fd [x] sp)
    (hCX : ∀ (H : Hp) (s : Shared) (e : Value) (s' : Shared), CX [] H s (fun _ _ _ => False) e s' → False) :
    PySem.W.WalkO q loose XP YP l.row.toRowW d [] (fun f vs => PySem.call f vs) := by
  refine Att.attach_callB hn hdf fun w s₀ s₁ mg mb fa o pm cd doc a vs ns G Y ho hd hcd hmg hobj hints hlen hbits hg => ?_
  obtain ⟨K, fd, sp, cs, KX, hT, nT, C, hb, hsp, hF⟩ := F w mg fa _ Y G.T.g hmg
  exact law_callTs KX G.T.g G.T.b G.T.builtins G.T.nolimit hg hT nT C G.T.bmain hobj hints (Nat.le_trans hlen hn2) hr hF hb (fun H hH hS => hsp H a ns hlen hH hS) fun H e s' => hCX H s₁ e s'
end WLm

set_option Elab.async false
set_option linter.all false
set_option maxRecDepth 100000
set_option maxHeartbeats 4000000
namespace W53
open PySem PySem.Spec PyProof.Rows L2
def inClass (s : Stmt) (i : Nat) : Stmt := match s with
  | .ClassDef (body := b) .. => b.getD i (.Pass ⟨0, 0, 0, 0⟩)
  | _ => .Pass ⟨0, 0, 0, 0⟩
def top (i : Nat) : Stmt := PySem.Challenge.pw_watchtree_k53_scripts_told_apart.main.body.getD i (.Pass ⟨0, 0, 0, 0⟩)
abbrev s_is_word : Stmt := top 14
def d_is_word : WHe.DefP := ⟨fun K => He.fAd K ("is_word", none), "is_word", "is_word", defArgs s_is_word, defBody s_is_word, defScope s_is_word⟩
theorem sc_is_word : FnScope ["value", "sign"] ["value"] (defScope s_is_word) := ⟨rfl, rfl, rfl, by decide +kernel, rfl, by decide +kernel, by decide +kernel⟩
abbrev s_is_name : Stmt := top 15
def d_is_name : WHe.DefP := ⟨fun K => He.fAd K ("is_name", none), "is_name", "is_name", defArgs s_is_name, defBody s_is_name, defScope s_is_name⟩
theorem sc_is_name : FnScope ["value"] ["value"] (defScope s_is_name) := ⟨rfl, rfl, rfl, by decide +kernel, rfl, by decide +kernel, by decide +kernel⟩
abbrev s_is_between : Stmt := top 16
def d_is_between : WHe.DefP := ⟨fun K => He.fAd K ("is_between", none), "is_between", "is_between", defArgs s_is_between, defBody s_is_between, defScope s_is_between⟩
theorem sc_is_between : FnScope ["value", "low", "high"] ["value", "low", "high"] (defScope s_is_between) := ⟨rfl, rfl, rfl, by decide +kernel, rfl, by decide +kernel, by decide +kernel⟩
abbrev s_is_failure : Stmt := top 17
def d_is_failure : WHe.DefP := ⟨fun K => He.fAd K ("is_failure", none), "is_failure", "is_failure", defArgs s_is_failure, defBody s_is_failure, defScope s_is_failure⟩
theorem sc_is_failure : FnScope ["value"] ["value"] (defScope s_is_failure) := ⟨rfl, rfl, rfl, by decide +kernel, rfl, by decide +kernel, by decide +kernel⟩
abbrev s_is_free_word : Stmt := top 26
def d_is_free_word : WHe.DefP := ⟨fun K => He.fAd K ("is_free_word", none), "is_free_word", "is_free_word", defArgs s_is_free_word, defBody s_is_free_word, defScope s_is_free_word⟩
theorem sc_is_free_word : FnScope ["value"] ["value"] (defScope s_is_free_word) := ⟨rfl, rfl, rfl, by decide +kernel, rfl, by decide +kernel, by decide +kernel⟩
abbrev s_is_value : Stmt := top 27
def d_is_value : WHe.DefP := ⟨fun K => He.fAd K ("is_value", none), "is_value", "is_value", defArgs s_is_value, defBody s_is_value, defScope s_is_value⟩
theorem sc_is_value : FnScope ["value"] ["value"] (defScope s_is_value) := ⟨rfl, rfl, rfl, by decide +kernel, rfl, by decide +kernel, by decide +kernel⟩
abbrev s_is_deed_value : Stmt := top 28
def d_is_deed_value : WHe.DefP := ⟨fun K => He.fAd K ("is_deed_value", none), "is_deed_value", "is_deed_value", defArgs s_is_deed_value, defBody s_is_deed_value, defScope s_is_deed_value⟩
theorem sc_is_deed_value : FnScope ["value"] ["value"] (defScope s_is_deed_value) := ⟨rfl, rfl, rfl, by decide +kernel, rfl, by decide +kernel, by decide +kernel⟩
abbrev s_has_add : Stmt := top 29
def d_has_add : WHe.DefP := ⟨fun K => He.fAd K ("has_add", none), "has_add", "has_add", defArgs s_has_add, defBody s_has_add, defScope s_has_add⟩
theorem sc_has_add : FnScope ["script", "row", "deed"] ["script"] (defScope s_has_add) := ⟨rfl, rfl, rfl, by decide +kernel, rfl, by decide +kernel, by decide +kernel⟩
abbrev s_is_added_plan : Stmt := top 30
def d_is_added_plan : WHe.DefP := ⟨fun K => He.fAd K ("is_added_plan", none), "is_added_plan", "is_added_plan", defArgs s_is_added_plan, defBody s_is_added_plan, defScope s_is_added_plan⟩
theorem sc_is_added_plan : FnScope ["value"] ["value"] (defScope s_is_added_plan) := ⟨rfl, rfl, rfl, by decide +kernel, rfl, by decide +kernel, by decide +kernel⟩
abbrev s_has_shape : Stmt := top 31
def d_has_shape : WHe.DefP := ⟨fun K => He.fAd K ("has_shape", none), "has_shape", "has_shape", defArgs s_has_shape, defBody s_has_shape, defScope s_has_shape⟩
theorem sc_has_shape : FnScope ["word", "parts", "is_timed"] ["word", "parts"] (defScope s_has_shape) := ⟨rfl, rfl, rfl, by decide +kernel, rfl, by decide +kernel, by decide +kernel⟩
abbrev s_is_deed : Stmt := top 32
def d_is_deed : WHe.DefP := ⟨fun K => He.fAd K ("is_deed", none), "is_deed", "is_deed", defArgs s_is_deed, defBody s_is_deed, defScope s_is_deed⟩
theorem sc_is_deed : FnScope ["value"] ["value"] (defScope s_is_deed) := ⟨rfl, rfl, rfl, by decide +kernel, rfl, by decide +kernel, by decide +kernel⟩
abbrev s_is_row : Stmt := top 33
def d_is_row : WHe.DefP := ⟨fun K => He.fAd K ("is_row", none), "is_row", "is_row", defArgs s_is_row, defBody s_is_row, defScope s_is_row⟩
theorem sc_is_row : FnScope ["value", "deed"] ["value"] (defScope s_is_row) := ⟨rfl, rfl, rfl, by decide +kernel, rfl, by decide +kernel, by decide +kernel⟩
abbrev s_wrong_row : Stmt := top 34
def d_wrong_row : WHe.DefP := ⟨fun K => He.fAd K ("wrong_row", none), "wrong_row", "wrong_row", defArgs s_wrong_row, defBody s_wrong_row, defScope s_wrong_row⟩
theorem sc_wrong_row : FnScope ["script", "known", "index", "row"] ["script"] (defScope s_wrong_row) := ⟨rfl, rfl, rfl, by decide +kernel, rfl, by decide +kernel, by decide +kernel⟩
abbrev s_is_script : Stmt := top 35
def d_is_script : WHe.DefP := ⟨fun K => He.fAd K ("is_script", none), "is_script", "is_script", defArgs s_is_script, defBody s_is_script, defScope s_is_script⟩
theorem sc_is_script : FnScope ["value"] ["value"] (defScope s_is_script) := ⟨rfl, rfl, rfl, by decide +kernel, rfl, by decide +kernel, by decide +kernel⟩
abbrev s_require_script : Stmt := top 36
def d_require_script : WHe.DefP := ⟨fun K => He.fAd K ("require_script", none), "require_script", "require_script", defArgs s_require_script, defBody s_require_script, defScope s_require_script⟩
theorem sc_require_script : FnScope ["script", "index"] ["script"] (defScope s_require_script) := ⟨rfl, rfl, rfl, by decide +kernel, rfl, by decide +kernel, by decide +kernel⟩
abbrev s_found_row : Stmt := top 37
def d_found_row : WHe.DefP := ⟨fun K => He.fAd K ("found_row", none), "found_row", "found_row", defArgs s_found_row, defBody s_found_row, defScope s_found_row⟩
theorem sc_found_row : FnScope ["script", "mode", "word", "row"] ["script", "mode", "word"] (defScope s_found_row) := ⟨rfl, rfl, rfl, by decide +kernel, rfl, by decide +kernel, by decide +kernel⟩
abbrev s_row_for : Stmt := top 38
def d_row_for : WHe.DefP := ⟨fun K => He.fAd K ("row_for", none), "row_for", "row_for", defArgs s_row_for, defBody s_row_for, defScope s_row_for⟩
theorem sc_row_for : FnScope ["script", "mode", "word"] ["script", "mode", "word"] (defScope s_row_for) := ⟨rfl, rfl, rfl, by decide +kernel, rfl, by decide +kernel, by decide +kernel⟩
abbrev s_words_of : Stmt := top 39
def d_words_of : WHe.DefP := ⟨fun K => He.fAd K ("words_of", none), "words_of", "words_of", defArgs s_words_of, defBody s_words_of, defScope s_words_of⟩
theorem sc_words_of : FnScope ["script", "row"] ["script"] (defScope s_words_of) := ⟨rfl, rfl, rfl, by decide +kernel, rfl, by decide +kernel, by decide +kernel⟩
abbrev s_is_one_of : Stmt := top 47
def d_is_one_of : WHe.DefP := ⟨fun K => He.fAd K ("is_one_of", none), "is_one_of", "is_one_of", defArgs s_is_one_of, defBody s_is_one_of, defScope s_is_one_of⟩
theorem sc_is_one_of : FnScope ["value", "words"] ["value", "words"] (defScope s_is_one_of) := ⟨rfl, rfl, rfl, by decide +kernel, rfl, by decide +kernel, by decide +kernel⟩
abbrev s_is_deadline : Stmt := top 48
def d_is_deadline : WHe.DefP := ⟨fun K => He.fAd K ("is_deadline", none), "is_deadline", "is_deadline", defArgs s_is_deadline, defBody s_is_deadline, defScope s_is_deadline⟩
theorem sc_is_deadline : FnScope ["value"] ["value"] (defScope s_is_deadline) := ⟨rfl, rfl, rfl, by decide +kernel, rfl, by decide +kernel, by decide +kernel⟩
abbrev s_require : Stmt := top 49
def d_require : WHe.DefP := ⟨fun K => He.fAd K ("require", none), "require", "require", defArgs s_require, defBody s_require, defScope s_require⟩
theorem sc_require : FnScope ["rows", "setting", "is_fine"] ["rows"] (defScope s_require) := ⟨rfl, rfl, rfl, by decide +kernel, rfl, by decide +kernel, by decide +kernel⟩
abbrev s_L_begun : Stmt := top 53
def d_L_begun : WHe.DefP := ⟨fun K => He.fAd K ("_law_begun", none), "_law_begun", "_law_begun", defArgs s_L_begun, defBody s_L_begun, defScope s_L_begun⟩
theorem sc_L_begun : FnScope ["cells"] ["cells"] (defScope s_L_begun) := ⟨rfl, rfl, rfl, by decide +kernel, rfl, by decide +kernel, by decide +kernel⟩
abbrev s_L_next : Stmt := top 54
def d_L_next : WHe.DefP := ⟨fun K => He.fAd K ("_law_next", none), "_law_next", "_law_next", defArgs s_L_next, defBody s_L_next, defScope s_L_next⟩
theorem sc_L_next : FnScope ["m", "total", "found", "k", "cell", "mixed"] ["m", "total"] (defScope s_L_next) := ⟨rfl, rfl, rfl, by decide +kernel, rfl, by decide +kernel, by decide +kernel⟩
abbrev s_L_of : Stmt := top 55
def d_L_of : WHe.DefP := ⟨fun K => He.fAd K ("_law_of", none), "_law_of", "_law_of", defArgs s_L_of, defBody s_L_of, defScope s_L_of⟩
theorem sc_L_of : FnScope ["m", "items"] ["m", "items"] (defScope s_L_of) := ⟨rfl, rfl, rfl, by decide +kernel, rfl, by decide +kernel, by decide +kernel⟩
abbrev s_L_good_deed : Stmt := top 56
def d_L_good_deed : WHe.DefP := ⟨fun K => He.fAd K ("_law_good_deed", none), "_law_good_deed", "_law_good_deed", defArgs s_L_good_deed, defBody s_L_good_deed, defScope s_L_good_deed⟩
theorem sc_L_good_deed : FnScope ["m", "titles", "way", "name", "word", "worth", "some"] ["m", "titles"] (defScope s_L_good_deed) := ⟨rfl, rfl, rfl, by decide +kernel, rfl, by decide +kernel, by decide +kernel⟩
abbrev s_L_good_rows : Stmt := top 57
def d_L_good_rows : WHe.DefP := ⟨fun K => He.fAd K ("_law_good_rows", none), "_law_good_rows", "_law_good_rows", defArgs s_L_good_rows, defBody s_L_good_rows, defScope s_L_good_rows⟩
theorem sc_L_good_rows : FnScope ["m", "titles", "found", "k", "deeds", "j", "work"] ["m", "titles"] (defScope s_L_good_rows) := ⟨rfl, rfl, rfl, by decide +kernel, rfl, by decide +kernel, by decide +kernel⟩
abbrev s_L_field : Stmt := top 58
def d_L_field : WHe.DefP := ⟨fun K => He.fAd K ("_law_field", none), "_law_field", "_law_field", defArgs s_L_field, defBody s_L_field, defScope s_L_field⟩
theorem sc_L_field : FnScope ["act", "found", "e", "error"] ["act"] (defScope s_L_field) := ⟨rfl, rfl, rfl, by decide +kernel, rfl, by decide +kernel, by decide +kernel⟩
abbrev s_L_wrong_deed : Stmt := top 59
def d_L_wrong_deed : WHe.DefP := ⟨fun K => He.fAd K ("_law_wrong_deed", none), "_law_wrong_deed", "_law_wrong_deed", defArgs s_L_wrong_deed, defBody s_L_wrong_deed, defScope s_L_wrong_deed⟩
theorem sc_L_wrong_deed : FnScope ["m", "worse", "some", "five", "word"] ["m"] (defScope s_L_wrong_deed) := ⟨rfl, rfl, rfl, by decide +kernel, rfl, by decide +kernel, by decide +kernel⟩
abbrev s_L_wrong_row : Stmt := top 60
def d_L_wrong_row : WHe.DefP := ⟨fun K => He.fAd K ("_law_wrong_row", none), "_law_wrong_row", "_law_wrong_row", defArgs s_L_wrong_row, defBody s_L_wrong_row, defScope s_L_wrong_row⟩
theorem sc_L_wrong_row : FnScope ["m", "row", "mode", "word", "work", "deeds", "some", "more"] ["m", "row"] (defScope s_L_wrong_row) := ⟨rfl, rfl, rfl, by decide +kernel, rfl, by decide +kernel, by decide +kernel⟩
abbrev s_L_right : Stmt := top 61
def d_L_right : WHe.DefP := ⟨fun K => He.fAd K ("_law_right", none), "_law_right", "_law_right", defArgs s_L_right, defBody s_L_right, defScope s_L_right⟩
theorem sc_L_right : FnScope ["m", "rows", "told", "mode", "word", "row", "due", "deed"] ["m", "rows"] (defScope s_L_right) := ⟨rfl, rfl, rfl, by decide +kernel, rfl, by decide +kernel, by decide +kernel⟩
abbrev s_L_refused : Stmt := top 62
def d_L_refused : WHe.DefP := ⟨fun K => He.fAd K ("_law_refused", none), "_law_refused", "_law_refused", defArgs s_L_refused, defBody s_L_refused, defScope s_L_refused⟩
theorem sc_L_refused : FnScope ["m", "told", "due"] ["m", "told", "due"] (defScope s_L_refused) := ⟨rfl, rfl, rfl, by decide +kernel, rfl, by decide +kernel, by decide +kernel⟩
abbrev s_law : Stmt := top 63
def d_law : WHe.DefP := ⟨fun K => He.fAd K ("law", none), "law", "law", defArgs s_law, defBody s_law, defScope s_law⟩
theorem sc_law : FnScope ["cells", "m", "turn", "rows", "at", "wrong", "late", "full", "k", "odd"] ["cells"] (defScope s_law) := ⟨rfl, rfl, rfl, by decide +kernel, rfl, by decide +kernel, by decide +kernel⟩
abbrev s_Plan_settings : Stmt := inClass (top 1) 0
def d_Plan_settings : WHe.DefP := ⟨fun K => He.fAd K ("Plan", some "settings"), "settings", "Plan.settings", defArgs s_Plan_settings, defBody s_Plan_settings, defScope s_Plan_settings⟩
theorem sc_Plan_settings : FnScope ["self"] ["self"] (defScope s_Plan_settings) := ⟨rfl, rfl, rfl, by decide +kernel, rfl, by decide +kernel, by decide +kernel⟩
abbrev s_Plan_below : Stmt := inClass (top 1) 1
def d_Plan_below : WHe.DefP := ⟨fun K => He.fAd K ("Plan", some "below"), "below", "Plan.below", defArgs s_Plan_below, defBody s_Plan_below, defScope s_Plan_below⟩
theorem sc_Plan_below : FnScope ["self"] ["self"] (defScope s_Plan_below) := ⟨rfl, rfl, rfl, by decide +kernel, rfl, by decide +kernel, by decide +kernel⟩
abbrev s_Plan_with_all : Stmt := inClass (top 1) 2
def d_Plan_with_all : WHe.DefP := ⟨fun K => He.fAd K ("Plan", some "with_all"), "with_all", "Plan.with_all", defArgs s_Plan_with_all, defBody s_Plan_with_all, defScope s_Plan_with_all⟩
theorem sc_Plan_with_all : FnScope ["self", "found", "child"] ["self"] (defScope s_Plan_with_all) := ⟨rfl, rfl, rfl, by decide +kernel, rfl, by decide +kernel, by decide +kernel⟩
abbrev s_Plan__len : Stmt := inClass (top 1) 3
def d_Plan__len : WHe.DefP := ⟨fun K => He.fAd K ("Plan", some "__len__"), "__len__", "Plan.__len__", defArgs s_Plan__len, defBody s_Plan__len, defScope s_Plan__len⟩
theorem sc_Plan__len : FnScope ["self"] ["self"] (defScope s_Plan__len) := ⟨rfl, rfl, rfl, by decide +kernel, rfl, by decide +kernel, by decide +kernel⟩
abbrev s_Plan__contains : Stmt := inClass (top 1) 4
def d_Plan__contains : WHe.DefP := ⟨fun K => He.fAd K ("Plan", some "__contains__"), "__contains__", "Plan.__contains__", defArgs s_Plan__contains, defBody s_Plan__contains, defScope s_Plan__contains⟩
theorem sc_Plan__contains : FnScope ["self", "value", "plan"] ["self", "value"] (defScope s_Plan__contains) := ⟨rfl, rfl, rfl, by decide +kernel, rfl, by decide +kernel, by decide +kernel⟩
abbrev s_WorkerPlan__init : Stmt := inClass (top 50) 0
def d_WorkerPlan__init : WHe.DefP := ⟨fun K => He.fAd K ("WorkerPlan", some "__init__"), "__init__", "WorkerPlan.__init__", defArgs s_WorkerPlan__init, defBody s_WorkerPlan__init, defScope s_WorkerPlan__init⟩
theorem sc_WorkerPlan__init : FnScope ["self", "name", "restart", "opening", "closing", "deadline", "refused", "script", "rows"] ["self", "name", "restart", "opening", "closing", "deadline", "refused", "script"] (defScope s_WorkerPlan__init) := ⟨rfl, rfl, rfl, by decide +kernel, rfl, by decide +kernel, by decide +kernel⟩
abbrev s_WorkerPlan__eq : Stmt := inClass (top 50) 8
def d_WorkerPlan__eq : WHe.DefP := ⟨fun K => He.fAd K ("WorkerPlan", some "__eq__"), "__eq__", "WorkerPlan.__eq__", defArgs s_WorkerPlan__eq, defBody s_WorkerPlan__eq, defScope s_WorkerPlan__eq⟩
theorem sc_WorkerPlan__eq : FnScope ["self", "other"] ["self", "other"] (defScope s_WorkerPlan__eq) := ⟨rfl, rfl, rfl, by decide +kernel, rfl, by decide +kernel, by decide +kernel⟩
abbrev s_SupervisorPlan__init : Stmt := inClass (top 51) 0
def d_SupervisorPlan__init : WHe.DefP := ⟨fun K => He.fAd K ("SupervisorPlan", some "__init__"), "__init__", "SupervisorPlan.__init__", defArgs s_SupervisorPlan__init, defBody s_SupervisorPlan__init, defScope s_SupervisorPlan__init⟩
theorem sc_SupervisorPlan__init : FnScope ["self", "name", "restart", "strategy", "most", "span", "deadline", "children", "rows", "count", "depth", "index", "child"] ["self", "name", "restart", "strategy", "most", "span", "deadline", "children"] (defScope s_SupervisorPlan__init) := ⟨rfl, rfl, rfl, by decide +kernel, rfl, by decide +kernel, by decide +kernel⟩
abbrev s_SupervisorPlan_below : Stmt := inClass (top 51) 8
def d_SupervisorPlan_below : WHe.DefP := ⟨fun K => He.fAd K ("SupervisorPlan", some "below"), "below", "SupervisorPlan.below", defArgs s_SupervisorPlan_below, defBody s_SupervisorPlan_below, defScope s_SupervisorPlan_below⟩
theorem sc_SupervisorPlan_below : FnScope ["self"] ["self"] (defScope s_SupervisorPlan_below) := ⟨rfl, rfl, rfl, by decide +kernel, rfl, by decide +kernel, by decide +kernel⟩
abbrev s_SupervisorPlan__eq : Stmt := inClass (top 51) 9
def d_SupervisorPlan__eq : WHe.DefP := ⟨fun K => He.fAd K ("SupervisorPlan", some "__eq__"), "__eq__", "SupervisorPlan.__eq__", defArgs s_SupervisorPlan__eq, defBody s_SupervisorPlan__eq, defScope s_SupervisorPlan__eq⟩
theorem sc_SupervisorPlan__eq : FnScope ["self", "other"] ["self", "other"] (defScope s_SupervisorPlan__eq) := ⟨rfl, rfl, rfl, by decide +kernel, rfl, by decide +kernel, by decide +kernel⟩
abbrev s_BadChild__init : Stmt := inClass (top 6) 0
def d_BadChild__init : WHe.DefP := ⟨fun K => He.fAd K ("BadChild", some "__init__"), "__init__", "BadChild.__init__", defArgs s_BadChild__init, defBody s_BadChild__init, defScope s_BadChild__init⟩
theorem sc_BadChild__init : FnScope ["self", "index"] ["self", "index"] (defScope s_BadChild__init) := ⟨rfl, rfl, rfl, by decide +kernel, rfl, by decide +kernel, by decide +kernel⟩
abbrev s_BadScript__init : Stmt := inClass (top 7) 0
def d_BadScript__init : WHe.DefP := ⟨fun K => He.fAd K ("BadScript", some "__init__"), "__init__", "BadScript.__init__", defArgs s_BadScript__init, defBody s_BadScript__init, defScope s_BadScript__init⟩
theorem sc_BadScript__init : FnScope ["self", "index"] ["self", "index"] (defScope s_BadScript__init) := ⟨rfl, rfl, rfl, by decide +kernel, rfl, by decide +kernel, by decide +kernel⟩
abbrev s_BadSetting__init : Stmt := inClass (top 5) 0
def d_BadSetting__init : WHe.DefP := ⟨fun K => He.fAd K ("BadSetting", some "__init__"), "__init__", "BadSetting.__init__", defArgs s_BadSetting__init, defBody s_BadSetting__init, defScope s_BadSetting__init⟩
theorem sc_BadSetting__init : FnScope ["self", "setting"] ["self", "setting"] (defScope s_BadSetting__init) := ⟨rfl, rfl, rfl, by decide +kernel, rfl, by decide +kernel, by decide +kernel⟩
abbrev s_WorkerPlan_name : Stmt := inClass (top 50) 1
def d_WorkerPlan_name : WHe.DefP := ⟨fun K => WHe.pgAd K "WorkerPlan" "name", "name", "WorkerPlan.name", defArgs s_WorkerPlan_name, defBody s_WorkerPlan_name, defScope s_WorkerPlan_name⟩
theorem sc_WorkerPlan_name : FnScope ["self"] ["self"] (defScope s_WorkerPlan_name) := ⟨rfl, rfl, rfl, by decide +kernel, rfl, by decide +kernel, by decide +kernel⟩
abbrev s_WorkerPlan_restart : Stmt := inClass (top 50) 2
def d_WorkerPlan_restart : WHe.DefP := ⟨fun K => WHe.pgAd K "WorkerPlan" "restart", "restart", "WorkerPlan.restart", defArgs s_WorkerPlan_restart, defBody s_WorkerPlan_restart, defScope s_WorkerPlan_restart⟩
theorem sc_WorkerPlan_restart : FnScope ["self"] ["self"] (defScope s_WorkerPlan_restart) := ⟨rfl, rfl, rfl, by decide +kernel, rfl, by decide +kernel, by decide +kernel⟩
abbrev s_WorkerPlan_opening : Stmt := inClass (top 50) 3
def d_WorkerPlan_opening : WHe.DefP := ⟨fun K => WHe.pgAd K "WorkerPlan" "opening", "opening", "WorkerPlan.opening", defArgs s_WorkerPlan_opening, defBody s_WorkerPlan_opening, defScope s_WorkerPlan_opening⟩
theorem sc_WorkerPlan_opening : FnScope ["self"] ["self"] (defScope s_WorkerPlan_opening) := ⟨rfl, rfl, rfl, by decide +kernel, rfl, by decide +kernel, by decide +kernel⟩
abbrev s_WorkerPlan_closing : Stmt := inClass (top 50) 4
def d_WorkerPlan_closing : WHe.DefP := ⟨fun K => WHe.pgAd K "WorkerPlan" "closing", "closing", "WorkerPlan.closing", defArgs s_WorkerPlan_closing, defBody s_WorkerPlan_closing, defScope s_WorkerPlan_closing⟩
theorem sc_WorkerPlan_closing : FnScope ["self"] ["self"] (defScope s_WorkerPlan_closing) := ⟨rfl, rfl, rfl, by decide +kernel, rfl, by decide +kernel, by decide +kernel⟩
abbrev s_WorkerPlan_deadline : Stmt := inClass (top 50) 5
def d_WorkerPlan_deadline : WHe.DefP := ⟨fun K => WHe.pgAd K "WorkerPlan" "deadline", "deadline", "WorkerPlan.deadline", defArgs s_WorkerPlan_deadline, defBody s_WorkerPlan_deadline, defScope s_WorkerPlan_deadline⟩
theorem sc_WorkerPlan_deadline : FnScope ["self"] ["self"] (defScope s_WorkerPlan_deadline) := ⟨rfl, rfl, rfl, by decide +kernel, rfl, by decide +kernel, by decide +kernel⟩
abbrev s_WorkerPlan_refused : Stmt := inClass (top 50) 6
def d_WorkerPlan_refused : WHe.DefP := ⟨fun K => WHe.pgAd K "WorkerPlan" "refused", "refused", "WorkerPlan.refused", defArgs s_WorkerPlan_refused, defBody s_WorkerPlan_refused, defScope s_WorkerPlan_refused⟩
theorem sc_WorkerPlan_refused : FnScope ["self"] ["self"] (defScope s_WorkerPlan_refused) := ⟨rfl, rfl, rfl, by decide +kernel, rfl, by decide +kernel, by decide +kernel⟩
abbrev s_WorkerPlan_script : Stmt := inClass (top 50) 7
def d_WorkerPlan_script : WHe.DefP := ⟨fun K => WHe.pgAd K "WorkerPlan" "script", "script", "WorkerPlan.script", defArgs s_WorkerPlan_script, defBody s_WorkerPlan_script, defScope s_WorkerPlan_script⟩
theorem sc_WorkerPlan_script : FnScope ["self"] ["self"] (defScope s_WorkerPlan_script) := ⟨rfl, rfl, rfl, by decide +kernel, rfl, by decide +kernel, by decide +kernel⟩
abbrev s_SupervisorPlan_name : Stmt := inClass (top 51) 1
def d_SupervisorPlan_name : WHe.DefP := ⟨fun K => WHe.pgAd K "SupervisorPlan" "name", "name", "SupervisorPlan.name", defArgs s_SupervisorPlan_name, defBody s_SupervisorPlan_name, defScope s_SupervisorPlan_name⟩
theorem sc_SupervisorPlan_name : FnScope ["self"] ["self"] (defScope s_SupervisorPlan_name) := ⟨rfl, rfl, rfl, by decide +kernel, rfl, by decide +kernel, by decide +kernel⟩
abbrev s_SupervisorPlan_restart : Stmt := inClass (top 51) 2
def d_SupervisorPlan_restart : WHe.DefP := ⟨fun K => WHe.pgAd K "SupervisorPlan" "restart", "restart", "SupervisorPlan.restart", defArgs s_SupervisorPlan_restart, defBody s_SupervisorPlan_restart, defScope s_SupervisorPlan_restart⟩
theorem sc_SupervisorPlan_restart : FnScope ["self"] ["self"] (defScope s_SupervisorPlan_restart) := ⟨rfl, rfl, rfl, by decide +kernel, rfl, by decide +kernel, by decide +kernel⟩
abbrev s_SupervisorPlan_strategy : Stmt := inClass (top 51) 3
def d_SupervisorPlan_strategy : WHe.DefP := ⟨fun K => WHe.pgAd K "SupervisorPlan" "strategy", "strategy", "SupervisorPlan.strategy", defArgs s_SupervisorPlan_strategy, defBody s_SupervisorPlan_strategy, defScope s_SupervisorPlan_strategy⟩
theorem sc_SupervisorPlan_strategy : FnScope ["self"] ["self"] (defScope s_SupervisorPlan_strategy) := ⟨rfl, rfl, rfl, by decide +kernel, rfl, by decide +kernel, by decide +kernel⟩
abbrev s_SupervisorPlan_most : Stmt := inClass (top 51) 4
def d_SupervisorPlan_most : WHe.DefP := ⟨fun K => WHe.pgAd K "SupervisorPlan" "most", "most", "SupervisorPlan.most", defArgs s_SupervisorPlan_most, defBody s_SupervisorPlan_most, defScope s_SupervisorPlan_most⟩
theorem sc_SupervisorPlan_most : FnScope ["self"] ["self"] (defScope s_SupervisorPlan_most) := ⟨rfl, rfl, rfl, by decide +kernel, rfl, by decide +kernel, by decide +kernel⟩
abbrev s_SupervisorPlan_span : Stmt := inClass (top 51) 5
def d_SupervisorPlan_span : WHe.DefP := ⟨fun K => WHe.pgAd K "SupervisorPlan" "span", "span", "SupervisorPlan.span", defArgs s_SupervisorPlan_span, defBody s_SupervisorPlan_span, defScope s_SupervisorPlan_span⟩
theorem sc_SupervisorPlan_span : FnScope ["self"] ["self"] (defScope s_SupervisorPlan_span) := ⟨rfl, rfl, rfl, by decide +kernel, rfl, by decide +kernel, by decide +kernel⟩
abbrev s_SupervisorPlan_deadline : Stmt := inClass (top 51) 6
def d_SupervisorPlan_deadline : WHe.DefP := ⟨fun K => WHe.pgAd K "SupervisorPlan" "deadline", "deadline", "SupervisorPlan.deadline", defArgs s_SupervisorPlan_deadline, defBody s_SupervisorPlan_deadline, defScope s_SupervisorPlan_deadline⟩
theorem sc_SupervisorPlan_deadline : FnScope ["self"] ["self"] (defScope s_SupervisorPlan_deadline) := ⟨rfl, rfl, rfl, by decide +kernel, rfl, by decide +kernel, by decide +kernel⟩
abbrev s_SupervisorPlan_children : Stmt := inClass (top 51) 7
def d_SupervisorPlan_children : WHe.DefP := ⟨fun K => WHe.pgAd K "SupervisorPlan" "children", "children", "SupervisorPlan.children", defArgs s_SupervisorPlan_children, defBody s_SupervisorPlan_children, defScope s_SupervisorPlan_children⟩
theorem sc_SupervisorPlan_children : FnScope ["self"] ["self"] (defScope s_SupervisorPlan_children) := ⟨rfl, rfl, rfl, by decide +kernel, rfl, by decide +kernel, by decide +kernel⟩
def fns : List WHe.DefP := [d_is_word, d_is_name, d_is_between, d_is_failure, d_is_free_word, d_is_value, d_is_deed_value, d_has_add, d_is_added_plan, d_has_shape, d_is_deed, d_is_row, d_wrong_row, d_is_script, d_require_script, d_found_row, d_row_for, d_words_of, d_is_one_of, d_is_deadline, d_require, d_L_begun, d_L_next, d_L_of, d_L_good_deed, d_L_good_rows, d_L_field, d_L_wrong_deed, d_L_wrong_row, d_L_right, d_L_refused, d_law, d_Plan_settings, d_Plan_below, d_Plan_with_all, d_Plan__len, d_Plan__contains, d_WorkerPlan__init, d_WorkerPlan__eq, d_SupervisorPlan__init, d_SupervisorPlan_below, d_SupervisorPlan__eq, d_BadChild__init, d_BadScript__init, d_BadSetting__init, d_WorkerPlan_name, d_WorkerPlan_restart, d_WorkerPlan_opening, d_WorkerPlan_closing, d_WorkerPlan_deadline, d_WorkerPlan_refused, d_WorkerPlan_script, d_SupervisorPlan_name, d_SupervisorPlan_restart, d_SupervisorPlan_strategy, d_SupervisorPlan_most, d_SupervisorPlan_span, d_SupervisorPlan_deadline, d_SupervisorPlan_children]
def frees : List Str := ["len", "int", "isinstance", "range", "enumerate", "list", "str", "tuple", "all", "min", "max", "bool", "sorted", "set"]
def globs : List Str := (["Plan", "BaseWorker", "PlanError", "BadSetting", "BadChild", "BadScript", "WorkerPlan", "SupervisorPlan", "is_word", "is_name", "is_between", "is_failure", "is_free_word", "is_value", "is_deed_value", "has_add"] : List Str) ++ (["is_added_plan", "has_shape", "is_deed", "is_row", "wrong_row", "is_script", "require_script", "found_row", "row_for", "words_of", "is_one_of", "is_deadline", "require", "_law_begun", "_law_next", "_law_of"] : List Str) ++ (["_law_good_deed", "_law_good_rows", "_law_field", "_law_wrong_deed", "_law_wrong_row", "_law_right", "_law_refused", "law", "RESERVED", "OWN_REASONS", "OWN_WORDS", "RESTARTS", "STRATEGIES"] : List Str)
def cints : List (Str × Int) := [("MOST_SIGNS", 20), ("MOST_ROWS", 30), ("MOST_DEEDS", 8), ("MOST_WAITING", 200), ("MOST_WORK", 1000), ("MOST_TICKS", 1000000000), ("MOST_VALUE", 1000000000000), ("MOST_WAIT", 1000000000), ("MOST_CHILDREN", 12), ("MOST_DEPTH", 20), ("MOST_WHOLE", 200)]
def cstrs : List (Str × Str) := [("LETTERS", "abcdefghijklmnopqrstuvwxyz"), ("SIGNS", "abcdefghijklmnopqrstuvwxyz0123456789_")]
def ctups : List (Str × List He.Dv) := [("RESERVED", [.str "own", .str "sender", .str "about"]), ("OWN_REASONS", [.str "shutdown", .str "refused", .str "gave_up", .str "killed", .str "nobody"]), ("OWN_WORDS", [.str "answer", .str "back", .str "ended", .str "down", .str "told"]), ("RESTARTS", [.str "permanent", .str "transient", .str "temporary"]), ("STRATEGIES", [.str "one", .str "rest", .str "all"])]
def noat : List (Str × Str) := [("WorkerPlan", "own_settings"), ("WorkerPlan", "own_count"), ("WorkerPlan", "own_depth"), ("SupervisorPlan", "own_settings"), ("SupervisorPlan", "own_children"), ("SupervisorPlan", "own_count"), ("SupervisorPlan", "own_depth")]
def meths : List (Str × Str × Str) := [("WorkerPlan", "settings", "Plan"), ("WorkerPlan", "below", "Plan"), ("WorkerPlan", "with_all", "Plan"), ("WorkerPlan", "__len__", "Plan"), ("WorkerPlan", "__contains__", "Plan"), ("SupervisorPlan", "below", "SupervisorPlan"), ("SupervisorPlan", "settings", "Plan"), ("SupervisorPlan", "with_all", "Plan"), ("SupervisorPlan", "__len__", "Plan"), ("SupervisorPlan", "__contains__", "Plan")]
def props : List (Str × Str) := [("WorkerPlan", "name"), ("WorkerPlan", "restart"), ("WorkerPlan", "opening"), ("WorkerPlan", "closing"), ("WorkerPlan", "deadline"), ("WorkerPlan", "refused"), ("WorkerPlan", "script"), ("SupervisorPlan", "name"), ("SupervisorPlan", "restart"), ("SupervisorPlan", "strategy"), ("SupervisorPlan", "most"), ("SupervisorPlan", "span"), ("SupervisorPlan", "deadline"), ("SupervisorPlan", "children")]
def kits : List (Str × Str × Bool) := [("WorkerPlan", "Plan", true), ("WorkerPlan", "BaseWorker", true), ("WorkerPlan", "WorkerPlan", true), ("WorkerPlan", "SupervisorPlan", false), ("SupervisorPlan", "Plan", true), ("SupervisorPlan", "BaseWorker", false), ("SupervisorPlan", "WorkerPlan", false), ("SupervisorPlan", "SupervisorPlan", true)]
abbrev bmValueError : List Value := [.type "ValueError", .type "Exception", .type "BaseException", .type "object"]
theorem kb_pos {K : PySem.W.Frag} {fd : FuncData} {ps : List Str} {n : Nat} (hn : n = ps.length) (h : Binds K fd ps []) : KBn K fd ps n [] (fun us _ => us) (fun vs _ => vs) :=
  ⟨fun s us ws X hl _ => by
    have z := h s us X (by rw [List.append_nil, hl, hn])
    rw [List.append_nil] at z
    exact z, fun r _ => r⟩
theorem kb_kw {K : PySem.W.Frag} {x qual : Str} {params : Arguments} {body : List Stmt} {scope : Scope} {f : Addr} {fd : FuncData} {a b k : Str} (F : FunD K x qual params body scope [] [] f fd)
    (h : ∀ (kV doc pm : Value) (an : Option Addr) (cdv ct : Value) (u v : Value), bindArgs (PySem.W.fnOf x qual params body scope .none kV doc pm an cdv ct) ⟨[u], [(k, v)]⟩ = pure ([a, b].zip [u, v])) :
    KBn K fd [a, b] 1 [k] (fun us ws => us ++ ws) (fun vs zs => vs ++ zs) := by
  obtain ⟨oc, od, dV, kV, doc, pm, an, cdv, ct, osl, rfl, lk, hcd, hD, hK⟩ := F.ex
  rcases hD with ⟨_, rfl⟩ | ⟨e, _⟩
  · refine ⟨fun s us ws X h1 h2 => ?_, fun r1 r2 => r1.append r2⟩
    match us, ws, h1, h2 with
    | [u], [v], _, _ => exact .of_eq (h kV doc pm an cdv ct u v)
  · exact absurd rfl e
/-- the keyword default k of the def at f, if it is an object -/
def kwAt (f : PySem.W.Frag → Addr) (k : Str) (K : PySem.W.Frag) : Addr := match K.lookup (f K) with
  | some ⟨_, _, .func fd, _⟩ => (match fd.kwdefaults with
    | .ref D => (match PySem.W.nsIn K D k with
      | some (some (.ref a)) => a
      | _ => 0)
    | _ => 0)
  | _ => 0
def kwB (K : PySem.W.Frag) (a : Addr) (kws : List (Str × V)) : Bool := match K.lookup a with
  | some ⟨_, _, .func fd, _⟩ => He.kwdB K fd.kwdefaults kws
  | _ => false
def emB (K : PySem.W.Frag) (a : Addr) : Bool := match K.lookup a with
  | some ⟨.type c, _, .seq its _, _⟩ => decide (c = "tuple") && decide (its.size = 0)
  | _ => false
theorem emB_ok {K : PySem.W.Frag} {a : Addr} (h : emB K a = true) (H : Hp) : SqT K H a [] := by
  unfold emB at h
  split at h
  · rename_i c od its n sl e
    obtain ⟨h1, h2⟩ := He.ba h
    have e1 := of_decide_eq_true h1
    have e2 := of_decide_eq_true h2
    subst e1
    have e3 : its.toList = [] := List.length_eq_zero_iff.mp (by simpa using e2)
    exact .inr ⟨_, its, n, e, rfl, rfl, by rw [e2]; exact Nat.zero_le _, by rw [e3]; exact .nil⟩
  · cases h
def kws_WorkerPlan__init : List (Str × He.Dv) := [("restart", .str "permanent"), ("opening", .int 0), ("closing", .int 0), ("deadline", .non), ("refused", .int 0), ("script", .adr (kwAt (fun K => He.fAd K ("WorkerPlan", some "__init__")) "script"))]
def kws_SupervisorPlan__init : List (Str × He.Dv) := [("restart", .str "permanent"), ("strategy", .str "one"), ("most", .int 1), ("span", .int 10), ("deadline", .non)]
def kwsV (K : PySem.W.Frag) (l : List (Str × He.Dv)) : List (Str × V) := l.map fun q => (q.1, q.2.v K)
structure Env (K : PySem.W.Frag) (mg : Str → Option Value) : Type where
  sys : WXG.SysK K
  b_len : mg "len" = none
  b_int : mg "int" = none
  b_isinstance : mg "isinstance" = none
  b_range : mg "range" = none
  b_enumerate : mg "enumerate" = none
  b_list : mg "list" = none
  b_str : mg "str" = none
  b_tuple : mg "tuple" = none
  b_all : mg "all" = none
  b_min : mg "min" = none
  b_max : mg "max" = none
  b_bool : mg "bool" = none
  b_sorted : mg "sorted" = none
  b_set : mg "set" = none
  g_Plan : mg "Plan" = some (.ref (He.ga K "Plan"))
  g_BaseWorker : mg "BaseWorker" = some (.ref (He.ga K "BaseWorker"))
  g_PlanError : mg "PlanError" = some (.ref (He.ga K "PlanError"))
  g_BadSetting : mg "BadSetting" = some (.ref (He.ga K "BadSetting"))
  g_BadChild : mg "BadChild" = some (.ref (He.ga K "BadChild"))
  g_BadScript : mg "BadScript" = some (.ref (He.ga K "BadScript"))
  g_WorkerPlan : mg "WorkerPlan" = some (.ref (He.ga K "WorkerPlan"))
  g_SupervisorPlan : mg "SupervisorPlan" = some (.ref (He.ga K "SupervisorPlan"))
  g_is_word : mg "is_word" = some (.ref (He.ga K "is_word"))
  g_is_name : mg "is_name" = some (.ref (He.ga K "is_name"))
  g_is_between : mg "is_between" = some (.ref (He.ga K "is_between"))
  g_is_failure : mg "is_failure" = some (.ref (He.ga K "is_failure"))
  g_is_free_word : mg "is_free_word" = some (.ref (He.ga K "is_free_word"))
  g_is_value : mg "is_value" = some (.ref (He.ga K "is_value"))
  g_is_deed_value : mg "is_deed_value" = some (.ref (He.ga K "is_deed_value"))
  g_has_add : mg "has_add" = some (.ref (He.ga K "has_add"))
  g_is_added_plan : mg "is_added_plan" = some (.ref (He.ga K "is_added_plan"))
  g_has_shape : mg "has_shape" = some (.ref (He.ga K "has_shape"))
  g_is_deed : mg "is_deed" = some (.ref (He.ga K "is_deed"))
  g_is_row : mg "is_row" = some (.ref (He.ga K "is_row"))
  g_wrong_row : mg "wrong_row" = some (.ref (He.ga K "wrong_row"))
  g_is_script : mg "is_script" = some (.ref (He.ga K "is_script"))
  g_require_script : mg "require_script" = some (.ref (He.ga K "require_script"))
  g_found_row : mg "found_row" = some (.ref (He.ga K "found_row"))
  g_row_for : mg "row_for" = some (.ref (He.ga K "row_for"))
  g_words_of : mg "words_of" = some (.ref (He.ga K "words_of"))
  g_is_one_of : mg "is_one_of" = some (.ref (He.ga K "is_one_of"))
  g_is_deadline : mg "is_deadline" = some (.ref (He.ga K "is_deadline"))
  g_require : mg "require" = some (.ref (He.ga K "require"))
  g__law_begun : mg "_law_begun" = some (.ref (He.ga K "_law_begun"))
  g__law_next : mg "_law_next" = some (.ref (He.ga K "_law_next"))
  g__law_of : mg "_law_of" = some (.ref (He.ga K "_law_of"))
  g__law_good_deed : mg "_law_good_deed" = some (.ref (He.ga K "_law_good_deed"))
  g__law_good_rows : mg "_law_good_rows" = some (.ref (He.ga K "_law_good_rows"))
  g__law_field : mg "_law_field" = some (.ref (He.ga K "_law_field"))
  g__law_wrong_deed : mg "_law_wrong_deed" = some (.ref (He.ga K "_law_wrong_deed"))
  g__law_wrong_row : mg "_law_wrong_row" = some (.ref (He.ga K "_law_wrong_row"))
  g__law_right : mg "_law_right" = some (.ref (He.ga K "_law_right"))
  g__law_refused : mg "_law_refused" = some (.ref (He.ga K "_law_refused"))
  g_law : mg "law" = some (.ref (He.ga K "law"))
  g_RESERVED : mg "RESERVED" = some (.ref (He.ga K "RESERVED"))
  g_OWN_REASONS : mg "OWN_REASONS" = some (.ref (He.ga K "OWN_REASONS"))
  g_OWN_WORDS : mg "OWN_WORDS" = some (.ref (He.ga K "OWN_WORDS"))
  g_RESTARTS : mg "RESTARTS" = some (.ref (He.ga K "RESTARTS"))
  g_STRATEGIES : mg "STRATEGIES" = some (.ref (He.ga K "STRATEGIES"))
  c_MOST_SIGNS : ∃ u, mg "MOST_SIGNS" = some u ∧ L2.RelV (.int 20) u
  c_MOST_ROWS : ∃ u, mg "MOST_ROWS" = some u ∧ L2.RelV (.int 30) u
  c_MOST_DEEDS : ∃ u, mg "MOST_DEEDS" = some u ∧ L2.RelV (.int 8) u
  c_MOST_WAITING : ∃ u, mg "MOST_WAITING" = some u ∧ L2.RelV (.int 200) u
  c_MOST_WORK : ∃ u, mg "MOST_WORK" = some u ∧ L2.RelV (.int 1000) u
  c_MOST_TICKS : ∃ u, mg "MOST_TICKS" = some u ∧ L2.RelV (.int 1000000000) u
  c_MOST_VALUE : ∃ u, mg "MOST_VALUE" = some u ∧ L2.RelV (.int 1000000000000) u
  c_MOST_WAIT : ∃ u, mg "MOST_WAIT" = some u ∧ L2.RelV (.int 1000000000) u
  c_MOST_CHILDREN : ∃ u, mg "MOST_CHILDREN" = some u ∧ L2.RelV (.int 12) u
  c_MOST_DEPTH : ∃ u, mg "MOST_DEPTH" = some u ∧ L2.RelV (.int 20) u
  c_MOST_WHOLE : ∃ u, mg "MOST_WHOLE" = some u ∧ L2.RelV (.int 200) u
  c_LETTERS : ∃ u, mg "LETTERS" = some u ∧ L2.RelV (.str "abcdefghijklmnopqrstuvwxyz") u
  c_SIGNS : ∃ u, mg "SIGNS" = some u ∧ L2.RelV (.str "abcdefghijklmnopqrstuvwxyz0123456789_") u
  q_RESERVED : ∀ H, SqT K H (He.ga K "RESERVED") [.str "own", .str "sender", .str "about"]
  q_OWN_REASONS : ∀ H, SqT K H (He.ga K "OWN_REASONS") [.str "shutdown", .str "refused", .str "gave_up", .str "killed", .str "nobody"]
  q_OWN_WORDS : ∀ H, SqT K H (He.ga K "OWN_WORDS") [.str "answer", .str "back", .str "ended", .str "down", .str "told"]
  q_RESTARTS : ∀ H, SqT K H (He.ga K "RESTARTS") [.str "permanent", .str "transient", .str "temporary"]
  q_STRATEGIES : ∀ H, SqT K H (He.ga K "STRATEGIES") [.str "one", .str "rest", .str "all"]
  fd_is_word : FuncData
  F_is_word : FunD K d_is_word.name d_is_word.qual d_is_word.params d_is_word.body d_is_word.scope [] [] (d_is_word.loc K) fd_is_word
  fd_is_name : FuncData
  F_is_name : FunD K d_is_name.name d_is_name.qual d_is_name.params d_is_name.body d_is_name.scope [] [] (d_is_name.loc K) fd_is_name
  fd_is_between : FuncData
  F_is_between : FunD K d_is_between.name d_is_between.qual d_is_between.params d_is_between.body d_is_between.scope [] [] (d_is_between.loc K) fd_is_between
  fd_is_failure : FuncData
  F_is_failure : FunD K d_is_failure.name d_is_failure.qual d_is_failure.params d_is_failure.body d_is_failure.scope [] [] (d_is_failure.loc K) fd_is_failure
  fd_is_free_word : FuncData
  F_is_free_word : FunD K d_is_free_word.name d_is_free_word.qual d_is_free_word.params d_is_free_word.body d_is_free_word.scope [] [] (d_is_free_word.loc K) fd_is_free_word
  fd_is_value : FuncData
  F_is_value : FunD K d_is_value.name d_is_value.qual d_is_value.params d_is_value.body d_is_value.scope [] [] (d_is_value.loc K) fd_is_value
  fd_is_deed_value : FuncData
  F_is_deed_value : FunD K d_is_deed_value.name d_is_deed_value.qual d_is_deed_value.params d_is_deed_value.body d_is_deed_value.scope [] [] (d_is_deed_value.loc K) fd_is_deed_value
  fd_has_add : FuncData
  F_has_add : FunD K d_has_add.name d_has_add.qual d_has_add.params d_has_add.body d_has_add.scope [] [] (d_has_add.loc K) fd_has_add
  fd_is_added_plan : FuncData
  F_is_added_plan : FunD K d_is_added_plan.name d_is_added_plan.qual d_is_added_plan.params d_is_added_plan.body d_is_added_plan.scope [] [] (d_is_added_plan.loc K) fd_is_added_plan
  fd_has_shape : FuncData
  F_has_shape : FunD K d_has_shape.name d_has_shape.qual d_has_shape.params d_has_shape.body d_has_shape.scope [] [] (d_has_shape.loc K) fd_has_shape
  fd_is_deed : FuncData
  F_is_deed : FunD K d_is_deed.name d_is_deed.qual d_is_deed.params d_is_deed.body d_is_deed.scope [] [] (d_is_deed.loc K) fd_is_deed
  fd_is_row : FuncData
  F_is_row : FunD K d_is_row.name d_is_row.qual d_is_row.params d_is_row.body d_is_row.scope [] [] (d_is_row.loc K) fd_is_row
  fd_wrong_row : FuncData
  F_wrong_row : FunD K d_wrong_row.name d_wrong_row.qual d_wrong_row.params d_wrong_row.body d_wrong_row.scope [] [] (d_wrong_row.loc K) fd_wrong_row
  fd_is_script : FuncData
  F_is_script : FunD K d_is_script.name d_is_script.qual d_is_script.params d_is_script.body d_is_script.scope [] [] (d_is_script.loc K) fd_is_script
  fd_require_script : FuncData
  F_require_script : FunD K d_require_script.name d_require_script.qual d_require_script.params d_require_script.body d_require_script.scope [] [] (d_require_script.loc K) fd_require_script
  fd_found_row : FuncData
  F_found_row : FunD K d_found_row.name d_found_row.qual d_found_row.params d_found_row.body d_found_row.scope [] [] (d_found_row.loc K) fd_found_row
  fd_row_for : FuncData
  F_row_for : FunD K d_row_for.name d_row_for.qual d_row_for.params d_row_for.body d_row_for.scope [] [] (d_row_for.loc K) fd_row_for
  fd_words_of : FuncData
  F_words_of : FunD K d_words_of.name d_words_of.qual d_words_of.params d_words_of.body d_words_of.scope [] [] (d_words_of.loc K) fd_words_of
  fd_is_one_of : FuncData
  F_is_one_of : FunD K d_is_one_of.name d_is_one_of.qual d_is_one_of.params d_is_one_of.body d_is_one_of.scope [] [] (d_is_one_of.loc K) fd_is_one_of
  fd_is_deadline : FuncData
  F_is_deadline : FunD K d_is_deadline.name d_is_deadline.qual d_is_deadline.params d_is_deadline.body d_is_deadline.scope [] [] (d_is_deadline.loc K) fd_is_deadline
  fd_require : FuncData
  F_require : FunD K d_require.name d_require.qual d_require.params d_require.body d_require.scope [] [] (d_require.loc K) fd_require
  fd_L_begun : FuncData
  F_L_begun : FunD K d_L_begun.name d_L_begun.qual d_L_begun.params d_L_begun.body d_L_begun.scope [] [] (d_L_begun.loc K) fd_L_begun
  fd_L_next : FuncData
  F_L_next : FunD K d_L_next.name d_L_next.qual d_L_next.params d_L_next.body d_L_next.scope [] [] (d_L_next.loc K) fd_L_next
  fd_L_of : FuncData
  F_L_of : FunD K d_L_of.name d_L_of.qual d_L_of.params d_L_of.body d_L_of.scope [] [] (d_L_of.loc K) fd_L_of
  fd_L_good_deed : FuncData
  F_L_good_deed : FunD K d_L_good_deed.name d_L_good_deed.qual d_L_good_deed.params d_L_good_deed.body d_L_good_deed.scope [] [] (d_L_good_deed.loc K) fd_L_good_deed
  fd_L_good_rows : FuncData
  F_L_good_rows : FunD K d_L_good_rows.name d_L_good_rows.qual d_L_good_rows.params d_L_good_rows.body d_L_good_rows.scope [] [] (d_L_good_rows.loc K) fd_L_good_rows
  fd_L_field : FuncData
  F_L_field : FunD K d_L_field.name d_L_field.qual d_L_field.params d_L_field.body d_L_field.scope [] [] (d_L_field.loc K) fd_L_field
  fd_L_wrong_deed : FuncData
  F_L_wrong_deed : FunD K d_L_wrong_deed.name d_L_wrong_deed.qual d_L_wrong_deed.params d_L_wrong_deed.body d_L_wrong_deed.scope [] [] (d_L_wrong_deed.loc K) fd_L_wrong_deed
  fd_L_wrong_row : FuncData
  F_L_wrong_row : FunD K d_L_wrong_row.name d_L_wrong_row.qual d_L_wrong_row.params d_L_wrong_row.body d_L_wrong_row.scope [] [] (d_L_wrong_row.loc K) fd_L_wrong_row
  fd_L_right : FuncData
  F_L_right : FunD K d_L_right.name d_L_right.qual d_L_right.params d_L_right.body d_L_right.scope [] [] (d_L_right.loc K) fd_L_right
  fd_L_refused : FuncData
  F_L_refused : FunD K d_L_refused.name d_L_refused.qual d_L_refused.params d_L_refused.body d_L_refused.scope [] [] (d_L_refused.loc K) fd_L_refused
  fd_law : FuncData
  F_law : FunD K d_law.name d_law.qual d_law.params d_law.body d_law.scope [] [] (d_law.loc K) fd_law
  fd_Plan_settings : FuncData
  F_Plan_settings : FunD K d_Plan_settings.name d_Plan_settings.qual d_Plan_settings.params d_Plan_settings.body d_Plan_settings.scope [] [] (d_Plan_settings.loc K) fd_Plan_settings
  fd_Plan_below : FuncData
  F_Plan_below : FunD K d_Plan_below.name d_Plan_below.qual d_Plan_below.params d_Plan_below.body d_Plan_below.scope [] [] (d_Plan_below.loc K) fd_Plan_below
  fd_Plan_with_all : FuncData
  F_Plan_with_all : FunD K d_Plan_with_all.name d_Plan_with_all.qual d_Plan_with_all.params d_Plan_with_all.body d_Plan_with_all.scope [] [] (d_Plan_with_all.loc K) fd_Plan_with_all
  fd_Plan__len : FuncData
  F_Plan__len : FunD K d_Plan__len.name d_Plan__len.qual d_Plan__len.params d_Plan__len.body d_Plan__len.scope [] [] (d_Plan__len.loc K) fd_Plan__len
  fd_Plan__contains : FuncData
  F_Plan__contains : FunD K d_Plan__contains.name d_Plan__contains.qual d_Plan__contains.params d_Plan__contains.body d_Plan__contains.scope [] [] (d_Plan__contains.loc K) fd_Plan__contains
  fd_WorkerPlan__init : FuncData
  F_WorkerPlan__init : FunD K d_WorkerPlan__init.name d_WorkerPlan__init.qual d_WorkerPlan__init.params d_WorkerPlan__init.body d_WorkerPlan__init.scope [] [] (d_WorkerPlan__init.loc K) fd_WorkerPlan__init
  fd_WorkerPlan__eq : FuncData
  F_WorkerPlan__eq : FunD K d_WorkerPlan__eq.name d_WorkerPlan__eq.qual d_WorkerPlan__eq.params d_WorkerPlan__eq.body d_WorkerPlan__eq.scope [] [] (d_WorkerPlan__eq.loc K) fd_WorkerPlan__eq
  fd_SupervisorPlan__init : FuncData
  F_SupervisorPlan__init : FunD K d_SupervisorPlan__init.name d_SupervisorPlan__init.qual d_SupervisorPlan__init.params d_SupervisorPlan__init.body d_SupervisorPlan__init.scope [] [] (d_SupervisorPlan__init.loc K) fd_SupervisorPlan__init
  fd_SupervisorPlan_below : FuncData
  F_SupervisorPlan_below : FunD K d_SupervisorPlan_below.name d_SupervisorPlan_below.qual d_SupervisorPlan_below.params d_SupervisorPlan_below.body d_SupervisorPlan_below.scope [] [] (d_SupervisorPlan_below.loc K) fd_SupervisorPlan_below
  fd_SupervisorPlan__eq : FuncData
  F_SupervisorPlan__eq : FunD K d_SupervisorPlan__eq.name d_SupervisorPlan__eq.qual d_SupervisorPlan__eq.params d_SupervisorPlan__eq.body d_SupervisorPlan__eq.scope [] [] (d_SupervisorPlan__eq.loc K) fd_SupervisorPlan__eq
  fd_BadChild__init : FuncData
  F_BadChild__init : FunD K d_BadChild__init.name d_BadChild__init.qual d_BadChild__init.params d_BadChild__init.body d_BadChild__init.scope [] [] (d_BadChild__init.loc K) fd_BadChild__init
  fd_BadScript__init : FuncData
  F_BadScript__init : FunD K d_BadScript__init.name d_BadScript__init.qual d_BadScript__init.params d_BadScript__init.body d_BadScript__init.scope [] [] (d_BadScript__init.loc K) fd_BadScript__init
  fd_BadSetting__init : FuncData
  F_BadSetting__init : FunD K d_BadSetting__init.name d_BadSetting__init.qual d_BadSetting__init.params d_BadSetting__init.body d_BadSetting__init.scope [] [] (d_BadSetting__init.loc K) fd_BadSetting__init
  fd_WorkerPlan_name : FuncData
  F_WorkerPlan_name : FunD K d_WorkerPlan_name.name d_WorkerPlan_name.qual d_WorkerPlan_name.params d_WorkerPlan_name.body d_WorkerPlan_name.scope [] [] (d_WorkerPlan_name.loc K) fd_WorkerPlan_name
  fd_WorkerPlan_restart : FuncData
  F_WorkerPlan_restart : FunD K d_WorkerPlan_restart.name d_WorkerPlan_restart.qual d_WorkerPlan_restart.params d_WorkerPlan_restart.body d_WorkerPlan_restart.scope [] [] (d_WorkerPlan_restart.loc K) fd_WorkerPlan_restart
  fd_WorkerPlan_opening : FuncData
  F_WorkerPlan_opening : FunD K d_WorkerPlan_opening.name d_WorkerPlan_opening.qual d_WorkerPlan_opening.params d_WorkerPlan_opening.body d_WorkerPlan_opening.scope [] [] (d_WorkerPlan_opening.loc K) fd_WorkerPlan_opening
  fd_WorkerPlan_closing : FuncData
  F_WorkerPlan_closing : FunD K d_WorkerPlan_closing.name d_WorkerPlan_closing.qual d_WorkerPlan_closing.params d_WorkerPlan_closing.body d_WorkerPlan_closing.scope [] [] (d_WorkerPlan_closing.loc K) fd_WorkerPlan_closing
  fd_WorkerPlan_deadline : FuncData
  F_WorkerPlan_deadline : FunD K d_WorkerPlan_deadline.name d_WorkerPlan_deadline.qual d_WorkerPlan_deadline.params d_WorkerPlan_deadline.body d_WorkerPlan_deadline.scope [] [] (d_WorkerPlan_deadline.loc K) fd_WorkerPlan_deadline
  fd_WorkerPlan_refused : FuncData
  F_WorkerPlan_refused : FunD K d_WorkerPlan_refused.name d_WorkerPlan_refused.qual d_WorkerPlan_refused.params d_WorkerPlan_refused.body d_WorkerPlan_refused.scope [] [] (d_WorkerPlan_refused.loc K) fd_WorkerPlan_refused
  fd_WorkerPlan_script : FuncData
  F_WorkerPlan_script : FunD K d_WorkerPlan_script.name d_WorkerPlan_script.qual d_WorkerPlan_script.params d_WorkerPlan_script.body d_WorkerPlan_script.scope [] [] (d_WorkerPlan_script.loc K) fd_WorkerPlan_script
  fd_SupervisorPlan_name : FuncData
  F_SupervisorPlan_name : FunD K d_SupervisorPlan_name.name d_SupervisorPlan_name.qual d_SupervisorPlan_name.params d_SupervisorPlan_name.body d_SupervisorPlan_name.scope [] [] (d_SupervisorPlan_name.loc K) fd_SupervisorPlan_name
  fd_SupervisorPlan_restart : FuncData
  F_SupervisorPlan_restart : FunD K d_SupervisorPlan_restart.name d_SupervisorPlan_restart.qual d_SupervisorPlan_restart.params d_SupervisorPlan_restart.body d_SupervisorPlan_restart.scope [] [] (d_SupervisorPlan_restart.loc K) fd_SupervisorPlan_restart
  fd_SupervisorPlan_strategy : FuncData
  F_SupervisorPlan_strategy : FunD K d_SupervisorPlan_strategy.name d_SupervisorPlan_strategy.qual d_SupervisorPlan_strategy.params d_SupervisorPlan_strategy.body d_SupervisorPlan_strategy.scope [] [] (d_SupervisorPlan_strategy.loc K) fd_SupervisorPlan_strategy
  fd_SupervisorPlan_most : FuncData
  F_SupervisorPlan_most : FunD K d_SupervisorPlan_most.name d_SupervisorPlan_most.qual d_SupervisorPlan_most.params d_SupervisorPlan_most.body d_SupervisorPlan_most.scope [] [] (d_SupervisorPlan_most.loc K) fd_SupervisorPlan_most
  fd_SupervisorPlan_span : FuncData
  F_SupervisorPlan_span : FunD K d_SupervisorPlan_span.name d_SupervisorPlan_span.qual d_SupervisorPlan_span.params d_SupervisorPlan_span.body d_SupervisorPlan_span.scope [] [] (d_SupervisorPlan_span.loc K) fd_SupervisorPlan_span
  fd_SupervisorPlan_deadline : FuncData
  F_SupervisorPlan_deadline : FunD K d_SupervisorPlan_deadline.name d_SupervisorPlan_deadline.qual d_SupervisorPlan_deadline.params d_SupervisorPlan_deadline.body d_SupervisorPlan_deadline.scope [] [] (d_SupervisorPlan_deadline.loc K) fd_SupervisorPlan_deadline
  fd_SupervisorPlan_children : FuncData
  F_SupervisorPlan_children : FunD K d_SupervisorPlan_children.name d_SupervisorPlan_children.qual d_SupervisorPlan_children.params d_SupervisorPlan_children.body d_SupervisorPlan_children.scope [] [] (d_SupervisorPlan_children.loc K) fd_SupervisorPlan_children
  n_WorkerPlan_own_settings : NoAttr K (He.ga K "WorkerPlan") "own_settings"
  n_WorkerPlan_own_count : NoAttr K (He.ga K "WorkerPlan") "own_count"
  n_WorkerPlan_own_depth : NoAttr K (He.ga K "WorkerPlan") "own_depth"
  n_SupervisorPlan_own_settings : NoAttr K (He.ga K "SupervisorPlan") "own_settings"
  n_SupervisorPlan_own_children : NoAttr K (He.ga K "SupervisorPlan") "own_children"
  n_SupervisorPlan_own_count : NoAttr K (He.ga K "SupervisorPlan") "own_count"
  n_SupervisorPlan_own_depth : NoAttr K (He.ga K "SupervisorPlan") "own_depth"
  m_WorkerPlan_settings : Meth K (He.ga K "WorkerPlan") "settings" (He.fAd K ("Plan", some "settings"))
  m_WorkerPlan_below : Meth K (He.ga K "WorkerPlan") "below" (He.fAd K ("Plan", some "below"))
  m_WorkerPlan_with_all : Meth K (He.ga K "WorkerPlan") "with_all" (He.fAd K ("Plan", some "with_all"))
  m_WorkerPlan___len__ : Meth K (He.ga K "WorkerPlan") "__len__" (He.fAd K ("Plan", some "__len__"))
  m_WorkerPlan___contains__ : Meth K (He.ga K "WorkerPlan") "__contains__" (He.fAd K ("Plan", some "__contains__"))
  m_SupervisorPlan_below : Meth K (He.ga K "SupervisorPlan") "below" (He.fAd K ("SupervisorPlan", some "below"))
  m_SupervisorPlan_settings : Meth K (He.ga K "SupervisorPlan") "settings" (He.fAd K ("Plan", some "settings"))
  m_SupervisorPlan_with_all : Meth K (He.ga K "SupervisorPlan") "with_all" (He.fAd K ("Plan", some "with_all"))
  m_SupervisorPlan___len__ : Meth K (He.ga K "SupervisorPlan") "__len__" (He.fAd K ("Plan", some "__len__"))
  m_SupervisorPlan___contains__ : Meth K (He.ga K "SupervisorPlan") "__contains__" (He.fAd K ("Plan", some "__contains__"))
  p_WorkerPlan_name : PropOf K (He.ga K "WorkerPlan") "name" (He.ma K (He.ga K "WorkerPlan") "name") (WHe.pgAd K "WorkerPlan" "name")
  p_WorkerPlan_restart : PropOf K (He.ga K "WorkerPlan") "restart" (He.ma K (He.ga K "WorkerPlan") "restart") (WHe.pgAd K "WorkerPlan" "restart")
  p_WorkerPlan_opening : PropOf K (He.ga K "WorkerPlan") "opening" (He.ma K (He.ga K "WorkerPlan") "opening") (WHe.pgAd K "WorkerPlan" "opening")
  p_WorkerPlan_closing : PropOf K (He.ga K "WorkerPlan") "closing" (He.ma K (He.ga K "WorkerPlan") "closing") (WHe.pgAd K "WorkerPlan" "closing")
  p_WorkerPlan_deadline : PropOf K (He.ga K "WorkerPlan") "deadline" (He.ma K (He.ga K "WorkerPlan") "deadline") (WHe.pgAd K "WorkerPlan" "deadline")
  p_WorkerPlan_refused : PropOf K (He.ga K "WorkerPlan") "refused" (He.ma K (He.ga K "WorkerPlan") "refused") (WHe.pgAd K "WorkerPlan" "refused")
  p_WorkerPlan_script : PropOf K (He.ga K "WorkerPlan") "script" (He.ma K (He.ga K "WorkerPlan") "script") (WHe.pgAd K "WorkerPlan" "script")
  p_SupervisorPlan_name : PropOf K (He.ga K "SupervisorPlan") "name" (He.ma K (He.ga K "SupervisorPlan") "name") (WHe.pgAd K "SupervisorPlan" "name")
  p_SupervisorPlan_restart : PropOf K (He.ga K "SupervisorPlan") "restart" (He.ma K (He.ga K "SupervisorPlan") "restart") (WHe.pgAd K "SupervisorPlan" "restart")
  p_SupervisorPlan_strategy : PropOf K (He.ga K "SupervisorPlan") "strategy" (He.ma K (He.ga K "SupervisorPlan") "strategy") (WHe.pgAd K "SupervisorPlan" "strategy")
  p_SupervisorPlan_most : PropOf K (He.ga K "SupervisorPlan") "most" (He.ma K (He.ga K "SupervisorPlan") "most") (WHe.pgAd K "SupervisorPlan" "most")
  p_SupervisorPlan_span : PropOf K (He.ga K "SupervisorPlan") "span" (He.ma K (He.ga K "SupervisorPlan") "span") (WHe.pgAd K "SupervisorPlan" "span")
  p_SupervisorPlan_deadline : PropOf K (He.ga K "SupervisorPlan") "deadline" (He.ma K (He.ga K "SupervisorPlan") "deadline") (WHe.pgAd K "SupervisorPlan" "deadline")
  p_SupervisorPlan_children : PropOf K (He.ga K "SupervisorPlan") "children" (He.ma K (He.ga K "SupervisorPlan") "children") (WHe.pgAd K "SupervisorPlan" "children")
  mk_WorkerPlan : Mk K (He.ga K "WorkerPlan") (He.fAd K ("WorkerPlan", some "__init__"))
  dc_WorkerPlan : WHe.DatC K (He.ga K "WorkerPlan") (He.fAd K ("WorkerPlan", some "__eq__"))
  mk_SupervisorPlan : Mk K (He.ga K "SupervisorPlan") (He.fAd K ("SupervisorPlan", some "__init__"))
  dc_SupervisorPlan : WHe.DatC K (He.ga K "SupervisorPlan") (He.fAd K ("SupervisorPlan", some "__eq__"))
  k_WorkerPlan_Plan : PySem.W.kitOne K (.ref (He.ga K "WorkerPlan")) (.ref (He.ga K "Plan")) = some true
  k_WorkerPlan_BaseWorker : PySem.W.kitOne K (.ref (He.ga K "WorkerPlan")) (.ref (He.ga K "BaseWorker")) = some true
  k_WorkerPlan_WorkerPlan : PySem.W.kitOne K (.ref (He.ga K "WorkerPlan")) (.ref (He.ga K "WorkerPlan")) = some true
  k_WorkerPlan_SupervisorPlan : PySem.W.kitOne K (.ref (He.ga K "WorkerPlan")) (.ref (He.ga K "SupervisorPlan")) = some false
  k_SupervisorPlan_Plan : PySem.W.kitOne K (.ref (He.ga K "SupervisorPlan")) (.ref (He.ga K "Plan")) = some true
  k_SupervisorPlan_BaseWorker : PySem.W.kitOne K (.ref (He.ga K "SupervisorPlan")) (.ref (He.ga K "BaseWorker")) = some false
  k_SupervisorPlan_WorkerPlan : PySem.W.kitOne K (.ref (He.ga K "SupervisorPlan")) (.ref (He.ga K "WorkerPlan")) = some false
  k_SupervisorPlan_SupervisorPlan : PySem.W.kitOne K (.ref (He.ga K "SupervisorPlan")) (.ref (He.ga K "SupervisorPlan")) = some true
  kd_WorkerPlan__init : ∀ (oc : Value) (od : Option Addr) (osl : Array (Option Value)), K.lookup (d_WorkerPlan__init.loc K) = some ⟨oc, od, .func fd_WorkerPlan__init, osl⟩ → KwdV K fd_WorkerPlan__init.kwdefaults (kwsV K kws_WorkerPlan__init)
  kd_SupervisorPlan__init : ∀ (oc : Value) (od : Option Addr) (osl : Array (Option Value)), K.lookup (d_SupervisorPlan__init.loc K) = some ⟨oc, od, .func fd_SupervisorPlan__init, osl⟩ → KwdV K fd_SupervisorPlan__init.kwdefaults (kwsV K kws_SupervisorPlan__init)
  sd : ∀ H, SqT K H (kwAt (fun K => He.fAd K ("WorkerPlan", some "__init__")) "script" K) []
  ef_BadSetting_BadScript : PySem.W.exmOne K (.ref (He.ga K "BadSetting")) (.ref (He.ga K "BadScript")) = some false
  ef_BadScript_BadSetting : PySem.W.exmOne K (.ref (He.ga K "BadScript")) (.ref (He.ga K "BadSetting")) = some false
  kn_BadScript : PySem.W.kitOne K (.type "NoneType") (.ref (He.ga K "BadScript")) = some false
  tabs_ne : (He.cT K ("_law_refused", none)).2 ≠ (He.cT K ("law", none)).2
  x_BadChild : WXE.XC K (He.ga K "BadChild") "ValueError" "ValueError.__new__" "ValueError.__init__" bmValueError
  o_BadChild : OexC K (He.ga K "BadChild")
  i_BadChild : PySem.W.findIn K (.ref (He.ga K "BadChild")) "__init__" = some (some (.ref (He.fAd K ("BadChild", some "__init__"))))
  t_BadChild : PySem.W.typeIn K (.ref (He.fAd K ("BadChild", some "__init__"))) = some (.type "function")
  n_BadChild : PySem.W.findIn K (.ref (He.ga K "BadChild")) "index" = some none
  e_BadChild : PySem.W.exmOne K (.ref (He.ga K "BadChild")) (.ref (He.ga K "PlanError")) = some true
  es_BadChild : PySem.W.exmOne K (.ref (He.ga K "BadChild")) (.ref (He.ga K "BadChild")) = some true
  vx_BadChild_BadScript : PySem.W.kitOne K (.ref (He.ga K "BadChild")) (.ref (He.ga K "BadScript")) = some false
  vx_BadChild_PlanError : PySem.W.kitOne K (.ref (He.ga K "BadChild")) (.ref (He.ga K "PlanError")) = some true
  vt_BadChild_ValueError : PySem.W.kitOne K (.ref (He.ga K "BadChild")) (.type "ValueError") = some true
  x_BadScript : WXE.XC K (He.ga K "BadScript") "ValueError" "ValueError.__new__" "ValueError.__init__" bmValueError
  o_BadScript : OexC K (He.ga K "BadScript")
  i_BadScript : PySem.W.findIn K (.ref (He.ga K "BadScript")) "__init__" = some (some (.ref (He.fAd K ("BadScript", some "__init__"))))
  t_BadScript : PySem.W.typeIn K (.ref (He.fAd K ("BadScript", some "__init__"))) = some (.type "function")
  n_BadScript : PySem.W.findIn K (.ref (He.ga K "BadScript")) "index" = some none
  e_BadScript : PySem.W.exmOne K (.ref (He.ga K "BadScript")) (.ref (He.ga K "PlanError")) = some true
  es_BadScript : PySem.W.exmOne K (.ref (He.ga K "BadScript")) (.ref (He.ga K "BadScript")) = some true
  vx_BadScript_BadScript : PySem.W.kitOne K (.ref (He.ga K "BadScript")) (.ref (He.ga K "BadScript")) = some true
  vx_BadScript_PlanError : PySem.W.kitOne K (.ref (He.ga K "BadScript")) (.ref (He.ga K "PlanError")) = some true
  vt_BadScript_ValueError : PySem.W.kitOne K (.ref (He.ga K "BadScript")) (.type "ValueError") = some true
  x_BadSetting : WXE.XC K (He.ga K "BadSetting") "ValueError" "ValueError.__new__" "ValueError.__init__" bmValueError
  o_BadSetting : OexC K (He.ga K "BadSetting")
  i_BadSetting : PySem.W.findIn K (.ref (He.ga K "BadSetting")) "__init__" = some (some (.ref (He.fAd K ("BadSetting", some "__init__"))))
  t_BadSetting : PySem.W.typeIn K (.ref (He.fAd K ("BadSetting", some "__init__"))) = some (.type "function")
  n_BadSetting : PySem.W.findIn K (.ref (He.ga K "BadSetting")) "setting" = some none
  e_BadSetting : PySem.W.exmOne K (.ref (He.ga K "BadSetting")) (.ref (He.ga K "PlanError")) = some true
  es_BadSetting : PySem.W.exmOne K (.ref (He.ga K "BadSetting")) (.ref (He.ga K "BadSetting")) = some true
  vx_BadSetting_BadScript : PySem.W.kitOne K (.ref (He.ga K "BadSetting")) (.ref (He.ga K "BadScript")) = some false
  vx_BadSetting_PlanError : PySem.W.kitOne K (.ref (He.ga K "BadSetting")) (.ref (He.ga K "PlanError")) = some true
  vt_BadSetting_ValueError : PySem.W.kitOne K (.ref (He.ga K "BadSetting")) (.type "ValueError") = some true
  ks_WorkerPlan : PySem.W.kitOne K (.ref (He.ga K "WorkerPlan")) (.type "str") = some false
  ks_SupervisorPlan : PySem.W.kitOne K (.ref (He.ga K "SupervisorPlan")) (.type "str") = some false
  kt : WPv.Kt K
  r_PlanError : PySem.W.readsIn K (He.ga K "PlanError") (.type "type") = true
  s_PlanError : PySem.W.specialIn K (.ref (He.ga K "PlanError")) "__getattribute__" = some (some (.builtin "type.__getattribute__"))
  v_PlanError : PySem.W.findCls K (.ref (He.ga K "PlanError")) (.type "type") "__init__" = some (.val (.builtin "ValueError.__init__"))
section
variable {K : PySem.W.Frag} {mg : Str → Option Value}
theorem Env.bi_is_word (T : Env K mg) : Binds K T.fd_is_word ["value"] [] := T.F_is_word.bindsN fun _ _ _ _ _ _ us hl => match us, hl with | [_], _ => rfl
theorem Env.bi_is_name (T : Env K mg) : Binds K T.fd_is_name ["value"] [] := T.F_is_name.bindsN fun _ _ _ _ _ _ us hl => match us, hl with | [_], _ => rfl
theorem Env.bi_is_between (T : Env K mg) : Binds K T.fd_is_between ["value", "low", "high"] [] := T.F_is_between.bindsN fun _ _ _ _ _ _ us hl => match us, hl with | [_, _, _], _ => rfl
theorem Env.bi_is_failure (T : Env K mg) : Binds K T.fd_is_failure ["value"] [] := T.F_is_failure.bindsN fun _ _ _ _ _ _ us hl => match us, hl with | [_], _ => rfl
theorem Env.bi_is_free_word (T : Env K mg) : Binds K T.fd_is_free_word ["value"] [] := T.F_is_free_word.bindsN fun _ _ _ _ _ _ us hl => match us, hl with | [_], _ => rfl
theorem Env.bi_is_value (T : Env K mg) : Binds K T.fd_is_value ["value"] [] := T.F_is_value.bindsN fun _ _ _ _ _ _ us hl => match us, hl with | [_], _ => rfl
theorem Env.bi_is_deed_value (T : Env K mg) : Binds K T.fd_is_deed_value ["value"] [] := T.F_is_deed_value.bindsN fun _ _ _ _ _ _ us hl => match us, hl with | [_], _ => rfl
theorem Env.bi_has_add (T : Env K mg) : Binds K T.fd_has_add ["script"] [] := T.F_has_add.bindsN fun _ _ _ _ _ _ us hl => match us, hl with | [_], _ => rfl
theorem Env.bi_is_added_plan (T : Env K mg) : Binds K T.fd_is_added_plan ["value"] [] := T.F_is_added_plan.bindsN fun _ _ _ _ _ _ us hl => match us, hl with | [_], _ => rfl
theorem Env.bi_has_shape (T : Env K mg) : Binds K T.fd_has_shape ["word", "parts"] [] := T.F_has_shape.bindsN fun _ _ _ _ _ _ us hl => match us, hl with | [_, _], _ => rfl
theorem Env.bi_is_deed (T : Env K mg) : Binds K T.fd_is_deed ["value"] [] := T.F_is_deed.bindsN fun _ _ _ _ _ _ us hl => match us, hl with | [_], _ => rfl
theorem Env.bi_is_row (T : Env K mg) : Binds K T.fd_is_row ["value"] [] := T.F_is_row.bindsN fun _ _ _ _ _ _ us hl => match us, hl with | [_], _ => rfl
theorem Env.bi_wrong_row (T : Env K mg) : Binds K T.fd_wrong_row ["script"] [] := T.F_wrong_row.bindsN fun _ _ _ _ _ _ us hl => match us, hl with | [_], _ => rfl
theorem Env.bi_is_script (T : Env K mg) : Binds K T.fd_is_script ["value"] [] := T.F_is_script.bindsN fun _ _ _ _ _ _ us hl => match us, hl with | [_], _ => rfl
theorem Env.bi_require_script (T : Env K mg) : Binds K T.fd_require_script ["script"] [] := T.F_require_script.bindsN fun _ _ _ _ _ _ us hl => match us, hl with | [_], _ => rfl
theorem Env.bi_found_row (T : Env K mg) : Binds K T.fd_found_row ["script", "mode", "word"] [] := T.F_found_row.bindsN fun _ _ _ _ _ _ us hl => match us, hl with | [_, _, _], _ => rfl
theorem Env.bi_row_for (T : Env K mg) : Binds K T.fd_row_for ["script", "mode", "word"] [] := T.F_row_for.bindsN fun _ _ _ _ _ _ us hl => match us, hl with | [_, _, _], _ => rfl
theorem Env.bi_words_of (T : Env K mg) : Binds K T.fd_words_of ["script"] [] := T.F_words_of.bindsN fun _ _ _ _ _ _ us hl => match us, hl with | [_], _ => rfl
theorem Env.bi_is_one_of (T : Env K mg) : Binds K T.fd_is_one_of ["value", "words"] [] := T.F_is_one_of.bindsN fun _ _ _ _ _ _ us hl => match us, hl with | [_, _], _ => rfl
theorem Env.bi_is_deadline (T : Env K mg) : Binds K T.fd_is_deadline ["value"] [] := T.F_is_deadline.bindsN fun _ _ _ _ _ _ us hl => match us, hl with | [_], _ => rfl
theorem Env.bi_require (T : Env K mg) : Binds K T.fd_require ["rows"] [] := T.F_require.bindsN fun _ _ _ _ _ _ us hl => match us, hl with | [_], _ => rfl
theorem Env.bi_L_begun (T : Env K mg) : Binds K T.fd_L_begun ["cells"] [] := T.F_L_begun.bindsN fun _ _ _ _ _ _ us hl => match us, hl with | [_], _ => rfl
theorem Env.bi_L_next (T : Env K mg) : Binds K T.fd_L_next ["m", "total"] [] := T.F_L_next.bindsN fun _ _ _ _ _ _ us hl => match us, hl with | [_, _], _ => rfl
theorem Env.bi_L_of (T : Env K mg) : Binds K T.fd_L_of ["m", "items"] [] := T.F_L_of.bindsN fun _ _ _ _ _ _ us hl => match us, hl with | [_, _], _ => rfl
theorem Env.bi_L_good_deed (T : Env K mg) : Binds K T.fd_L_good_deed ["m", "titles"] [] := T.F_L_good_deed.bindsN fun _ _ _ _ _ _ us hl => match us, hl with | [_, _], _ => rfl
theorem Env.bi_L_good_rows (T : Env K mg) : Binds K T.fd_L_good_rows ["m", "titles"] [] := T.F_L_good_rows.bindsN fun _ _ _ _ _ _ us hl => match us, hl with | [_, _], _ => rfl
theorem Env.bi_L_field (T : Env K mg) : Binds K T.fd_L_field ["act"] [] := T.F_L_field.bindsN fun _ _ _ _ _ _ us hl => match us, hl with | [_], _ => rfl
theorem Env.bi_L_wrong_deed (T : Env K mg) : Binds K T.fd_L_wrong_deed ["m"] [] := T.F_L_wrong_deed.bindsN fun _ _ _ _ _ _ us hl => match us, hl with | [_], _ => rfl
theorem Env.bi_L_wrong_row (T : Env K mg) : Binds K T.fd_L_wrong_row ["m", "row"] [] := T.F_L_wrong_row.bindsN fun _ _ _ _ _ _ us hl => match us, hl with | [_, _], _ => rfl
theorem Env.bi_L_right (T : Env K mg) : Binds K T.fd_L_right ["m", "rows"] [] := T.F_L_right.bindsN fun _ _ _ _ _ _ us hl => match us, hl with | [_, _], _ => rfl
theorem Env.bi_L_refused (T : Env K mg) : Binds K T.fd_L_refused ["m", "told", "due"] [] := T.F_L_refused.bindsN fun _ _ _ _ _ _ us hl => match us, hl with | [_, _, _], _ => rfl
theorem Env.bi_law (T : Env K mg) : Binds K T.fd_law ["cells"] [] := T.F_law.bindsN fun _ _ _ _ _ _ us hl => match us, hl with | [_], _ => rfl
theorem Env.bi_Plan_settings (T : Env K mg) : Binds K T.fd_Plan_settings ["self"] [] := T.F_Plan_settings.bindsN fun _ _ _ _ _ _ us hl => match us, hl with | [_], _ => rfl
theorem Env.bi_Plan_below (T : Env K mg) : Binds K T.fd_Plan_below ["self"] [] := T.F_Plan_below.bindsN fun _ _ _ _ _ _ us hl => match us, hl with | [_], _ => rfl
theorem Env.bi_Plan_with_all (T : Env K mg) : Binds K T.fd_Plan_with_all ["self"] [] := T.F_Plan_with_all.bindsN fun _ _ _ _ _ _ us hl => match us, hl with | [_], _ => rfl
theorem Env.bi_Plan__len (T : Env K mg) : Binds K T.fd_Plan__len ["self"] [] := T.F_Plan__len.bindsN fun _ _ _ _ _ _ us hl => match us, hl with | [_], _ => rfl
theorem Env.bi_Plan__contains (T : Env K mg) : Binds K T.fd_Plan__contains ["self", "value"] [] := T.F_Plan__contains.bindsN fun _ _ _ _ _ _ us hl => match us, hl with | [_, _], _ => rfl
theorem Env.bi_WorkerPlan__eq (T : Env K mg) : Binds K T.fd_WorkerPlan__eq ["self", "other"] [] := T.F_WorkerPlan__eq.bindsN fun _ _ _ _ _ _ us hl => match us, hl with | [_, _], _ => rfl
theorem Env.bi_SupervisorPlan_below (T : Env K mg) : Binds K T.fd_SupervisorPlan_below ["self"] [] := T.F_SupervisorPlan_below.bindsN fun _ _ _ _ _ _ us hl => match us, hl with | [_], _ => rfl
theorem Env.bi_SupervisorPlan__eq (T : Env K mg) : Binds K T.fd_SupervisorPlan__eq ["self", "other"] [] := T.F_SupervisorPlan__eq.bindsN fun _ _ _ _ _ _ us hl => match us, hl with | [_, _], _ => rfl
theorem Env.bi_BadChild__init (T : Env K mg) : Binds K T.fd_BadChild__init ["self", "index"] [] := T.F_BadChild__init.bindsN fun _ _ _ _ _ _ us hl => match us, hl with | [_, _], _ => rfl
theorem Env.bi_BadScript__init (T : Env K mg) : Binds K T.fd_BadScript__init ["self", "index"] [] := T.F_BadScript__init.bindsN fun _ _ _ _ _ _ us hl => match us, hl with | [_, _], _ => rfl
theorem Env.bi_BadSetting__init (T : Env K mg) : Binds K T.fd_BadSetting__init ["self", "setting"] [] := T.F_BadSetting__init.bindsN fun _ _ _ _ _ _ us hl => match us, hl with | [_, _], _ => rfl
theorem Env.bi_WorkerPlan_name (T : Env K mg) : Binds K T.fd_WorkerPlan_name ["self"] [] := T.F_WorkerPlan_name.bindsN fun _ _ _ _ _ _ us hl => match us, hl with | [_], _ => rfl
theorem Env.bi_WorkerPlan_restart (T : Env K mg) : Binds K T.fd_WorkerPlan_restart ["self"] [] := T.F_WorkerPlan_restart.bindsN fun _ _ _ _ _ _ us hl => match us, hl with | [_], _ => rfl
theorem Env.bi_WorkerPlan_opening (T : Env K mg) : Binds K T.fd_WorkerPlan_opening ["self"] [] := T.F_WorkerPlan_opening.bindsN fun _ _ _ _ _ _ us hl => match us, hl with | [_], _ => rfl
theorem Env.bi_WorkerPlan_closing (T : Env K mg) : Binds K T.fd_WorkerPlan_closing ["self"] [] := T.F_WorkerPlan_closing.bindsN fun _ _ _ _ _ _ us hl => match us, hl with | [_], _ => rfl
theorem Env.bi_WorkerPlan_deadline (T : Env K mg) : Binds K T.fd_WorkerPlan_deadline ["self"] [] := T.F_WorkerPlan_deadline.bindsN fun _ _ _ _ _ _ us hl => match us, hl with | [_], _ => rfl
theorem Env.bi_WorkerPlan_refused (T : Env K mg) : Binds K T.fd_WorkerPlan_refused ["self"] [] := T.F_WorkerPlan_refused.bindsN fun _ _ _ _ _ _ us hl => match us, hl with | [_], _ => rfl
theorem Env.bi_WorkerPlan_script (T : Env K mg) : Binds K T.fd_WorkerPlan_script ["self"] [] := T.F_WorkerPlan_script.bindsN fun _ _ _ _ _ _ us hl => match us, hl with | [_], _ => rfl
theorem Env.bi_SupervisorPlan_name (T : Env K mg) : Binds K T.fd_SupervisorPlan_name ["self"] [] := T.F_SupervisorPlan_name.bindsN fun _ _ _ _ _ _ us hl => match us, hl with | [_], _ => rfl
theorem Env.bi_SupervisorPlan_restart (T : Env K mg) : Binds K T.fd_SupervisorPlan_restart ["self"] [] := T.F_SupervisorPlan_restart.bindsN fun _ _ _ _ _ _ us hl => match us, hl with | [_], _ => rfl
theorem Env.bi_SupervisorPlan_strategy (T : Env K mg) : Binds K T.fd_SupervisorPlan_strategy ["self"] [] := T.F_SupervisorPlan_strategy.bindsN fun _ _ _ _ _ _ us hl => match us, hl with | [_], _ => rfl
theorem Env.bi_SupervisorPlan_most (T : Env K mg) : Binds K T.fd_SupervisorPlan_most ["self"] [] := T.F_SupervisorPlan_most.bindsN fun _ _ _ _ _ _ us hl => match us, hl with | [_], _ => rfl
theorem Env.bi_SupervisorPlan_span (T : Env K mg) : Binds K T.fd_SupervisorPlan_span ["self"] [] := T.F_SupervisorPlan_span.bindsN fun _ _ _ _ _ _ us hl => match us, hl with | [_], _ => rfl
theorem Env.bi_SupervisorPlan_deadline (T : Env K mg) : Binds K T.fd_SupervisorPlan_deadline ["self"] [] := T.F_SupervisorPlan_deadline.bindsN fun _ _ _ _ _ _ us hl => match us, hl with | [_], _ => rfl
theorem Env.bi_SupervisorPlan_children (T : Env K mg) : Binds K T.fd_SupervisorPlan_children ["self"] [] := T.F_SupervisorPlan_children.bindsN fun _ _ _ _ _ _ us hl => match us, hl with | [_], _ => rfl
theorem Env.kb_BadChild (T : Env K mg) : KBn K T.fd_BadChild__init ["self", "index"] 2 [] (fun us _ => us) (fun vs _ => vs) := kb_pos rfl (T.F_BadChild__init.bindsN fun _ _ _ _ _ _ us hl => match us, hl with | [_, _], _ => rfl)
theorem Env.kw_BadChild (T : Env K mg) : KBn K T.fd_BadChild__init ["self", "index"] 1 ["index"] (fun us ws => us ++ ws) (fun vs zs => vs ++ zs) := kb_kw T.F_BadChild__init fun _ _ _ _ _ _ _ _ => rfl
theorem Env.kb_BadScript (T : Env K mg) : KBn K T.fd_BadScript__init ["self", "index"] 2 [] (fun us _ => us) (fun vs _ => vs) := kb_pos rfl (T.F_BadScript__init.bindsN fun _ _ _ _ _ _ us hl => match us, hl with | [_, _], _ => rfl)
theorem Env.kw_BadScript (T : Env K mg) : KBn K T.fd_BadScript__init ["self", "index"] 1 ["index"] (fun us ws => us ++ ws) (fun vs zs => vs ++ zs) := kb_kw T.F_BadScript__init fun _ _ _ _ _ _ _ _ => rfl
theorem Env.kb_BadSetting (T : Env K mg) : KBn K T.fd_BadSetting__init ["self", "setting"] 2 [] (fun us _ => us) (fun vs _ => vs) := kb_pos rfl (T.F_BadSetting__init.bindsN fun _ _ _ _ _ _ us hl => match us, hl with | [_, _], _ => rfl)
theorem Env.kw_BadSetting (T : Env K mg) : KBn K T.fd_BadSetting__init ["self", "setting"] 1 ["setting"] (fun us ws => us ++ ws) (fun vs zs => vs ++ zs) := kb_kw T.F_BadSetting__init fun _ _ _ _ _ _ _ _ => rfl
end
end W53

set_option Elab.async false
set_option linter.all false
set_option maxRecDepth 100000
set_option maxHeartbeats 0
/-! the head's facts over the first n objects (no search for them: less memory) -/
namespace WHg
open PySem PySem.Spec PyProof.Rows L2 WHe
def obsLG (n : Nat) (chk : PySem.W.Frag → Bool) (fn : List DefP) (g : Addr → Option Obj) : He.AlD := obsK chk fn (He.frG g (List.range n))
def hookL (n : Nat) (chk : PySem.W.Frag → Bool) (fn : List DefP) : PySem.W.Hook where
  α := He.AlD
  obs := fun s => obsLG n chk fn s.heap.get?
  val := fun _ => valK fn
  says := fun _ h => ∃ K : PySem.W.Frag, K.In h ∧ SaysK chk fn K
  of := fun _ _ e => ⟨_, He.frG_in, e⟩
  keeps := fun _ _ _ ⟨K, hK, c⟩ k => ⟨K, PySem.W.Frag.In.keeps hK k, c⟩
theorem obsLG_eq {n : Nat} {chk : PySem.W.Frag → Bool} {fn : List DefP} {g : Addr → Option Obj} {s : Shared} (h : ∀ a, g a = s.heap.get? a) : obsLG n chk fn g = (hookL n chk fn).obs s := by
  have e : g = s.heap.get? := funext h
  rw [e] <;> rfl
end WHg

set_option Elab.async false
set_option linter.all false
set_option maxRecDepth 100000
set_option maxHeartbeats 4000000
namespace W53
open PySem PySem.Spec PyProof.Rows L2
def chk0 (K : PySem.W.Frag) : Bool := WHe.sysB K && (frees.all (fun x => He.eqO (PySem.W.nsIn K mainGlobals x) (some none)) && (globs.all (fun x => He.eqO (PySem.W.nsIn K mainGlobals x) (some (some (.ref (He.ga K x))))) &&
  (cints.all (fun q => (He.Fa.int q.1 q.2).ok K) && (cstrs.all (fun q => (He.Fa.str q.1 q.2).ok K) && (ctups.all (fun q => He.tupB K q.1 q.2) && (noat.all (fun q => (He.Fa.noat q.1 q.2).ok K) && (meths.all (fun q => WHe.methB K q.1 q.2.1 q.2.2) &&
  (props.all (fun q => WHe.propB K q.1 q.2) && ((["WorkerPlan", "SupervisorPlan"] : List Str).all (fun C => (He.Fa.mkr C).ok K && WHe.datB K C) && kits.all (WHe.kitB K))))))))))
theorem at_ {α : Type} {l : List α} {p : α → Bool} (h : l.all p = true) (i : Nat) {x : α} (e : l[i]? = some x) : p x = true := List.all_eq_true.mp h x (List.mem_of_getElem? e)
def exB_BadChild (K : PySem.W.Frag) : Bool := WXE.xcB K (He.ga K "BadChild") "ValueError.__new__" bmValueError && (WXO.oexB K (He.ga K "BadChild") && ([decide (PySem.W.findIn K (.ref (He.ga K "BadChild")) "__init__" = some (some (.ref (He.fAd K ("BadChild", some "__init__"))))), decide (PySem.W.typeIn K (.ref (He.fAd K ("BadChild", some "__init__"))) = some (.type "function")), decide (PySem.W.findIn K (.ref (He.ga K "BadChild")) "index" = some none), decide (PySem.W.exmOne K (.ref (He.ga K "BadChild")) (.ref (He.ga K "PlanError")) = some true), decide (PySem.W.exmOne K (.ref (He.ga K "BadChild")) (.ref (He.ga K "BadChild")) = some true), decide (PySem.W.kitOne K (.ref (He.ga K "BadChild")) (.ref (He.ga K "BadScript")) = some false), decide (PySem.W.kitOne K (.ref (He.ga K "BadChild")) (.ref (He.ga K "PlanError")) = some true), decide (PySem.W.kitOne K (.ref (He.ga K "BadChild")) (.type "ValueError") = some true)] : List Bool).all id)
def exB_BadScript (K : PySem.W.Frag) : Bool := WXE.xcB K (He.ga K "BadScript") "ValueError.__new__" bmValueError && (WXO.oexB K (He.ga K "BadScript") && ([decide (PySem.W.findIn K (.ref (He.ga K "BadScript")) "__init__" = some (some (.ref (He.fAd K ("BadScript", some "__init__"))))), decide (PySem.W.typeIn K (.ref (He.fAd K ("BadScript", some "__init__"))) = some (.type "function")), decide (PySem.W.findIn K (.ref (He.ga K "BadScript")) "index" = some none), decide (PySem.W.exmOne K (.ref (He.ga K "BadScript")) (.ref (He.ga K "PlanError")) = some true), decide (PySem.W.exmOne K (.ref (He.ga K "BadScript")) (.ref (He.ga K "BadScript")) = some true), decide (PySem.W.kitOne K (.ref (He.ga K "BadScript")) (.ref (He.ga K "BadScript")) = some true), decide (PySem.W.kitOne K (.ref (He.ga K "BadScript")) (.ref (He.ga K "PlanError")) = some true), decide (PySem.W.kitOne K (.ref (He.ga K "BadScript")) (.type "ValueError") = some true)] : List Bool).all id)
def exB_BadSetting (K : PySem.W.Frag) : Bool := WXE.xcB K (He.ga K "BadSetting") "ValueError.__new__" bmValueError && (WXO.oexB K (He.ga K "BadSetting") && ([decide (PySem.W.findIn K (.ref (He.ga K "BadSetting")) "__init__" = some (some (.ref (He.fAd K ("BadSetting", some "__init__"))))), decide (PySem.W.typeIn K (.ref (He.fAd K ("BadSetting", some "__init__"))) = some (.type "function")), decide (PySem.W.findIn K (.ref (He.ga K "BadSetting")) "setting" = some none), decide (PySem.W.exmOne K (.ref (He.ga K "BadSetting")) (.ref (He.ga K "PlanError")) = some true), decide (PySem.W.exmOne K (.ref (He.ga K "BadSetting")) (.ref (He.ga K "BadSetting")) = some true), decide (PySem.W.kitOne K (.ref (He.ga K "BadSetting")) (.ref (He.ga K "BadScript")) = some false), decide (PySem.W.kitOne K (.ref (He.ga K "BadSetting")) (.ref (He.ga K "PlanError")) = some true), decide (PySem.W.kitOne K (.ref (He.ga K "BadSetting")) (.type "ValueError") = some true)] : List Bool).all id)
def basB_PlanError (K : PySem.W.Frag) : Bool := PySem.W.readsIn K (He.ga K "PlanError") (.type "type") &&
  (decide (PySem.W.specialIn K (.ref (He.ga K "PlanError")) "__getattribute__" = some (some (.builtin "type.__getattribute__"))) &&
  (match PySem.W.findCls K (.ref (He.ga K "PlanError")) (.type "type") "__init__" with
    | some (.val v) => decide (v = .builtin "ValueError.__init__")
    | _ => false))
theorem basB_PlanError_ok {K : PySem.W.Frag} (h : basB_PlanError K = true) : PySem.W.readsIn K (He.ga K "PlanError") (.type "type") = true ∧ PySem.W.specialIn K (.ref (He.ga K "PlanError")) "__getattribute__" = some (some (.builtin "type.__getattribute__")) ∧
    PySem.W.findCls K (.ref (He.ga K "PlanError")) (.type "type") "__init__" = some (.val (.builtin "ValueError.__init__")) := by
  obtain ⟨h1, h⟩ := He.ba h
  obtain ⟨h2, h3⟩ := He.ba h
  refine ⟨h1, of_decide_eq_true h2, ?_⟩
  cases e : PySem.W.findCls K (.ref (He.ga K "PlanError")) (.type "type") "__init__" with
  | none => rw [e] at h3; cases h3
  | some r =>
    rw [e] at h3
    cases r with
    | val v => rw [of_decide_eq_true h3]
    | get _ _ _ _ => cases h3
def exfB (K : PySem.W.Frag) : Bool := ([decide (PySem.W.exmOne K (.ref (He.ga K "BadSetting")) (.ref (He.ga K "BadScript")) = some false), decide (PySem.W.exmOne K (.ref (He.ga K "BadScript")) (.ref (He.ga K "BadSetting")) = some false)] : List Bool).all id
def ksB (K : PySem.W.Frag) : Bool := ([decide (PySem.W.kitOne K (.ref (He.ga K "WorkerPlan")) (.type "str") = some false), decide (PySem.W.kitOne K (.ref (He.ga K "SupervisorPlan")) (.type "str") = some false)] : List Bool).all id
def moreB (K : PySem.W.Frag) : Bool := ([decide (PySem.W.kitOne K (.type "NoneType") (.ref (He.ga K "BadScript")) = some false), decide ((He.cT K ("_law_refused", none)).2 ≠ (He.cT K ("law", none)).2)] : List Bool).all id
def kwdl : List ((PySem.W.Frag → Addr) × List (Str × He.Dv)) := [(d_WorkerPlan__init.loc, kws_WorkerPlan__init), (d_SupervisorPlan__init.loc, kws_SupervisorPlan__init)]
def chk (K : PySem.W.Frag) : Bool := chk0 K && (exB_BadChild K && (exB_BadScript K && (exB_BadSetting K && (basB_PlanError K && (ksB K && (WPv.ktB K && (exfB K && (moreB K && (kwdl.all (fun q => kwB K (q.1 K) (kwsV K q.2)) && (emB K (kwAt (fun K => He.fAd K ("WorkerPlan", some "__init__")) "script" K)))))))))))
theorem env_of {K : PySem.W.Frag} {h : Heap} {mg : Str → Option Value} (X : K.In h) (G : h.Ns mainGlobals mg) (c : WHe.SaysK chk fns K) : Nonempty (Env K mg) := by
  obtain ⟨cz, cx⟩ := He.ba c.chk_
  obtain ⟨y0, cx⟩ := He.ba cx
  obtain ⟨y1, cx⟩ := He.ba cx
  obtain ⟨y2, cx⟩ := He.ba cx
  obtain ⟨y3, cx⟩ := He.ba cx
  obtain ⟨y4, cx⟩ := He.ba cx
  obtain ⟨y5, cx⟩ := He.ba cx
  obtain ⟨y6, cx⟩ := He.ba cx
  obtain ⟨y7, cx⟩ := He.ba cx
  obtain ⟨y8, cx⟩ := He.ba cx
  have y9 := cx
  obtain ⟨u0, zz⟩ := He.ba y0
  obtain ⟨v0, w0⟩ := He.ba zz
  obtain ⟨u1, zz⟩ := He.ba y1
  obtain ⟨v1, w1⟩ := He.ba zz
  obtain ⟨u2, zz⟩ := He.ba y2
  obtain ⟨v2, w2⟩ := He.ba zz
  obtain ⟨c0, cc⟩ := He.ba cz
  obtain ⟨c1, cc⟩ := He.ba cc
  obtain ⟨c2, cc⟩ := He.ba cc
  obtain ⟨c3, cc⟩ := He.ba cc
  obtain ⟨c4, cc⟩ := He.ba cc
  obtain ⟨c5, cc⟩ := He.ba cc
  obtain ⟨c6, cc⟩ := He.ba cc
  obtain ⟨c7, cc⟩ := He.ba cc
  obtain ⟨c8, cc⟩ := He.ba cc
  obtain ⟨c9, ca⟩ := He.ba cc
  have fr : ∀ (i : Nat) {x : Str}, frees[i]? = some x → mg x = none := fun i x e => PySem.W.mg_none_of X G (He.eqO_ok (at_ c1 i e))
  have gl : ∀ (i : Nat) {x : Str}, globs[i]? = some x → mg x = some (.ref (He.ga K x)) := fun i x e => PySem.W.mg_of X G (He.eqO_ok (at_ c2 i e))
  have ci : ∀ (i : Nat) {x : Str} {n : Int}, cints[i]? = some (x, n) → ∃ u, mg x = some u ∧ L2.RelV (.int n) u := fun i x n e => by
    obtain ⟨t, q⟩ := He.int_ok X G (at_ c3 i e)
    exact ⟨_, q, t, rfl⟩
  have cs : ∀ (i : Nat) {x z : Str}, cstrs[i]? = some (x, z) → ∃ u, mg x = some u ∧ L2.RelV (.str z) u := fun i x z e => by
    obtain ⟨t, q⟩ := He.str_ok X G (at_ c4 i e)
    exact ⟨_, q, t, rfl⟩
  obtain ⟨fd0, F0⟩ := c.def_ 0 (d := d_is_word) rfl
  obtain ⟨fd1, F1⟩ := c.def_ 1 (d := d_is_name) rfl
  obtain ⟨fd2, F2⟩ := c.def_ 2 (d := d_is_between) rfl
  obtain ⟨fd3, F3⟩ := c.def_ 3 (d := d_is_failure) rfl
  obtain ⟨fd4, F4⟩ := c.def_ 4 (d := d_is_free_word) rfl
  obtain ⟨fd5, F5⟩ := c.def_ 5 (d := d_is_value) rfl
  obtain ⟨fd6, F6⟩ := c.def_ 6 (d := d_is_deed_value) rfl
  obtain ⟨fd7, F7⟩ := c.def_ 7 (d := d_has_add) rfl
  obtain ⟨fd8, F8⟩ := c.def_ 8 (d := d_is_added_plan) rfl
  obtain ⟨fd9, F9⟩ := c.def_ 9 (d := d_has_shape) rfl
  obtain ⟨fd10, F10⟩ := c.def_ 10 (d := d_is_deed) rfl
  obtain ⟨fd11, F11⟩ := c.def_ 11 (d := d_is_row) rfl
  obtain ⟨fd12, F12⟩ := c.def_ 12 (d := d_wrong_row) rfl
  obtain ⟨fd13, F13⟩ := c.def_ 13 (d := d_is_script) rfl
  obtain ⟨fd14, F14⟩ := c.def_ 14 (d := d_require_script) rfl
  obtain ⟨fd15, F15⟩ := c.def_ 15 (d := d_found_row) rfl
  obtain ⟨fd16, F16⟩ := c.def_ 16 (d := d_row_for) rfl
  obtain ⟨fd17, F17⟩ := c.def_ 17 (d := d_words_of) rfl
  obtain ⟨fd18, F18⟩ := c.def_ 18 (d := d_is_one_of) rfl
  obtain ⟨fd19, F19⟩ := c.def_ 19 (d := d_is_deadline) rfl
  obtain ⟨fd20, F20⟩ := c.def_ 20 (d := d_require) rfl
  obtain ⟨fd21, F21⟩ := c.def_ 21 (d := d_L_begun) rfl
  obtain ⟨fd22, F22⟩ := c.def_ 22 (d := d_L_next) rfl
  obtain ⟨fd23, F23⟩ := c.def_ 23 (d := d_L_of) rfl
  obtain ⟨fd24, F24⟩ := c.def_ 24 (d := d_L_good_deed) rfl
  obtain ⟨fd25, F25⟩ := c.def_ 25 (d := d_L_good_rows) rfl
  obtain ⟨fd26, F26⟩ := c.def_ 26 (d := d_L_field) rfl
  obtain ⟨fd27, F27⟩ := c.def_ 27 (d := d_L_wrong_deed) rfl
  obtain ⟨fd28, F28⟩ := c.def_ 28 (d := d_L_wrong_row) rfl
  obtain ⟨fd29, F29⟩ := c.def_ 29 (d := d_L_right) rfl
  obtain ⟨fd30, F30⟩ := c.def_ 30 (d := d_L_refused) rfl
  obtain ⟨fd31, F31⟩ := c.def_ 31 (d := d_law) rfl
  obtain ⟨fd32, F32⟩ := c.def_ 32 (d := d_Plan_settings) rfl
  obtain ⟨fd33, F33⟩ := c.def_ 33 (d := d_Plan_below) rfl
  obtain ⟨fd34, F34⟩ := c.def_ 34 (d := d_Plan_with_all) rfl
  obtain ⟨fd35, F35⟩ := c.def_ 35 (d := d_Plan__len) rfl
  obtain ⟨fd36, F36⟩ := c.def_ 36 (d := d_Plan__contains) rfl
  obtain ⟨fd37, F37⟩ := c.def_ 37 (d := d_WorkerPlan__init) rfl
  obtain ⟨fd38, F38⟩ := c.def_ 38 (d := d_WorkerPlan__eq) rfl
  obtain ⟨fd39, F39⟩ := c.def_ 39 (d := d_SupervisorPlan__init) rfl
  obtain ⟨fd40, F40⟩ := c.def_ 40 (d := d_SupervisorPlan_below) rfl
  obtain ⟨fd41, F41⟩ := c.def_ 41 (d := d_SupervisorPlan__eq) rfl
  obtain ⟨fd42, F42⟩ := c.def_ 42 (d := d_BadChild__init) rfl
  obtain ⟨fd43, F43⟩ := c.def_ 43 (d := d_BadScript__init) rfl
  obtain ⟨fd44, F44⟩ := c.def_ 44 (d := d_BadSetting__init) rfl
  obtain ⟨fd45, F45⟩ := c.def_ 45 (d := d_WorkerPlan_name) rfl
  obtain ⟨fd46, F46⟩ := c.def_ 46 (d := d_WorkerPlan_restart) rfl
  obtain ⟨fd47, F47⟩ := c.def_ 47 (d := d_WorkerPlan_opening) rfl
  obtain ⟨fd48, F48⟩ := c.def_ 48 (d := d_WorkerPlan_closing) rfl
  obtain ⟨fd49, F49⟩ := c.def_ 49 (d := d_WorkerPlan_deadline) rfl
  obtain ⟨fd50, F50⟩ := c.def_ 50 (d := d_WorkerPlan_refused) rfl
  obtain ⟨fd51, F51⟩ := c.def_ 51 (d := d_WorkerPlan_script) rfl
  obtain ⟨fd52, F52⟩ := c.def_ 52 (d := d_SupervisorPlan_name) rfl
  obtain ⟨fd53, F53⟩ := c.def_ 53 (d := d_SupervisorPlan_restart) rfl
  obtain ⟨fd54, F54⟩ := c.def_ 54 (d := d_SupervisorPlan_strategy) rfl
  obtain ⟨fd55, F55⟩ := c.def_ 55 (d := d_SupervisorPlan_most) rfl
  obtain ⟨fd56, F56⟩ := c.def_ 56 (d := d_SupervisorPlan_span) rfl
  obtain ⟨fd57, F57⟩ := c.def_ 57 (d := d_SupervisorPlan_deadline) rfl
  obtain ⟨fd58, F58⟩ := c.def_ 58 (d := d_SupervisorPlan_children) rfl
  refine ⟨{ sys := WHe.sysB_ok c0
            b_len := fr 0 rfl
            b_int := fr 1 rfl
            b_isinstance := fr 2 rfl
            b_range := fr 3 rfl
            b_enumerate := fr 4 rfl
            b_list := fr 5 rfl
            b_str := fr 6 rfl
            b_tuple := fr 7 rfl
            b_all := fr 8 rfl
            b_min := fr 9 rfl
            b_max := fr 10 rfl
            b_bool := fr 11 rfl
            b_sorted := fr 12 rfl
            b_set := fr 13 rfl
            g_Plan := gl 0 rfl
            g_BaseWorker := gl 1 rfl
            g_PlanError := gl 2 rfl
            g_BadSetting := gl 3 rfl
            g_BadChild := gl 4 rfl
            g_BadScript := gl 5 rfl
            g_WorkerPlan := gl 6 rfl
            g_SupervisorPlan := gl 7 rfl
            g_is_word := gl 8 rfl
            g_is_name := gl 9 rfl
            g_is_between := gl 10 rfl
            g_is_failure := gl 11 rfl
            g_is_free_word := gl 12 rfl
            g_is_value := gl 13 rfl
            g_is_deed_value := gl 14 rfl
            g_has_add := gl 15 rfl
            g_is_added_plan := gl 16 rfl
            g_has_shape := gl 17 rfl
            g_is_deed := gl 18 rfl
            g_is_row := gl 19 rfl
            g_wrong_row := gl 20 rfl
            g_is_script := gl 21 rfl
            g_require_script := gl 22 rfl
            g_found_row := gl 23 rfl
            g_row_for := gl 24 rfl
            g_words_of := gl 25 rfl
            g_is_one_of := gl 26 rfl
            g_is_deadline := gl 27 rfl
            g_require := gl 28 rfl
            g__law_begun := gl 29 rfl
            g__law_next := gl 30 rfl
            g__law_of := gl 31 rfl
            g__law_good_deed := gl 32 rfl
            g__law_good_rows := gl 33 rfl
            g__law_field := gl 34 rfl
            g__law_wrong_deed := gl 35 rfl
            g__law_wrong_row := gl 36 rfl
            g__law_right := gl 37 rfl
            g__law_refused := gl 38 rfl
            g_law := gl 39 rfl
            g_RESERVED := gl 40 rfl
            g_OWN_REASONS := gl 41 rfl
            g_OWN_WORDS := gl 42 rfl
            g_RESTARTS := gl 43 rfl
            g_STRATEGIES := gl 44 rfl
            c_MOST_SIGNS := ci 0 rfl
            c_MOST_ROWS := ci 1 rfl
            c_MOST_DEEDS := ci 2 rfl
            c_MOST_WAITING := ci 3 rfl
            c_MOST_WORK := ci 4 rfl
            c_MOST_TICKS := ci 5 rfl
            c_MOST_VALUE := ci 6 rfl
            c_MOST_WAIT := ci 7 rfl
            c_MOST_CHILDREN := ci 8 rfl
            c_MOST_DEPTH := ci 9 rfl
            c_MOST_WHOLE := ci 10 rfl
            c_LETTERS := cs 0 rfl
            c_SIGNS := cs 1 rfl
            q_RESERVED := fun H => He.tupB_ok (at_ c5 0 rfl) H
            q_OWN_REASONS := fun H => He.tupB_ok (at_ c5 1 rfl) H
            q_OWN_WORDS := fun H => He.tupB_ok (at_ c5 2 rfl) H
            q_RESTARTS := fun H => He.tupB_ok (at_ c5 3 rfl) H
            q_STRATEGIES := fun H => He.tupB_ok (at_ c5 4 rfl) H
            fd_is_word := fd0
            F_is_word := F0
            fd_is_name := fd1
            F_is_name := F1
            fd_is_between := fd2
            F_is_between := F2
            fd_is_failure := fd3
            F_is_failure := F3
            fd_is_free_word := fd4
            F_is_free_word := F4
            fd_is_value := fd5
            F_is_value := F5
            fd_is_deed_value := fd6
            F_is_deed_value := F6
            fd_has_add := fd7
            F_has_add := F7
            fd_is_added_plan := fd8
            F_is_added_plan := F8
            fd_has_shape := fd9
            F_has_shape := F9
            fd_is_deed := fd10
            F_is_deed := F10
            fd_is_row := fd11
            F_is_row := F11
            fd_wrong_row := fd12
            F_wrong_row := F12
            fd_is_script := fd13
            F_is_script := F13
            fd_require_script := fd14
            F_require_script := F14
            fd_found_row := fd15
            F_found_row := F15
            fd_row_for := fd16
            F_row_for := F16
            fd_words_of := fd17
            F_words_of := F17
            fd_is_one_of := fd18
            F_is_one_of := F18
            fd_is_deadline := fd19
            F_is_deadline := F19
            fd_require := fd20
            F_require := F20
            fd_L_begun := fd21
            F_L_begun := F21
            fd_L_next := fd22
            F_L_next := F22
            fd_L_of := fd23
            F_L_of := F23
            fd_L_good_deed := fd24
            F_L_good_deed := F24
            fd_L_good_rows := fd25
            F_L_good_rows := F25
            fd_L_field := fd26
            F_L_field := F26
            fd_L_wrong_deed := fd27
            F_L_wrong_deed := F27
            fd_L_wrong_row := fd28
            F_L_wrong_row := F28
            fd_L_right := fd29
            F_L_right := F29
            fd_L_refused := fd30
            F_L_refused := F30
            fd_law := fd31
            F_law := F31
            fd_Plan_settings := fd32
            F_Plan_settings := F32
            fd_Plan_below := fd33
            F_Plan_below := F33
            fd_Plan_with_all := fd34
            F_Plan_with_all := F34
            fd_Plan__len := fd35
            F_Plan__len := F35
            fd_Plan__contains := fd36
            F_Plan__contains := F36
            fd_WorkerPlan__init := fd37
            F_WorkerPlan__init := F37
            fd_WorkerPlan__eq := fd38
            F_WorkerPlan__eq := F38
            fd_SupervisorPlan__init := fd39
            F_SupervisorPlan__init := F39
            fd_SupervisorPlan_below := fd40
            F_SupervisorPlan_below := F40
            fd_SupervisorPlan__eq := fd41
            F_SupervisorPlan__eq := F41
            fd_BadChild__init := fd42
            F_BadChild__init := F42
            fd_BadScript__init := fd43
            F_BadScript__init := F43
            fd_BadSetting__init := fd44
            F_BadSetting__init := F44
            fd_WorkerPlan_name := fd45
            F_WorkerPlan_name := F45
            fd_WorkerPlan_restart := fd46
            F_WorkerPlan_restart := F46
            fd_WorkerPlan_opening := fd47
            F_WorkerPlan_opening := F47
            fd_WorkerPlan_closing := fd48
            F_WorkerPlan_closing := F48
            fd_WorkerPlan_deadline := fd49
            F_WorkerPlan_deadline := F49
            fd_WorkerPlan_refused := fd50
            F_WorkerPlan_refused := F50
            fd_WorkerPlan_script := fd51
            F_WorkerPlan_script := F51
            fd_SupervisorPlan_name := fd52
            F_SupervisorPlan_name := F52
            fd_SupervisorPlan_restart := fd53
            F_SupervisorPlan_restart := F53
            fd_SupervisorPlan_strategy := fd54
            F_SupervisorPlan_strategy := F54
            fd_SupervisorPlan_most := fd55
            F_SupervisorPlan_most := F55
            fd_SupervisorPlan_span := fd56
            F_SupervisorPlan_span := F56
            fd_SupervisorPlan_deadline := fd57
            F_SupervisorPlan_deadline := F57
            fd_SupervisorPlan_children := fd58
            F_SupervisorPlan_children := F58
            n_WorkerPlan_own_settings := He.noat_ok (at_ c6 0 rfl)
            n_WorkerPlan_own_count := He.noat_ok (at_ c6 1 rfl)
            n_WorkerPlan_own_depth := He.noat_ok (at_ c6 2 rfl)
            n_SupervisorPlan_own_settings := He.noat_ok (at_ c6 3 rfl)
            n_SupervisorPlan_own_children := He.noat_ok (at_ c6 4 rfl)
            n_SupervisorPlan_own_count := He.noat_ok (at_ c6 5 rfl)
            n_SupervisorPlan_own_depth := He.noat_ok (at_ c6 6 rfl)
            m_WorkerPlan_settings := WHe.methB_ok (at_ c7 0 rfl)
            m_WorkerPlan_below := WHe.methB_ok (at_ c7 1 rfl)
            m_WorkerPlan_with_all := WHe.methB_ok (at_ c7 2 rfl)
            m_WorkerPlan___len__ := WHe.methB_ok (at_ c7 3 rfl)
            m_WorkerPlan___contains__ := WHe.methB_ok (at_ c7 4 rfl)
            m_SupervisorPlan_below := WHe.methB_ok (at_ c7 5 rfl)
            m_SupervisorPlan_settings := WHe.methB_ok (at_ c7 6 rfl)
            m_SupervisorPlan_with_all := WHe.methB_ok (at_ c7 7 rfl)
            m_SupervisorPlan___len__ := WHe.methB_ok (at_ c7 8 rfl)
            m_SupervisorPlan___contains__ := WHe.methB_ok (at_ c7 9 rfl)
            p_WorkerPlan_name := WHe.propB_ok (at_ c8 0 rfl)
            p_WorkerPlan_restart := WHe.propB_ok (at_ c8 1 rfl)
            p_WorkerPlan_opening := WHe.propB_ok (at_ c8 2 rfl)
            p_WorkerPlan_closing := WHe.propB_ok (at_ c8 3 rfl)
            p_WorkerPlan_deadline := WHe.propB_ok (at_ c8 4 rfl)
            p_WorkerPlan_refused := WHe.propB_ok (at_ c8 5 rfl)
            p_WorkerPlan_script := WHe.propB_ok (at_ c8 6 rfl)
            p_SupervisorPlan_name := WHe.propB_ok (at_ c8 7 rfl)
            p_SupervisorPlan_restart := WHe.propB_ok (at_ c8 8 rfl)
            p_SupervisorPlan_strategy := WHe.propB_ok (at_ c8 9 rfl)
            p_SupervisorPlan_most := WHe.propB_ok (at_ c8 10 rfl)
            p_SupervisorPlan_span := WHe.propB_ok (at_ c8 11 rfl)
            p_SupervisorPlan_deadline := WHe.propB_ok (at_ c8 12 rfl)
            p_SupervisorPlan_children := WHe.propB_ok (at_ c8 13 rfl)
            mk_WorkerPlan := He.mkr_ok (He.ba (at_ c9 0 rfl)).1
            dc_WorkerPlan := WHe.datB_ok (He.ba (at_ c9 0 rfl)).2
            mk_SupervisorPlan := He.mkr_ok (He.ba (at_ c9 1 rfl)).1
            dc_SupervisorPlan := WHe.datB_ok (He.ba (at_ c9 1 rfl)).2
            k_WorkerPlan_Plan := of_decide_eq_true (at_ ca 0 rfl)
            k_WorkerPlan_BaseWorker := of_decide_eq_true (at_ ca 1 rfl)
            k_WorkerPlan_WorkerPlan := of_decide_eq_true (at_ ca 2 rfl)
            k_WorkerPlan_SupervisorPlan := of_decide_eq_true (at_ ca 3 rfl)
            k_SupervisorPlan_Plan := of_decide_eq_true (at_ ca 4 rfl)
            k_SupervisorPlan_BaseWorker := of_decide_eq_true (at_ ca 5 rfl)
            k_SupervisorPlan_WorkerPlan := of_decide_eq_true (at_ ca 6 rfl)
            k_SupervisorPlan_SupervisorPlan := of_decide_eq_true (at_ ca 7 rfl)
            x_BadChild := WXE.xcB_ok F.excBase_ValueError F.store_ValueError u0
            o_BadChild := WXO.oexB_ok (WXE.xcB_ok F.excBase_ValueError F.store_ValueError u0) v0
            i_BadChild := of_decide_eq_true (at_ w0 0 rfl)
            t_BadChild := of_decide_eq_true (at_ w0 1 rfl)
            n_BadChild := of_decide_eq_true (at_ w0 2 rfl)
            e_BadChild := of_decide_eq_true (at_ w0 3 rfl)
            es_BadChild := of_decide_eq_true (at_ w0 4 rfl)
            vx_BadChild_BadScript := of_decide_eq_true (at_ w0 5 rfl)
            vx_BadChild_PlanError := of_decide_eq_true (at_ w0 6 rfl)
            vt_BadChild_ValueError := of_decide_eq_true (at_ w0 7 rfl)
            x_BadScript := WXE.xcB_ok F.excBase_ValueError F.store_ValueError u1
            o_BadScript := WXO.oexB_ok (WXE.xcB_ok F.excBase_ValueError F.store_ValueError u1) v1
            i_BadScript := of_decide_eq_true (at_ w1 0 rfl)
            t_BadScript := of_decide_eq_true (at_ w1 1 rfl)
            n_BadScript := of_decide_eq_true (at_ w1 2 rfl)
            e_BadScript := of_decide_eq_true (at_ w1 3 rfl)
            es_BadScript := of_decide_eq_true (at_ w1 4 rfl)
            vx_BadScript_BadScript := of_decide_eq_true (at_ w1 5 rfl)
            vx_BadScript_PlanError := of_decide_eq_true (at_ w1 6 rfl)
            vt_BadScript_ValueError := of_decide_eq_true (at_ w1 7 rfl)
            x_BadSetting := WXE.xcB_ok F.excBase_ValueError F.store_ValueError u2
            o_BadSetting := WXO.oexB_ok (WXE.xcB_ok F.excBase_ValueError F.store_ValueError u2) v2
            i_BadSetting := of_decide_eq_true (at_ w2 0 rfl)
            t_BadSetting := of_decide_eq_true (at_ w2 1 rfl)
            n_BadSetting := of_decide_eq_true (at_ w2 2 rfl)
            e_BadSetting := of_decide_eq_true (at_ w2 3 rfl)
            es_BadSetting := of_decide_eq_true (at_ w2 4 rfl)
            vx_BadSetting_BadScript := of_decide_eq_true (at_ w2 5 rfl)
            vx_BadSetting_PlanError := of_decide_eq_true (at_ w2 6 rfl)
            vt_BadSetting_ValueError := of_decide_eq_true (at_ w2 7 rfl)
            ks_WorkerPlan := of_decide_eq_true (at_ y4 0 rfl)
            ks_SupervisorPlan := of_decide_eq_true (at_ y4 1 rfl)
            ef_BadSetting_BadScript := of_decide_eq_true (at_ y6 0 rfl)
            ef_BadScript_BadSetting := of_decide_eq_true (at_ y6 1 rfl)
            kn_BadScript := of_decide_eq_true (at_ y7 0 rfl)
            tabs_ne := of_decide_eq_true (at_ y7 1 rfl)
            kd_WorkerPlan__init := fun oc od osl e => by have z := at_ y8 0 rfl; have z2 : kwB K (d_WorkerPlan__init.loc K) (kwsV K kws_WorkerPlan__init) = true := z; unfold kwB at z2; rw [e] at z2; exact He.kwdB_ok z2
            kd_SupervisorPlan__init := fun oc od osl e => by have z := at_ y8 1 rfl; have z2 : kwB K (d_SupervisorPlan__init.loc K) (kwsV K kws_SupervisorPlan__init) = true := z; unfold kwB at z2; rw [e] at z2; exact He.kwdB_ok z2
            sd := fun H => emB_ok y9 H
            kt := WPv.ktB_ok y5 (WHe.datB_ok (He.ba (at_ c9 0 rfl)).2) (WHe.datB_ok (He.ba (at_ c9 1 rfl)).2) ⟨of_decide_eq_true (at_ ca 0 rfl), of_decide_eq_true (at_ ca 1 rfl), of_decide_eq_true (at_ ca 2 rfl), of_decide_eq_true (at_ ca 3 rfl)⟩ ⟨of_decide_eq_true (at_ ca 4 rfl), of_decide_eq_true (at_ ca 5 rfl), of_decide_eq_true (at_ ca 6 rfl), of_decide_eq_true (at_ ca 7 rfl)⟩
            r_PlanError := (basB_PlanError_ok y3).1
            s_PlanError := (basB_PlanError_ok y3).2.1
            v_PlanError := (basB_PlanError_ok y3).2.2
          }⟩
abbrev R : PySem.W.OpenRow := PySem.W.OpenLaw.row PySem.Challenge.rw_watchtree_k53_scripts_told_apart
def tf : List He.Defn := [("_law_refused", none), ("law", none)]
abbrev hk : PySem.W.Hook := WLm.hookT 1000 chk fns tf
def ob (s : PySem.W.SharedT) : WLm.AlL := WLm.obsLT 1000 chk fns tf (HandSHeadRun.getT s)
theorem ob_eq (s : PySem.W.SharedT) : ob s = hk.obs s.abs := WLm.obsLT_eq (HandSHeadRun.getT_eq s)
def loose : List Str := (["Plan", "BaseWorker", "PlanError", "BadSetting", "BadChild", "BadScript", "LETTERS", "SIGNS", "MOST_SIGNS", "RESERVED", "OWN_REASONS", "is_word", "is_name", "is_between", "is_failure", "MOST_ROWS"] : List Str) ++ (["MOST_DEEDS", "MOST_WAITING", "MOST_WORK", "MOST_TICKS", "MOST_VALUE", "OWN_WORDS", "is_free_word", "is_value", "is_deed_value", "has_add", "is_added_plan", "has_shape", "is_deed", "is_row", "wrong_row", "is_script"] : List Str) ++ (["require_script", "found_row", "row_for", "words_of", "RESTARTS", "STRATEGIES", "MOST_WAIT", "MOST_CHILDREN", "MOST_DEPTH", "MOST_WHOLE", "is_one_of", "is_deadline", "require", "WorkerPlan", "SupervisorPlan", "_law_begun"] : List Str) ++ (["_law_next", "_law_of", "_law_good_deed", "_law_good_rows", "_law_field", "_law_wrong_deed", "_law_wrong_row", "_law_right", "_law_refused"] : List Str)
end W53

set_option Elab.async false
set_option linter.all false
set_option maxRecDepth 100000
set_option maxHeartbeats 0
namespace W53
open PySem PySem.Spec PyProof.Rows L2
theorem run (w : World) : HandSHeadRun.RunEq R (PySem.W.view R.prog [63]) hk ob 9000 loose w := by
  intro os
  kernel_rfl
end W53

set_option Elab.async false
set_option linter.all false
set_option maxRecDepth 100000
set_option maxHeartbeats 2000000
/-! enumerate over a tuple or a list, from any count -/
namespace WEn
open PySem PySem.Spec PyProof.Rows L2
/-- a tuple (t) or a list -/
def SqB (t : Bool) (K : PySem.W.Frag) (H : Hp) (a : Addr) (xs : List V) : Prop := match t with
  | true => SqT K H a xs
  | false => SqL K H a xs
def IsB (t : Bool) (h : Heap) (a : Addr) (its : Array Value) : Prop := match t with
  | true => h.IsTuple a its
  | false => h.IsList a its
def ItB (t : Bool) (h : Heap) (it a : Addr) (i : Nat) : Prop := match t with
  | true => h.IsTupleIter it a i
  | false => h.IsListIter it a i
section
variable {X : Cx} {pins : List (Addr × Obj)} {σ : L2.St} {H : Hp} {s : Shared} {t : Bool} {a it : Addr} {xs ys : List V}
theorem of_sq (I : Inv X pins σ H s) (h : SqB t X.K H a xs) : ∃ its : List Value, Vals xs its ∧ IsB t s.heap a its.toArray ∧ xs.length ≤ sizeLine := by
  cases t with
  | true =>
    obtain ⟨its, r, p, z⟩ := I.tuple h
    exact ⟨its, r, p, z⟩
  | false =>
    obtain ⟨its, r, p, z⟩ := I.list h
    exact ⟨its, r, p.isList, z⟩
theorem sq_inj (I : Inv X pins σ H s) (h : SqB t X.K H a xs) (h' : SqB t X.K H a ys) : xs = ys := by
  cases t with
  | true => exact I.tuple_inj h h'
  | false => exact I.list_inj h h'
theorem itB_obj {h : Heap} {i : Nat} (x : ItB t h it a i) : ∃ o, h.get? it = some o ∧ ∀ v, o.data ≠ .cell v := by
  cases t with
  | true =>
    obtain ⟨o, e, _, d⟩ := x
    exact ⟨o, e, fun v z => by rw [d] at z; cases z⟩
  | false =>
    obtain ⟨o, e, _, d⟩ := x
    exact ⟨o, e, fun v z => by rw [d] at z; cases z⟩
theorem itB_at {h h' : Heap} {i : Nat} (x : ItB t h it a i) (k : ∀ o, h.get? it = some o → h'.get? it = some o) : ItB t h' it a i := by
  cases t with
  | true => exact Heap.IsTupleIter.at x k
  | false => exact Heap.IsListIter.at x k
theorem drawsB {prog : Program} {w : World} {A : Around} (hh : A.handled = none) (hne : a ≠ it) (its : Array Value) :
    Draws prog w A it [it, a] its.size (fun i v => its[i]? = some v) (fun i h => ItB t h it a i ∧ IsB t h a its) := by
  cases t with
  | true => exact Draws.tuple hh it a hne its
  | false => exact Draws.list hh it a hne its
end
/-- the sequence at a as it stands at each turn, each item in a new pair with its count -/
def ItE (t : Bool) (c : Int) (K : PySem.W.Frag) (a : Addr) : It :=
  ⟨fun i H => ∃ (xs : List V) (x : V), SqB t K H a xs ∧ xs[i]? = some x, fun i H v H' => ∃ T x, v = .ref T ∧ H T = none ∧ H' = upd H T (.tup [.int (c + (i : Nat)), x]) ∧ ∀ xs, SqB t K H a xs → xs[i]? = some x,
    fun i H => ∃ xs : List V, SqB t K H a xs ∧ xs.length = i⟩
theorem turn_enumC {P : Program} {w : World} {K : PySem.W.Frag} {elts : List Expr} {kk : Nat} {tpos : Pos} (t : Bool) (c : Int) (a e it : Addr) (hai : a ≠ it) (hae : a ≠ e) :
    Turn P w K (.Tuple elts kk tpos) (ItE t c K a) [e, it] e (fun i h => (∃ old, IsEnum h e it (c + (i : Nat)) old) ∧ ItB t h it a i ∧ e ≠ it) where
  mem := by simp
  obj := fun i h st b hb => by
    obtain ⟨⟨old, he⟩, hi, _⟩ := st
    have e' : b = e ∨ b = it := by simpa using hb
    rcases e' with z | z
    · rw [z]; exact ⟨_, he, fun v q => nomatch q⟩
    · rw [z]; exact itB_obj hi
  keep := fun i h h' st k => let ⟨⟨old, he⟩, hi, hne⟩ := st; ⟨⟨old, k e (by simp) _ he⟩, itB_at hi fun o q => k it (by simp) o q, hne⟩
  item := by
    intro X hP hw hK hc i pins s σ H E I hf st hg
    subst hP hw hK
    obtain ⟨⟨old, he⟩, hit, hne⟩ := st
    obtain ⟨xs, x, hq, hx⟩ := hg
    obtain ⟨its, rv, p, hz⟩ := of_sq I hq
    obtain ⟨u, hu, ru⟩ := rv.get hx
    have hel : e < s.heap.objs.size := Heap.lt_size he
    have hil : it < s.heap.objs.size := by obtain ⟨_, q, _⟩ := itB_obj hit; exact Heap.lt_size q
    have hlt : i < its.toArray.size := by
      rw [List.size_toArray, ← rv.length]
      exact (List.getElem?_eq_some_iff.mp hx).1
    refine wpAny_pyNext_enum_itemC (drawsB (A := X.A.in1) (t := t) (a := a) (I.ok.hd hc) hai its.toArray) he ⟨hit, p⟩ hlt hne (by simp [hne, Ne.symm hae]) fun x' h' tk hP ho hst hT hsz hk => ?_
    have hxu : x' = u := by
      rw [show its.toArray[i]? = its[i]? by simp, hu] at hP
      exact (Option.some.inj hP).symm
    subst hxu
    refine ⟨_, rfl, wpAny_letOwnedTupleGo_enum (s := { s with heap := h', toks := tk + 1 }) ho fun h'' he' sb => ?_⟩
    have hT2 : h''.get? s.heap.objs.size = some { cls := .type "tuple", data := .seq #[.int (c + (i : Nat)) tk, x'] } := (sb.2 _ (Nat.ne_of_gt hel)).trans hT
    have new : ObjOk X.prog X.w (upd H s.heap.objs.size (.tup [.int (c + (i : Nat)), x])) h'' s.heap.objs.size (.tup [.int (c + (i : Nat)), x]) :=
      ⟨by show 2 ≤ sizeLine; decide, [.int (c + (i : Nat)) tk, x'], .cons ⟨_, rfl⟩ (.cons ru .nil), ⟨_, hT2, rfl, _, rfl⟩⟩
    have I1 : Inv X pins σ (upd H s.heap.objs.size (.tup [.int (c + (i : Nat)), x])) { s with heap := h'', toks := tk + 1 } :=
      I.turnedNew (ch := [e, it]) (fun b ob hb q => (sb.2 b (fun z => hb (by simp [z]))).trans (hk b ob (fun z => hb (by simp [z])) (fun z => hb (by simp [z])) q)) hf (Nat.le_refl _) new
    refine ⟨.ref s.heap.objs.size, _, I1, rfl, ⟨_, x, rfl, I.hok.fresh (Nat.le_refl _), rfl, fun ys hy => by rw [sq_inj I hy hq]; exact hx⟩, ⟨⟨x', ?_⟩, itB_at hst.1 fun o q => (sb.2 it (Ne.symm hne)).trans q, hne⟩, fun b hb => ?_⟩
    · have e1 : c + ((i + 1 : Nat) : Int) = c + (i : Nat) + 1 := by omega
      rw [e1]; exact he'
    · have hb' : b < s.heap.objs.size := by
        have e' : b = e ∨ b = it := by simpa using hb
        rcases e' with z | z
        · rw [z]; exact hel
        · rw [z]; exact hil
      rw [upd_ne (Nat.ne_of_lt hb')]
      exact (hf b hb).1
  done := by
    intro X hP hw hK hc i pins s σ H E I hf st hg
    subst hP hw hK
    obtain ⟨⟨old, he⟩, hit, hne⟩ := st
    obtain ⟨xs, hq, hx⟩ := hg
    obtain ⟨its, rv, p, hz⟩ := of_sq I hq
    obtain ⟨f0, f1, f2, f3, f4, f5⟩ := hf it (by simp)
    have hn : its.toArray.size = i := by rw [List.size_toArray, ← rv.length, hx]
    refine wpAny_pyNext_enum_endD (drawsB (A := X.A.in1) (t := t) (a := a) (I.ok.hd hc) hai its.toArray) he ⟨by rw [hn]; exact hit, p⟩ fun h' eb => ⟨rfl, I.turned (t' := s.toks) (fun b o hb q => eb b o hb q) f0 f1 f3 f4 f5⟩
  self := fun A i s Q E st h => let ⟨⟨_, he⟩, _⟩ := st; wpAny_pyIter_enum he h
theorem meets_enum0 {v : Value} {o : Obj} {G : Heap → Prop} (B : Begins v o G) :
    Meets (Builtin.«enumerate.__new__» ⟨[.type "enumerate", v], []⟩) (fun _ R s => G s.heap ∧ R (.ok (.ret (.ref (s.heap.push o).objs.size)))
      { s with heap := (s.heap.push o).push { cls := .type "enumerate", data := .fields #[.none, .bool false, .ref s.heap.objs.size, rawInt 0, .none, .none] } }) :=
  .of_wp fun prog w A R s h => by
    obtain ⟨hp, g, d, tk, os⟩ := s
    obtain ⟨h1, h⟩ := h
    have hsub := sub_enumerate
    have q1 : ∀ {A' : Around} {E : Value → Shared → Prop} {Q : Value → Shared → Prop}, Q (.ref hp.objs.size) ⟨hp.push o, g, d, tk, os⟩ → wpAny (model prog w) A' (pyIter v) Q E ⟨hp, g, d, tk, os⟩ :=
      fun q => B.iter prog w _ _ ⟨hp, g, d, tk, os⟩ _ h1 q
    wp_walk using q1
    refine wpAny_stack_any fun st => wpAny_pure ?_
    split
    · rename_i c _ _ _ _ _
      cases (c == Value.type "enumerate") <;>
        · wp_walk using q1
          exact ⟨_, rfl, h⟩
    · wp_walk using q1
      exact ⟨_, rfl, h⟩
section
variable {prog : Program} {w : World} {A : Around} {E : Value → Shared → Prop} {s : Shared}
theorem enum_begins0 {v : Value} {o : Obj} {G : Heap → Prop} {Q : Value → Shared → Prop} (B : Begins v o G) (h1 : G s.heap)
    (h : ∀ h', IsEnum h' (s.heap.objs.size + 1) s.heap.objs.size 0 .none → h'.get? s.heap.objs.size = some o → (∀ b o, s.heap.get? b = some o → h'.get? b = some o) → Q (.ref (s.heap.objs.size + 1)) { s with heap := h' }) :
    wpAny (model prog w) A (call (.type "enumerate") [v]) Q E s := by
  refine callType_new F.called_enumerate (by decide) (F.typeCall_enumerate_1 _) (F.newCall_enumerate_1 _) (fun obj => F.args_object_init_2 obj _) F.entry_enumerate_new (meets_enum0 B) ⟨h1, ?_⟩
  have hz : (s.heap.push o).objs.size = s.heap.objs.size + 1 := Heap.size_push ..
  have g0 : ((s.heap.push o).push { cls := .type "enumerate", data := .fields #[.none, .bool false, .ref s.heap.objs.size, rawInt 0, .none, .none] }).get? (s.heap.push o).objs.size = some _ := Heap.get?_push_size _ rfl
  show _ ∧ _
  rw [hz] at g0 ⊢
  exact ⟨⟨_, g0, rfl⟩, h _ g0 (Heap.get?_push_of_some _ (Heap.get?_push_size _ B.free)) fun b o x => Heap.get?_push_of_some _ (Heap.get?_push_of_some _ x)⟩
end
/-- enumerate(tuple) -/
def iEnumT (K : PySem.W.Frag) (ta : TA) : TI := fun σ H R => ta σ H fun vs H1 => ∃ a xs, vs = [.ref a] ∧ SqT K H1 a xs ∧ R (ItE true 0 K a) H1
theorem pi_enumT {X : Cx} {e : Expr} {ta : TA} {p pos tpos : Pos} {elts : List Expr} {kk : Nat} (hg : Gl X "enumerate") (hm : X.mg "enumerate" = none) (ha : PA X [e] ta) (hs : starEach [e] X.env = [(false, eval e X.env)] := by rfl) :
    PI X (.Tuple elts kk tpos) (.Call (.Name "enumerate" p) [e] [] pos) (iEnumT X.K ta) := by
  refine ⟨fun pins s σ H R I h => ?_⟩
  refine Call_ (ld_blt I hg hm boot_enumerate (PyProof.Rows.callWith_type1 (thn (ha.run pos pins s σ H _ I h) fun us s1 ⟨vs, H1, I1, r1, q1⟩ => ?_) hs rfl))
  obtain ⟨a, xs, rfl, hq, q⟩ := q1
  cases r1 with
  | cons r rr =>
    cases rr
    cases r
    obtain ⟨its, rv, p', hz⟩ := I1.tuple hq
    have hal : a < s1.heap.objs.size := by obtain ⟨o, ho, _⟩ := id p'; exact Heap.lt_size ho
    refine enum_begins0 (begins_tuple a its.toArray) p' fun h' he hit hk => wpAny_pyIter_enum he ?_
    have I2 : Inv X pins σ H1 { s1 with heap := h' } := I1.kept (t' := s1.toks) hk
    refine ⟨s1.heap.objs.size + 1, [s1.heap.objs.size + 1, s1.heap.objs.size], _, _, H1, rfl, I2, turn_enumC true 0 a (s1.heap.objs.size + 1) s1.heap.objs.size (Nat.ne_of_lt hal) (Nat.ne_of_lt (Nat.lt_succ_of_lt hal)), ⟨⟨.none, he⟩, ⟨_, hit, rfl, rfl⟩, Nat.succ_ne_self _⟩, fun b hb => ?_, q⟩
    have e' : b = s1.heap.objs.size + 1 ∨ b = s1.heap.objs.size := by simpa using hb
    have hle : s1.heap.objs.size ≤ b := by
      rcases e' with z | z
      · rw [z]; exact Nat.le_succ _
      · rw [z]; exact Nat.le_refl _
    exact I1.fpOk hle (I1.hok.fresh hle)
theorem callWith_typeK {M : Model} {A : Around} {E : Value → Shared → Prop} {s : Shared} {env : Env} {pos : Pos} {T : String} {e : Expr} {rest : List Expr} {kws : List Keyword} {Q : Value → Shared → Prop} (hall : (backToKw pos (keywordEach kws env)).all (·.1.isSome) = true)
    (h : wpAny M A (spliced (backTo pos (starEach (e :: rest) env))) (fun vs s1 => wpAny M A (evalAll ((backToKw pos (keywordEach kws env)).map (·.2))) (fun ks s2 => wpAny M A (call (.type T) vs (((backToKw pos (keywordEach kws env)).filterMap (·.1)).zip ks)) Q E s2) E s1) E s)
    (hpl : ((backTo pos (starEach (e :: rest) env)).any (·.1) || (backToKw pos (keywordEach kws env)).any (·.1.isNone)) = false := by rfl) (he : starEach (e :: rest) env = (false, eval e env) :: starEach rest env := by rfl) :
    wpAny M A (callWith pos (.type T) [] (backTo pos (starEach (e :: rest) env)) (backToKw pos (keywordEach kws env))) Q E s := by
  unfold callWith
  refine wpAny_bind (wpAny_holding (wpAny_mono (evalArgs_kw2 (Q := fun a s1 => wpAny M A (call (.type T) ([] ++ a.pos) a.kw) Q E s1) hall h he) (fun a s1 h1 => wpAny_bind (wpAny_standAt ?_)) fun _ _ q => q))
  simp only [hpl]
  refine wpAny_bind (wpAny_pure ?_)
  exact wpAny_bind (wpAny_mono h1 (fun r s2 hr => wpAny_bind (wpAny_holding (wpAny_point (wpAny_pure hr)))) fun _ _ q => q)
/-- enumerate(list, start=c) -/
def iEnumS (K : PySem.W.Frag) (ta tk : TA) : TI := fun σ H R => ta σ H fun vs H1 => tk σ H1 fun zs H2 => ∃ a xs c, vs = [.ref a] ∧ zs = [.int c] ∧ SqL K H2 a xs ∧ -(2 ^ 63) ≤ c ∧ c < 2 ^ 63 ∧ R (ItE false c K a) H2
theorem pi_enumS {X : Cx} {e : Expr} {ta tk : TA} {p pos tpos : Pos} {elts : List Expr} {kk : Nat} {kws : List Keyword} (hg : Gl X "enumerate") (hm : X.mg "enumerate" = none) (ha : PA X [e] ta) (hkw : PK X kws tk)
    (hall : (backToKw pos (keywordEach kws X.env)).all (·.1.isSome) = true := by rfl) (hks : (backToKw pos (keywordEach kws X.env)).filterMap (·.1) = [("start" : Str)] := by rfl)
    (he : starEach [e] X.env = (false, eval e X.env) :: starEach [] X.env := by rfl) (hpl : ((backTo pos (starEach [e] X.env)).any (·.1) || (backToKw pos (keywordEach kws X.env)).any (·.1.isNone)) = false := by rfl) :
    PI X (.Tuple elts kk tpos) (.Call (.Name "enumerate" p) [e] kws pos) (iEnumS X.K ta tk) := by
  refine ⟨fun pins s σ H R I h => ?_⟩
  refine wpAny_Call_Name_kw (ld_blt I hg hm boot_enumerate (callWith_typeK hall (thn (ha.run pos pins s σ H _ I h) fun us s1 ⟨vs, H1, I1, r1, q1⟩ => ?_) hpl he))
  refine thn (hkw.run pos pins s1 σ H1 _ I1 q1) fun ws s2 ⟨zs, H2, I2, rz, a, xs, c, e1, e2, hq, hc0, hc1, q⟩ => ?_
  subst e1 e2
  rw [hks]
  cases r1 with
  | cons r rr =>
    cases rr
    cases r
    cases rz with
    | cons rk rr =>
      cases rr
      obtain ⟨t, rfl⟩ := rk
      obtain ⟨its, rv, p', hz⟩ := I2.list hq
      have hal : a < s2.heap.objs.size := p'.lt
      refine enum_begins_start (begins_list a its.toArray) p'.isList hc0 hc1 fun h' he hit hz hk => wpAny_pyIter_enum he ?_
      have I3 : Inv X pins σ H2 { s2 with heap := h' } := I2.kept (t' := s2.toks) hk
      refine ⟨s2.heap.objs.size + 1, [s2.heap.objs.size + 1, s2.heap.objs.size], _, _, H2, rfl, I3, turn_enumC false c a (s2.heap.objs.size + 1) s2.heap.objs.size (Nat.ne_of_lt hal) (Nat.ne_of_lt (Nat.lt_succ_of_lt hal)), ⟨⟨.none, ?_⟩, ⟨_, hit, rfl, rfl⟩, Nat.succ_ne_self _⟩, fun b hb => ?_, q⟩
      · rw [show c + ((0 : Nat) : Int) = c by omega]
        exact he
      · have e' : b = s2.heap.objs.size + 1 ∨ b = s2.heap.objs.size := by simpa using hb
        have hle : s2.heap.objs.size ≤ b := by
          rcases e' with z | z
          · rw [z]; exact Nat.le_succ _
          · rw [z]; exact Nat.le_refl _
        exact I2.fpOk hle (I2.hok.fresh hle)
theorem walk_enumC {K : PySem.W.Frag} {t : Bool} {c : Int} {a : Addr} {xs : List V} : Walk (ItE t c K a) xs.length (fun H => SqB t K H a xs) (YPair (fun i => some (.int (c + (i : Nat)))) (fun i => xs[i]?)) := by
  refine ⟨fun i _ hi q => ⟨xs, xs[i], q, by simp [hi]⟩, fun _ q => ⟨xs, q, rfl⟩, fun i H v H' _ q y => ?_⟩
  obtain ⟨T, x, h1, h2, h3, h4⟩ := y
  exact ⟨T, .int (c + (i : Nat)), x, h1, h2, h3, rfl, h4 xs q⟩
end WEn

set_option Elab.async false
set_option linter.all false
set_option maxRecDepth 100000
set_option maxHeartbeats 2000000
/-! zip(tuple, list, strict=True) -/
namespace WZs
open PySem PySem.Spec PyProof.Rows L2 WEn
abbrev ZS (h : Heap) (z TI TO : Addr) (f0 : Value) : Prop := h.get? z = some { cls := .type "zip", dict := none, data := .fields #[f0, .bool false, .bool true, .ref TI, .ref TO], slots := #[] }
section
variable {prog : Program} {w : World} {A : Around} {E : Value → Shared → Prop} {s : Shared} {it : Addr} {fp : List Addr} {n i : Nat} {P : Nat → Value → Prop} {St : Nat → Heap → Prop}
/-- the next of an iterator, or None where it is over -/
theorem draw_more {Q : Option Value → Shared → Prop} (D : Draws prog w A it fp n P St) (st : St i s.heap) (hi : i < n) (h : ∀ x h' tk, P i x → St (i + 1) h' → Heap.SameBut it s.heap h' → Q (some x) { s with heap := h', toks := tk }) :
    wpAny (model prog w) A (Builtin.SmallTypes.nextOrEnd (.ref it)) Q E s := by
  unfold Builtin.SmallTypes.nextOrEnd
  exact wpAny_bind (wpAny_attempt (D.item i s _ _ hi st fun x h' tk a b c => wpAny_pure (h x h' tk a b c)))
theorem draw_over {Q : Option Value → Shared → Prop} (D : Draws prog w A it fp n P St) (st : St n s.heap) (h : ∀ h', Heap.ExtBut it s.heap h' → Q none { s with heap := h' }) :
    wpAny (model prog w) A (Builtin.SmallTypes.nextOrEnd (.ref it)) Q E s := by
  unfold Builtin.SmallTypes.nextOrEnd
  refine wpAny_bind (wpAny_attempt (D.done s _ _ st fun h' e he hx => ?_))
  obtain ⟨o, ho, hc⟩ := hx
  refine wpAny_bind (wpAny_isInstance (T := "StopIteration") (b := true) ⟨o, ho, hc⟩ isSubtype_stop ?_)
  exact wpAny_pure (h h' he)
end
section
variable {prog : Program} {w : World} {A : Around} {E : Value → Shared → Prop} {s : Shared} {z TI TO i1 i2 : Addr} {fp1 fp2 : List Addr} {n i : Nat} {P1 P2 : Nat → Value → Prop} {St1 St2 : Nat → Heap → Prop} {a1 a2 : Value}
theorem zs_item {Q : Value → Shared → Prop} (S : ZipSep2 z TI TO i1 i2 fp1 fp2) (D1 : Draws prog w A i1 fp1 n P1 St1) (D2 : Draws prog w A i2 fp2 n P2 St2)
    (hz : ZS s.heap z TI TO .none) (hTI : IsTupOf2 s.heap TI (.ref i1) (.ref i2)) (hTO : IsTupOf2 s.heap TO a1 a2) (st1 : St1 i s.heap) (st2 : St2 i s.heap) (hlt : i < n)
    (hQ : ∀ x1 x2 h' tk, P1 i x1 → P2 i x2 → ZS h' z TI TO (rawInt s.heap.objs.size) → IsTupOf2 h' TO x1 x2 → St1 (i + 1) h' → St2 (i + 1) h' → IsTupOf2 h' s.heap.objs.size x1 x2 →
      (∀ c o, c ≠ z → c ≠ TO → c ≠ i1 → c ≠ i2 → s.heap.get? c = some o → h'.get? c = some o) → Q (.ref s.heap.objs.size) { s with heap := h', toks := tk }) :
    wpAny (model prog w) A (Builtin.«zip.__next__» ⟨[.ref z], []⟩) (fun fin s' => ∃ v, fin = .done (.ret v) ∧ Q v s') E s := by
  obtain ⟨hp, g, d, tk0, os⟩ := s
  show wpAny _ _ (field (.ref z) 2 >>= _) _ _ _
  refine wpAny_bind (wpAny_field hz rfl (x := .bool true) rfl ?_)
  show wpAny _ _ (field (.ref z) 3 >>= _) _ _ _
  refine wpAny_bind (wpAny_field hz rfl (x := .ref TI) rfl ?_)
  refine wpAny_bind (wpAny_seqItems hTI rfl ?_)
  show wpAny _ _ (Builtin.SmallTypes.ownedTupleIsFree (.ref z) >>= _) _ _ _
  refine wpAny_bind ?_
  unfold Builtin.SmallTypes.ownedTupleIsFree
  refine wpAny_bind (wpAny_field hz rfl (x := .none) rfl (wpAny_pure ?_))
  simp only [if_true]
  refine wpAny_bind (wpAny_rule ?_)
  refine wpAny_bind (wpAny_field hz rfl (x := .ref TO) rfl ?_)
  refine wpAny_bind (wpAny_setField_rec hz (by simp) fun g0 hz0 hs0 => ?_)
  replace hz0 : ZS g0 z TI TO .ellipsis := hz0
  replace hs0 : Heap.SameBut z hp g0 := hs0
  refine wpAny_bind ?_
  simp only [List.zipIdx_cons, List.zipIdx_nil, List.forIn_cons, List.forIn_nil]
  refine wpAny_bind (wpAny_bind (wpAny_onRaise ?_))
  show wpAny _ _ (Builtin.SmallTypes.nextOrEnd (.ref i1)) _ _ ⟨g0, g, d, tk0, os⟩
  refine draw_more (s := ⟨g0, g, d, tk0, os⟩) D1 (D1.over st1 hs0 S.zf1) hlt fun x1 p1 tk1 hx1 sn1 hp1 => ?_
  replace hp1 : Heap.SameBut i1 g0 p1 := hp1
  have hU1 : IsTupOf2 p1 TO a1 a2 := hp1.extBut _ _ S.Ti1 (hs0.extBut _ _ S.TOz hTO)
  refine wpAny_bind (wpAny_seqItems (s := ⟨p1, g, d, tk1, os⟩) hU1 rfl ?_)
  refine wpAny_bind (updateSeq_IsTupOf2 (s := ⟨p1, g, d, tk1, os⟩) hU1 fun g1 hT1 hs1 => ?_)
  replace hT1 : IsTupOf2 g1 TO x1 a2 := hT1
  replace hs1 : Heap.SameBut TO p1 g1 := hs1
  refine wpAny_bind (wpAny_letGo (wpAny_pure ?_))
  refine wpAny_bind (wpAny_bind (wpAny_onRaise ?_))
  show wpAny _ _ (Builtin.SmallTypes.nextOrEnd (.ref i2)) _ _ ⟨g1, g, d, tk1, os⟩
  refine draw_more (s := ⟨g1, g, d, tk1, os⟩) D2 (D2.over (D2.over (D2.over st2 hs0 S.zf2) hp1 S.sep1_2) hs1 S.Tf2) hlt fun x2 p2 tk2 hx2 sn2 hp2 => ?_
  replace hp2 : Heap.SameBut i2 g1 p2 := hp2
  have hU2 : IsTupOf2 p2 TO x1 a2 := hp2.extBut _ _ S.Ti2 hT1
  refine wpAny_bind (wpAny_seqItems (s := ⟨p2, g, d, tk2, os⟩) hU2 rfl ?_)
  refine wpAny_bind (updateSeq_IsTupOf2 (s := ⟨p2, g, d, tk2, os⟩) hU2 fun g2 hT2 hs2 => ?_)
  replace hT2 : IsTupOf2 g2 TO x1 x2 := hT2
  replace hs2 : Heap.SameBut TO p2 g2 := hs2
  refine wpAny_bind (wpAny_letGo (wpAny_pure (wpAny_pure ?_)))
  refine wpAny_bind (wpAny_seqItems (s := ⟨g2, g, d, tk2, os⟩) hT2 rfl ?_)
  refine wpAny_bind (wpAny_newTuple ?_)
  have hsz : g2.objs.size = hp.objs.size := by rw [hs2.1, hp2.1, hs1.1, hp1.1, hs0.1]
  have hzz : ZS g2 z TI TO .ellipsis := hs2.extBut _ _ S.TOz.symm (hp2.extBut _ _ S.zi2 (hs1.extBut _ _ S.TOz.symm (hp1.extBut _ _ S.zi1 hz0)))
  have hkk : ∀ c o, c ≠ z → c ≠ TO → c ≠ i1 → c ≠ i2 → hp.get? c = some o → g2.get? c = some o := fun c o cz cT c1 c2 e =>
    hs2.extBut _ _ cT (hp2.extBut _ _ c2 (hs1.extBut _ _ cT (hp1.extBut _ _ c1 (hs0.extBut _ _ cz e))))
  have hj1 : St1 (i + 1) g2 := D1.over (D1.over (D1.over sn1 hs1 S.Tf1) hp2 S.sep2_1) hs2 S.Tf1
  have hj2 : St2 (i + 1) g2 := D2.over sn2 hs2 S.Tf2
  have hzlt : z < g2.objs.size := Heap.lt_size hzz
  show wpAny _ _ (Builtin.SmallTypes.ownedTupleHandOut (.ref z) (.ref g2.objs.size) >>= _) _ _ ⟨g2.push { cls := .type "tuple", data := .seq #[x1, x2] }, g, d, tk2, os⟩
  refine wpAny_bind ?_
  unfold Builtin.SmallTypes.ownedTupleHandOut
  have hz6 : ZS (g2.push { cls := .type "tuple", data := .seq #[x1, x2] }) z TI TO .ellipsis := Heap.get?_push_of_some _ hzz
  refine wpAny_bind (wpAny_setField_rec hz6 (by simp) fun h7 hz7 hs7 => ?_)
  replace hz7 : ZS h7 z TI TO (rawInt g2.objs.size) := hz7
  refine wpAny_setField_rec hz7 (by simp) fun h8 hz8 hs8 => ?_
  replace hz8 : ZS h8 z TI TO (rawInt g2.objs.size) := hz8
  replace hs7 : Heap.SameBut z (g2.push { cls := .type "tuple", data := .seq #[x1, x2] }) h7 := hs7
  replace hs8 : Heap.SameBut z h7 h8 := hs8
  have up : ∀ c o, c ≠ z → g2.get? c = some o → h8.get? c = some o := fun c o c1 e => hs8.extBut _ _ c1 (hs7.extBut _ _ c1 (Heap.get?_push_of_some _ e))
  have hT8 : IsTupOf2 h8 g2.objs.size x1 x2 := hs8.extBut _ _ (Nat.ne_of_gt hzlt) (hs7.extBut _ _ (Nat.ne_of_gt hzlt) (Heap.get?_push_size _ rfl))
  rw [hsz] at hz8 hT8
  refine wpAny_pure ⟨_, rfl, ?_⟩
  show Q (.ref g2.objs.size) ⟨h8, g, d, tk2, os⟩
  rw [hsz]
  exact hQ x1 x2 h8 tk2 hx1 hx2 hz8 (up _ _ S.TOz hT2) (D1.frame _ _ _ hj1 fun b hb o e => up b o (fun q => S.zf1 (q ▸ hb)) e) (D2.frame _ _ _ hj2 fun b hb o e => up b o (fun q => S.zf2 (q ▸ hb)) e) hT8 fun c o cz cT c1 c2 e => up c o cz (hkk c o cz cT c1 c2 e)
theorem zs_over {Q : Fin → Shared → Prop} (hh : A.handled = none) (S : ZipSep2 z TI TO i1 i2 fp1 fp2) (D1 : Draws prog w A i1 fp1 n P1 St1) (D2 : Draws prog w A i2 fp2 n P2 St2)
    (hz : ZS s.heap z TI TO .none) (hTI : IsTupOf2 s.heap TI (.ref i1) (.ref i2)) (hTO : IsTupOf2 s.heap TO a1 a2) (st1 : St1 n s.heap) (st2 : St2 n s.heap)
    (hE : ∀ h' e, (∀ c o, c ≠ z → c ≠ TO → c ≠ i1 → c ≠ i2 → s.heap.get? c = some o → h'.get? c = some o) → (∃ o, h'.get? e = some o ∧ o.cls = .type "StopIteration") → E (.ref e) { s with heap := h' }) :
    wpAny (model prog w) A (Builtin.«zip.__next__» ⟨[.ref z], []⟩) Q E s := by
  obtain ⟨hp, g, d, tk0, os⟩ := s
  show wpAny _ _ (field (.ref z) 2 >>= _) _ _ _
  refine wpAny_bind (wpAny_field hz rfl (x := .bool true) rfl ?_)
  show wpAny _ _ (field (.ref z) 3 >>= _) _ _ _
  refine wpAny_bind (wpAny_field hz rfl (x := .ref TI) rfl ?_)
  refine wpAny_bind (wpAny_seqItems hTI rfl ?_)
  show wpAny _ _ (Builtin.SmallTypes.ownedTupleIsFree (.ref z) >>= _) _ _ _
  refine wpAny_bind ?_
  unfold Builtin.SmallTypes.ownedTupleIsFree
  refine wpAny_bind (wpAny_field hz rfl (x := .none) rfl (wpAny_pure ?_))
  simp only [if_true]
  refine wpAny_bind (wpAny_rule ?_)
  refine wpAny_bind (wpAny_field hz rfl (x := .ref TO) rfl ?_)
  refine wpAny_bind (wpAny_setField_rec hz (by simp) fun g0 hz0 hs0 => ?_)
  replace hz0 : ZS g0 z TI TO .ellipsis := hz0
  replace hs0 : Heap.SameBut z hp g0 := hs0
  refine wpAny_bind ?_
  simp only [List.zipIdx_cons, List.zipIdx_nil, List.forIn_cons, List.forIn_nil]
  refine wpAny_bind (wpAny_bind (wpAny_onRaise ?_))
  show wpAny _ _ (Builtin.SmallTypes.nextOrEnd (.ref i1)) _ _ ⟨g0, g, d, tk0, os⟩
  refine draw_over (s := ⟨g0, g, d, tk0, os⟩) D1 (D1.over st1 hs0 S.zf1) fun p1 hp1 => ?_
  replace hp1 : Heap.ExtBut i1 g0 p1 := hp1
  have hz1 : ZS p1 z TI TO .ellipsis := hp1 _ _ S.zi1 hz0
  refine wpAny_bind (wpAny_setField_rec hz1 (by simp) fun g1 hz2 hs1 => ?_)
  replace hs1 : Heap.SameBut z p1 g1 := hs1
  refine wpAny_bind ?_
  refine wpAny_mono (Q := fun _ _ => False) ?_ (fun _ _ h => h.elim) fun _ _ h => h
  have st2' : St2 n g1 := D2.over (D2.frame _ _ _ (D2.over st2 hs0 S.zf2) fun b hb o e => hp1 b o (fun q => S.sep1_2 (q ▸ hb)) e) hs1 S.zf2
  wp_delta
  iterate 2 wp_step
  rw [show (List.drop 1 [Value.ref i1, Value.ref i2]).zipIdx 1 = [(Value.ref i2, 1)] from rfl, List.forIn_cons]
  refine wpAny_bind ?_
  refine wpAny_bind (draw_over (s := ⟨g1, g, d, tk0, os⟩) D2 st2' fun h2 he2 => ?_)
  rw [if_neg (by simp)]
  refine wpAny_pure ?_
  dsimp only
  rw [List.forIn_nil]
  refine wpAny_pure ?_
  refine wpAny_bind (wpAny_rule ?_)
  have hk2 : ∀ c o, c ≠ z → c ≠ TO → c ≠ i1 → c ≠ i2 → hp.get? c = some o → h2.get? c = some o := fun c o cz _ c1 c2 e => he2 c o c2 (hs1.extBut c o cz (hp1 c o c1 (hs0.extBut c o cz e)))
  show wpAny _ _ (newExc (.type "StopIteration") [] >>= _) _ _ _
  refine wpAny_bind ?_
  simp only [newExc, newTuple]
  refine wpAny_bind (wpAny_newObj_type ?_ (by size_fits))
  refine wpAny_bind (m := firstArgMember _ _) (wpAny_of_eq (a := Value.none) (by first | rfl | (simp only [firstArgMember]; rfl)) ?_)
  refine wpAny_newObj_type ?_ (by size_fits)
  simp only [raiseNew]
  refine wpAny_bind (wpAny_handled ?_)
  rw [hh]
  refine wpAny_bind (wpAny_pure (wpAny_throw ?_))
  exact hE _ _ (fun c o cz cT c1 c2 e => Heap.get?_push_of_some _ (Heap.get?_push_of_some _ (hk2 c o cz cT c1 c2 e))) ⟨_, Heap.get?_push_size _ rfl, rfl⟩
theorem next_zs_item {Q : Option Value → Shared → Prop} (S : ZipSep2 z TI TO i1 i2 fp1 fp2) (D1 : Draws prog w A.in1 i1 fp1 n P1 St1) (D2 : Draws prog w A.in1 i2 fp2 n P2 St2)
    (hz : ZS s.heap z TI TO .none) (hTI : IsTupOf2 s.heap TI (.ref i1) (.ref i2)) (hTO : IsTupOf2 s.heap TO a1 a2) (st1 : St1 i s.heap) (st2 : St2 i s.heap) (hlt : i < n)
    (hQ : ∀ x1 x2 h' tk, P1 i x1 → P2 i x2 → ZS h' z TI TO (rawInt s.heap.objs.size) → IsTupOf2 h' TO x1 x2 → St1 (i + 1) h' → St2 (i + 1) h' → IsTupOf2 h' s.heap.objs.size x1 x2 →
      (∀ c o, c ≠ z → c ≠ TO → c ≠ i1 → c ≠ i2 → s.heap.get? c = some o → h'.get? c = some o) → Q (some (.ref s.heap.objs.size)) { s with heap := h', toks := tk }) :
    wpAny (model prog w) A (pyNext (.ref z)) Q E s := by
  have hT : s.TypeIs (.ref z) "zip" := ⟨_, hz, rfl⟩
  unfold pyNext
  exact wpAny_bind (wpAny_attempt (wpAny_callSpecial?_slot (name := Str.ofString "__next__") hT F.slot_zip_next
    (wpAny_call_entry F.slot_zip_next hT F.entry_zip_next (zs_item S D1 D2 hz hTI hTO st1 st2 hlt fun x1 x2 h' tk b1 b2 b3 b4 b5 b6 b7 b8 => wpAny_pure (hQ x1 x2 h' tk b1 b2 b3 b4 b5 b6 b7 b8)) (F.args_zip_next_1 _))))
theorem next_zs_over {Q : Option Value → Shared → Prop} (hh : A.handled = none) (S : ZipSep2 z TI TO i1 i2 fp1 fp2) (D1 : Draws prog w A.in1 i1 fp1 n P1 St1) (D2 : Draws prog w A.in1 i2 fp2 n P2 St2)
    (hz : ZS s.heap z TI TO .none) (hTI : IsTupOf2 s.heap TI (.ref i1) (.ref i2)) (hTO : IsTupOf2 s.heap TO a1 a2) (st1 : St1 n s.heap) (st2 : St2 n s.heap)
    (hQ : ∀ h', (∀ c o, c ≠ z → c ≠ TO → c ≠ i1 → c ≠ i2 → s.heap.get? c = some o → h'.get? c = some o) → Q none { s with heap := h' }) : wpAny (model prog w) A (pyNext (.ref z)) Q E s := by
  have hT : s.TypeIs (.ref z) "zip" := ⟨_, hz, rfl⟩
  unfold pyNext
  refine wpAny_bind (wpAny_attempt (wpAny_callSpecial?_slot (name := Str.ofString "__next__") hT F.slot_zip_next
    (wpAny_call_entry F.slot_zip_next hT F.entry_zip_next (zs_over hh S D1 D2 hz hTI hTO st1 st2 fun h' e hk he => ?_) (F.args_zip_next_1 _))))
  obtain ⟨o, ho, hc⟩ := he
  refine wpAny_bind (wpAny_isInstance (T := "StopIteration") (b := true) ⟨o, ho, hc⟩ isSubtype_stop ?_)
  exact wpAny_pure (hQ _ hk)
theorem go_zs {elts : List Expr} {x1} {pos : Pos} {T : Addr} {Q : Unit → Shared → Prop} (hz : ZS s.heap z TI TO (rawInt T)) (hQ : ∀ h', ZS h' z TI TO .none → Heap.SameBut z s.heap h' → Q () { s with heap := h' }) :
    wpAny (model prog w) A (letOwnedTupleGo (.Tuple elts x1 pos) (.ref z) (.ref T)) Q E s := by
  unfold letOwnedTupleGo
  refine wpAny_bind (wpAny_load hz ?_)
  dsimp only
  rw [if_pos (by simp)]
  refine wpAny_bind (wpAny_rule ?_)
  show wpAny _ _ (setField (.ref z) 0 .none) Q E s
  exact wpAny_setField_rec hz (by simp) fun h' hz' hs' => hQ h' hz' hs'
theorem iter_zs {f0 : Value} {Q : Value → Shared → Prop} (hz : ZS s.heap z TI TO f0) (h : Q (.ref z) s) : wpAny (model prog w) A (pyIter (.ref z)) Q E s := by
  have hT : s.TypeIs (.ref z) "zip" := ⟨_, hz, rfl⟩
  refine wpAny_pyIter_slot hT F.slot_zip_iter (wpAny_call_entry F.slot_zip_iter hT F.entry_zip_iter ?_ (F.args_zip_iter_1 _))
  show wpAny _ _ (ret (.ref z)) _ _ s
  exact wpAny_pure ⟨_, rfl, "zip", _, hT, F.slot_zip_next.lookup, h⟩
end
abbrev zh (h : Heap) (o1 o2 : Obj) : Heap := ((((h.push o1).push o2).push { cls := .type "tuple", data := .seq #[.ref h.objs.size, .ref (h.push o1).objs.size] }).push { cls := .type "tuple", data := .seq #[.none, .none] }).push
  { cls := .type "zip", data := .fields #[.none, .bool false, .bool true, .ref ((h.push o1).push o2).objs.size, .ref (((h.push o1).push o2).push { cls := .type "tuple", data := .seq #[.ref h.objs.size, .ref (h.push o1).objs.size] }).objs.size] }
abbrev zh4 (h : Heap) (o1 o2 : Obj) : Heap := (((h.push o1).push o2).push { cls := .type "tuple", data := .seq #[.ref h.objs.size, .ref (h.push o1).objs.size] }).push { cls := .type "tuple", data := .seq #[.none, .none] }
theorem meets_zs {v1 v2 : Value} {o1 o2 : Obj} {G1 G2 : Heap → Prop} (B1 : Begins v1 o1 G1) (B2 : Begins v2 o2 G2) :
    Meets (Builtin.«zip.__new__» ⟨[.type "zip", v1, v2], [(Str.ofString "strict", .bool true)]⟩) (fun _ R s => (G1 s.heap ∧ G2 s.heap) ∧ R (.ok (.ret (.ref (zh4 s.heap o1 o2).objs.size))) { s with heap := zh s.heap o1 o2 }) :=
  .of_wp fun prog w A R s h => by
    obtain ⟨hp, g, d, tk, os⟩ := s
    obtain ⟨⟨h1, h2⟩, h⟩ := h
    have hsub := sub_zip
    have h2' : G2 (hp.push o1) := B2.keeps _ _ h2 fun b o q => Heap.get?_push_of_some _ q
    have q1 : ∀ {A' : Around} {E : Value → Shared → Prop} {Q : Value → Shared → Prop}, Q (.ref hp.objs.size) ⟨hp.push o1, g, d, tk, os⟩ → wpAny (model prog w) A' (pyIter v1) Q E ⟨hp, g, d, tk, os⟩ :=
      fun q => B1.iter prog w _ _ ⟨hp, g, d, tk, os⟩ _ h1 q
    have q2 : ∀ {A' : Around} {E : Value → Shared → Prop} {Q : Value → Shared → Prop}, Q (.ref (hp.push o1).objs.size) ⟨(hp.push o1).push o2, g, d, tk, os⟩ → wpAny (model prog w) A' (pyIter v2) Q E ⟨hp.push o1, g, d, tk, os⟩ :=
      fun q => B2.iter prog w _ _ ⟨hp.push o1, g, d, tk, os⟩ _ h2' q
    have e1 : (Str.ofString "strict" != ("strict" : Str)) = false := by decide +kernel
    wp_walk using q1, q2
    exact ⟨_, rfl, h⟩
theorem tcall_strict (a b c : Value) : checkTypeCall "zip" ⟨[a, b], [(Str.ofString "strict", c)]⟩ = pure () := by kernel_rfl
theorem ncall_strict (a b c : Value) : checkBuiltinCall "zip.__new__" ⟨[.type "zip", a, b], [(Str.ofString "strict", c)]⟩ = pure () := by kernel_rfl
theorem init_strict (obj a b c : Value) : argsOk "object.__init__" ⟨[obj, a, b], [(Str.ofString "strict", c)]⟩ := by unfold argsOk; kernel_rfl
section
variable {prog : Program} {w : World} {A : Around} {E : Value → Shared → Prop} {s : Shared}
theorem zs_begins {v1 v2 : Value} {o1 o2 : Obj} {G1 G2 : Heap → Prop} {Q : Value → Shared → Prop} (B1 : Begins v1 o1 G1) (B2 : Begins v2 o2 G2) (h1 : G1 s.heap) (h2 : G2 s.heap)
    (h : ∀ h', ZS h' (s.heap.objs.size + 4) (s.heap.objs.size + 2) (s.heap.objs.size + 3) .none → IsTupOf2 h' (s.heap.objs.size + 2) (.ref s.heap.objs.size) (.ref (s.heap.objs.size + 1)) → IsTupOf2 h' (s.heap.objs.size + 3) .none .none →
      h'.get? s.heap.objs.size = some o1 → h'.get? (s.heap.objs.size + 1) = some o2 → (∀ b o, s.heap.get? b = some o → h'.get? b = some o) → Q (.ref (s.heap.objs.size + 4)) { s with heap := h' }) :
    wpAny (model prog w) A (call (.type "zip") [v1, v2] [(Str.ofString "strict", .bool true)]) Q E s := by
  refine callType_newKw F.called_zip (by decide) (tcall_strict _ _ _) (ncall_strict _ _ _) (fun obj => init_strict obj _ _ _) F.entry_zip_new (meets_zs B1 B2) ⟨⟨h1, h2⟩, ?_⟩
  have z1 : (s.heap.push o1).objs.size = s.heap.objs.size + 1 := Heap.size_push ..
  have z2 : ((s.heap.push o1).push o2).objs.size = s.heap.objs.size + 2 := by rw [Heap.size_push, z1]
  have z3 : (((s.heap.push o1).push o2).push { cls := .type "tuple", data := .seq #[.ref s.heap.objs.size, .ref (s.heap.push o1).objs.size] }).objs.size = s.heap.objs.size + 3 := by rw [Heap.size_push, z2]
  have z4 : (zh4 s.heap o1 o2).objs.size = s.heap.objs.size + 4 := by rw [Heap.size_push, z3]
  have g5 : (zh s.heap o1 o2).get? (zh4 s.heap o1 o2).objs.size = some _ := Heap.get?_push_size _ rfl
  have g4 : (zh s.heap o1 o2).get? (((s.heap.push o1).push o2).push { cls := .type "tuple", data := .seq #[.ref s.heap.objs.size, .ref (s.heap.push o1).objs.size] }).objs.size = some _ := Heap.get?_push_of_some _ (Heap.get?_push_size _ rfl)
  have g3 : (zh s.heap o1 o2).get? ((s.heap.push o1).push o2).objs.size = some _ := Heap.get?_push_of_some _ (Heap.get?_push_of_some _ (Heap.get?_push_size _ rfl))
  have g2 : (zh s.heap o1 o2).get? (s.heap.push o1).objs.size = some _ := Heap.get?_push_of_some _ (Heap.get?_push_of_some _ (Heap.get?_push_of_some _ (Heap.get?_push_size _ B2.free)))
  have g1 : (zh s.heap o1 o2).get? s.heap.objs.size = some _ := Heap.get?_push_of_some _ (Heap.get?_push_of_some _ (Heap.get?_push_of_some _ (Heap.get?_push_of_some _ (Heap.get?_push_size _ B1.free))))
  show _ ∧ _
  rw [z2, z3, z4] at g5
  rw [z1, z2] at g3
  rw [z3] at g4
  rw [z1] at g2
  rw [z4]
  exact ⟨⟨_, g5, rfl⟩, h _ g5 g3 g4 g1 g2 fun c o x => Heap.get?_push_of_some _ (Heap.get?_push_of_some _ (Heap.get?_push_of_some _ (Heap.get?_push_of_some _ (Heap.get?_push_of_some _ x))))⟩
end
/-- the tuple at a, the list at b as they stand, the items in new pairs -/
def ItZ (K : PySem.W.Frag) (a b : Addr) : It :=
  ⟨fun i H => ∃ (xs ys : List V) (x y : V), SqT K H a xs ∧ SqL K H b ys ∧ xs.length = ys.length ∧ xs[i]? = some x ∧ ys[i]? = some y,
    fun i H v H' => ∃ T x y, v = .ref T ∧ H T = none ∧ H' = upd H T (.tup [x, y]) ∧ (∀ xs, SqT K H a xs → xs[i]? = some x) ∧ ∀ ys, SqL K H b ys → ys[i]? = some y,
    fun i H => ∃ xs ys : List V, SqT K H a xs ∧ SqL K H b ys ∧ xs.length = i ∧ ys.length = i⟩
theorem ne_nat {a b : Nat} (h : a < b ∨ b < a) : ¬ @Eq Addr a b := fun e => by
  have e' : a = b := e
  omega
theorem out2 {a b c : Nat} (h1 : a < b ∨ b < a) (h2 : a < c ∨ c < a) : ¬ ((a : Addr) ∈ ([b, c] : List Addr)) := fun h => by
  rcases List.mem_cons.mp h with e | h
  · exact ne_nat h1 e
  · exact ne_nat h2 (List.mem_singleton.mp h)
theorem sep_of (n a b : Nat) (h1 : a < n) (h2 : b < n) : ZipSep2 (n + 4) (n + 2) (n + 3) n (n + 1) [n, a] [n + 1, b] :=
  ⟨ne_nat (by omega), ne_nat (by omega), ne_nat (by omega), ne_nat (by omega), List.mem_cons_self, out2 (by omega) (by omega), out2 (by omega) (by omega), ne_nat (by omega), List.mem_cons_self, out2 (by omega) (by omega), out2 (by omega) (by omega), out2 (by omega) (by omega), out2 (by omega) (by omega)⟩
theorem turn_zs {P : Program} {w : World} {K : PySem.W.Frag} {elts : List Expr} {kk : Nat} {tpos : Pos} {a b z TI TO i1 i2 : Addr} (S : ZipSep2 z TI TO i1 i2 [i1, a] [i2, b]) (ha : a ≠ i1) (hb : b ≠ i2) :
    Turn P w K (.Tuple elts kk tpos) (ItZ K a b) [z, TI, TO, i1, i2] z (fun i h => ZS h z TI TO .none ∧ IsTupOf2 h TI (.ref i1) (.ref i2) ∧ (∃ x y, IsTupOf2 h TO x y) ∧ h.IsTupleIter i1 a i ∧ h.IsListIter i2 b i) where
  mem := by simp
  obj := fun i h st c hc => by
    obtain ⟨hz, hTI, ⟨x, y, hTO⟩, ⟨o1, e1, _, d1⟩, ⟨o2, e2, _, d2⟩⟩ := st
    have e' : c = z ∨ c = TI ∨ c = TO ∨ c = i1 ∨ c = i2 := by simpa using hc
    rcases e' with q | q | q | q | q
    · rw [q]; exact ⟨_, hz, fun v q => nomatch q⟩
    · rw [q]; exact ⟨_, hTI, fun v q => nomatch q⟩
    · rw [q]; exact ⟨_, hTO, fun v q => nomatch q⟩
    · rw [q]; exact ⟨o1, e1, fun v q => by rw [d1] at q; cases q⟩
    · rw [q]; exact ⟨o2, e2, fun v q => by rw [d2] at q; cases q⟩
  keep := fun i h h' st k => by
    obtain ⟨hz, hTI, ⟨x, y, hTO⟩, h1, h2⟩ := st
    exact ⟨k z (by simp) _ hz, k TI (by simp) _ hTI, ⟨x, y, k TO (by simp) _ hTO⟩, h1.at fun o q => k i1 (by simp) o q, h2.at fun o q => k i2 (by simp) o q⟩
  item := by
    intro X hP hw hK hc i pins s σ H E I hf st hg
    subst hP hw hK
    obtain ⟨hz, hTI, ⟨x0, y0, hTO⟩, h1, h2⟩ := st
    obtain ⟨xs, ys, x, y, hqx, hqy, hl, hx, hy⟩ := hg
    obtain ⟨its, rv, p, _⟩ := I.tuple hqx
    obtain ⟨its2, rv2, p2, _⟩ := I.list hqy
    obtain ⟨u, hu, ru⟩ := rv.get hx
    obtain ⟨u2, hu2, ru2⟩ := rv2.get hy
    have l1 := rv.length
    have l2 := rv2.length
    have hzl : z < s.heap.objs.size := Heap.lt_size hz
    have hlt : i < its.toArray.size := by
      rw [List.size_toArray, ← l1]
      exact (List.getElem?_eq_some_iff.mp hx).1
    have hsz : its.toArray.size = its2.toArray.size := by rw [List.size_toArray, List.size_toArray]; omega
    have D2 := Draws.list (prog := X.prog) (w := X.w) (A := X.A.in1) (I.ok.hd hc) i2 b hb its2.toArray
    rw [← hsz] at D2
    refine next_zs_item S (Draws.tuple (A := X.A.in1) (I.ok.hd hc) i1 a ha its.toArray) D2 hz hTI hTO ⟨h1, p⟩ ⟨h2, p2.isList⟩ hlt fun x1 x2 h' tk e1 e2 z' TO' h1' h2' hT hk => ?_
    have eu : x1 = u := by
      rw [show its.toArray[i]? = its[i]? by simp, hu] at e1
      exact (Option.some.inj e1).symm
    have eu2 : x2 = u2 := by
      rw [show its2.toArray[i]? = its2[i]? by simp, hu2] at e2
      exact (Option.some.inj e2).symm
    subst eu eu2
    refine ⟨_, rfl, go_zs (s := { s with heap := h', toks := tk }) z' fun h'' z'' sb => ?_⟩
    have hT2 : h''.get? s.heap.objs.size = some { cls := .type "tuple", data := .seq #[x1, x2] } := (sb.2 _ (Nat.ne_of_gt hzl)).trans hT
    have new : ObjOk X.prog X.w (upd H s.heap.objs.size (.tup [x, y])) h'' s.heap.objs.size (.tup [x, y]) := ⟨by show 2 ≤ sizeLine; decide, [x1, x2], .cons ru (.cons ru2 .nil), ⟨_, hT2, rfl, _, rfl⟩⟩
    have I1 : Inv X pins σ (upd H s.heap.objs.size (.tup [x, y])) { s with heap := h'', toks := tk } :=
      I.turnedNew (ch := [z, TI, TO, i1, i2]) (fun c o hb q => (sb.2 c (fun q' => hb (by simp [q']))).trans (hk c o (fun q' => hb (by simp [q'])) (fun q' => hb (by simp [q'])) (fun q' => hb (by simp [q'])) (fun q' => hb (by simp [q'])) q)) hf (Nat.le_refl _) new
    refine ⟨.ref s.heap.objs.size, _, I1, rfl, ⟨_, x, y, rfl, I.hok.fresh (Nat.le_refl _), rfl, fun l hl => by rw [I.tuple_inj hl hqx]; exact hx, fun l hl => by rw [I.list_inj hl hqy]; exact hy⟩, ⟨z'', ?_, ⟨x1, x2, ?_⟩, ?_, ?_⟩, fun c hcm => ?_⟩
    · exact (sb.2 _ S.TIz).trans (hk _ _ S.TIz S.TITO S.TIi1 S.TIi2 hTI)
    · exact (sb.2 _ S.TOz).trans TO'
    · exact h1'.1.at fun o q => (sb.2 _ S.zi1.symm).trans q
    · exact h2'.1.at fun o q => (sb.2 _ S.zi2.symm).trans q
    · have hlt : c < s.heap.objs.size := by
        have e' : c = z ∨ c = TI ∨ c = TO ∨ c = i1 ∨ c = i2 := by simpa using hcm
        rcases e' with q | q | q | q | q
        · rw [q]; exact hzl
        · rw [q]; exact Heap.lt_size hTI
        · rw [q]; exact Heap.lt_size hTO
        · rw [q]; obtain ⟨_, e1, _⟩ := h1; exact Heap.lt_size e1
        · rw [q]; obtain ⟨_, e2, _⟩ := h2; exact Heap.lt_size e2
      rw [upd_ne (Nat.ne_of_lt hlt)]
      exact (hf c hcm).1
  done := by
    intro X hP hw hK hc i pins s σ H E I hf st hg
    subst hP hw hK
    obtain ⟨hz, hTI, ⟨x0, y0, hTO⟩, h1, h2⟩ := st
    obtain ⟨xs, ys, hqx, hqy, e1, e2⟩ := hg
    obtain ⟨its, rv, p, _⟩ := I.tuple hqx
    obtain ⟨its2, rv2, p2, _⟩ := I.list hqy
    have l1 := rv.length
    have l2 := rv2.length
    have n1 : its.toArray.size = i := by rw [List.size_toArray]; omega
    have hsz : its.toArray.size = its2.toArray.size := by rw [List.size_toArray, List.size_toArray]; omega
    have D2 := Draws.list (prog := X.prog) (w := X.w) (A := X.A.in1) (I.ok.hd hc) i2 b hb its2.toArray
    rw [← hsz] at D2
    exact next_zs_over (I.ok.hd hc) S (Draws.tuple (A := X.A.in1) (I.ok.hd hc) i1 a ha its.toArray) D2 hz hTI hTO ⟨by rw [n1]; exact h1, p⟩ ⟨by rw [n1]; exact h2, p2.isList⟩ fun h' hk => ⟨rfl, I.turnedL (t' := s.toks) (ch := [z, TI, TO, i1, i2]) (fun c o hb q =>
      hk c o (fun q' => hb (by simp [q'])) (fun q' => hb (by simp [q'])) (fun q' => hb (by simp [q'])) (fun q' => hb (by simp [q'])) q) hf⟩
  self := fun A i s Q E st h => iter_zs st.1 h
/-- zip(tuple, list, strict=True) -/
def iZipS (K : PySem.W.Frag) (ta tk : TA) : TI := fun σ H R => ta σ H fun vs H1 => tk σ H1 fun zs H2 => ∃ a b xs ys, vs = [.ref a, .ref b] ∧ zs = [.bl true] ∧ SqT K H2 a xs ∧ SqL K H2 b ys ∧ R (ItZ K a b) H2
theorem pi_zipS {X : Cx} {e e2 : Expr} {ta tk : TA} {p pos tpos : Pos} {elts : List Expr} {kk : Nat} {kws : List Keyword} (hg : Gl X "zip") (hm : X.mg "zip" = none) (ha : PA X [e, e2] ta) (hkw : PK X kws tk)
    (hall : (backToKw pos (keywordEach kws X.env)).all (·.1.isSome) = true := by rfl) (hks : (backToKw pos (keywordEach kws X.env)).filterMap (·.1) = [("strict" : Str)] := by rfl)
    (he : starEach [e, e2] X.env = (false, eval e X.env) :: starEach [e2] X.env := by rfl) (hpl : ((backTo pos (starEach [e, e2] X.env)).any (·.1) || (backToKw pos (keywordEach kws X.env)).any (·.1.isNone)) = false := by rfl) :
    PI X (.Tuple elts kk tpos) (.Call (.Name "zip" p) [e, e2] kws pos) (iZipS X.K ta tk) := by
  refine ⟨fun pins s σ H R I h => ?_⟩
  refine wpAny_Call_Name_kw (ld_blt I hg hm PyProof.Rows.boot_zip (callWith_typeK hall (thn (ha.run pos pins s σ H _ I h) fun us s1 ⟨vs, H1, I1, r1, q1⟩ => ?_) hpl he))
  refine thn (hkw.run pos pins s1 σ H1 _ I1 q1) fun ws s2 ⟨zs, H2, I2, rz, a, b, xs, ys, e1, e2, hqx, hqy, q⟩ => ?_
  subst e1 e2
  rw [hks]
  cases r1 with
  | cons r rr =>
    cases rr with
    | cons r' rr =>
      cases rr
      cases r
      cases r'
      cases rz with
      | cons rk rr =>
        cases rr
        cases rk
        obtain ⟨its, rv, p1, _⟩ := I2.tuple hqx
        obtain ⟨its2, rv2, p2, _⟩ := I2.list hqy
        obtain ⟨o1, ho1, _⟩ := id p1
        have la : a < s2.heap.objs.size := Heap.lt_size ho1
        have lb : b < s2.heap.objs.size := p2.lt
        refine zs_begins (begins_tuple a its.toArray) (begins_list b its2.toArray) p1 p2.isList fun h' hz hTI hTO h1 h2 hk => iter_zs hz ?_
        have I3 : Inv X pins σ H2 { s2 with heap := h' } := I2.kept (t' := s2.toks) hk
        refine ⟨s2.heap.objs.size + 4, [s2.heap.objs.size + 4, s2.heap.objs.size + 2, s2.heap.objs.size + 3, s2.heap.objs.size, s2.heap.objs.size + 1], _, _, H2, rfl, I3, turn_zs (sep_of s2.heap.objs.size a b la lb) (Nat.ne_of_lt la) (Nat.ne_of_lt (Nat.lt_succ_of_lt lb)), ⟨hz, hTI, ⟨_, _, hTO⟩, ⟨_, h1, rfl, rfl⟩, ⟨_, h2, rfl, rfl⟩⟩, fun c hcm => ?_, q⟩
        have e' : c = s2.heap.objs.size + 4 ∨ c = s2.heap.objs.size + 2 ∨ c = s2.heap.objs.size + 3 ∨ c = s2.heap.objs.size ∨ c = s2.heap.objs.size + 1 := by simpa using hcm
        have hle : s2.heap.objs.size ≤ c := by
          rcases e' with z | z | z | z | z
          · rw [z]; exact Nat.le_add_right _ _
          · rw [z]; exact Nat.le_add_right _ _
          · rw [z]; exact Nat.le_add_right _ _
          · rw [z]; exact Nat.le_refl _
          · rw [z]; exact Nat.le_add_right _ _
        exact I2.fpOk hle (I2.hok.fresh hle)
theorem walk_zs {K : PySem.W.Frag} {a b : Addr} {xs ys : List V} (hl : xs.length = ys.length) : Walk (ItZ K a b) xs.length (fun H => SqT K H a xs ∧ SqL K H b ys) (YPair (fun i => xs[i]?) (fun i => ys[i]?)) := by
  refine ⟨fun i _ hi q => ⟨xs, ys, xs[i], ys[i], q.1, q.2, hl, by simp [hi], by simp [← hl, hi]⟩, fun _ q => ⟨xs, ys, q.1, q.2, rfl, hl.symm⟩, fun i H v H' _ q y => ?_⟩
  obtain ⟨T, x, z, h1, h2, h3, h4, h5⟩ := y
  exact ⟨T, x, z, h1, h2, h3, h4 xs q.1, h5 ys q.2⟩
end WZs

set_option Elab.async false
set_option linter.all false
set_option maxRecDepth 100000
set_option maxHeartbeats 2000000
namespace WRu
open PySem PySem.Spec PyProof.Rows L2
/-- any statement that is never reached -/
theorem ps_dead {X : Cx} {s : Stmt} : PS X s (fun _ _ _ => False) := ⟨fun _ _ _ _ _ _ h => h.elim⟩
theorem pss_dead {X : Cx} {ss : List Stmt} : PSs X ss (fun _ _ _ => False) := ⟨fun _ _ _ _ _ _ h => h.elim⟩
theorem pe_dead {X : Cx} {e : Expr} : PE X e (fun _ _ _ => False) := ⟨fun _ _ _ _ _ _ h => h.elim⟩
/-- one of two readings -/
theorem pe_or {X : Cx} {e : Expr} {t1 t2 : TE} (h1 : PE X e t1) (h2 : PE X e t2) : PE X e (fun σ H Q => t1 σ H Q ∨ t2 σ H Q) := ⟨fun pins s σ H Q I h => by
  rcases h with h | h
  · exact h1.run pins s σ H Q I h
  · exact h2.run pins s σ H Q I h⟩
/-- a list against an empty one -/
def rEqN (K : PySem.W.Frag) : R2 := fun x y H Q => ∃ l b xs, x = .ref l ∧ y = .ref b ∧ SqL K H l xs ∧ SqL K H b [] ∧ Q (.bl (decide (xs = []))) H
def rNeN (K : PySem.W.Frag) : R2 := fun x y H Q => ∃ l b xs, x = .ref l ∧ y = .ref b ∧ SqL K H l xs ∧ SqL K H b [] ∧ Q (.bl (!decide (xs = []))) H
theorem op_eqN {X : Cx} (hu : X.A.units + 64 < cLine) : OpR X (compareOp .Eq) (rEqN X.K) := by
  intro pins s σ H x y v u Q I rx ry h
  obtain ⟨l, b, xs, rfl, rfl, hl, hb, q⟩ := h
  cases rx
  cases ry
  obtain ⟨its, r, p, _⟩ := I.list hl
  obtain ⟨its2, r2, p2, _⟩ := I.list hb
  cases r2
  cases r with
  | nil => exact SeqAt.eq_listAt (e := fun _ => true) p.isList p2.isList rfl (by omega) (fun j h1 => absurd h1 (by simp)) ⟨.bl true, H, I, rfl, q⟩
  | cons r1 r => exact SeqAt.eq_list_lengthsAt p.isList p2.isList (by simp) (by omega) ⟨.bl false, H, I, rfl, by simpa using q⟩
theorem op_neN {X : Cx} (hu : X.A.units + 64 < cLine) : OpR X (compareOp .NotEq) (rNeN X.K) := by
  intro pins s σ H x y v u Q I rx ry h
  obtain ⟨l, b, xs, rfl, rfl, hl, hb, q⟩ := h
  cases rx
  cases ry
  obtain ⟨its, r, p, _⟩ := I.list hl
  obtain ⟨its2, r2, p2, _⟩ := I.list hb
  cases r2
  cases r with
  | nil => exact SeqAt.RcNeAt.lists (e := fun _ => true) p.isList p2.isList rfl (by omega) (fun j h1 => absurd h1 (by simp)) X.prog X.w X.xe _ ⟨.bl false, H, I, rfl, q⟩
  | cons r1 r => exact SeqAt.RcNeAt.lists_lengths p.isList p2.isList (by simp) (by omega) X.prog X.w X.xe _ ⟨.bl true, H, I, rfl, by simpa using q⟩
/-- text * int -/
def repS (z : Str) (n : Nat) : Str := ⟨(List.replicate n z.cps).foldl (· ++ ·) #[]⟩
def rMulS : R2 := fun x y H Q => ∃ (z : Str) (k : Nat), x = .str z ∧ y = .int (k : Int) ∧ k ≤ 1000 ∧ z.length ≤ 1000 ∧ Q (.str (repS z k)) H
theorem op_mulS {X : Cx} : OpR X (binaryOp .Mult) rMulS := by
  intro pins s σ H x y v u Q I rx ry h
  obtain ⟨z, k, rfl, rfl, hk, hz, q⟩ := h
  obtain ⟨t, rfl⟩ := rx
  obtain ⟨t2, rfl⟩ := ry
  have h0 : ¬ ((k : Int) < -(2 ^ 63 : Int)) := by omega
  have h1 : ¬ ((k : Int) ≥ 2 ^ 63) := by omega
  have hlen : z.length * k ≤ 1000000 := Nat.mul_le_mul hz hk
  have hno : Builtin.Str.tooLong (z.length * k) = false := by
    unfold Builtin.Str.tooLong
    have : (1000000 : Nat) ≤ sizeLine := by decide
    simp
    omega
  refine PySem.P.mul_str (by rw [decide_eq_false h0, decide_eq_false h1]; rfl) (fun h2 _ h3 => ?_) (fun _ _ => ?_) ?_
  · have : (1000 : Int) ≤ (2 ^ 63 - 1) / (k : Int) := Int.le_ediv_of_mul_le (by omega) (by omega)
    omega
  · simp only [Int.toNat_natCast]
    exact hno
  · by_cases hk0 : (k : Int) < 1
    · rw [if_pos hk0]
      have e : k = 0 := by omega
      subst e
      exact ⟨by decide, .str _, H, I.tok _, ⟨_, rfl⟩, q⟩
    · rw [if_neg hk0]
      by_cases hk1 : ((k : Int) == 1 || z.length == 0) = true
      · rw [if_pos hk1]
        have e : repS z k = z := by
          rcases Bool.or_eq_true_iff.mp hk1 with e | e
          · have e' : k = 1 := by
              have := beq_iff_eq.mp e
              omega
            subst e'
            unfold repS
            simp
          · have e' : z.cps = #[] := Array.eq_empty_of_size_eq_zero (beq_iff_eq.mp e)
            unfold repS
            rw [e']
            have : ∀ n, (List.replicate n (#[] : Array Nat)).foldl (· ++ ·) #[] = #[] := fun n => by
              induction n with
              | zero => rfl
              | succ n ih => rw [List.replicate_succ, List.foldl_cons]; exact ih
            rw [this]
            obtain ⟨c⟩ := z
            simp at e'
            rw [e']
        rw [e] at q
        exact ⟨.str z, H, I, ⟨_, rfl⟩, q⟩
      · rw [if_neg hk1]
        simp only [Int.toNat_natCast]
        exact ⟨fits_reps hno, .str _, H, I.tok _, ⟨_, rfl⟩, q⟩
/-! ### own != -/
section
variable {prog : Program} {w : World} {A : Around} {E : Value → Shared → Prop} {s : Shared} {K : PySem.W.Frag} {x C f : Addr} {ox : Obj} {od : Option Obj} {b : Value}
theorem ne_own {Q : Value → Shared → Prop} (hu : A.units < cLine) (hu1 : A.in1.units < cLine) (X : K.In s.heap) (I : PySem.W.InstAt s.heap x ox C od) (hb : PySem.W.Looks (model prog w) s.heap (typeOf b) (.ref C))
    (hn : PySem.W.findIn K (.ref C) "__ne__" = some (some (.builtin "object.__ne__"))) (he : PySem.W.findIn K (.ref C) "__eq__" = some (some (.ref f))) (hf : PySem.W.isFn K (.ref f) = true) (hm : PySem.W.mroIn K C (.type "object") = some true)
    (h : wpAny (model prog w) A.in1 (call (.ref f) [.ref x, b]) (fun v s' => ∃ r, v = .bool r ∧ Q (.bool (!r)) s') E s) : wpAny (model prog w) A (richCompare .NotEq (.ref x) b) Q E s := by
  have body : codeAny (model prog w) A (.call (.builtin "object.__ne__") ⟨[.ref x, b], []⟩) (fun r s' => match r with | .ok (.ret v) => ∃ r, v = .bool (!r) ∧ Q (.bool (!r)) s' | .ok _ => False | .error e => E e s') s := by
    have sub : PySem.W.Looks (model prog w) s.heap (isInstance (.ref x) (.type "object")) true := I.type.andThen (PySem.W.looks_mroIn X hm)
    have SL := PySem.F.slot_object_ne
    refine codeAny_call_builtin SL.plain PySem.F.entry_object_ne ?_
    refine PySem.W.check_slot (n := "__ne__") (by decide +kernel) (by decide +kernel) sub (PySem.F.args_object_ne_2 _ _) ?_
    show wpAny _ _ (cRoomFor "comparison" [.ref x, b] >>= _) _ _ s
    refine wpAny_bind (wpAny_cRoomFor hu1 (wpAny_bind (PySem.W.ifBound_K X I he hf (wpAny_mono h (fun v s' hv => ?_) fun _ _ e => e))))
    obtain ⟨r, rfl, q⟩ := hv
    exact wpAny_bind (wpAny_truthy_bool (wpAny_pure ⟨r, rfl, q⟩))
  have one : wpAny (model prog w) A (tryCompare (.ref x) "__ne__" b) (fun r s' => ∃ v, r = some v ∧ Q v s') E s := by
    unfold tryCompare
    refine wpAny_bind ?_
    simp only [callSpecialIfBound?, bindSpecialIfBound?]
    refine wpAny_holding (wpAny_bind (wpAny_bind (wpAny_bind (I.type.here ((PySem.W.looks_findIn X hn).here ?_)))))
    refine wpAny_bind (wpAny_askSetting (wpAny_ite ?_))
    have hbi : bindSpecial (.builtin "object.__ne__") (.ref x) = pure (.builtin "object.__ne__", [.ref x]) := PySem.F.slot_object_ne.bind (.ref x)
    have fin : wpAny (model prog w) A (call (.builtin "object.__ne__") ([.ref x] ++ [b]) >>= fun v => pure (some v)) (fun a s' => wpAny (model prog w) A (match a with | some .notImplemented => pure none | none => pure none | some v => pure (some v)) (fun r s' => ∃ v, r = some v ∧ Q v s') E s') E s := by
      refine wpAny_bind (wpAny_mono (wpAny_call (codeAny_mono body fun r s' hr => ?_)) (Q := fun v s' => ∃ r, v = .bool (!r) ∧ Q (.bool (!r)) s') (fun v s' hv => ?_) fun _ _ e => e)
      · exact hr
      · obtain ⟨r, rfl, q⟩ := hv
        exact wpAny_pure (wpAny_pure ⟨_, rfl, q⟩)
    split
    · exact wpAny_bind (wpAny_of_eq hbi (wpAny_pure (by exact fin)))
    · exact wpAny_tryCatch (wpAny_bind (wpAny_of_eq hbi (wpAny_pure (by exact fin))))
  unfold richCompare
  simp only [PySem.oneThing_ref]
  refine wpAny_holding (wpAny_bind (wpAny_cRoomFor hu ?_))
  refine wpAny_bind (I.type.here (wpAny_bind (hb.here ?_)))
  rw [if_neg (by simp)]
  refine wpAny_bind (wpAny_pure ?_)
  rw [if_neg (by simp)]
  refine wpAny_bind (wpAny_mono one (fun r s' z => ?_) fun _ _ e => e)
  obtain ⟨v, rfl, hq⟩ := z
  exact wpAny_pure hq
end
/-- x != y, own ones that are equal -/
def rNeG (D : Eqv) : R2 := fun x y H Q => D x y H ∧ ∀ H', Ext H H' → Q (.bl false) H'
theorem op_neG {X : Cx} {CX : CXT} {n : Nat} {C f : Addr} {fd : FuncData} {ps : List Str} {R : Addr → Addr → Hp → Prop} {E : XK} (F : FnOk X.prog X.w X.K X.mg X.base CX n f fd ps (spEq R))
    (hn : PySem.W.findIn X.K (.ref C) "__ne__" = some (some (.builtin "object.__ne__"))) (hs : PySem.W.findIn X.K (.ref C) "__eq__" = some (some (.ref f))) (hf : PySem.W.isFn X.K (.ref f) = true) (hm : PySem.W.mroIn X.K C (.type "object") = some true)
    (hb : Binds X.K fd ps []) (hx : Passes CX X E) (hr : Room (n + 1) X.A) : OpR X (compareOp .NotEq) (rNeG (DIns C R)) := by
  intro pins s σ H x y v u Q I rx ry hq
  obtain ⟨⟨a, b, dx, dy, fs, gs, rfl, rfl, ha, hb', hR⟩, q⟩ := hq
  cases rx
  cases ry
  obtain ⟨mA, J, _⟩ := ins_get I.hok ha
  obtain ⟨mB, J', _⟩ := ins_get I.hok hb'
  obtain ⟨od, J, _⟩ := J.look
  obtain ⟨od', J', _⟩ := J'.look
  refine ne_own (Room.units0 hr) (Room.units0 hr.in1) I.kIn J J'.type hn hs hf hm ?_
  have hsp : spEq R [.ref a, .ref b] H (fun v H' => v = .bl true ∧ Ext H H') E := ⟨a, b, rfl, hR, fun H' e => ⟨rfl, e⟩⟩
  have r2 : Vals [V.ref a, V.ref b] [Value.ref a, Value.ref b] := .cons rfl (.cons rfl .nil)
  have hl := F.len _ _ _ _ hsp
  refine wpAny_call (codeAny_mono (F.run X.A.in1 X.stack s H ⟨[.ref a, .ref b], []⟩ [.ref a, .ref b] [.ref a, .ref b] _ E hr.in1 I.env0.in1 (by
    have := hb s [.ref a, .ref b] I.kIn (by simpa using hl)
    simpa using this) r2 hsp) fun r s' hq => ?_)
  cases r with
  | error e => exact hx pins σ H s e s' I hq
  | ok fl =>
    cases fl with
    | ret w =>
      obtain ⟨z, H', I', rz, ez, ex⟩ := I.after hq
      subst ez
      cases rz
      exact ⟨true, rfl, .bl false, H', I', rfl, q H' ex⟩
    | next => exact False.elim hq
    | brk => exact False.elim hq
    | cont => exact False.elim hq
/-- xs[i] of a list, ahead of xs[i] op= .. -/
theorem pget_list {X : Cx} : PGet X (rIxL X.K) := by
  intro pins s σ H x y v u Q I rx ry h
  obtain ⟨p, xs, i, z, rfl, rfl, hq, he, q⟩ := h
  cases rx
  obtain ⟨t, rfl⟩ := ry
  obtain ⟨its, r, pl, hz⟩ := I.list hq
  obtain ⟨j, h1, h2, h3, h4, h5⟩ := atI_get he
  obtain ⟨w, ew, rw'⟩ := r.get h2
  have hl := r.length
  have hn := line63
  have fin : EP X pins σ Q w s := ⟨z, H, I, rw', q⟩
  by_cases h0 : 0 ≤ i
  · have hj : i.toNat = j := by
      rw [seqIndex_of h0 h5] at h1
      exact Option.some.inj h1
    exact wpAny_getItem_list pl.isList h0 (by omega) (by rw [hj]; simpa using ew) fin
  · have hj : (i + (its.toArray.size : Int)).toNat = j := by
      rw [seqIndex_neg (by omega) h4] at h1
      rw [List.size_toArray, ← hl]
      exact Option.some.inj h1
    exact wpAny_getItem_list_neg pl.isList (by omega) (by rw [List.size_toArray] <;> omega) (by omega) (by rw [hj]; simpa using ew) fin
end WRu

set_option Elab.async false
set_option linter.all false
set_option maxRecDepth 100000
set_option maxHeartbeats 2000000
/-! readings, one value or one truth; comprehensions whose items are told -/
namespace WEb
open PySem PySem.Spec PyProof.Rows L2 WEv WRd WLf WPv WEn WRu StX WSt WDc
def Kp (H H' : Hp) : Prop := ∀ b o, H b = some o → (∀ xs, o ≠ .lst xs) → (∀ kvs, o ≠ .dK kvs) → H' b = some o
def MnK (P : HP V) : Prop := ∀ x H H', Kp H H' → P x H → P x H'
theorem Kp.trans {H H' H'' : Hp} (a : Kp H H') (b : Kp H' H'') : Kp H H'' := fun c o h h1 h2 => b c o (a c o h h1 h2) h1 h2
theorem Kp.same {H H' : Hp} (s : Same H H') : Kp H H' := fun b o h _ _ => s b o h
theorem Kp.lst {H : Hp} {l : Addr} {xs : List V} {x : HO} (hl : H l = some (.lst xs)) : Kp H (upd H l x) := fun b o h h1 _ => by
  rw [upd_ne (fun z => by rw [z, hl] at h; cases h; exact h1 _ rfl)]
  exact h
theorem mk_is {x : V} : MnK (Is x) := fun _ _ _ _ e => e
theorem fa_kp : ∀ {Ps : List (HP V)} {vs : List V} {H H' : Hp}, (∀ P ∈ Ps, MnK P) → Kp H H' → Fa Ps vs H → Fa Ps vs H'
  | [], [], _, _, _, _, _ => trivial
  | P :: _, _ :: _, _, _, m, s, h => ⟨m P List.mem_cons_self _ _ _ s h.1, fa_kp (fun Q hQ => m Q (List.mem_cons_of_mem _ hQ)) s h.2⟩
  | [], _ :: _, _, _, _, _, h => h.elim
  | _ :: _, [], _, _, _, _, h => h.elim
theorem mn_fa {Ps : List (HP V)} (m : ∀ P ∈ Ps, MnK P) : Mn (Fa Ps) := fun _ _ _ s h => fa_kp m (Kp.same s) h
theorem mk_iss {xs : List V} : ∀ P ∈ xs.map Is, MnK P := fun P hP => by
  obtain ⟨t, _, rfl⟩ := List.mem_map.mp hP
  exact mk_is
theorem fa_take {Ps : List (HP V)} {vs : List V} {H : Hp} {i : Nat} {P : HP V} {v : V} (h : Fa (Ps.take i) vs H) (e : Ps[i]? = some P) (p : P v H) : Fa (Ps.take (i + 1)) (vs ++ [v]) H := by
  rw [List.take_succ, e]
  exact h.app ⟨p, trivial⟩
section
variable {K : PySem.W.Frag} {σ : L2.St} {H : Hp} {te ta tb tc : TE} {tr : TA} {D : Ends} {P P' : HP V} {tt tu : TT} {a b : Bool} {v x : V} {i j k : Int}
theorem ev_ixT {n : Nat} {p : Addr} {xs : List V} (h : σ[n]? = some (some (.ref p))) (hp : SqT K H p xs) (e : atI xs j = some v) : Ev (tOp (rIxT K) (tVar n) (tC (.int j))) σ H v := fun Q q => ⟨_, h, p, xs, j, v, rfl, rfl, hp, e, q⟩
theorem evb_or (h : EvB tt σ H a) (g : a = false → EvB tu σ H b) : EvB (tOr tt tu) σ H (a || b) := fun Q q => h _ (by
  cases a with
  | true => exact q
  | false => exact g rfl _ q)
theorem ev_if (h : EvB tt σ H b) (g : if b = true then Ev ta σ H x else Ev tb σ H x) : Ev (tIf tt ta tb) σ H x := fun Q q => h _ (by
  cases b with
  | true => exact g _ q
  | false => exact g _ q)
theorem evb_isN (ha : Ev ta σ H x) : EvB (tTest (tOp (fun x y H Q => y = .non ∧ Q (.bl (decide (x = .non))) H) ta (tC .non))) σ H (decide (x = .non)) := fun Q q => ha _ ⟨rfl, _, rfl, q⟩
theorem st_nn {t : TS} (h : EvB tt σ H false) (k : D.nx σ H) : tIfS tt t tNext D σ H := h _ k
theorem st_ya {t u : TS} (h : EvB tt σ H true) (k : t D σ H) : tIfS tt t u D σ H := h _ k
theorem evb_not (h : EvB tt σ H b) : EvB (tNot tt) σ H (!b) := fun Q q => h _ q
theorem evb_B (h : Ev te σ H (.bl b)) : EvB (tB te) σ H b := fun Q q => h _ ⟨b, rfl, q⟩
theorem ev_isi {n : String} {t : Value} (ha : Ev ta σ H x) (ht : TyX K H x t) (hk : PySem.W.kitOne K t (.type n) = some b) : Ev (tCB (rIsi K) (tCons ta (tCons (tC (.ty n)) tNil))) σ H (.bl b) := fun Q q => ha _ ⟨x, .ty n, t, .type n, b, rfl, .ty _, ht, hk, q⟩
theorem ev_isiC {C : Addr} {t : Value} (ha : Ev ta σ H x) (ht : TyX K H x t) (hk : PySem.W.kitOne K t (.ref C) = some b) : Ev (tCB (rIsi K) (tCons ta (tCons (tC (.ref C)) tNil))) σ H (.bl b) := fun Q q => ha _ ⟨x, .ref C, t, .ref C, b, rfl, .own _, ht, hk, q⟩
theorem ev_lenS {z : Str} (ha : Ev ta σ H (.str z)) (hz : z.length ≤ sizeLine) : Ev (tCB (fun xs H Q => ∃ z, xs = [V.str z] ∧ z.length ≤ sizeLine ∧ Q (.int z.length) H) (tCons ta tNil)) σ H (.int (z.length : Int)) := fun Q q => ha _ ⟨z, rfl, hz, q⟩
theorem ev_lenT {p : Addr} {xs : List V} (ha : Ev ta σ H (.ref p)) (h : SqT K H p xs) : Ev (tCB (fun xs H Q => ∃ p ys, xs = [V.ref p] ∧ (SqL K H p ys ∨ SqT K H p ys) ∧ Q (.int ys.length) H) (tCons ta tNil)) σ H (.int (xs.length : Int)) := fun Q q => ha _ ⟨p, xs, rfl, .inr h, q⟩
theorem ev_chainB (ha : Ev ta σ H (.int i)) (hb : Ev tb σ H (.int j)) (hc : Ev tc σ H (.int k)) : Ev (tChain (rI0 fun i j => .bl (decide (i ≤ j))) (rI0 fun i j => .bl (decide (i ≤ j))) ta tb tc) σ H (.bl (decide (i ≤ j) && decide (j ≤ k))) := fun Q q =>
  ha _ (hb _ ⟨i, j, rfl, rfl, _, rfl, by
    by_cases h : i ≤ j
    · rw [if_pos (decide_eq_true h)]
      rw [decide_eq_true h, Bool.true_and] at q
      exact hc _ ⟨j, k, rfl, rfl, q⟩
    · rw [if_neg (by rw [decide_eq_false h]; exact Bool.false_ne_true)]
      rw [decide_eq_false h, Bool.false_and] at q
      exact q⟩)
theorem evb_cmpF {g : Int → Int → Bool} (ha : Ev ta σ H (.int i)) (hb : Ev tb σ H (.int j)) (h : g i j = b) : EvB (tTest (tOp (rI0 fun i j => .bl (g i j)) ta tb)) σ H b := fun Q q => ha _ (hb _ ⟨i, j, rfl, rfl, b, congrArg V.bl h, q⟩)
theorem evb_eqF (ha : Ev ta σ H x) (hb : Ev tb σ H v) (hs : scal x v = true) (h : decide (x = v) = b) : EvB (tTest (tOp rEq ta tb)) σ H b := fun Q q => ha _ (hb _ ⟨hs, b, congrArg V.bl h, q⟩)
theorem evb_neF (ha : Ev ta σ H x) (hb : Ev tb σ H v) (hs : scal x v = true) (h : decide (x ≠ v) = b) : EvB (tTest (tOp rNe ta tb)) σ H b := fun Q q => ha _ (hb _ ⟨hs, b, congrArg V.bl (by rw [← h]; simp), q⟩)
theorem ev_eq {y : V} (ha : Ev ta σ H x) (hb : Ev tb σ H y) (hs : scal x y = true) (e : decide (x = y) = b) : Ev (tOp rEq ta tb) σ H (.bl b) := fun Q q => ha _ (hb _ ⟨hs, by rw [e]; exact q⟩)
theorem ev_eqn {n m : Nat} (ha : Ev ta σ H (.int (n : Int))) (hb : Ev tb σ H (.int (m : Int))) : Ev (tOp rEq ta tb) σ H (.bl (decide (n = m))) := ev_eq ha hb rfl (by rw [Bool.eq_iff_iff]; simp; omega)
theorem ev_and (ha : Ev ta σ H (.bl true)) (hb : Ev tb σ H v) : Ev (tAndV ta tb) σ H v := fun Q q => ha _ ⟨true, rfl, hb _ q⟩
theorem ev_andF (ha : Ev ta σ H (.bl false)) : Ev (tAndV ta tb) σ H (.bl false) := fun Q q => ha _ ⟨false, rfl, q⟩
/-- a and b, both truths, b asked where a holds -/
theorem ev_andB (ha : Ev ta σ H (.bl a)) (hb : a = true → Ev tb σ H (.bl b)) : Ev (tAndV ta tb) σ H (.bl (a && b)) := by
  cases a with
  | true => exact ev_and ha (hb rfl)
  | false => exact ev_andF ha
theorem g_ev (h : ∀ H1, Same H H1 → Ev te σ H1 v) : G te σ H (Is v) := ev_g h
theorem g_andB (ha : G ta σ H (Is (.bl a))) (hb : a = true → G tb σ H (Is (.bl b))) : G (tAndV ta tb) σ H (Is (.bl (a && b))) := ⟨fun H1 e Q q => ha.ev H1 e _ fun x H2 s2 px => by
  cases px
  cases a with
  | true => exact ⟨true, rfl, (hb rfl).ev H2 (e.trans s2) _ fun y H3 s3 py => q y H3 (s2.trans s3) py⟩
  | false => exact ⟨false, rfl, q _ H2 s2 rfl⟩, mn_i⟩
theorem g_all {bs : List Bool} (h : G te σ H (LF ((bs.map V.bl).map Is))) : G (tCB (rAll K) (tCons te tNil)) σ H (Is (.bl (bs.all id))) := ⟨fun H1 e Q q => h.ev H1 e _ fun x H2 s2 px => by
  obtain ⟨p, xs, rfl, hp, fa⟩ := px
  obtain rfl := fa.is
  exact ⟨p, bs, rfl, .of hp, q _ _ s2 rfl⟩, mn_i⟩
theorem g_callL {sp : Sp} {E : XK} {vs : List V} (ha : ∀ H1, Same H H1 → EvL tr σ H1 vs) (hs : ∀ H1, Same H H1 → ∀ Q : VK, (∀ v H2, Same H1 H2 → P v H2 → Q v H2) → sp (vs ++ []) H1 Q E) (m : Mn P) : G (tCall sp [] E tr) σ H P :=
  ⟨fun H1 e Q q => ha H1 e _ (hs H1 e _ q), m⟩
/-- [e for v in xs], e only adds objects -/
theorem g_lcF {wi : TI} {J : It} {Gw : Hp → Prop} {v : Nat} {ys : List V} {Ps : List (HP V)} (hw : ∀ H1, Same H H1 → ∀ R : It → Hp → Prop, R J H1 → wi σ H1 R) (wk : Walk J ys.length Gw (YAt ys)) (hg : ∀ H1, Same H H1 → Gw H1)
    (hl : Ps.length = ys.length) (hz : ys.length ≤ 1000) (m : ∀ P ∈ Ps, MnK P)
    (h : ∀ (i : Nat) (x : V) (P : HP V) (H1 : Hp), ys[i]? = some x → Ps[i]? = some P → Same H H1 → ∀ Q : VK, (∀ y H2, Same H1 H2 → P y H2 → Q y H2) → te ((σ.set v none).set v (some x)) H1 Q) :
    G (tLc wi (gName v) tYes te [v]) σ H (LF Ps) := by
  refine ⟨fun H1 e Q q => ?_, mn_lf (mn_fa m)⟩
  refine hw H1 e _ ?_
  intro Dd hD
  show ∃ W, _
  refine lc_it wk (fun i H' => Same H1 H' ∧ ∃ acc, H' Dd = some (.lst acc) ∧ Fa (Ps.take i) acc H') ⟨same_new hD, [], upd_same, trivial⟩ (fun _ H' _ p => hg H' (e.trans p.1)) (fun i x H2 H3 hi p y => ?_) (fun H2 p => ?_)
  · obtain ⟨s2, acc, hd, fa⟩ := p
    obtain ⟨rfl, hx⟩ := y
    refine ⟨(List.set_set ..).trans (List.set_set ..), ?_⟩
    obtain ⟨P, hP⟩ : ∃ P, Ps[i]? = some P := ⟨_, List.getElem?_eq_getElem (by omega)⟩
    refine h i x P _ hx hP (e.trans s2) _ fun y H4 s4 py => ?_
    have hd4 := s4 _ _ hd
    have fa4 : Fa (Ps.take i) acc H4 := fa_kp (fun Q hQ => m Q (List.mem_of_mem_take hQ)) (Kp.same s4) fa
    have la := fa.len
    rw [List.length_take] at la
    refine ⟨acc, hd4, Nat.lt_of_le_of_lt (show acc.length ≤ 1000 by omega) (by decide), same_put (s2.trans s4) hD, acc ++ [y], upd_same, ?_⟩
    exact fa_kp (fun Q hQ => m Q (List.mem_of_mem_take hQ)) (Kp.lst hd4) (fa_take fa4 hP py)
  · obtain ⟨s2, acc, hd, fa⟩ := p
    rw [← hl, List.take_length] at fa
    exact q _ _ s2 ⟨Dd, acc, rfl, hd, fa⟩
/-- [e for v in t], t a tuple -/
theorem g_lcT {v : Nat} {q : Addr} {ys : List V} {Ps : List (HP V)} (h0 : ∀ H1, Same H H1 → Ev ta σ H1 (.ref q)) (hq : SqT K H q ys)
    (hl : Ps.length = ys.length) (hz : ys.length ≤ 1000) (m : ∀ P ∈ Ps, MnK P)
    (h : ∀ (i : Nat) (x : V) (P : HP V) (H1 : Hp), ys[i]? = some x → Ps[i]? = some P → Same H H1 → ∀ Q : VK, (∀ y H2, Same H1 H2 → P y H2 → Q y H2) → te ((σ.set v none).set v (some x)) H1 Q) :
    G (tLc (iTup K ta) (gName v) tYes te [v]) σ H (LF Ps) :=
  g_lcF (J := Itt K q) (fun H1 s R r => h0 H1 s _ ⟨q, rfl, ⟨ys, sqt_same s hq⟩, r⟩) walk_tup (fun H1 s => sqt_same s hq) hl hz m h
/-- a list comprehension over the signs of a text -/
theorem g_lcS {v n : Nat} {cs : List Nat} {Ps : List (HP V)} (h0 : σ[n]? = some (some (.str ⟨cs.toArray⟩)))
    (hl : Ps.length = cs.length) (hz : cs.length ≤ 1000) (m : ∀ P ∈ Ps, MnK P)
    (h : ∀ (i : Nat) (c : Nat) (P : HP V) (H1 : Hp), cs[i]? = some c → Ps[i]? = some P → Same H H1 → ∀ Q : VK, (∀ y H2, Same H1 H2 → P y H2 → Q y H2) → te ((σ.set v none).set v (some (.str ⟨#[c]⟩))) H1 Q) :
    G (tLc (iStr (tVar n)) (gName v) tYes te [v]) σ H (LF Ps) :=
  g_lcF (ys := cs.map fun c => .str ⟨#[c]⟩) (J := Its ⟨cs.toArray⟩) (Gw := fun _ => True) (fun H1 s R r => ⟨_, h0, _, rfl, r⟩) (by
    have := walk_str (z := ⟨cs.toArray⟩)
    rw [show (⟨cs.toArray⟩ : Str).cps.size = (cs.map fun c => V.str ⟨#[c]⟩).length by simp] at this
    exact this.mono (fun _ g => g) fun i H x H' hi g y => by
      obtain ⟨e, c, hc, ex⟩ := y
      refine ⟨e, ?_⟩
      rw [List.getElem?_map, show cs[i]? = some c by simpa using hc, ex]
      rfl) (fun _ _ => trivial) (by rw [hl, List.length_map]) (by rw [List.length_map]; exact hz) m fun i x P H1 hx hP s Q q => by
    rw [List.getElem?_map] at hx
    obtain ⟨c, hc, rfl⟩ := Option.map_eq_some_iff.mp hx
    exact h i c P H1 hc hP s Q q
/-- self.f = v at a new object -/
theorem st_fld {tv : TE} {x C dx : Addr} {fs : List (Str × V)} {f : Str} {v : V} (hv : Ev tv σ H v) (ha : Ev ta σ H (.ref x)) (hx : H x = some (.ins C dx fs)) (hc : Cls K C) (hn : NoAttr K C f) (hl : fs.length < 1000) (k : D.nx σ (upd H x (.ins C dx (putF f v fs)))) : sFld K ta tv f D σ H :=
  hv _ (ha _ ⟨x, C, dx, fs, rfl, hx, hc, hn, hl, k⟩)
end
end WEb

set_option Elab.async false
set_option linter.all false
set_option maxRecDepth 100000
set_option maxHeartbeats 2000000
/-! match over written texts: case "a" | "b": .. -/
namespace WMt
open PySem PySem.Spec PyProof.Rows L2
section
variable {X : Cx} {pos : Pos} {e : Expr} {te : TE}
structure PPat (X : Cx) (p : Pattern) (zs : List Str) : Prop where
  run : ∀ (pins : List (Addr × Obj)) (s : Shared) (σ : L2.St) (H : Hp) (x : V) (v : Value) (R : Option (List (Str × Value)) → Shared → Prop), Inv X pins σ H s → RelV x v → (zs.all fun z => scal x (.str z)) = true →
    (∀ s1, Inv X pins σ H s1 → R (if (zs.any fun z => decide (x = .str z)) = true then some [] else none) s1) → wpAny (model X.prog X.w) X.A (matchPattern p X.env v) R X.xe s
structure PFst (X : Cx) (ps : List Pattern) (zs : List Str) : Prop where
  run : ∀ (pins : List (Addr × Obj)) (s : Shared) (σ : L2.St) (H : Hp) (x : V) (v : Value) (R : Option (List (Str × Value)) → Shared → Prop), Inv X pins σ H s → RelV x v → (zs.all fun z => scal x (.str z)) = true →
    (∀ s1, Inv X pins σ H s1 → R (if (zs.any fun z => decide (x = .str z)) = true then some [] else none) s1) → wpAny (model X.prog X.w) X.A (matchFirst ps X.env v) R X.xe s
theorem pp_val {z : Str} {p1 : Pos} {k} : PPat X (.MatchValue (.Constant (.str z) k p1) pos) [z] := by
  refine ⟨fun pins s σ H x v R I r hs h => ?_⟩
  have hs : scal x (.str z) = true := by simpa using hs
  refine wpAny_matchPattern_Value (thn (pe_str.run pins s σ H (fun y H2 => y = .str z ∧ H2 = H) I ⟨rfl, rfl⟩) fun u s2 ⟨y, H2, I2, r2, e1, e2⟩ => ?_)
  subst e1 e2
  refine thn (op_eq pins s2 σ H2 x _ v u (fun w H3 => w = .bl (decide (x = .str z)) ∧ H3 = H2) I2 r r2 ⟨hs, rfl, rfl⟩) fun c s3 ⟨w, H3, I3, r3, e3, e4⟩ => ?_
  subst e3 e4
  cases r3
  refine wpAny_truthy_bool ?_
  have h3 := h s3 I3
  by_cases hx : x = .str z
  · simp [hx] at h3 ⊢
    exact h3
  · simp [hx] at h3 ⊢
    exact h3
theorem pf_nil : PFst X [] [] := ⟨fun pins s σ H x v R I r hs h => wpAny_matchFirst_nil (h s I)⟩
theorem pf_cons {p : Pattern} {ps : List Pattern} {zs ws : List Str} (h1 : PPat X p zs) (h2 : PFst X ps ws) : PFst X (p :: ps) (zs ++ ws) := by
  refine ⟨fun pins s σ H x v R I r hs h => ?_⟩
  rw [List.all_append, Bool.and_eq_true] at hs
  refine wpAny_matchFirst_cons (h1.run pins s σ H x v _ I r hs.1 fun s1 I1 => ?_)
  by_cases hz : (zs.any fun z => decide (x = .str z)) = true
  · rw [if_pos hz]
    have := h s1 I1
    rw [List.any_append, hz, Bool.true_or, if_pos rfl] at this
    exact this
  · rw [if_neg hz]
    refine h2.run pins s1 σ H x v R I1 r hs.2 fun s2 I2 => ?_
    have := h s2 I2
    rw [List.any_append, Bool.eq_false_iff.mpr hz, Bool.false_or] at this
    exact this
theorem pp_or {ps : List Pattern} {zs : List Str} (h1 : PFst X ps zs) : PPat X (.MatchOr ps pos) zs := by
  refine ⟨fun pins s σ H x v R I r hs h => ?_⟩
  refine wpAny_matchPattern_Or (h1.run pins s σ H x v _ I r hs fun s1 I1 => ?_)
  have := h s1 I1
  by_cases hz : (zs.any fun z => decide (x = .str z)) = true
  · rw [if_pos hz] at this ⊢
    show R (some ((namesOfAll (ps.take 1)).filterMap fun n => ((([] : List (Str × Value)).lookup n).map (n, ·)))) s1
    rw [show ((namesOfAll (ps.take 1)).filterMap fun n => ((([] : List (Str × Value)).lookup n).map (n, ·))) = [] by simp]
    exact this
  · rw [if_neg hz] at this ⊢
    exact this
def tCase (zs : List Str) (t : TS) (r : V → TS) : V → TS := fun x D σ H => (zs.all fun z => scal x (.str z)) = true ∧ if (zs.any fun z => decide (x = .str z)) = true then t D σ H else r x D σ H
def tNoCase : V → TS := fun _ D σ H => D.nx σ H
structure PCs (X : Cx) (cs : List MatchCase) (t : V → TS) : Prop where
  run : ∀ (pins : List (Addr × Obj)) (s : Shared) (σ : L2.St) (H : Hp) (D : Ends) (x : V) (v : Value) (first : Bool), Inv X pins σ H s → RelV x v → t x D σ H → wpAny (model X.prog X.w) X.A (matchCases cs X.env v first) (SP X pins D) X.xe s
theorem pc_nil : PCs X [] tNoCase := ⟨fun pins s σ H D x v first I r h => wpAny_matchCases_nil ⟨σ, H, I, h⟩⟩
theorem pc_cons {p : Pattern} {body : List Stmt} {cs : List MatchCase} {zs : List Str} {t : TS} {r : V → TS} (h1 : PPat X p zs) (h2 : PSs X body t) (h3 : PCs X cs r) : PCs X (⟨p, none, body⟩ :: cs) (tCase zs t r) := by
  refine ⟨fun pins s σ H D x v first I rx h => ?_⟩
  refine wpAny_matchCases_cons (h1.run pins s σ H x v _ I rx h.1 fun s1 I1 => ?_)
  have h := h.2
  by_cases hz : (zs.any fun z => decide (x = .str z)) = true
  · rw [if_pos hz] at h ⊢
    exact wpAny_assignInOrder_none (h2.run pins s1 σ H D I1 h)
  · rw [if_neg hz] at h ⊢
    exact h3.run pins s1 σ H D x v false I1 rx h
/-- match e: .. -/
def tMt (te : TE) (tc : V → TS) : TS := fun D σ H => te σ H fun x H1 => tc x D σ H1
theorem ps_match {cs : List MatchCase} {tc : V → TS} (he : PE X e te) (hc : PCs X cs tc) : PS X (.Match e cs pos) (tMt te tc) := by
  refine ⟨fun pins s σ H D I h => ?_⟩
  exact wpAny_Match (thn (he.run pins s σ H _ I h) fun v s1 ⟨x, H1, I1, r1, q1⟩ => hc.run pins s1 σ H1 D x v true I1 r1 q1)
end
end WMt

set_option Elab.async false
set_option linter.all false
set_option maxRecDepth 100000
set_option maxHeartbeats 4000000
namespace W53
open PySem PySem.Spec PyProof.Rows L2 WXG WEv WRd WLf WEn WZs WRu WSt StX WDc WPv WEb
/-! ### the program's tests of values -/
def spB (K : PySem.W.Frag) (f : Pv → Bool) : Sp := fun vs H Q _ => ∃ N p v, vs = [v] ∧ At K N p v H ∧ ∀ H', Same H H' → Q (.bl (f p)) H'
/-- the same where ok holds of the value -/
def spBo (K : PySem.W.Frag) (ok f : Pv → Bool) : Sp := fun vs H Q _ => ∃ N p v, vs = [v] ∧ At K N p v H ∧ ok p = true ∧ ∀ H', Same H H' → Q (.bl (f p)) H'
def spBet (K : PySem.W.Frag) : Sp := fun vs H Q _ => ∃ N p v, ∃ lo hi : Int, vs = [v, .int lo, .int hi] ∧ At K N p v H ∧ Q (.bl (isBetween lo hi p)) H
def spOneOf (K : PySem.W.Frag) : Sp := fun vs H Q _ => ∃ N p v a ws, vs = [v, .ref a] ∧ At K N p v H ∧ SqT K H a ws ∧ ws.all flatV = true ∧ Q (.bl (isOneOf ws p)) H
theorem str_of {s : Str} : ∃ cs : List Nat, s = ⟨cs.toArray⟩ := ⟨s.cps.toList, by cases s; simp⟩
section
variable {K : PySem.W.Frag} {σ : L2.St} {H : Hp} {ta : TE} {E : XK} {f ok : Pv → Bool} {N : Addr → Prop} {p : Pv} {v : V} {tt tu : TT} {a b : Bool}
theorem g_callB (ha : ∀ H1, Same H H1 → Ev ta σ H1 v) (hp : At K N p v H) : G (tCall (spB K f) [] E (tCons ta tNil)) σ H (Is (.bl (f p))) :=
  g_callL (vs := [v]) (fun H1 s => evl_cons (ha H1 s) evl_nil) (fun H1 s Q q => ⟨N, p, v, rfl, at_kn (Kn.same s) p hp, fun H' s' => q _ _ s' rfl⟩) mn_i
theorem g_callBo (ha : ∀ H1, Same H H1 → Ev ta σ H1 v) (hp : At K N p v H) (ho : ok p = true) : G (tCall (spBo K ok f) [] E (tCons ta tNil)) σ H (Is (.bl (f p))) :=
  g_callL (vs := [v]) (fun H1 s => evl_cons (ha H1 s) evl_nil) (fun H1 s Q q => ⟨N, p, v, rfl, at_kn (Kn.same s) p hp, ho, fun H' s' => q _ _ s' rfl⟩) mn_i
theorem g_callF (ha : ∀ H1, Same H H1 → Ev ta σ H1 v) (hp : At K N p v H) (hb : f p = b) : G (tCall (spB K f) [] E (tCons ta tNil)) σ H (Is (.bl b)) := hb ▸ g_callB ha hp
theorem g_callFo (ha : ∀ H1, Same H H1 → Ev ta σ H1 v) (hp : At K N p v H) (ho : ok p = true) (hb : f p = b) : G (tCall (spBo K ok f) [] E (tCons ta tNil)) σ H (Is (.bl b)) := hb ▸ g_callBo ha hp ho
theorem et_or (h : EvT tt σ H a) (g : a = false → EvT tu σ H b) : EvT (tOr tt tu) σ H (a || b) := fun H1 e Q q => h H1 e _ fun H2 s2 => by
  cases a with
  | true => exact q _ s2
  | false => exact g rfl _ (e.trans s2) _ fun H3 s3 => q _ (s2.trans s3)
theorem et_not (h : EvT tt σ H b) : EvT (tNot tt) σ H (!b) := fun H1 e Q q => h H1 e _ q
theorem et_ev (h : ∀ H1, Same H H1 → EvB tt σ H1 b) : EvT tt σ H b := fun H1 e Q q => h H1 e _ (q _ (Same.refl _))
end
section
variable {P : Program} {w : World} {K : PySem.W.Frag} {mg : Str → Option Value} {base : Heap}
theorem ok_is_word (T : Env K mg) : FnOk P w K mg base CX0 1 (d_is_word.loc K) T.fd_is_word ["value"] (spB K isWord) := by
  refine T.F_is_word.ok sc_is_word (fun vs H Q E h => ?_) (fun cdv A outer s H vs Q E hr h => ?_)
  · obtain ⟨N, p, v, rfl, _⟩ := h
    rfl
  · have nd := sc_is_word.nd
    have hu := hu_of hr
    obtain ⟨N, p, v, rfl, hp, k⟩ := h
    refine ⟨_, PSs.nox (pss_cons (ps_if (PW.pt (pw_or (pt_not (pt_val (pe_callB (isiK (K := K)) (by rfl) T.b_isinstance (by decide +kernel) (pa_cons (pv 0) (pa_cons (pe_bltnT (n := "str") (by rfl) T.b_str (by decide +kernel)) pa_nil))))) (pw_or (pt_not (pt_chain op_le op_le pe_int (pe_callB call_len_str (by rfl) T.b_len (by decide +kernel) (pa_cons (pv 0) pa_nil)) (C8.pe_gc (by rfl) T.c_MOST_SIGNS))) (pw_or1 (pt_cmpR op_notIn_sign (pe_ix ix_str (pv 0) pe_int (fun _ _ => rfl)) (C8.pe_gc (by rfl) T.c_LETTERS) (by rfl))))))
  (pss_one (ps_ret pe_bl))
  pss_nil)
 (pss_one (ps_ret (pe_callB (cr_all rfl) (by rfl) T.b_all (by decide +kernel) (pa_cons (pe_lc (own := [("sign", 1)]) (by rfl) nd (pi_str (pv 0)) (blkOk_by (N := ["value", "sign"]) (sc := defScope s_is_word) (by decide +kernel)) (fun _ _ _ _ _ => (pg_name (i := 1) nd rfl (Or.inl rfl))) (fun _ _ _ _ _ => pts_nil) (fun _ _ _ _ _ => (pe_cmpR op_in_sign (pv 1) (C8.pe_gc (by rfl) T.c_SIGNS) (by rfl)))) pa_nil))))), ?_⟩
    have ht := at_ty T.kt p hp
    have hk := kit_str T.kt p
    by_cases hs : isStr p = true
    · rw [hs] at hk
      obtain ⟨z, rfl⟩ : ∃ z, p = .str z := by cases p <;> first | exact ⟨_, rfl⟩ | exact absurd hs Bool.false_ne_true
      obtain ⟨rfl, hl⟩ := hp
      obtain ⟨cs, rfl⟩ := str_of (s := z)
      have hlen : (⟨cs.toArray⟩ : Str).length = cs.length := TL.len_tl _
      have kv : ∀ b, isWordS ⟨cs.toArray⟩ = b → ∀ H', Same H H' → Q (.bl b) H' := fun b e H' s' => by rw [← e]; exact k H' s'
      unfold isWordS at kv
      rw [hlen] at kv
      by_cases h12 : 1 ≤ cs.length ∧ cs.length ≤ 20
      · obtain ⟨c0, hc0⟩ : ∃ c, cs[0]? = some c := ⟨_, List.getElem?_eq_getElem (by omega)⟩
        rw [decide_eq_true h12.1, decide_eq_true h12.2, show (⟨cs.toArray⟩ : Str).cps.toList = cs from rfl, hc0] at kv
        refine st_if (b := !letter c0) (fun Q' q' => evb_or (a := false) (b := !letter c0) (evb_not (b := true) (evb_B (ev_isi (ev_var rfl) ht hk))) (fun _ => evb_or (a := false) (b := !letter c0) (evb_not (b := true) (evb_test (by
            have e := ev_chainB (σ := start ["value", "sign"] [V.str ⟨cs.toArray⟩]) (H := H) (ta := tC (.int 1)) (tc := tC (.int 20)) ev_c (ev_lenS (ev_var (n := 0) rfl) (by rw [hlen]; exact Nat.le_trans h12.2 (by decide))) ev_c
            rw [hlen, decide_eq_true (show (1 : Int) ≤ (cs.length : Int) by omega), decide_eq_true (show (cs.length : Int) ≤ 20 by omega)] at e
            exact e))) fun _ => evb_test (b := !letter c0) (fun Q q => ⟨_, rfl, _, 0, c0, rfl, rfl, by rw [hlen]; exact Nat.le_trans h12.2 (by decide), atI_nat (j := 0) hc0, c0, _, rfl, rfl, q⟩)) _ (by simpa using q')) ?_
        cases hc : letter c0 with
        | false => exact kv false (by simp [hc]) _ (Same.refl _)
        | true =>
          refine g_ret (g_all (bs := cs.map sign) (g_lcS rfl (by simp) (by omega) mk_iss fun i c P H1 hc hP s Q q => ?_)) fun v H1 s1 e => ?_
          · rw [List.getElem?_map, List.getElem?_map, List.getElem?_map, hc] at hP
            cases hP
            exact ⟨_, rfl, c, _, rfl, rfl, q _ _ (Same.refl _) rfl⟩
          · cases e
            exact kv _ (by simp [hc, List.all_map]) _ s1
      · refine st_ya (fun Q' q' => evb_or (a := false) (b := true) (evb_not (b := true) (evb_B (ev_isi (ev_var rfl) ht hk))) (fun _ => evb_or (a := true) (b := false) (evb_not (b := false) (evb_test (by
            have e := ev_chainB (σ := start ["value", "sign"] [V.str ⟨cs.toArray⟩]) (H := H) (ta := tC (.int 1)) (tc := tC (.int 20)) ev_c (ev_lenS (ev_var (n := 0) rfl) (by rw [hlen]; rw [hlen] at hl; exact Nat.le_trans hl (by decide))) ev_c
            rw [hlen, show (decide ((1 : Int) ≤ (cs.length : Int)) && decide ((cs.length : Int) ≤ 20)) = false by
              by_cases h : (1 : Int) ≤ (cs.length : Int)
              · rw [decide_eq_true h, decide_eq_false (by omega)]; rfl
              · rw [decide_eq_false h]; rfl] at e
            exact e))) fun z => nomatch z) _ q') ?_
        refine kv false ?_ _ (Same.refl _)
        by_cases h : 1 ≤ cs.length
        · rw [decide_eq_true h, decide_eq_false (by omega)]; rfl
        · rw [decide_eq_false h]; rfl
    · have hs' : isStr p = false := by simpa using hs
      rw [hs'] at hk
      refine st_ya (fun Q' q' => evb_or (a := true) (b := false) (evb_not (b := false) (evb_B (ev_isi (ev_var rfl) ht hk))) (fun z => nomatch z) _ q') ?_
      have e : isWord p = false := by cases p <;> first | rfl | exact absurd rfl hs
      rw [e] at k
      exact k _ (Same.refl _)
theorem wordNot_eq (l : List V) (p : Pv) : isWordNot l p = (isWord p && !(match p with | .str s => inV (.str s) l | _ => false)) := by cases p <;> rfl
theorem isWord_str {p : Pv} (h : isWord p = true) : ∃ z, p = .str z := by cases p <;> first | exact ⟨_, rfl⟩ | exact absurd h Bool.false_ne_true
theorem word_not {K : PySem.W.Frag} {N : Addr → Prop} {p : Pv} {v : V} {H : Hp} {Q : VK} {E : XK} {σ : L2.St} {a : Addr} {l : List V} (hσ : σ[0]? = some (some v)) (hp : At K N p v H) (hl : ∀ H, SqT K H a l) (hf : l.all flatV = true)
    (k : ∀ H', Same H H' → Q (.bl (isWordNot l p)) H') : tAndV (tCall (spB K isWord) [] E (tCons (tVar 0) tNil)) (tOp (rIn K true) (tVar 0) (tC (.ref a))) σ H Q := by
  refine (g_callB (E := E) (fun H1 s => ev_var hσ) hp).ev H (Same.refl _) _ fun x H1 s1 e => ?_
  cases e
  rw [wordNot_eq] at k
  cases hw : isWord p with
  | false =>
    rw [hw] at k
    exact ⟨false, rfl, k _ s1⟩
  | true =>
    rw [hw] at k
    obtain ⟨z, rfl⟩ := isWord_str hw
    obtain ⟨rfl, hz⟩ := hp
    refine ⟨true, rfl, _, hσ, a, l, rfl, .inr (hl _), rfl, hf, ?_⟩
    rw [if_pos rfl]
    exact k _ s1
theorem ok_is_name (T : Env K mg) : FnOk P w K mg base CX0 2 (d_is_name.loc K) T.fd_is_name ["value"] (spB K isName) := by
  have G_is_word : FnOk P w K mg base CX0 1 _ _ _ _ := ok_is_word T
  refine T.F_is_name.ok sc_is_name (fun vs H Q E h => ?_) (fun cdv A outer s H vs Q E hr h => ?_)
  · obtain ⟨N, p, v, rfl, _⟩ := h
    rfl
  · have nd := sc_is_name.nd
    have hu := hu_of hr
    obtain ⟨N, p, v, rfl, hp, k⟩ := h
    refine ⟨_, PSs.nox (pss_one (ps_ret (pe_and (pe_call G_is_word (hr.mono (by decide)) (by rfl) T.g_is_word T.F_is_word.kp T.bi_is_word .nil pass0 (pa_cons (pv 0) pa_nil)) (pe_one (pe_cmpR (op_notIn_seq) (pv 0) (pe_globR (by rfl) T.g_RESERVED) (by rfl)))))), ?_⟩
    exact word_not (E := E0) rfl hp T.q_RESERVED rfl k
theorem ok_is_failure (T : Env K mg) : FnOk P w K mg base CX0 2 (d_is_failure.loc K) T.fd_is_failure ["value"] (spB K isFailure) := by
  have G_is_word : FnOk P w K mg base CX0 1 _ _ _ _ := ok_is_word T
  refine T.F_is_failure.ok sc_is_failure (fun vs H Q E h => ?_) (fun cdv A outer s H vs Q E hr h => ?_)
  · obtain ⟨N, p, v, rfl, _⟩ := h
    rfl
  · have nd := sc_is_failure.nd
    have hu := hu_of hr
    obtain ⟨N, p, v, rfl, hp, k⟩ := h
    refine ⟨_, PSs.nox (pss_one (ps_ret (pe_and (pe_call G_is_word (hr.mono (by decide)) (by rfl) T.g_is_word T.F_is_word.kp T.bi_is_word .nil pass0 (pa_cons (pv 0) pa_nil)) (pe_one (pe_cmpR (op_notIn_seq) (pv 0) (pe_globR (by rfl) T.g_OWN_REASONS) (by rfl)))))), ?_⟩
    exact word_not (E := E0) rfl hp T.q_OWN_REASONS rfl k
theorem ok_is_free_word (T : Env K mg) : FnOk P w K mg base CX0 2 (d_is_free_word.loc K) T.fd_is_free_word ["value"] (spB K isFree) := by
  have G_is_word : FnOk P w K mg base CX0 1 _ _ _ _ := ok_is_word T
  refine T.F_is_free_word.ok sc_is_free_word (fun vs H Q E h => ?_) (fun cdv A outer s H vs Q E hr h => ?_)
  · obtain ⟨N, p, v, rfl, _⟩ := h
    rfl
  · have nd := sc_is_free_word.nd
    have hu := hu_of hr
    obtain ⟨N, p, v, rfl, hp, k⟩ := h
    refine ⟨_, PSs.nox (pss_one (ps_ret (pe_and (pe_call G_is_word (hr.mono (by decide)) (by rfl) T.g_is_word T.F_is_word.kp T.bi_is_word .nil pass0 (pa_cons (pv 0) pa_nil)) (pe_one (pe_cmpR (op_notIn_seq) (pv 0) (pe_globR (by rfl) T.g_OWN_WORDS) (by rfl)))))), ?_⟩
    exact word_not (E := E0) rfl hp T.q_OWN_WORDS rfl k
theorem ok_is_between (T : Env K mg) : FnOk P w K mg base CX0 1 (d_is_between.loc K) T.fd_is_between ["value", "low", "high"] (spBet K) := by
  refine T.F_is_between.ok sc_is_between (fun vs H Q E h => ?_) (fun cdv A outer s H vs Q E hr h => ?_)
  · obtain ⟨N, p, v, lo, hi, rfl, _⟩ := h
    rfl
  · have nd := sc_is_between.nd
    have hu := hu_of hr
    obtain ⟨N, p, v, lo, hi, rfl, hp, k⟩ := h
    refine ⟨_, PSs.nox (pss_one (ps_ret (pe_and (pe_callB (isiK (K := K)) (by rfl) T.b_isinstance (by decide +kernel) (pa_cons (pv 0) (pa_cons (pe_bltnT (n := "int") (by rfl) T.b_int (by decide +kernel)) pa_nil))) (pe_and (pe_not (pe_callB (isiK (K := K)) (by rfl) T.b_isinstance (by decide +kernel) (pa_cons (pv 0) (pa_cons (pe_bltnT (n := "bool") (by rfl) T.b_bool (by decide +kernel)) pa_nil)))) (pe_one (pe_chain op_le op_le (pv 1) (pv 0) (pv 2))))))), ?_⟩
    have ht := at_ty T.kt p hp
    have hk := kit_int T.kt p
    have hk2 := kit_bool T.kt p
    refine WRd.st_ret (v := .bl (isBetween lo hi p)) ?_ k
    have e : isBetween lo hi p = (isInt p && (!isBl p && (match p with | .int i => decide (lo ≤ i) && decide (i ≤ hi) | _ => false))) := by cases p <;> rfl
    rw [e]
    refine ev_andB (ev_isi (ev_var rfl) ht hk) fun h1 => ev_andB (fun Q q => ev_isi (ev_var rfl) ht hk2 _ ⟨isBl p, rfl, q⟩) fun h2 => ?_
    obtain ⟨i, rfl⟩ : ∃ i, p = .int i := by cases p <;> first | exact ⟨_, rfl⟩ | exact absurd h1 Bool.false_ne_true | exact absurd h2 Bool.false_ne_true
    cases (show v = V.int i from hp)
    exact ev_chainB (ev_var rfl) (ev_var rfl) (ev_var rfl)
theorem ok_is_one_of (T : Env K mg) : FnOk P w K mg base CX0 1 (d_is_one_of.loc K) T.fd_is_one_of ["value", "words"] (spOneOf K) := by
  refine T.F_is_one_of.ok sc_is_one_of (fun vs H Q E h => ?_) (fun cdv A outer s H vs Q E hr h => ?_)
  · obtain ⟨N, p, v, a, ws, rfl, _⟩ := h
    rfl
  · have nd := sc_is_one_of.nd
    have hu := hu_of hr
    obtain ⟨N, p, v, a, ws, rfl, hp, hS, hf, k⟩ := h
    refine ⟨_, PSs.nox (pss_one (ps_ret (pe_and (pe_callB (isiK (K := K)) (by rfl) T.b_isinstance (by decide +kernel) (pa_cons (pv 0) (pa_cons (pe_bltnT (n := "str") (by rfl) T.b_str (by decide +kernel)) pa_nil))) (pe_one (pe_cmpR (op_in_seq) (pv 0) (pv 1) (by rfl)))))), ?_⟩
    have ht := at_ty T.kt p hp
    have hk := kit_str T.kt p
    refine WRd.st_ret (v := .bl (isOneOf ws p)) ?_ k
    have e : isOneOf ws p = (isStr p && isOneOf ws p) := by cases p <;> rfl
    rw [e]
    refine ev_andB (ev_isi (ev_var rfl) ht hk) fun h1 => ?_
    obtain ⟨z, rfl⟩ : ∃ z, p = .str z := by cases p <;> first | exact ⟨_, rfl⟩ | exact absurd h1 Bool.false_ne_true
    obtain ⟨rfl, hl⟩ := hp
    refine fun Q q => ⟨_, rfl, _, rfl, a, ws, rfl, .inr hS, rfl, hf, ?_⟩
    rw [if_neg Bool.false_ne_true]
    exact q
theorem ok_is_deadline (T : Env K mg) : FnOk P w K mg base CX0 2 (d_is_deadline.loc K) T.fd_is_deadline ["value"] (spB K isDeadline) := by
  have G_is_between : FnOk P w K mg base CX0 1 _ _ _ _ := ok_is_between T
  refine T.F_is_deadline.ok sc_is_deadline (fun vs H Q E h => ?_) (fun cdv A outer s H vs Q E hr h => ?_)
  · obtain ⟨N, p, v, rfl, _⟩ := h
    rfl
  · have nd := sc_is_deadline.nd
    have hu := hu_of hr
    obtain ⟨N, p, v, rfl, hp, k⟩ := h
    refine ⟨_, PSs.nox (pss_one (ps_ret (pe_or (pe_cmpR op_isN (pv 0) pe_non (nomark _)) (pe_one (pe_call G_is_between (hr.mono (by decide)) (by rfl) T.g_is_between T.F_is_between.kp T.bi_is_between .nil pass0 (pa_cons (pv 0) (pa_cons pe_int (pa_cons (C8.pe_gc (by rfl) T.c_MOST_WAIT) pa_nil)))))))), ?_⟩
    by_cases hn : p = .non
    · subst hn
      cases (show v = V.non from hp)
      exact ⟨_, rfl, rfl, true, rfl, k _ (Same.refl _)⟩
    · have hv : v ≠ .non := fun e => by
        subst e
        cases p with
        | non => exact hn rfl
        | bl b => cases hp
        | int i => cases hp
        | str s => cases hp.1
        | dic => obtain ⟨_, e, _⟩ := hp; cases e
        | tup l => obtain ⟨_, _, e, _⟩ := hp; cases e
        | lst l => obtain ⟨_, _, e, _⟩ := hp; cases e
        | wrk l => obtain ⟨_, _, _, _, e, _⟩ := hp; cases e
        | sup n d => obtain ⟨_, _, _, _, e, _⟩ := hp; cases e
      have e : isDeadline p = isBetween 0 1000000000 p := by cases p <;> first | rfl | exact absurd rfl hn
      rw [e] at k
      exact ⟨_, rfl, rfl, false, congrArg V.bl (decide_eq_false hv), _, rfl, N, p, v, 0, 1000000000, rfl, hp, k _ (Same.refl _)⟩
theorem ok_is_value (T : Env K mg) : FnOk P w K mg base CX0 2 (d_is_value.loc K) T.fd_is_value ["value"] (spB K isValue) := by
  have G_is_between : FnOk P w K mg base CX0 1 _ _ _ _ := ok_is_between T
  refine T.F_is_value.ok sc_is_value (fun vs H Q E h => ?_) (fun cdv A outer s H vs Q E hr h => ?_)
  · obtain ⟨N, p, v, rfl, _⟩ := h
    rfl
  · have nd := sc_is_value.nd
    have hu := hu_of hr
    obtain ⟨N, p, v, rfl, hp, k⟩ := h
    refine ⟨_, PSs.nox (pss_one (ps_ret (pe_call G_is_between (hr.mono (by decide)) (by rfl) T.g_is_between T.F_is_between.kp T.bi_is_between .nil pass0 (pa_cons (pv 0) (pa_cons (pe_un un_neg (C8.pe_gc (by rfl) T.c_MOST_VALUE)) (pa_cons (C8.pe_gc (by rfl) T.c_MOST_VALUE) pa_nil)))))), ?_⟩
    exact ⟨_, rfl, _, rfl, N, p, v, -1000000000000, 1000000000000, rfl, hp, k _ (Same.refl _)⟩
end
end W53

set_option Elab.async false
set_option linter.all false
set_option maxRecDepth 100000
set_option maxHeartbeats 4000000
namespace W53
open PySem PySem.Spec PyProof.Rows L2 WXG WEv WRd WLf WEn WZs WRu WSt StX WDc WPv WEb
/-! ### scripts -/
def LB (b : Bool) : HP V := fun v H => ∃ l xs, v = .ref l ∧ H l = some (.lst xs) ∧ decide (xs = []) = b
theorem mn_lb {b : Bool} : Mn (LB b) := fun _ _ _ s ⟨l, xs, e, h, q⟩ => ⟨l, xs, e, s _ _ h, q⟩
section
variable {K : PySem.W.Frag} {σ : L2.St} {H : Hp} {ta te : TE} {tt : TT}
/-- [x for x in t if ..]: is it empty -/
theorem g_lcIf {v : Nat} {q : Addr} {ys : List V} {bs : List Bool} (h0 : ∀ H1, Same H H1 → Ev ta σ H1 (.ref q)) (hq : SqT K H q ys) (hl : bs.length = ys.length) (hz : ys.length ≤ 1000)
    (hv : ∀ x, ((σ.set v none).set v (some x))[v]? = some (some x)) (ht : ∀ (i : Nat) (x : V) (b : Bool) (H1 : Hp), ys[i]? = some x → bs[i]? = some b → Same H H1 → EvB tt ((σ.set v none).set v (some x)) H1 b) :
    G (tLc (iTup K ta) (gName v) tt (tVar v) [v]) σ H (LB (!bs.any id)) := by
  refine ⟨fun H1 e Q q' => h0 H1 e _ ⟨q, rfl, ⟨ys, sqt_same e hq⟩, ?_⟩, mn_lb⟩
  intro Dd hD
  show ∃ W, _
  refine lc_it (walk_tup (xs := ys)) (fun i H' => Same H1 H' ∧ ∃ acc, H' Dd = some (.lst acc) ∧ acc.length ≤ i ∧ decide (acc = []) = !((bs.take i).any id)) ⟨same_new hD, [], upd_same, Nat.le_refl _, rfl⟩ (fun _ H' _ p => sqt_same (e.trans p.1) hq) (fun i x H2 H3 hi p y => ?_) (fun H2 p => ?_)
  · obtain ⟨s2, acc, hd, hl', ha⟩ := p
    obtain ⟨rfl, hx⟩ := y
    refine ⟨(List.set_set ..).trans (List.set_set ..), ?_⟩
    obtain ⟨b, hb⟩ : ∃ b, bs[i]? = some b := ⟨_, List.getElem?_eq_getElem (by omega)⟩
    refine ht i x b _ hx hb (e.trans s2) _ ?_
    cases b with
    | true =>
      rw [if_pos rfl]
      refine ⟨_, hv _, acc, hd, Nat.lt_of_le_of_lt (show acc.length ≤ 1000 by omega) (by decide), same_put s2 hD, acc ++ [x], upd_same, by simp; omega, ?_⟩
      rw [List.take_succ, hb]
      simp
    | false =>
      rw [if_neg Bool.false_ne_true]
      refine ⟨s2, acc, hd, by omega, ?_⟩
      rw [ha, List.take_succ, hb]
      simp
  · obtain ⟨s2, acc, hd, hl', ha⟩ := p
    rw [← hl, List.take_length] at ha
    exact q' _ _ s2 ⟨Dd, acc, rfl, hd, ha⟩
end
theorem st_ne0 {σ : L2.St} {H : Hp} {K : PySem.W.Frag} {tl : TE} {t u : TS} {D : Ends} {b : Bool} (h : G tl σ H (LB b)) (k : ∀ H1, Same H H1 → if b = true then u D σ H1 else t D σ H1) : tIfS (tTest (tOp (rNeN K) tl (tLst tNil))) t u D σ H :=
  h.ev H (Same.refl _) _ fun v3 H3 s3 e3 => by
    obtain ⟨l3, xs3, rfl, hl3, hx3⟩ := e3
    refine ⟨Nat.zero_le _, fun b4 hb4 => ⟨l3, b4, xs3, rfl, rfl, .inl (.of ((same_new hb4) _ _ hl3)), .inl (.of upd_same), _, rfl, ?_⟩⟩
    rw [hx3]
    have z := k _ (s3.trans (same_new (o := .lst []) hb4))
    cases b with
    | true => exact z
    | false => exact z
theorem case_yes {c : Prop} [Decidable c] {a b : Prop} (h : c) (k : a) : ite c a b := (if_pos h).mpr k
theorem case_no {c : Prop} [Decidable c] {a b : Prop} (h : ¬ c) (k : b) : ite c a b := (if_neg h).mpr k
theorem any_take_succ {α : Type} {f : α → Bool} {l : List α} {i : Nat} {x : α} (h : l[i]? = some x) : (l.take (i + 1)).any f = ((l.take i).any f || f x) := by
  rw [List.take_succ, h]
  simp
theorem all_get {α : Type} {f : α → Bool} {l : List α} {i : Nat} {x : α} (h : l.all f = true) (hx : l[i]? = some x) : f x = true := List.all_eq_true.mp h x (List.mem_of_getElem? hx)
def isAddD : Pv → Bool
  | .tup (.str w :: _) => decide (w = ("add" : Str))
  | _ => false
def isStrD : Pv → Bool
  | .tup (.str _ :: _) => true
  | _ => false
theorem isStrD_of {p : Pv} (h : isStrD p = true) : ∃ w l, p = .tup (.str w :: l) := by
  cases p with
  | tup l =>
    cases l with
    | nil => exact absurd h Bool.false_ne_true
    | cons a l => cases a <;> first | exact ⟨_, _, rfl⟩ | exact absurd h Bool.false_ne_true
  | _ => exact absurd h Bool.false_ne_true
theorem addRow_eq {a b c : Pv} {ds : List Pv} : addRow (.tup [a, b, c, .tup ds]) = ds.any isAddD := rfl
theorem rowForm_of {p : Pv} (h : rowForm p = true) : ∃ a b c ds, p = .tup [a, b, c, .tup ds] ∧ ds.all isStrD = true := by
  unfold rowForm at h
  split at h
  · exact ⟨_, _, _, _, rfl, h⟩
  · cases h
def spScript (K : PySem.W.Frag) : Sp := fun vs H Q _ => ∃ N rs v, vs = [v] ∧ At K N (.tup rs) v H ∧ rs.all rowForm = true ∧ ∀ H', Same H H' → Q (.bl (hasAdd (.tup rs))) H'
/-- self.own_settings[j] -/
def spPr (K : PySem.W.Frag) (C : Addr) (j : Int) : Sp := fun vs H Q _ => ∃ (a dx q : Addr) (fs : List (Str × V)) (xs : List V) (x : V), vs = [.ref a] ∧ H a = some (.ins C dx fs) ∧ fs.lookup ("own_settings" : Str) = some (.ref q) ∧ SqT K H q xs ∧ atI xs j = some x ∧ Q x H
def spShape (K : PySem.W.Frag) : Sp := fun vs H Q _ => ∃ N w ps v, vs = [.str w, v] ∧ At K N (.tup ps) v H ∧ ps.all okDV = true ∧ ∀ H', Same H H' → Q (.bl (hasShape w ps)) H'
def wrV : Option Nat → V
  | some i => .int (i : Nat)
  | none => .non
def spWrong (K : PySem.W.Frag) : Sp := fun vs H Q _ => ∃ N rs v, vs = [v] ∧ At K N (.tup rs) v H ∧ rs.all okRow = true ∧ ∀ H', Same H H' → Q (wrV (wrongGo 0 [] rs)) H'
theorem at3 {xs : List V} {x : V} {n : Nat} (h : xs[n]? = some x) : atI xs (n : Int) = some x := atI_nat h
theorem g_bet {K : PySem.W.Frag} {σ : L2.St} {H : Hp} {ta : TE} {E : XK} {p : Pv} {lo hi : Int} (h : ∃ x N, At K N p x H ∧ ∀ H1, Same H H1 → Ev ta σ H1 x) : G (tCall (spBet K) [] E (tCons ta (tCons (tC (.int lo)) (tCons (tC (.int hi)) tNil)))) σ H (Is (.bl (isBetween lo hi p))) := by
  obtain ⟨x, N, px, ha⟩ := h
  exact g_callL (vs := [x, .int lo, .int hi]) (fun H1 s => evl_cons (ha H1 s) (evl_cons ev_c (evl_cons ev_c evl_nil))) (fun H1 s Q q => ⟨N, p, x, lo, hi, rfl, at_kn (Kn.same s) _ px, q _ _ (Same.refl _) rfl⟩) mn_i
theorem g_betF {K : PySem.W.Frag} {N : Addr → Prop} {σ : L2.St} {H : Hp} {ta : TE} {E : XK} {p : Pv} {lo hi : Int} {x : V} {b : Bool} (ha : ∀ H1, Same H H1 → Ev ta σ H1 x) (px : At K N p x H) (hb : isBetween lo hi p = b) : G (tCall (spBet K) [] E (tCons ta (tCons (tC (.int lo)) (tCons (tC (.int hi)) tNil)))) σ H (Is (.bl b)) := hb ▸ g_bet ⟨x, N, px, ha⟩
section
variable {P : Program} {w : World} {K : PySem.W.Frag} {mg : Str → Option Value} {base : Heap}
theorem ok_is_deed_value (T : Env K mg) : FnOk P w K mg base CX0 3 (d_is_deed_value.loc K) T.fd_is_deed_value ["value"] (spBo K okDV isDeedValue) := by
  have G_is_value : FnOk P w K mg base CX0 2 _ _ _ _ := ok_is_value T
  refine T.F_is_deed_value.ok sc_is_deed_value (fun vs H Q E h => ?_) (fun cdv A outer s H vs Q E hr h => ?_)
  · obtain ⟨N, p, v, rfl, _⟩ := h
    rfl
  · have nd := sc_is_deed_value.nd
    have hu := hu_of hr
    obtain ⟨N, p, v, rfl, hp, ho, k⟩ := h
    refine ⟨_, PSs.nox (pss_cons (ps_if (pt_val (pe_callB (isiK (K := K)) (by rfl) T.b_isinstance (by decide +kernel) (pa_cons (pv 0) (pa_cons (pe_bltnT (n := "tuple") (by rfl) T.b_tuple (by decide +kernel)) pa_nil))))
  (pss_one (ps_ret (pe_and (pe_cmpR op_eq (pe_callB call_len_seq (by rfl) T.b_len (by decide +kernel) (pa_cons (pv 0) pa_nil)) pe_int (nomark _)) (pe_and (pe_cmpR op_eq (pe_ix (ixtK (K := K)) (pv 0) pe_int (fun _ _ => rfl)) pe_str (nomark _)) (pe_one (pe_call G_is_value (hr.mono (by decide)) (by rfl) T.g_is_value T.F_is_value.kp T.bi_is_value .nil pass0 (pa_cons (pe_ix (ixtK (K := K)) (pv 0) pe_int (fun _ _ => rfl)) pa_nil)))))))
  pss_nil)
 (pss_one (ps_ret (pe_call G_is_value (hr.mono (by decide)) (by rfl) T.g_is_value T.F_is_value.kp T.bi_is_value .nil pass0 (pa_cons (pv 0) pa_nil))))), ?_⟩
    have ht := at_ty T.kt p hp
    have hk := kit_tup T.kt p
    by_cases hs : isTup p = true
    · rw [hs] at hk
      refine st_ya (evb_B (ev_isi (ev_var rfl) ht hk)) ?_
      obtain ⟨l, rfl⟩ : ∃ l, p = .tup l := by cases p <;> first | exact ⟨_, rfl⟩ | exact absurd hs Bool.false_ne_true
      obtain ⟨q, xs, rfl, hq, ha, _⟩ := hp
      have hl := ha.len
      by_cases h2 : l.length = 2
      · obtain ⟨a, b, rfl⟩ : ∃ a b, l = [a, b] := by
          match l, h2 with
          | [a, b], _ => exact ⟨a, b, rfl⟩
        obtain ⟨x, _, rfl, hx, y, _, rfl, hy, hn⟩ := ha
        cases (show _ = [] from hn)
        obtain ⟨z, rfl⟩ : ∃ z, a = .str z := by cases a <;> first | exact ⟨_, rfl⟩ | exact absurd ho Bool.false_ne_true
        obtain ⟨rfl, hz⟩ := hx
        have e : isDeedValue (.tup [.str z, b]) = (true && (decide (z = ("plus" : Str)) && isValue b)) := rfl
        rw [e] at k
        refine g_ret (g_andB (g_ev fun H1 s1 => ev_eqn (m := 2) (ev_lenT (ev_var rfl) (sqt_same s1 hq)) ev_c) fun _ => g_andB (g_ev fun H1 s1 => ev_eq (y := .str "plus") (b := decide (z = ("plus" : Str))) (ev_ixT rfl (sqt_same s1 hq) rfl) ev_c rfl (by simp)) fun _ => g_callB (p := b) (v := y) (fun H1 s1 => ev_ixT rfl (sqt_same s1 hq) rfl) hy) fun v H1 s1 e => by cases e; exact k _ s1
      · have e : isDeedValue (.tup l) = false := by
          match l, h2 with
          | [], _ => rfl
          | [a], _ => cases a <;> rfl
          | [a, b], h2 => exact absurd rfl h2
          | a :: b :: c :: r, _ => cases a <;> rfl
        rw [e] at k
        refine g_ret (g_andB (a := false) (b := true) (g_ev fun H1 s1 => ?_) fun z => nomatch z) fun v H1 s1 e => by cases e; exact k _ s1
        have e := ev_eqn (σ := start ["value"] [V.ref q]) (m := 2) (ev_lenT (ta := tVar 0) (ev_var rfl) (sqt_same s1 hq)) (ev_c (H := H1))
        rw [hl, decide_eq_false h2] at e
        exact e
    · have hs' : isTup p = false := by simpa using hs
      rw [hs'] at hk
      refine st_nn (evb_B (ev_isi (ev_var rfl) ht hk)) ?_
      have e : isDeedValue p = isValue p := by cases p <;> first | rfl | exact absurd rfl hs
      rw [e] at k
      refine g_ret (g_callB (fun H1 s1 => ev_var rfl) hp) fun v H1 s1 e => by cases e; exact k _ s1
theorem ok_WP_script (T : Env K mg) : FnOk P w K mg base CX0 1 (d_WorkerPlan_script.loc K) T.fd_WorkerPlan_script ["self"] (spPr K (CW K) 6) := by
  refine T.F_WorkerPlan_script.ok sc_WorkerPlan_script (fun vs H Q E h => ?_) (fun cdv A outer s H vs Q E hr h => ?_)
  · obtain ⟨a, dx, q, fs, xs, x, rfl, _⟩ := h
    rfl
  · have nd := sc_WorkerPlan_script.nd
    have hu := hu_of hr
    obtain ⟨a, dx, q, fs, xs, x, rfl, ha, hf, hq, hx, k⟩ := h
    refine ⟨_, PSs.nox (pss_one (ps_ret (pe_ix (ixtK (K := K)) (pe_fld (pv 0) rfl) pe_int (fun _ _ => rfl)))), ?_⟩
    exact ⟨_, rfl, a, _, dx, fs, _, rfl, ha, T.dc_WorkerPlan.cls, T.n_WorkerPlan_own_settings, hf, q, xs, 6, x, rfl, rfl, hq, hx, k⟩
theorem ok_has_add (T : Env K mg) : FnOk P w K mg base CX0 1 (d_has_add.loc K) T.fd_has_add ["script"] (spScript K) := by
  refine T.F_has_add.ok sc_has_add (fun vs H Q E h => ?_) (fun cdv A outer s H vs Q E hr h => ?_)
  · obtain ⟨N, rs, v, rfl, _⟩ := h
    rfl
  · have nd := sc_has_add.nd
    have hu := hu_of hr
    obtain ⟨N, rs, v, rfl, hp, hf, k⟩ := h
    refine ⟨_, PSs.nox (pss_cons (ps_for PassesOwn.never rfl (pi_tup (pv 0)) (pg_name (i := 1) nd rfl (Or.inl rfl))
  (pss_one (ps_if (pt_cmpR (op_neN hr.units) (pe_lc (own := [("deed", 2)]) (by rfl) nd (pi_tup (pe_ix (ixtK (K := K)) (pv 1) pe_int (fun _ _ => rfl))) (blkOk_by (N := ["script", "row", "deed"]) (sc := defScope s_has_add) (by decide +kernel)) (fun _ _ _ _ _ => (pg_name (i := 2) nd rfl (Or.inl rfl))) (fun _ _ _ _ _ => (pts_one (pt_cmpR op_eq (pe_ix (ixtK (K := K)) (pv 2) pe_int (fun _ _ => rfl)) pe_str (nomark _)))) (fun _ _ _ _ _ => (pv 2))) (pe_lst pa_nil) (nomark _))
  (pss_one (ps_ret pe_bl))
  pss_nil)))
 (pss_one (ps_ret pe_bl))), ?_⟩
    obtain ⟨q, xs, rfl, hq, ha, hz⟩ := hp
    have hl := ha.len
    refine ⟨_, rfl, q, rfl, ⟨xs, hq⟩, ?_⟩
    refine for_it (walk_tup (xs := xs)) (fun i σ H' => Same H H' ∧ (rs.take i).any addRow = false ∧ ∃ a1 a2, σ = [some (.ref q), a1, a2]) ⟨Same.refl _, rfl, _, _, rfl⟩ (fun i σ H' _ p => sqt_same p.1 hq) (fun i x σ H1 H2 hi p y => ?_) (fun σ H1 p => ?_)
    · obtain ⟨s1, hn, a1, a2, rfl⟩ := p
      obtain ⟨rfl, ex⟩ := y
      obtain ⟨r, hr', px⟩ := ha.get2 ex
      obtain ⟨a, b, c, ds, rfl, hds⟩ := rowForm_of (all_get hf hr')
      obtain ⟨rq, rx, rfl, hrq, hra, _⟩ := at_kn (Kn.same s1) _ px
      obtain ⟨d, hd, pd⟩ := hra.get (i := 3) rfl
      obtain ⟨dq, dxs, rfl, hdq, hda, hdz⟩ := pd
      have hdl := hda.len
      have e2 : addRow (.tup [a, b, c, .tup ds]) = ds.any isAddD := rfl
      show tIfS _ _ _ _ _ _
      refine st_ne0 (g_lcIf (bs := ds.map isAddD) (ys := dxs) (q := dq) (fun H3 s3 => ev_ixT rfl (sqt_same s3 hrq) (at3 hd)) hdq (by rw [List.length_map, hdl]) (by rw [hdl]; exact hdz) (fun _ => rfl) fun j y bb H3 hj hb s3 => ?_) fun H3 s3 => ?_
      · obtain ⟨p3, hp3, py⟩ := hda.get2 hj
        rw [List.getElem?_map, hp3] at hb
        cases hb
        obtain ⟨w1, l1, rfl⟩ := isStrD_of (all_get hds hp3)
        obtain ⟨q3, xs3, rfl, hq3, ha3, _⟩ := at_kn (Kn.same s3) _ py
        obtain ⟨y3, hy3, p3⟩ := ha3.get (i := 0) rfl
        obtain ⟨rfl, _⟩ := p3
        exact evb_eqF (ev_ixT rfl hq3 (at3 hy3)) ev_c rfl (by simp [isAddD])
      · have s4 := s1.trans s3
        rw [List.any_map]
        cases hx : ds.any (id ∘ isAddD) with
        | true =>
          have e5 : hasAdd (.tup rs) = true := List.any_eq_true.mpr ⟨_, List.mem_of_getElem? hr', by rw [e2]; exact hx⟩
          rw [e5] at k
          exact k _ s4
        | false =>
          refine ⟨s4, ?_, _, _, rfl⟩
          rw [any_take_succ hr', hn, e2]
          exact hx
    · obtain ⟨s1, hn, _⟩ := p
      rw [hl, List.take_length] at hn
      have e5 : hasAdd (.tup rs) = false := hn
      rw [e5] at k
      exact k _ s1
theorem ok_is_added (T : Env K mg) : FnOk P w K mg base CX0 3 (d_is_added_plan.loc K) T.fd_is_added_plan ["value"] (spB K isAdded) := by
  have G_has_add : FnOk P w K mg base CX0 1 _ _ _ _ := ok_has_add T
  have G_WorkerPlan_script : FnOk P w K mg base CX0 1 _ _ _ _ := ok_WP_script T
  refine T.F_is_added_plan.ok sc_is_added_plan (fun vs H Q E h => ?_) (fun cdv A outer s H vs Q E hr h => ?_)
  · obtain ⟨N, p, v, rfl, _⟩ := h
    rfl
  · have nd := sc_is_added_plan.nd
    have hu := hu_of hr
    obtain ⟨N, p, v, rfl, hp, k⟩ := h
    refine ⟨_, PSs.nox (pss_one (ps_ret (pe_and (pe_callB (isiK (K := K)) (by rfl) T.b_isinstance (by decide +kernel) (pa_cons (pv 0) (pa_cons (pe_globR (by rfl) T.g_BaseWorker) pa_nil))) (pe_one (pe_not (pe_call G_has_add (hr.mono (by decide)) (by rfl) T.g_has_add T.F_has_add.kp T.bi_has_add .nil pass0 (pa_cons (pe_prop (pv 0) T.dc_WorkerPlan.cls T.p_WorkerPlan_script G_WorkerPlan_script (hr.mono (by decide)) T.bi_WorkerPlan_script .nil pass0 rfl) pa_nil))))))), ?_⟩
    have ht := at_ty T.kt p hp
    have hk := kit_bw T.kt p
    by_cases hs : isWrk p = true
    · rw [hs] at hk
      obtain ⟨l, rfl⟩ : ∃ l, p = .wrk l := by cases p <;> first | exact ⟨_, rfl⟩ | exact absurd hs Bool.false_ne_true
      obtain ⟨a, dx, q, xs, rfl, h1, hq, ⟨a1, a2, a3, a4, a5, a6, s0, rfl, hsf⟩, ha⟩ := hp
      obtain ⟨x, hx, px⟩ := ha.get (i := 6) rfl
      obtain ⟨rs, rfl, hrs⟩ : ∃ rs, s0 = .tup rs ∧ rs.all rowForm = true := by cases s0 <;> first | exact ⟨_, rfl, hsf⟩ | exact absurd hsf Bool.false_ne_true
      refine ev_isiC (ev_var rfl) ht hk _ ⟨true, rfl, ?_⟩
      have e : isAdded (.wrk [a1, a2, a3, a4, a5, a6, .tup rs]) = !hasAdd (.tup rs) := rfl
      rw [e] at k
      refine ⟨_, rfl, a, dx, _, rfl, h1, a, dx, q, _, xs, x, rfl, h1, rfl, hq, at3 hx, N, rs, x, rfl, px, hrs, fun H' s' => ⟨_, rfl, k H' s'⟩⟩
    · have hs' : isWrk p = false := by simpa using hs
      rw [hs'] at hk
      have e : isAdded p = false := by cases p <;> first | rfl | exact absurd rfl hs
      rw [e] at k
      exact ev_isiC (ev_var rfl) ht hk _ ⟨false, rfl, k _ (Same.refl _)⟩
theorem ok_has_shape (T : Env K mg) : FnOk P w K mg base CX0 4 (d_has_shape.loc K) T.fd_has_shape ["word", "parts"] (spShape K) := by
  have G_is_word : FnOk P w K mg base CX0 1 _ _ _ _ := ok_is_word T
  have G_is_free_word : FnOk P w K mg base CX0 2 _ _ _ _ := ok_is_free_word T
  have G_is_failure : FnOk P w K mg base CX0 2 _ _ _ _ := ok_is_failure T
  have G_is_between : FnOk P w K mg base CX0 1 _ _ _ _ := ok_is_between T
  have G_is_deed_value : FnOk P w K mg base CX0 3 _ _ _ _ := ok_is_deed_value T
  have G_is_added_plan : FnOk P w K mg base CX0 3 _ _ _ _ := ok_is_added T
  refine T.F_has_shape.ok sc_has_shape (fun vs H Q E h => ?_) (fun cdv A outer s H vs Q E hr h => ?_)
  · obtain ⟨N, z, ps, v, rfl, _⟩ := h
    rfl
  · have nd := sc_has_shape.nd
    have hu := hu_of hr
    obtain ⟨N, z, ps, v, rfl, hp, ho, k⟩ := h
    refine ⟨_, PSs.nox (pss_cons (WMt.ps_match (pv 0) (WMt.pc_cons (WMt.pp_or (WMt.pf_cons WMt.pp_val (WMt.pf_cons WMt.pp_val (WMt.pf_cons WMt.pp_val (WMt.pf_cons WMt.pp_val (WMt.pf_cons WMt.pp_val (WMt.pf_cons WMt.pp_val (WMt.pf_cons WMt.pp_val (WMt.pf_cons WMt.pp_val WMt.pf_nil))))))))) (pss_one (ps_ret (pe_and (pe_cmpR op_eq (pe_callB call_len_seq (by rfl) T.b_len (by decide +kernel) (pa_cons (pv 1) pa_nil)) pe_int (nomark _)) (pe_one (pe_call G_is_word (hr.mono (by decide)) (by rfl) T.g_is_word T.F_is_word.kp T.bi_is_word .nil pass0 (pa_cons (pe_ix (ixtK (K := K)) (pv 1) pe_int (fun _ _ => rfl)) pa_nil))))))
  (WMt.pc_cons (WMt.pp_or (WMt.pf_cons WMt.pp_val (WMt.pf_cons WMt.pp_val WMt.pf_nil))) (pss_one (ps_ret (pe_and (pe_cmpR op_eq (pe_callB call_len_seq (by rfl) T.b_len (by decide +kernel) (pa_cons (pv 1) pa_nil)) pe_int (nomark _)) (pe_and (pe_call G_is_word (hr.mono (by decide)) (by rfl) T.g_is_word T.F_is_word.kp T.bi_is_word .nil pass0 (pa_cons (pe_ix (ixtK (K := K)) (pv 1) pe_int (fun _ _ => rfl)) pa_nil)) (pe_and (pe_call G_is_free_word (hr.mono (by decide)) (by rfl) T.g_is_free_word T.F_is_free_word.kp T.bi_is_free_word .nil pass0 (pa_cons (pe_ix (ixtK (K := K)) (pv 1) pe_int (fun _ _ => rfl)) pa_nil)) (pe_one (pe_call G_is_deed_value (hr.mono (by decide)) (by rfl) T.g_is_deed_value T.F_is_deed_value.kp T.bi_is_deed_value .nil pass0 (pa_cons (pe_ix (ixtK (K := K)) (pv 1) pe_int (fun _ _ => rfl)) pa_nil))))))))
  (WMt.pc_cons WMt.pp_val (pss_one (ps_ret (pe_and (pe_cmpR op_eq (pe_callB call_len_seq (by rfl) T.b_len (by decide +kernel) (pa_cons (pv 1) pa_nil)) pe_int (nomark _)) (pe_one (pe_call G_is_deed_value (hr.mono (by decide)) (by rfl) T.g_is_deed_value T.F_is_deed_value.kp T.bi_is_deed_value .nil pass0 (pa_cons (pe_ix (ixtK (K := K)) (pv 1) pe_int (fun _ _ => rfl)) pa_nil))))))
  (WMt.pc_cons WMt.pp_val (pss_cons (ps_set (i := 2) nd rfl (Or.inl rfl) (pe_and (pe_cmpR op_eq (pe_callB call_len_seq (by rfl) T.b_len (by decide +kernel) (pa_cons (pv 1) pa_nil)) pe_int (nomark _)) (pe_one (pe_call G_is_between (hr.mono (by decide)) (by rfl) T.g_is_between T.F_is_between.kp T.bi_is_between .nil pass0 (pa_cons (pe_ix (ixtK (K := K)) (pv 1) pe_int (fun _ _ => rfl)) (pa_cons pe_int (pa_cons (C8.pe_gc (by rfl) T.c_MOST_TICKS) pa_nil)))))))
 (pss_one (ps_ret (pe_and (pv 2) (pe_and (pe_call G_is_free_word (hr.mono (by decide)) (by rfl) T.g_is_free_word T.F_is_free_word.kp T.bi_is_free_word .nil pass0 (pa_cons (pe_ix (ixtK (K := K)) (pv 1) pe_int (fun _ _ => rfl)) pa_nil)) (pe_one (pe_call G_is_deed_value (hr.mono (by decide)) (by rfl) T.g_is_deed_value T.F_is_deed_value.kp T.bi_is_deed_value .nil pass0 (pa_cons (pe_ix (ixtK (K := K)) (pv 1) pe_int (fun _ _ => rfl)) pa_nil))))))))
  (WMt.pc_cons WMt.pp_val (pss_one (ps_ret (pe_and (pe_cmpR op_eq (pe_callB call_len_seq (by rfl) T.b_len (by decide +kernel) (pa_cons (pv 1) pa_nil)) pe_int (nomark _)) (pe_one (pe_callB (isiK (K := K)) (by rfl) T.b_isinstance (by decide +kernel) (pa_cons (pe_ix (ixtK (K := K)) (pv 1) pe_int (fun _ _ => rfl)) (pa_cons (pe_bltnT (n := "bool") (by rfl) T.b_bool (by decide +kernel)) pa_nil)))))))
  (WMt.pc_cons WMt.pp_val (pss_one (ps_ret (pe_and (pe_cmpR op_eq (pe_callB call_len_seq (by rfl) T.b_len (by decide +kernel) (pa_cons (pv 1) pa_nil)) pe_int (nomark _)) (pe_one (pe_call G_is_failure (hr.mono (by decide)) (by rfl) T.g_is_failure T.F_is_failure.kp T.bi_is_failure .nil pass0 (pa_cons (pe_ix (ixtK (K := K)) (pv 1) pe_int (fun _ _ => rfl)) pa_nil))))))
  (WMt.pc_cons WMt.pp_val (pss_one (ps_ret (pe_and (pe_cmpR op_eq (pe_callB call_len_seq (by rfl) T.b_len (by decide +kernel) (pa_cons (pv 1) pa_nil)) pe_int (nomark _)) (pe_and (pe_call G_is_word (hr.mono (by decide)) (by rfl) T.g_is_word T.F_is_word.kp T.bi_is_word .nil pass0 (pa_cons (pe_ix (ixtK (K := K)) (pv 1) pe_int (fun _ _ => rfl)) pa_nil)) (pe_one (pe_call G_is_added_plan (hr.mono (by decide)) (by rfl) T.g_is_added_plan T.F_is_added_plan.kp T.bi_is_added_plan .nil pass0 (pa_cons (pe_ix (ixtK (K := K)) (pv 1) pe_int (fun _ _ => rfl)) pa_nil)))))))
  WMt.pc_nil))))))))
 (pss_one (ps_ret pe_bl))), ?_⟩
    obtain ⟨q, xs, rfl, hq, ha, hz⟩ := hp
    have hl := ha.len
    have item : ∀ {n : Nat}, n < ps.length → ∃ x, xs[n]? = some x ∧ At K N (ps.getD n .non) x H := fun {n} hn => by
      obtain ⟨x, hx, px⟩ := ha.get (List.getElem?_eq_getElem hn)
      exact ⟨x, hx, by rw [List.getD_eq_getElem?_getD, List.getElem?_eq_getElem hn]; exact px⟩
    have okn : ∀ {n : Nat}, n < ps.length → okDV (ps.getD n .non) = true := fun {n} hn => by
      rw [List.getD_eq_getElem?_getD, List.getElem?_eq_getElem hn]
      exact all_get ho (List.getElem?_eq_getElem hn)
    have len : ∀ (m : Nat) (σ : L2.St), σ[1]? = some (some (.ref q)) → G (tOp rEq (tCB (fun xs H Q => ∃ p ys, xs = [V.ref p] ∧ (SqL K H p ys ∨ SqT K H p ys) ∧ Q (.int ys.length) H) (tCons (tVar 1) tNil)) (tC (.int (m : Int)))) σ H (Is (.bl (decide (ps.length = m)))) := fun m σ hσ => g_ev fun H1 s1 => by
      have e := ev_eqn (m := m) (tb := tC (.int (m : Int))) (ev_lenT (ta := tVar 1) (ev_var hσ) (sqt_same s1 hq)) ev_c
      rw [hl] at e
      exact e
    have arg : ∀ {n : Nat} {x : V} {σ : L2.St}, σ[1]? = some (some (.ref q)) → xs[n]? = some x → ∀ H1, Same H H1 → Ev (tOp (rIxT K) (tVar 1) (tC (.int (n : Int)))) σ H1 x := fun {n x σ} hσ hx H1 s1 => ev_ixT hσ (sqt_same s1 hq) (at3 hx)
    have fin : ∀ b, hasShape z ps = b → ∀ v H1, Same H H1 → Is (.bl b) v H1 → Q v H1 := fun b e v H1 s1 ev => by
      cases ev
      rw [← e]
      exact k _ s1
    unfold hasShape at fin
    refine ⟨_, rfl, rfl, ?_⟩
    by_cases c1 : hit words1 z = true
    · rw [if_pos c1] at fin
      refine case_yes c1 (g_ret (g_andB (len 1 _ rfl) fun h1 => ?_) (fin _ rfl))
      obtain ⟨x, hx, px⟩ := item (n := 0) (by have := of_decide_eq_true h1; omega)
      exact g_callB (arg (n := 0) rfl hx) px
    rw [if_neg c1] at fin
    refine case_no c1 ⟨rfl, ?_⟩
    by_cases c2 : hit ["send", "ask"] z = true
    · rw [if_pos c2] at fin
      refine case_yes c2 (g_ret (g_andB (len 3 _ rfl) fun h1 => ?_) (fin _ rfl))
      have hn := of_decide_eq_true h1
      obtain ⟨x, hx, px⟩ := item (n := 0) (by omega)
      obtain ⟨y, hy, py⟩ := item (n := 1) (by omega)
      obtain ⟨u, hu, pu⟩ := item (n := 2) (by omega)
      exact g_andB (g_callB (arg (n := 0) rfl hx) px) fun _ => g_andB (g_callB (arg (n := 1) rfl hy) py) fun _ => g_callBo (arg (n := 2) rfl hu) pu (okn (n := 2) (by omega))
    rw [if_neg c2] at fin
    refine case_no c2 ⟨rfl, ?_⟩
    by_cases c3 : hit ["reply"] z = true
    · rw [if_pos c3] at fin
      refine case_yes c3 (g_ret (g_andB (len 1 _ rfl) fun h1 => ?_) (fin _ rfl))
      have hn := of_decide_eq_true h1
      obtain ⟨x, hx, px⟩ := item (n := 0) (by omega)
      exact g_callBo (arg (n := 0) rfl hx) px (okn (n := 0) (by omega))
    rw [if_neg c3] at fin
    refine case_no c3 ⟨rfl, ?_⟩
    by_cases c4 : hit ["later"] z = true
    · rw [if_pos c4] at fin
      refine case_yes c4 ?_
      refine g_asg (g_andB (len 3 _ rfl) fun h1 => g_bet (p := ps.getD 0 .non) (lo := 1) (hi := 1000000000) ?_) fun v1 H1 s1 e1 => ?_
      · have hn := of_decide_eq_true h1
        obtain ⟨x, hx, px⟩ := item (n := 0) (by omega)
        exact ⟨x, N, px, arg (n := 0) rfl hx⟩
      · cases e1
        dsimp only
        show tRet _ _ _ _
        refine g_ret (P := Is _) (g_andB (a := decide (ps.length = 3) && isBetween 1 1000000000 (ps.getD 0 .non)) (g_ev fun H2 _ => ev_var rfl) fun h1 => ?_) fun v2 H2 s2 e2 => fin _ rfl v2 H2 (s1.trans s2) e2
        have hn : ps.length = 3 := of_decide_eq_true ((Bool.and_eq_true _ _).mp h1).1
        obtain ⟨y, hy, py⟩ := item (n := 1) (by omega)
        obtain ⟨u, hu, pu⟩ := item (n := 2) (by omega)
        exact g_andB (g_callB (fun H3 s3 => arg (n := 1) rfl hy H3 (s1.trans s3)) (at_kn (Kn.same s1) _ py)) fun _ => g_callBo (fun H3 s3 => arg (n := 2) rfl hu H3 (s1.trans s3)) (at_kn (Kn.same s1) _ pu) (okn (n := 2) (by omega))
    rw [if_neg c4] at fin
    refine case_no c4 ⟨rfl, ?_⟩
    by_cases c5 : hit ["trap"] z = true
    · rw [if_pos c5] at fin
      refine case_yes c5 (g_ret (g_andB (len 1 _ rfl) fun h1 => ?_) (fin _ rfl))
      have hn := of_decide_eq_true h1
      obtain ⟨x, hx, px⟩ := item (n := 0) (by omega)
      exact g_ev fun H1 s1 => ev_isi (arg (n := 0) rfl hx H1 s1) (at_ty T.kt _ (at_kn (Kn.same s1) _ px)) (kit_bool T.kt _)
    rw [if_neg c5] at fin
    refine case_no c5 ⟨rfl, ?_⟩
    by_cases c6 : hit ["end"] z = true
    · rw [if_pos c6] at fin
      refine case_yes c6 (g_ret (g_andB (len 1 _ rfl) fun h1 => ?_) (fin _ rfl))
      have hn := of_decide_eq_true h1
      obtain ⟨x, hx, px⟩ := item (n := 0) (by omega)
      exact g_callB (arg (n := 0) rfl hx) px
    rw [if_neg c6] at fin
    refine case_no c6 ⟨rfl, ?_⟩
    by_cases c7 : hit ["add"] z = true
    · rw [if_pos c7] at fin
      refine case_yes c7 (g_ret (g_andB (len 2 _ rfl) fun h1 => ?_) (fin _ rfl))
      have hn := of_decide_eq_true h1
      obtain ⟨x, hx, px⟩ := item (n := 0) (by omega)
      obtain ⟨y, hy, py⟩ := item (n := 1) (by omega)
      exact g_andB (g_callB (arg (n := 0) rfl hx) px) fun _ => g_callB (arg (n := 1) rfl hy) py
    rw [if_neg c7] at fin
    exact case_no c7 (fin _ rfl _ _ (Same.refl _) rfl)
end
end W53

set_option Elab.async false
set_option linter.all false
set_option maxRecDepth 100000
set_option maxHeartbeats 1000000
namespace W53
open PySem PySem.Spec PyProof.Rows L2 WXG WEv WRd WLf WEn WZs WRu WSt StX WDc WPv WEb WXO WXE
theorem cut1 {xs : List V} (h : 1 ≤ xs.length) : cutV xs (some 1) none = xs.drop 1 := by
  unfold cutV
  rw [show HT.sIx xs.length 0 (some 1) = min 1 xs.length from HT.sIx_nat _ _ 1, HT.sIx_none, Nat.min_eq_left h, List.take_of_length_le (by rw [List.length_drop]; omega)]
theorem cut1_ne {n : Nat} (h : 1 ≤ n) : ¬ (HT.sIx n 0 (some 1) = 0 ∧ HT.sIx n n none = n) := fun z => by
  have := z.1
  rw [show HT.sIx n 0 (some 1) = min 1 n from HT.sIx_nat _ _ 1, Nat.min_eq_left h] at this
  cases this
def knd (kn : List (Str × Str)) : List (List Key × V) := kn.map fun q => ([Sum.inr q.1, Sum.inr q.2], .bl true)
theorem knd_some (kn : List (Str × Str)) (a b : Str) : (valV (knd kn) [Sum.inr a, Sum.inr b]).isSome = decide ((a, b) ∈ kn) := by
  rw [← valV_any]
  unfold knd
  rw [List.any_map, Bool.eq_iff_iff]
  simp only [List.any_eq_true, Function.comp, decide_eq_true_eq]
  constructor
  · rintro ⟨q, hq, e⟩
    have e1 : Sum.inr q.1 = (Sum.inr a : Key) ∧ Sum.inr q.2 = (Sum.inr b : Key) := by simpa using e
    cases e1.1
    cases e1.2
    exact hq
  · intro h
    exact ⟨(a, b), h, rfl⟩
theorem knd_put {kn : List (Str × Str)} {a b : Str} (h : (a, b) ∉ kn) : putK (knd kn) [Sum.inr a, Sum.inr b] (.bl true) = knd (kn ++ [(a, b)]) := by
  unfold putK
  have e : ((knd kn).any fun kv => decide (kv.1 = [Sum.inr a, Sum.inr b])) = false := by
    rw [valV_any, knd_some]
    exact decide_eq_false h
  rw [if_neg (by rw [e]; exact Bool.false_ne_true)]
  unfold knd
  rw [List.map_append]
  rfl
theorem isRow_of {p : Pv} (h : isRow p = true) : ∃ a b c ds, p = .tup [.str a, .str b, c, .tup ds] := by
  unfold isRow at h
  split at h
  · rename_i a b c ds
    simp only [Bool.and_eq_true] at h
    obtain ⟨a, rfl⟩ := isWord_str h.1
    obtain ⟨b, rfl⟩ := isWord_str h.2.1
    exact ⟨_, _, _, _, rfl⟩
  · cases h
def rowD : Pv → Bool
  | .tup ds => decide (ds.length ≤ 8) && ds.all isDeed
  | _ => false
theorem isRow_eq (a b c d : Pv) : isRow (.tup [a, b, c, d]) = (isWord a && (isWord b && (isBetween 1 1000 c && rowD d))) := by
  cases d <;> first | rfl | simp [isRow, rowD]
theorem notTup {p : Pv} (h : isTup p = false) : isRow p = false ∧ isDeed p = false ∧ isScript p = false := by
  cases p <;> first | exact ⟨rfl, rfl, rfl⟩ | cases h
theorem tup_of {p : Pv} (h : isTup p = true) : ∃ l, p = .tup l := by cases p <;> first | exact ⟨_, rfl⟩ | cases h
section
variable {P : Program} {w : World} {K : PySem.W.Frag} {mg : Str → Option Value} {base : Heap}
theorem ok_is_deed (T : Env K mg) : FnOk P w K mg base CX0 5 (d_is_deed.loc K) T.fd_is_deed ["value"] (spBo K okDeed isDeed) := by
  have G_has_shape : FnOk P w K mg base CX0 4 _ _ _ _ := ok_has_shape T
  refine T.F_is_deed.ok sc_is_deed (fun vs H Q E h => ?_) (fun cdv A outer s H vs Q E hr h => ?_)
  · obtain ⟨N, p, v, rfl, _⟩ := h
    rfl
  · have nd := sc_is_deed.nd
    have hu := hu_of hr
    obtain ⟨N, p, v, rfl, hp, ho, k⟩ := h
    refine ⟨_, PSs.nox (pss_cons (ps_if (PW.pt (pw_or (pt_not (pt_val (pe_callB (isiK (K := K)) (by rfl) T.b_isinstance (by decide +kernel) (pa_cons (pv 0) (pa_cons (pe_bltnT (n := "tuple") (by rfl) T.b_tuple (by decide +kernel)) pa_nil))))) (pw_or (pt_cmpR op_lt (pe_callB call_len_seq (by rfl) T.b_len (by decide +kernel) (pa_cons (pv 0) pa_nil)) pe_int (nomark _)) (pw_or1 (pt_not (pt_val (pe_callB (isiK (K := K)) (by rfl) T.b_isinstance (by decide +kernel) (pa_cons (pe_ix (ixtK (K := K)) (pv 0) pe_int (fun _ _ => rfl)) (pa_cons (pe_bltnT (n := "str") (by rfl) T.b_str (by decide +kernel)) pa_nil)))))))))
  (pss_one (ps_ret pe_bl))
  pss_nil)
 (pss_one (ps_ret (pe_call G_has_shape (hr.mono (by decide)) (by rfl) T.g_has_shape T.F_has_shape.kp T.bi_has_shape .nil pass0 (pa_cons (pe_ix (ixtK (K := K)) (pv 0) pe_int (fun _ _ => rfl)) (pa_cons (pe_slice sl_tup (pv 0) (po_some pe_int) po_none) pa_nil)))))), ?_⟩
    have ht := at_ty T.kt p hp
    have hk := kit_tup T.kt p
    cases hs : isTup p with
    | false =>
      rw [hs] at hk
      rw [(notTup hs).2.1] at k
      exact st_ya (evb_or (a := true) (b := false) (evb_not (b := false) (evb_B (ev_isi (ev_var rfl) ht hk))) fun z => nomatch z) (k _ (Same.refl _))
    | true =>
      rw [hs] at hk
      obtain ⟨l, rfl⟩ := tup_of hs
      obtain ⟨q, xs, rfl, hq, ha, hz⟩ := hp
      have hl := ha.len
      by_cases h2 : l.length < 2
      · have e : isDeed (.tup l) = false := by
          match l, h2 with
          | [], _ => rfl
          | [a], _ => cases a <;> rfl
        rw [e] at k
        refine st_ya (evb_or (a := false) (b := true) (evb_not (b := true) (evb_B (ev_isi (ev_var rfl) ht hk))) fun _ => evb_or (a := true) (b := false) (evb_cmpF (ev_lenT (ev_var rfl) hq) ev_c (decide_eq_true (by omega))) fun z => nomatch z) (k _ (Same.refl _))
      · match l, ha, h2, hl, hz, ho, k, ht, hk with
        | [], _, h2, _, _, _, _, _, _ => exact absurd (by decide) h2
        | a :: r, ha, h2, hl, hz, ho, k, ht, hk =>
          obtain ⟨x, ys, rfl, px, hys⟩ := ha
          have hka := kit_str T.kt a
          have hta := at_ty T.kt a px
          have hl2 : 2 ≤ r.length + 1 := by simpa using h2
          have lenF : EvB (tTest (tOp (rI0 fun i j => .bl (decide (i < j))) (tCB (fun xs H Q => ∃ p ys, xs = [V.ref p] ∧ (SqL K H p ys ∨ SqT K H p ys) ∧ Q (.int ys.length) H) (tCons (tVar 0) tNil)) (tC (.int 2)))) (start ["value"] [V.ref q]) H false := evb_cmpF (ev_lenT (ev_var rfl) hq) ev_c (decide_eq_false (by omega))
          cases hsa : isStr a with
          | false =>
            rw [hsa] at hka
            have e : isDeed (.tup (a :: r)) = false := by cases a <;> first | rfl | cases hsa
            rw [e] at k
            exact st_ya (evb_or (a := false) (b := true) (evb_not (b := true) (evb_B (ev_isi (ev_var rfl) ht hk))) fun _ => evb_or (a := false) (b := true) lenF fun _ => evb_not (b := false) (evb_B (ev_isi (ev_ixT rfl hq (at3 (n := 0) rfl)) hta hka))) (k _ (Same.refl _))
          | true =>
            rw [hsa] at hka
            obtain ⟨z, rfl⟩ : ∃ z, a = .str z := by cases a <;> first | exact ⟨_, rfl⟩ | cases hsa
            obtain ⟨rfl, hzl⟩ := px
            have e : isDeed (.tup (.str z :: r)) = hasShape z r := by
              show (decide (1 ≤ r.length) && hasShape z r) = hasShape z r
              rw [decide_eq_true (by omega), Bool.true_and]
            rw [e] at k
            refine st_nn (evb_or (a := false) (b := false) (evb_not (b := true) (evb_B (ev_isi (ev_var rfl) ht hk))) fun _ => evb_or (a := false) (b := false) lenF fun _ => evb_not (b := true) (evb_B (ev_isi (ev_ixT rfl hq (at3 (n := 0) rfl)) hta hka))) ?_
            refine ev_ixT rfl hq (at3 (n := 0) rfl) _ ⟨_, rfl, 1, rfl, q, _, rfl, hq, cut1_ne (by rw [List.length_cons]; omega), fun t ht => ?_⟩
            rw [cut1 (by rw [List.length_cons]; omega)]
            refine ⟨N, z, r, .ref t, rfl, ⟨t, ys, rfl, .inl (.inl upd_same), mn_atl _ _ _ (same_new ht) hys, by rw [List.length_cons] at hz; omega⟩, List.all_eq_true.mpr (fun x hx => List.all_eq_true.mp (show (Pv.str z :: r).all okDV = true from ho) x (List.mem_cons_of_mem _ hx)), fun H' s' => k _ ((same_new ht).trans s')⟩
theorem ok_is_row (T : Env K mg) : FnOk P w K mg base CX0 6 (d_is_row.loc K) T.fd_is_row ["value"] (spBo K okRow isRow) := by
  have G_is_word : FnOk P w K mg base CX0 1 _ _ _ _ := ok_is_word T
  have G_is_between : FnOk P w K mg base CX0 1 _ _ _ _ := ok_is_between T
  have G_is_deed : FnOk P w K mg base CX0 5 _ _ _ _ := ok_is_deed T
  refine T.F_is_row.ok sc_is_row (fun vs H Q E h => ?_) (fun cdv A outer s H vs Q E hr h => ?_)
  · obtain ⟨N, p, v, rfl, _⟩ := h
    rfl
  · have nd := sc_is_row.nd
    have hu := hu_of hr
    obtain ⟨N, p, v, rfl, hp, ho, k⟩ := h
    refine ⟨_, PSs.nox (pss_cons (ps_if (PW.pt (pw_or (pt_not (pt_val (pe_callB (isiK (K := K)) (by rfl) T.b_isinstance (by decide +kernel) (pa_cons (pv 0) (pa_cons (pe_bltnT (n := "tuple") (by rfl) T.b_tuple (by decide +kernel)) pa_nil))))) (pw_or (pt_cmpR op_ne (pe_callB call_len_seq (by rfl) T.b_len (by decide +kernel) (pa_cons (pv 0) pa_nil)) pe_int (nomark _)) (pw_or (pt_not (pt_val (pe_call G_is_word (hr.mono (by decide)) (by rfl) T.g_is_word T.F_is_word.kp T.bi_is_word .nil pass0 (pa_cons (pe_ix (ixtK (K := K)) (pv 0) pe_int (fun _ _ => rfl)) pa_nil)))) (pw_or1 (pt_not (pt_val (pe_call G_is_word (hr.mono (by decide)) (by rfl) T.g_is_word T.F_is_word.kp T.bi_is_word .nil pass0 (pa_cons (pe_ix (ixtK (K := K)) (pv 0) pe_int (fun _ _ => rfl)) pa_nil)))))))))
  (pss_one (ps_ret pe_bl))
  pss_nil)
 (pss_cons (ps_if (PW.pt (pw_or (pt_not (pt_val (pe_call G_is_between (hr.mono (by decide)) (by rfl) T.g_is_between T.F_is_between.kp T.bi_is_between .nil pass0 (pa_cons (pe_ix (ixtK (K := K)) (pv 0) pe_int (fun _ _ => rfl)) (pa_cons pe_int (pa_cons (C8.pe_gc (by rfl) T.c_MOST_WORK) pa_nil)))))) (pw_or (pt_not (pt_val (pe_callB (isiK (K := K)) (by rfl) T.b_isinstance (by decide +kernel) (pa_cons (pe_ix (ixtK (K := K)) (pv 0) pe_int (fun _ _ => rfl)) (pa_cons (pe_bltnT (n := "tuple") (by rfl) T.b_tuple (by decide +kernel)) pa_nil))))) (pw_or1 (pt_cmpR op_gt (pe_callB call_len_seq (by rfl) T.b_len (by decide +kernel) (pa_cons (pe_ix (ixtK (K := K)) (pv 0) pe_int (fun _ _ => rfl)) pa_nil)) (C8.pe_gc (by rfl) T.c_MOST_DEEDS) (nomark _))))))
  (pss_one (ps_ret pe_bl))
  pss_nil)
 (pss_one (ps_ret (pe_callB (cr_all rfl) (by rfl) T.b_all (by decide +kernel) (pa_cons (pe_lc (own := [("deed", 1)]) (by rfl) nd (pi_tup (pe_ix (ixtK (K := K)) (pv 0) pe_int (fun _ _ => rfl))) (blkOk_by (N := ["value", "deed"]) (sc := defScope s_is_row) (by decide +kernel)) (fun _ _ _ _ _ => (pg_name (i := 1) nd rfl (Or.inl rfl))) (fun _ _ _ _ _ => pts_nil) (fun _ _ _ _ _ => (pe_call G_is_deed (hr.mono (by decide)) (by rfl) T.g_is_deed T.F_is_deed.kp T.bi_is_deed .nil pass0 (pa_cons (pv 1) pa_nil)))) pa_nil)))))), ?_⟩
    have ht := at_ty T.kt p hp
    have hk := kit_tup T.kt p
    cases hs : isTup p with
    | false =>
      rw [hs] at hk
      rw [(notTup hs).1] at k
      exact st_ya (evb_or (a := true) (b := false) (evb_not (b := false) (evb_B (ev_isi (ev_var rfl) ht hk))) fun z => nomatch z) (k _ (Same.refl _))
    | true =>
      rw [hs] at hk
      obtain ⟨l, rfl⟩ := tup_of hs
      obtain ⟨q, xs, rfl, hq, ha, hz⟩ := hp
      have hl := ha.len
      by_cases h4 : l.length = 4
      · obtain ⟨a, b, c, d, rfl⟩ : ∃ a b c d, l = [a, b, c, d] := by
          match l, h4 with
          | [a, b, c, d], _ => exact ⟨a, b, c, d, rfl⟩
        obtain ⟨xa, _, rfl, pa, xb, _, rfl, pb, xc, _, rfl, pc, xd, _, rfl, pd, hn⟩ := ha
        cases (show _ = [] from hn)
        have t1 : ∀ H1, Same H H1 → EvB (tNot (tB (tCB (rIsi K) (tCons (tVar 0) (tCons (tC (.ty "tuple")) tNil))))) (start ["value", "deed"] [V.ref q]) H1 false := fun H1 s1 => evb_not (b := true) (evb_B (ev_isi (ev_var rfl) (tyx_tup (sqt_same s1 hq)) kit_t))
        have t2 : ∀ H1, Same H H1 → EvB (tTest (tOp rNe (tCB (fun xs H Q => ∃ p ys, xs = [V.ref p] ∧ (SqL K H p ys ∨ SqT K H p ys) ∧ Q (.int ys.length) H) (tCons (tVar 0) tNil)) (tC (.int 4)))) (start ["value", "deed"] [V.ref q]) H1 false := fun H1 s1 => evb_neF (ev_lenT (ev_var rfl) (sqt_same s1 hq)) ev_c rfl (by simp)
        rw [isRow_eq] at k
        cases hwa : isWord a with
        | false =>
          rw [hwa] at k
          exact s_yes (et_or (a := false) (b := true) (et_ev t1) fun _ => et_or (a := false) (b := true) (et_ev t2) fun _ => et_or (a := true) (b := false) (et_not (b := false) (et_val (g_callF (fun H1 s => ev_ixT rfl (sqt_same s hq) rfl) pa hwa))) fun z => nomatch z) fun H1 s1 => k _ s1
        | true =>
        rw [hwa, Bool.true_and] at k
        cases hwb : isWord b with
        | false =>
          rw [hwb] at k
          exact s_yes (et_or (a := false) (b := true) (et_ev t1) fun _ => et_or (a := false) (b := true) (et_ev t2) fun _ => et_or (a := false) (b := true) (et_not (b := true) (et_val (g_callF (fun H1 s => ev_ixT rfl (sqt_same s hq) rfl) pa hwa))) fun _ => et_not (b := false) (et_val (g_callF (fun H1 s => ev_ixT rfl (sqt_same s hq) rfl) pb hwb))) fun H1 s1 => k _ s1
        | true =>
        rw [hwb, Bool.true_and] at k
        refine s_no (et_or (a := false) (b := false) (et_ev t1) fun _ => et_or (a := false) (b := false) (et_ev t2) fun _ => et_or (a := false) (b := false) (et_not (b := true) (et_val (g_callF (fun H1 s => ev_ixT rfl (sqt_same s hq) rfl) pa hwa))) fun _ => et_not (b := true) (et_val (g_callF (fun H1 s => ev_ixT rfl (sqt_same s hq) rfl) pb hwb))) fun H1 s1 => ?_
        have hq1 := sqt_same s1 hq
        have pc1 := at_kn (Kn.same s1) _ pc
        have pd1 := at_kn (Kn.same s1) _ pd
        have htd := fun {H2} (s : Same H1 H2) => at_ty T.kt _ (at_kn (Kn.same s) _ pd1)
        have hkd := kit_tup T.kt d
        clear t1 t2
        cases hc : isBetween 1 1000 c with
        | false =>
          rw [hc] at k
          exact s_yes (et_or (a := true) (b := false) (et_not (b := false) (et_val (g_betF (fun H2 s => ev_ixT rfl (sqt_same s hq1) rfl) pc1 hc))) fun z => nomatch z) fun H2 s2 => k _ (s1.trans s2)
        | true =>
        rw [hc, Bool.true_and] at k
        cases hd : isTup d with
        | false =>
          rw [hd] at hkd
          have e : rowD d = false := by cases d <;> first | rfl | cases hd
          rw [e] at k
          exact s_yes (et_or (a := false) (b := true) (et_not (b := true) (et_val (g_betF (fun H2 s => ev_ixT rfl (sqt_same s hq1) rfl) pc1 hc))) fun _ => et_or (a := true) (b := false) (et_ev fun H2 s => evb_not (b := false) (evb_B (ev_isi (ev_ixT rfl (sqt_same s hq1) rfl) (htd s) hkd))) fun z => nomatch z) fun H2 s2 => k _ (s1.trans s2)
        | true =>
        rw [hd] at hkd
        obtain ⟨ds, rfl⟩ := tup_of hd
        have e : rowD (.tup ds) = (decide (ds.length ≤ 8) && ds.all isDeed) := rfl
        rw [e] at k
        obtain ⟨dq, dxs, rfl, hdq, hda, hdz⟩ := pd1
        have hdl := hda.len
        have ho2 : ds.all okDeed = true := ((Bool.and_eq_true _ _).mp ho).2
        by_cases h8 : ds.length ≤ 8
        · rw [decide_eq_true h8, Bool.true_and] at k
          refine s_no (et_or (a := false) (b := false) (et_not (b := true) (et_val (g_betF (fun H2 s => ev_ixT rfl (sqt_same s hq1) rfl) pc1 hc))) fun _ => et_or (a := false) (b := false) (et_ev fun H2 s => evb_not (b := true) (evb_B (ev_isi (ev_ixT rfl (sqt_same s hq1) rfl) (htd s) hkd))) fun _ => et_ev fun H2 s => evb_cmpF (ev_lenT (ev_ixT rfl (sqt_same s hq1) rfl) (sqt_same s hdq)) ev_c (decide_eq_false (by omega))) fun H2 s2 => ?_
          refine g_ret (g_all (bs := ds.map isDeed) (g_lcT (q := dq) (ys := dxs) (fun H3 s3 => ev_ixT rfl (sqt_same (s2.trans s3) hq1) rfl) (sqt_same s2 hdq) (by simp [hdl]) (by omega) mk_iss fun i x P H3 hx hP s3 Q q => ?_)) fun v H3 s3 e3 => ?_
          · obtain ⟨p3, hp3, px⟩ := (atl_kn (Kn.same s2) _ hda).get2 hx
            rw [List.getElem?_map, List.getElem?_map, List.getElem?_map, hp3] at hP
            cases hP
            exact (g_callBo (p := p3) (fun H4 s4 => ev_var rfl) (at_kn (Kn.same s3) _ px) (all_get ho2 hp3)).ev _ (Same.refl _) _ q
          · cases e3
            rw [List.all_map]
            exact k _ ((s1.trans s2).trans s3)
        · rw [decide_eq_false h8, Bool.false_and] at k
          exact s_yes (et_or (a := false) (b := true) (et_not (b := true) (et_val (g_betF (fun H2 s => ev_ixT rfl (sqt_same s hq1) rfl) pc1 hc))) fun _ => et_or (a := false) (b := true) (et_ev fun H2 s => evb_not (b := true) (evb_B (ev_isi (ev_ixT rfl (sqt_same s hq1) rfl) (htd s) hkd))) fun _ => et_ev fun H2 s => evb_cmpF (ev_lenT (ev_ixT rfl (sqt_same s hq1) rfl) (sqt_same s hdq)) ev_c (decide_eq_true (by omega))) fun H2 s2 => k _ (s1.trans s2)
      · have e : isRow (.tup l) = false := by
          unfold isRow
          split
          · rename_i e
            cases e
            exact absurd rfl h4
          · rfl
        rw [e] at k
        exact st_ya (evb_or (a := false) (b := true) (evb_not (b := true) (evb_B (ev_isi (ev_var rfl) ht hk))) fun _ => evb_or (a := true) (b := false) (evb_neF (ev_lenT (ev_var rfl) hq) ev_c rfl (by rw [hl]; simpa using (by omega : ¬ ((l.length : Int) = 4)))) fun z => nomatch z) (k _ (Same.refl _))
abbrev BX (K : PySem.W.Frag) : Addr := He.ga K "BadScript"
theorem ok_BadScript (T : Env K mg) : FnOk P w K mg base CX0 1 (d_BadScript__init.loc K) T.fd_BadScript__init ["self", "index"] (spI1 (BX K) "index") := by
  refine T.F_BadScript__init.ok sc_BadScript__init (fun vs H Q E h => ?_) (fun cdv A outer s H vs Q E hr h => ?_)
  · obtain ⟨a, y, rfl, _⟩ := h
    rfl
  · have nd := sc_BadScript__init.nd
    obtain ⟨a, y, rfl, ha, k⟩ := h
    refine ⟨_, PSs.nox (pss_cons (ps_expr (pe_xini (by rfl) T.g_PlanError T.r_PlanError T.s_PlanError T.v_PlanError (by decide +kernel) (pa_cons (pv 0) (pa_cons pe_str pa_nil))))
 (pss_one (ps_xst (pv 0) (pv 1)))), ?_⟩
    exact ⟨_, rfl, a, _, [_], _, _, _, rfl, (by decide : 1 ≤ 1000), T.x_BadScript, ha, _, rfl, _, rfl, a, _, _, _, _, _, rfl, T.x_BadScript, T.n_BadScript, ha, k⟩
/-- wrong_row of any value: None raises -/
def spWrongR (K : PySem.W.Frag) : Sp := fun vs H Q E => ∃ N p v, vs = [v] ∧ At K N p v H ∧ okScr p = true ∧ (isTup p = false → Err H (BX K) "index" .non E) ∧ ∀ rs, p = .tup rs → ∀ H', Same H H' → Q (wrV (wrongGo 0 [] rs)) H'
theorem ok_wrong_row (T : Env K mg) : FnOk P w K mg base (L2.CX P w) 7 (d_wrong_row.loc K) T.fd_wrong_row ["script"] (spWrongR K) := by
  have G_BadScript__init : FnOk P w K mg base CX0 1 _ _ _ _ := ok_BadScript T
  have G_is_row : FnOk P w K mg base CX0 6 _ _ _ _ := ok_is_row T
  refine T.F_wrong_row.ok sc_wrong_row (fun vs H Q E h => ?_) (fun cdv A outer s H vs Q E hr h => ?_)
  · obtain ⟨N, p, v, rfl, _⟩ := h
    rfl
  · have nd := sc_wrong_row.nd
    have hu := hu_of hr
    obtain ⟨N, p, v, rfl, hp, ho, ke, k⟩ := h
    refine ⟨_, (pss_cons (ps_if (pt_not (pt_val (pe_callB (isiK (K := K)) (by rfl) T.b_isinstance (by decide +kernel) (pa_cons (pv 0) (pa_cons (pe_bltnT (n := "tuple") (by rfl) T.b_tuple (by decide +kernel)) pa_nil)))))
  (pss_one (ps_raise rfl (takes_of (E := E) rfl rfl rfl rfl) (pmk_oex T.o_BadScript T.i_BadScript T.t_BadScript G_BadScript__init (hr.mono (by decide)) T.bi_BadScript__init .nil pass0 (by rfl) T.g_BadScript (pa_cons pe_non pa_nil))))
  pss_nil)
 (pss_cons (ps_set (i := 1) nd rfl (Or.inl rfl) pe_dnewT)
 (pss_cons (ps_for (passes_of rfl) rfl (pi_enumT (by rfl) T.b_enumerate (pa_cons (pv 0) pa_nil)) (pg_tup rfl (pgs_cons (pg_name (i := 2) nd rfl (Or.inl rfl)) (pgs_cons (pg_name (i := 3) nd rfl (Or.inl rfl)) pgs_nil)))
  (pss_cons (ps_if (PW.pt (pw_or (pt_cmpR op_ge (pv 2) (C8.pe_gc (by rfl) T.c_MOST_ROWS) (nomark _)) (pw_or (pt_not (pt_val (pe_call G_is_row (hr.mono (by decide)) (by rfl) T.g_is_row T.F_is_row.kp T.bi_is_row .nil pass0 (pa_cons (pv 3) pa_nil)))) (pw_or1 (pt_cmp (pc_din hu (pe_tup (pa_cons (pe_ix (ixtK (K := K)) (pv 3) pe_int (fun _ _ => rfl)) (pa_cons (pe_ix (ixtK (K := K)) (pv 3) pe_int (fun _ _ => rfl)) pa_nil))) (pv 1)))))))
  (pss_one (ps_ret (pv 2)))
  pss_nil)
 (pss_one (ps_dput hu (pv 1) (pe_tup (pa_cons (pe_ix (ixtK (K := K)) (pv 3) pe_int (fun _ _ => rfl)) (pa_cons (pe_ix (ixtK (K := K)) (pv 3) pe_int (fun _ _ => rfl)) pa_nil))) pe_bl rfl))))
 (pss_one (ps_ret pe_non))))), ?_⟩
    have hty := at_ty T.kt p hp
    have hkt := kit_tup T.kt p
    cases hs : isTup p with
    | false =>
      rw [hs] at hkt
      exact st_ya (evb_not (b := false) (evb_B (ev_isi (ev_var rfl) hty hkt))) (raise_of (E := E) WEv.p_c (ke hs))
    | true =>
    obtain ⟨rs, rfl⟩ := tup_of hs
    replace k := k rs rfl
    replace ho : rs.all okRow = true := ho
    obtain ⟨q, xs, rfl, hq, ha, hz⟩ := hp
    have hl := ha.len
    refine st_nn (evb_not (b := true) (evb_B (ev_isi (ev_var rfl) (tyx_tup hq) kit_t))) ?_
    refine fun kd hkd => ?_
    have s0 : Same H (upd H kd (.dT [])) := same_new hkd
    refine ⟨_, rfl, q, xs, rfl, sqt_same s0 hq, ?_⟩
    show ∃ W, _
    refine for_it (walk_enumC (K := K) (t := true) (c := 0) (a := q) (xs := xs)) (fun i σ H' => Same H H' ∧ ∃ kn a2 a3, σ = [some (.ref q), some (.ref kd), a2, a3] ∧ H' kd = some (.dT (knd kn)) ∧ kn.length ≤ 30 ∧ kn.length ≤ i ∧ wrongGo 0 [] rs = wrongGo i kn (rs.drop i)) ⟨s0, [], _, _, rfl, upd_same, Nat.zero_le _, Nat.zero_le _, rfl⟩ (fun i σ H' _ p => sqt_same p.1 hq) (fun i x σ H1 H2 hi p y => ?_) (fun σ H1 p => ?_)
    · obtain ⟨s1, kn, a2, a3, rfl, hk, hk30, hki, hgo⟩ := p
      obtain ⟨t, i', x', rfl, ht, rfl, hi', hx⟩ := y
      cases hi'
      obtain ⟨r, hr', px⟩ := ha.get2 hx
      have s2 : Same H1 (upd H1 t (.tup [.int ((0 : Int) + (i : Nat)), x'])) := same_new ht
      have hk2 := s2 _ _ hk
      have px2 := at_kn (Kn.same (s1.trans s2)) _ px
      have s12 := s1.trans s2
      have et : upd H1 t (.tup [.int ((0 : Int) + (i : Nat)), x']) t = some (.tup [.int ((0 : Int) + (i : Nat)), x']) := upd_same
      generalize upd H1 t (.tup [.int ((0 : Int) + (i : Nat)), x']) = H3 at *
      have hdrop : rs.drop i = r :: rs.drop (i + 1) := (List.getElem_cons_drop (h := (List.getElem?_eq_some_iff.mp hr').1)).symm.trans (by rw [(List.getElem?_eq_some_iff.mp hr').2])
      have hor : okRow r = true := all_get ho hr'
      refine ⟨t, _, rfl, .of et, rfl, _, _, rfl, _, _, rfl, rfl, ?_⟩
      have stop : (decide (30 ≤ i) || !isRow r || decide (keyOf r ∈ kn)) = true → ∀ H4, Same H H4 → Q (.int ((0 : Int) + (i : Nat))) H4 := fun hb H4 s4 => by
        have e : wrongGo 0 [] rs = some i := by rw [hgo, hdrop]; unfold wrongGo; rw [if_pos hb]
        rw [e] at k
        rw [Int.zero_add]
        exact k _ s4
      show tSeq _ _ _ _ _
      by_cases h30 : 30 ≤ i
      · exact st_ya (evb_or (a := true) (b := false) (evb_cmpF (g := fun i j => decide (i ≥ j)) (ev_var rfl) ev_c (decide_eq_true (by omega))) fun z => nomatch z) ⟨_, rfl, stop (by rw [decide_eq_true h30]; rfl) _ s12⟩
      · have t1 : ∀ H4, EvB (tTest (tOp (rI0 fun i j => .bl (decide (i ≥ j))) (tVar 2) (tC (.int 30)))) ((([some (V.ref q), some (V.ref kd), a2, a3] : L2.St).set 2 (some (.int ((0 : Int) + (i : Nat))))).set 3 (some x')) H4 false := fun H4 => evb_cmpF (g := fun i j => decide (i ≥ j)) (ev_var rfl) ev_c (decide_eq_false (by omega))
        cases hrow : isRow r with
        | false => exact s_yes (et_or (a := false) (b := true) (et_ev fun H4 _ => t1 H4) fun _ => et_or (a := true) (b := false) (et_not (b := false) (et_val (g_callFo (fun H4 s4 => ev_var rfl) px2 hor hrow))) fun z => nomatch z) fun H4 s4 => ⟨_, rfl, stop (by rw [hrow]; simp) _ (s12.trans s4)⟩
        | true =>
          obtain ⟨ka, kb, c, ds, rfl⟩ := isRow_of hrow
          obtain ⟨rq, rx, rfl, hrq, hra, _⟩ := px2
          obtain ⟨y0, _, rfl, p0, y1, _, rfl, p1, _⟩ := hra
          obtain ⟨rfl, _⟩ := p0
          obtain ⟨rfl, _⟩ := p1
          have ekey : keyOf (.tup [.str ka, .str kb, c, .tup ds]) = (ka, kb) := rfl
          have tk : EvT (tTest (tDIn (tTup (tCons (tOp (rIxT K) (tVar 3) (tC (.int 0))) (tCons (tOp (rIxT K) (tVar 3) (tC (.int 1))) tNil))) (tVar 1))) ((([some (V.ref q), some (V.ref kd), a2, a3] : L2.St).set 2 (some (.int ((0 : Int) + (i : Nat))))).set 3 (some (V.ref rq))) H3 (decide ((ka, kb) ∈ kn)) := fun H4 s4 Q4 q4 => by
            refine ev_ixT rfl (sqt_same s4 hrq) (at3 (n := 0) rfl) _ (ev_ixT rfl (sqt_same s4 hrq) (at3 (n := 1) rfl) _ ⟨(by decide : 2 ≤ sizeLine), fun t4 ht4 => ?_⟩)
            have s5 := same_new (o := .tup [.str ka, .str kb]) ht4
            refine ⟨_, rfl, kd, valV (knd kn) [Sum.inr ka, Sum.inr kb], rfl, DGet.t (s5 _ _ (s4 _ _ hk2)) upd_same, (valV (knd kn) [Sum.inr ka, Sum.inr kb]).isSome, rfl, ?_⟩
            rw [knd_some]
            exact q4 _ s5
          have t2 := et_not (b := true) (et_val (g_callFo (E := E0) (σ := (([some (V.ref q), some (V.ref kd), a2, a3] : L2.St).set 2 (some (.int ((0 : Int) + (i : Nat))))).set 3 (some (V.ref rq))) (ta := tVar 3) (H := H3) (f := isRow) (ok := okRow) (fun H4 s4 => ev_var rfl) (at_kn (Kn.same s12) _ px) hor hrow))
          cases hkn : decide ((ka, kb) ∈ kn) with
          | true =>
            rw [hkn] at tk
            exact s_yes (et_or (a := false) (b := true) (et_ev fun H4 _ => t1 H4) fun _ => et_or (a := false) (b := true) t2 fun _ => tk) fun H4 s4 => ⟨_, rfl, stop (by rw [ekey, hkn]; simp) _ (s12.trans s4)⟩
          | false =>
            rw [hkn] at tk
            refine s_no (et_or (a := false) (b := false) (et_ev fun H4 _ => t1 H4) fun _ => et_or (a := false) (b := false) t2 fun _ => tk) fun H4 s4 => ?_
            have hk4 := s4 _ _ hk2
            have hrq4 := sqt_same s4 hrq
            refine ⟨_, rfl, ev_ixT rfl hrq4 (at3 (n := 0) rfl) _ (ev_ixT rfl hrq4 (at3 (n := 1) rfl) _ ⟨(by decide : 2 ≤ sizeLine), fun t4 ht4 => ?_⟩)⟩
            have s5 := same_new (o := .tup [.str ka, .str kb]) ht4
            have hk5 := s5 _ _ hk4
            have hnk : kd ≠ t4 := fun z => by rw [z, ht4] at hk4; cases hk4
            refine ⟨kd, _, rfl, DPut.t (k := [Sum.inr ka, Sum.inr kb]) hk5 upd_same (by unfold knd; rw [List.length_map]; exact Nat.lt_of_le_of_lt hk30 (by decide)), ?_⟩
            rw [knd_put (of_decide_eq_false hkn)]
            refine ⟨same_put ((s12.trans s4).trans s5) hkd, kn ++ [(ka, kb)], _, _, rfl, upd_same, by simp; omega, by simp; omega, ?_⟩
            rw [hgo, hdrop]
            conv => lhs; unfold wrongGo
            rw [if_neg (by rw [hrow, ekey, hkn, decide_eq_false h30]; exact Bool.false_ne_true), ekey]
    · obtain ⟨s1, kn, a2, a3, rfl, hk, hk30, hki, hgo⟩ := p
      have e : wrongGo 0 [] rs = none := by
        rw [hgo, hl, List.drop_eq_nil_of_le (Nat.le_refl _)]
        rfl
      rw [e] at k
      exact k _ s1
def spScr (K : PySem.W.Frag) : Sp := spBo K okScr isScript
theorem ok_is_script (T : Env K mg) : FnOk P w K mg base CX0 8 (d_is_script.loc K) T.fd_is_script ["value"] (spBo K okScr isScript) := by
  have G_wrong_row : FnOk P w K mg base (L2.CX P w) 7 _ _ _ _ := ok_wrong_row T
  refine T.F_is_script.ok sc_is_script (fun vs H Q E h => ?_) (fun cdv A outer s H vs Q E hr h => ?_)
  · obtain ⟨N, p, v, rfl, _⟩ := h
    rfl
  · have nd := sc_is_script.nd
    have hu := hu_of hr
    obtain ⟨N, p, v, rfl, hp, ho, k⟩ := h
    refine ⟨_, PSs.nox (pss_one (ps_ret (pe_and (pe_callB (isiK (K := K)) (by rfl) T.b_isinstance (by decide +kernel) (pa_cons (pv 0) (pa_cons (pe_bltnT (n := "tuple") (by rfl) T.b_tuple (by decide +kernel)) pa_nil))) (pe_one (pe_cmpR op_isN (pe_call G_wrong_row (hr.mono (by decide)) (by rfl) T.g_wrong_row T.F_wrong_row.kp T.bi_wrong_row .nil passL (pa_cons (pv 0) pa_nil)) pe_non (nomark _)))))), ?_⟩
    have ht := at_ty T.kt p hp
    have hk := kit_tup T.kt p
    cases hs : isTup p with
    | false =>
      rw [hs] at hk
      rw [(notTup hs).2.2] at k
      exact ev_isi (ev_var rfl) ht hk _ ⟨false, rfl, k _ (Same.refl _)⟩
    | true =>
      rw [hs] at hk
      obtain ⟨l, rfl⟩ := tup_of hs
      refine ev_isi (ev_var rfl) ht hk _ ⟨true, rfl, _, rfl, N, .tup l, v, rfl, hp, ho, (fun z => by cases z), fun rs z H' s' => ⟨rfl, ?_⟩⟩
      cases z
      have e : isScript (.tup l) = decide (wrV (wrongGo 0 [] l) = .non) := by
        show (wrongGo 0 [] l).isNone = _
        cases wrongGo 0 [] l with
        | none => rfl
        | some i => rfl
      rw [e] at k
      exact k _ s'
end
end W53

set_option Elab.async false
set_option linter.all false
set_option maxRecDepth 100000
set_option maxHeartbeats 1000000
namespace W53
open PySem PySem.Spec PyProof.Rows L2 WXG WEv WRd WLf WEn WZs WRu WSt StX WDc WPv WEb WXO WXE
abbrev BS (K : PySem.W.Frag) : Addr := He.ga K "BadSetting"
abbrev BC (K : PySem.W.Frag) : Addr := He.ga K "BadChild"
def ReqRow (s : Str) (b : Bool) : HP V := fun v H => ∃ p, v = .ref p ∧ H p = some (.tup [.str s, .bl b])
theorem mk_req {s : Str} {b : Bool} : MnK (ReqRow s b) := fun _ _ _ k ⟨p, e, h⟩ => ⟨p, e, k _ _ h (fun _ z => nomatch z) (fun _ z => nomatch z)⟩
def Rows (rows : List (Str × Bool)) : List (HP V) := rows.map fun r => ReqRow r.1 r.2
theorem mk_rows {rows : List (Str × Bool)} : ∀ P ∈ Rows rows, MnK P := fun P hP => by
  obtain ⟨r, _, rfl⟩ := List.mem_map.mp hP
  exact mk_req
/-- the first setting that is not valid -/
def firstBad : List (Str × Bool) → Option Str
  | [] => none
  | r :: rs => if r.2 = true then firstBad rs else some r.1
def spRequire (K : PySem.W.Frag) : Sp := fun vs H Q E => ∃ l rows xs, vs = [.ref l] ∧ H l = some (.lst xs) ∧ Fa (Rows rows) xs H ∧ (firstBad rows = none → Q .non H) ∧ ∀ f, firstBad rows = some f → Err H (BS K) "setting" (.str f) E
section
variable {P : Program} {w : World} {K : PySem.W.Frag} {mg : Str → Option Value} {base : Heap}
theorem ok_BadSetting (T : Env K mg) : FnOk P w K mg base CX0 1 (d_BadSetting__init.loc K) T.fd_BadSetting__init ["self", "setting"] (spI1 (BS K) "setting") := by
  refine T.F_BadSetting__init.ok sc_BadSetting__init (fun vs H Q E h => ?_) (fun cdv A outer s H vs Q E hr h => ?_)
  · obtain ⟨a, y, rfl, _⟩ := h
    rfl
  · have nd := sc_BadSetting__init.nd
    obtain ⟨a, y, rfl, ha, k⟩ := h
    refine ⟨_, PSs.nox (pss_cons (ps_expr (pe_xini (by rfl) T.g_PlanError T.r_PlanError T.s_PlanError T.v_PlanError (by decide +kernel) (pa_cons (pv 0) (pa_cons pe_str pa_nil))))
 (pss_one (ps_xst (pv 0) (pv 1)))), ?_⟩
    exact ⟨_, rfl, a, _, [_], _, _, _, rfl, (by decide : 1 ≤ 1000), T.x_BadSetting, ha, _, rfl, _, rfl, a, _, _, _, _, _, rfl, T.x_BadSetting, T.n_BadSetting, ha, k⟩
theorem ok_BadChild (T : Env K mg) : FnOk P w K mg base CX0 1 (d_BadChild__init.loc K) T.fd_BadChild__init ["self", "index"] (spI1 (BC K) "index") := by
  refine T.F_BadChild__init.ok sc_BadChild__init (fun vs H Q E h => ?_) (fun cdv A outer s H vs Q E hr h => ?_)
  · obtain ⟨a, y, rfl, _⟩ := h
    rfl
  · have nd := sc_BadChild__init.nd
    obtain ⟨a, y, rfl, ha, k⟩ := h
    refine ⟨_, PSs.nox (pss_cons (ps_expr (pe_xini (by rfl) T.g_PlanError T.r_PlanError T.s_PlanError T.v_PlanError (by decide +kernel) (pa_cons (pv 0) (pa_cons pe_str pa_nil))))
 (pss_one (ps_xst (pv 0) (pv 1)))), ?_⟩
    exact ⟨_, rfl, a, _, [_], _, _, _, rfl, (by decide : 1 ≤ 1000), T.x_BadChild, ha, _, rfl, _, rfl, a, _, _, _, _, _, rfl, T.x_BadChild, T.n_BadChild, ha, k⟩
theorem rows_get {rows : List (Str × Bool)} {xs : List V} {H : Hp} {i : Nat} {x : V} (h : Fa (Rows rows) xs H) (hx : xs[i]? = some x) : ∃ r, rows[i]? = some r ∧ ReqRow r.1 r.2 x H := by
  have hl := h.len
  unfold Rows at hl
  rw [List.length_map] at hl
  have hi : i < rows.length := by have := (List.getElem?_eq_some_iff.mp hx).1; omega
  obtain ⟨x', e, px⟩ := h.get (n := i) (P := ReqRow rows[i].1 rows[i].2) (by unfold Rows; rw [List.getElem?_map, List.getElem?_eq_getElem hi]; rfl)
  rw [hx] at e
  cases e
  exact ⟨_, List.getElem?_eq_getElem hi, px⟩
theorem ok_require (T : Env K mg) : FnOk P w K mg base (L2.CX P w) 3 (d_require.loc K) T.fd_require ["rows"] (spRequire K) := by
  have G_BadSetting__init : FnOk P w K mg base CX0 1 _ _ _ _ := ok_BadSetting T
  refine T.F_require.ok sc_require (fun vs H Q E h => ?_) (fun cdv A outer s H vs Q E hr h => ?_)
  · obtain ⟨l, rows, xs, rfl, _⟩ := h
    rfl
  · have nd := sc_require.nd
    have hu := hu_of hr
    obtain ⟨l, rows, xs, rfl, hl, fa, k, ke⟩ := h
    refine ⟨_, (pss_one (ps_for (passes_of rfl) rfl (pi_list (pv 0)) (pg_tup rfl (pgs_cons (pg_name (i := 1) nd rfl (Or.inl rfl)) (pgs_cons (pg_name (i := 2) nd rfl (Or.inl rfl)) pgs_nil)))
  (pss_one (ps_if (pt_not (pt_val (pv 2)))
  (pss_one (ps_raise rfl (takes_of (E := E) rfl rfl rfl rfl) (pmk_oex T.o_BadSetting T.i_BadSetting T.t_BadSetting G_BadSetting__init (hr.mono (by decide)) T.bi_BadSetting__init .nil pass0 (by rfl) T.g_BadSetting (pa_cons (pv 1) pa_nil))))
  pss_nil)))), ?_⟩
    have hln := fa.len
    unfold Rows at hln
    rw [List.length_map] at hln
    refine ⟨_, rfl, l, rfl, ⟨xs, .of hl⟩, ?_⟩
    refine for_it (walk_list (xs := xs)) (fun i σ H' => H' = H ∧ firstBad rows = firstBad (rows.drop i) ∧ ∃ a1 a2, σ = [some (.ref l), a1, a2]) ⟨rfl, rfl, _, _, rfl⟩ (fun i σ H' _ q => by rw [q.1]; exact .of hl) (fun i x σ H1 H2 hi q y => ?_) (fun σ H1 q => ?_)
    · obtain ⟨rfl, hd, a1, a2, rfl⟩ := q
      obtain ⟨rfl, ex⟩ := y
      obtain ⟨⟨f, b⟩, hr', p, rfl, hp⟩ := rows_get fa ex
      refine ⟨p, _, rfl, .of hp, rfl, _, _, rfl, _, _, rfl, rfl, ?_⟩
      have hdrop : rows.drop i = (f, b) :: rows.drop (i + 1) := (List.getElem_cons_drop (h := (List.getElem?_eq_some_iff.mp hr').1)).symm.trans (by rw [(List.getElem?_eq_some_iff.mp hr').2])
      rw [hdrop] at hd
      cases b with
      | true => exact st_nn (evb_not (b := true) (evb_B (ev_var rfl))) ⟨rfl, hd, _, _, rfl⟩
      | false => exact st_ya (evb_not (b := false) (evb_B (ev_var rfl))) (raise_of (E := E) (p_var rfl) (ke f hd))
    · obtain ⟨rfl, hd, _⟩ := q
      rw [List.drop_eq_nil_of_le (by omega)] at hd
      exact k hd
end
def InitEnd (x : Addr) (H : Hp) (o : HO) (H' : Hp) : Prop := (∀ b u, H b = some u → b ≠ x → H' b = some u) ∧ H' x = some o
def restarts : List V := [.str "permanent", .str "transient", .str "temporary"]
def strategies : List V := [.str "one", .str "rest", .str "all"]
def wRows (p1 p2 p3 p4 p5 p6 p7 : Pv) : List (Str × Bool) := [("name", isName p1), ("restart", isOneOf restarts p2), ("opening", isBetween 0 1000000000 p3), ("closing", isBetween 0 1000000000 p4), ("deadline", isDeadline p5), ("refused", isBetween 0 100 p6), ("script", isScript p7)]
def sRows (p1 p2 p3 p4 p5 p6 : Pv) : List (Str × Bool) := [("name", isName p1), ("restart", isOneOf restarts p2), ("strategy", isOneOf strategies p3), ("most", isBetween 0 20 p4), ("span", isBetween 1 1000000000 p5), ("deadline", isDeadline p6)]
def spWInit (K : PySem.W.Frag) : Sp := fun vs H Q E => ∃ N x dx p1 p2 p3 p4 p5 p6 p7 v1 v2 v3 v4 v5 v6 v7, vs = [.ref x, v1, v2, v3, v4, v5, v6, v7] ∧ AtL K N [p1, p2, p3, p4, p5, p6, p7] [v1, v2, v3, v4, v5, v6, v7] H ∧ okScr p7 = true ∧ H x = some (.ins (CW K) dx []) ∧
  (firstBad (wRows p1 p2 p3 p4 p5 p6 p7) = none → ∀ q H', InitEnd x H (WIns K dx q) H' → H' q = some (.tup [v1, v2, v3, v4, v5, v6, v7]) → Q .non H') ∧ ∀ f, firstBad (wRows p1 p2 p3 p4 p5 p6 p7) = some f → Err H (BS K) "setting" (.str f) E
section
variable {K : PySem.W.Frag} {σ : L2.St} {H0 H : Hp} {te : TE} {D : Ends} {l : Addr} {xs : List V}
theorem g_req {s : Str} {b : Bool} (h : G te σ H (Is (.bl b))) : G (tTup (tCons (tC (.str s)) (tCons te tNil))) σ H (ReqRow s b) := ⟨fun H1 e Q q => h.ev H1 e _ fun x H2 s2 px => by
  cases px
  exact ⟨(by decide : 2 ≤ sizeLine), fun p hp => q _ _ (s2.trans (same_new hp)) ⟨p, rfl, upd_same⟩⟩, fun _ _ _ k h => mk_req _ _ _ (Kp.same k) h⟩
theorem mn_req {s : Str} {b : Bool} : Mn (ReqRow s b) := fun _ _ _ k h => mk_req _ _ _ (Kp.same k) h
/-- rows.append((.., b)), rows a new list -/
theorem st_appR {i : Nat} {s : Str} {b : Bool} {rows : List (Str × Bool)} (s0 : Same H0 H) (hn : H0 l = none) (h0 : σ[i]? = some (some (.ref l))) (hl : H l = some (.lst xs)) (hx : Fa (Rows rows) xs H) (len : rows.length ≤ 20) (h : G te σ H (ReqRow s b))
    (k : ∀ H1 ys, Same H0 H1 → H1 l = some (.lst ys) → Fa (Rows (rows ++ [(s, b)])) ys H1 → D.nx σ H1) : tDrop (tBM K "list" rAppend (tVar i) (tCons te tNil)) D σ H := by
  refine ⟨_, h0, .inl ⟨rfl, _, .of hl⟩, h.ev H (Same.refl _) _ fun y H2 s2 py => ?_⟩
  have hln := hx.len
  unfold Rows at hln
  rw [List.length_map] at hln
  refine ⟨l, xs, y, rfl, rfl, s2 _ _ hl, Nat.lt_of_le_of_lt (show xs.length ≤ 20 by omega) (by decide), ?_⟩
  have kp : Kp H2 (upd H2 l (.lst (xs ++ [y]))) := Kp.lst (s2 _ _ hl)
  refine k _ (xs ++ [y]) (same_put (s0.trans s2) hn) upd_same ?_
  unfold Rows
  rw [List.map_append]
  exact (fa_kp mk_rows ((Kp.same s2).trans kp) hx).app ⟨mk_req _ _ _ kp py, trivial⟩
/-- rows = [(.., b), (.., c)] -/
theorem st_rows {i : Nat} {ta tb : TE} {s s' : Str} {b c : Bool} (ha : G ta σ H (ReqRow s b)) (hb : G tb σ H (ReqRow s' c)) (k : ∀ l ys H1, Same H H1 → H l = none → H1 l = some (.lst ys) → Fa (Rows [(s, b), (s', c)]) ys H1 → D.nx (σ.set i (some (.ref l))) H1) :
    tAsg (tLst (tCons ta (tCons tb tNil))) (gName i) D σ H := by
  refine ha.ev H (Same.refl _) _ fun v1 H1 s1 p1 => hb.ev H1 s1 _ fun v2 H2 s2 p2 => ⟨(by decide : 2 ≤ sizeLine), fun l hl => ?_⟩
  have s12 := s1.trans s2
  exact k l _ _ (s12.trans (same_new hl)) (Same.free s12 hl) upd_same ⟨mn_req _ _ _ (s2.trans (same_new hl)) p1, mn_req _ _ _ (same_new hl) p2, trivial⟩
theorem g_oneF {N : Addr → Prop} {E : XK} {p : Pv} {x : V} {a : Addr} {ws : List V} (ha : ∀ H1, Same H H1 → Ev te σ H1 x) (px : At K N p x H) (hw : ∀ H, SqT K H a ws) (hf : ws.all flatV = true) : G (tCall (spOneOf K) [] E (tCons te (tCons (tC (.ref a)) tNil))) σ H (Is (.bl (isOneOf ws p))) :=
  g_callL (vs := [x, .ref a]) (fun H1 s => evl_cons (ha H1 s) (evl_cons ev_c evl_nil)) (fun H1 s Q q => ⟨N, p, x, a, ws, rfl, at_kn (Kn.same s) _ px, hw _, hf, q _ _ (Same.refl _) rfl⟩) mn_i
end
section
variable {P : Program} {w : World} {K : PySem.W.Frag} {mg : Str → Option Value} {base : Heap}
theorem ok_winit (T : Env K mg) : FnOk P w K mg base (L2.CX P w) 9 (d_WorkerPlan__init.loc K) T.fd_WorkerPlan__init ["self", "name", "restart", "opening", "closing", "deadline", "refused", "script"] (spWInit K) := by
  have G_is_name : FnOk P w K mg base CX0 2 _ _ _ _ := ok_is_name T
  have G_is_one_of : FnOk P w K mg base CX0 1 _ _ _ _ := ok_is_one_of T
  have G_is_between : FnOk P w K mg base CX0 1 _ _ _ _ := ok_is_between T
  have G_is_deadline : FnOk P w K mg base CX0 2 _ _ _ _ := ok_is_deadline T
  have G_is_script : FnOk P w K mg base CX0 8 _ _ _ _ := ok_is_script T
  have G_require : FnOk P w K mg base (L2.CX P w) 3 _ _ _ _ := ok_require T
  refine T.F_WorkerPlan__init.ok sc_WorkerPlan__init (fun vs H Q E h => ?_) (fun cdv A outer s H vs Q E hr h => ?_)
  · obtain ⟨N, x, dx, p1, p2, p3, p4, p5, p6, p7, v1, v2, v3, v4, v5, v6, v7, rfl, _⟩ := h
    rfl
  · have nd := sc_WorkerPlan__init.nd
    have hu := hu_of hr
    obtain ⟨N, x, dx, p1, p2, p3, p4, p5, p6, p7, v1, v2, v3, v4, v5, v6, v7, rfl, hat, hos, hx, k, ke⟩ := h
    obtain ⟨_, _, e, a1, _, _, e', a2, _, _, e'', a3, _, _, e3, a4, _, _, e4, a5, _, _, e5, a6, _, _, e6, a7, _⟩ := hat
    cases e; cases e'; cases e''; cases e3; cases e4; cases e5; cases e6
    refine ⟨_, (pss_cons (ps_set (i := 8) nd rfl (Or.inl rfl) (pe_lst (pa_cons (pe_tup (pa_cons pe_str (pa_cons (pe_call G_is_name (hr.mono (by decide)) (by rfl) T.g_is_name T.F_is_name.kp T.bi_is_name .nil pass0 (pa_cons (pv 1) pa_nil)) pa_nil))) (pa_cons (pe_tup (pa_cons pe_str (pa_cons (pe_call G_is_one_of (hr.mono (by decide)) (by rfl) T.g_is_one_of T.F_is_one_of.kp T.bi_is_one_of .nil pass0 (pa_cons (pv 2) (pa_cons (pe_globR (by rfl) T.g_RESTARTS) pa_nil))) pa_nil))) pa_nil))))
 (pss_cons (ps_expr (pe_bm PySem.F.plainAttrs_list PySem.F.slot_list_append PySem.F.type_list_append mt_append (pv 8) (pa_cons (pe_tup (pa_cons pe_str (pa_cons (pe_call G_is_between (hr.mono (by decide)) (by rfl) T.g_is_between T.F_is_between.kp T.bi_is_between .nil pass0 (pa_cons (pv 3) (pa_cons pe_int (pa_cons (C8.pe_gc (by rfl) T.c_MOST_WAIT) pa_nil)))) pa_nil))) pa_nil)))
 (pss_cons (ps_expr (pe_bm PySem.F.plainAttrs_list PySem.F.slot_list_append PySem.F.type_list_append mt_append (pv 8) (pa_cons (pe_tup (pa_cons pe_str (pa_cons (pe_call G_is_between (hr.mono (by decide)) (by rfl) T.g_is_between T.F_is_between.kp T.bi_is_between .nil pass0 (pa_cons (pv 4) (pa_cons pe_int (pa_cons (C8.pe_gc (by rfl) T.c_MOST_WAIT) pa_nil)))) pa_nil))) pa_nil)))
 (pss_cons (ps_expr (pe_bm PySem.F.plainAttrs_list PySem.F.slot_list_append PySem.F.type_list_append mt_append (pv 8) (pa_cons (pe_tup (pa_cons pe_str (pa_cons (pe_call G_is_deadline (hr.mono (by decide)) (by rfl) T.g_is_deadline T.F_is_deadline.kp T.bi_is_deadline .nil pass0 (pa_cons (pv 5) pa_nil)) pa_nil))) pa_nil)))
 (pss_cons (ps_expr (pe_bm PySem.F.plainAttrs_list PySem.F.slot_list_append PySem.F.type_list_append mt_append (pv 8) (pa_cons (pe_tup (pa_cons pe_str (pa_cons (pe_call G_is_between (hr.mono (by decide)) (by rfl) T.g_is_between T.F_is_between.kp T.bi_is_between .nil pass0 (pa_cons (pv 6) (pa_cons pe_int (pa_cons pe_int pa_nil)))) pa_nil))) pa_nil)))
 (pss_cons (ps_expr (pe_bm PySem.F.plainAttrs_list PySem.F.slot_list_append PySem.F.type_list_append mt_append (pv 8) (pa_cons (pe_tup (pa_cons pe_str (pa_cons (pe_call G_is_script (hr.mono (by decide)) (by rfl) T.g_is_script T.F_is_script.kp T.bi_is_script .nil pass0 (pa_cons (pv 7) pa_nil)) pa_nil))) pa_nil)))
 (pss_cons (ps_expr (pe_call G_require (hr.mono (by decide)) (by rfl) T.g_require T.F_require.kp T.bi_require .nil (WXO.takes_e (E := E) rfl rfl rfl rfl) (pa_cons (pv 8) pa_nil)))
 (pss_cons (ps_fld (pv 0) (pe_tup (pa_cons (pv 1) (pa_cons (pv 2) (pa_cons (pv 3) (pa_cons (pv 4) (pa_cons (pv 5) (pa_cons (pv 6) (pa_cons (pv 7) pa_nil)))))))) rfl)
 (pss_cons (ps_fld (pv 0) pe_int rfl)
 (pss_one (ps_fld (pv 0) pe_int rfl))))))))))), ?_⟩
    refine st_rows (g_req (s := "name") (g_callB (fun H1 s => ev_var rfl) a1)) (g_req (s := "restart") (g_oneF (fun H1 s => ev_var rfl) a2 T.q_RESTARTS rfl)) fun l ys H3 sn hn el rq => ?_
    dsimp only
    show tSeq _ _ _ _ _
    refine st_appR sn hn rfl el rq (Nat.le_of_ble_eq_true rfl) (g_req (s := "opening") (g_betF (fun H1 s => ev_var rfl) (at_kn (Kn.same sn) _ a3) rfl)) fun H4 xs4 s4 el4 rq4 => ?_
    refine st_appR s4 hn rfl el4 rq4 (Nat.le_of_ble_eq_true rfl) (g_req (s := "closing") (g_betF (fun H1 s => ev_var rfl) (at_kn (Kn.same s4) _ a4) rfl)) fun H5 xs5 s5 el5 rq5 => ?_
    refine st_appR s5 hn rfl el5 rq5 (Nat.le_of_ble_eq_true rfl) (g_req (s := "deadline") (g_callB (fun H1 s => ev_var rfl) (at_kn (Kn.same s5) _ a5))) fun H6 xs6 s6 el6 rq6 => ?_
    refine st_appR s6 hn rfl el6 rq6 (Nat.le_of_ble_eq_true rfl) (g_req (s := "refused") (g_betF (fun H1 s => ev_var rfl) (at_kn (Kn.same s6) _ a6) rfl)) fun H7 xs7 s7 el7 rq7 => ?_
    refine st_appR s7 hn rfl el7 rq7 (Nat.le_of_ble_eq_true rfl) (g_req (s := "script") (g_callBo (fun H1 s => ev_var rfl) (at_kn (Kn.same s7) _ a7) hos)) fun H8 xs8 s8 el8 rq8 => ?_
    refine ⟨_, rfl, l, wRows p1 p2 p3 p4 p5 p6 p7, xs8, rfl, el8, rq8, fun hb => ?_, fun f hf => (ke f hf).mono s8⟩
    refine ⟨_, rfl, _, rfl, _, rfl, _, rfl, _, rfl, _, rfl, _, rfl, (by decide : 7 ≤ sizeLine), fun q hq => ?_⟩
    have hx8 := s8 _ _ hx
    have xq : x ≠ q := fun z => by rw [← z, hx8] at hq; cases hq
    have sq : Same H (upd H8 q (.tup [v1, v2, v3, v4, v5, v6, v7])) := s8.trans (same_new hq)
    have eq8 : upd H8 q (.tup [v1, v2, v3, v4, v5, v6, v7]) q = some (.tup [v1, v2, v3, v4, v5, v6, v7]) := upd_same
    refine ⟨_, rfl, x, CW K, dx, [], rfl, sq _ _ hx, T.dc_WorkerPlan.cls, T.n_WorkerPlan_own_settings, (by decide : 0 < 1000), ?_⟩
    refine ⟨_, rfl, x, CW K, dx, [("own_settings", .ref q)], rfl, upd_same, T.dc_WorkerPlan.cls, T.n_WorkerPlan_own_count, (by decide : 1 < 1000), ?_⟩
    refine ⟨_, rfl, x, CW K, dx, [("own_settings", .ref q), ("own_count", .int 1)], rfl, upd_same, T.dc_WorkerPlan.cls, T.n_WorkerPlan_own_depth, (by decide : 2 < 1000), ?_⟩
    refine k hb q _ ⟨fun b u hb ne => ?_, upd_same⟩ ?_
    · rw [upd_ne ne, upd_ne ne, upd_ne ne]
      exact sq _ _ hb
    · rw [upd_ne (Ne.symm xq), upd_ne (Ne.symm xq), upd_ne (Ne.symm xq)]
      exact eq8
end
end W53

set_option Elab.async false
set_option linter.all false
set_option maxRecDepth 100000
set_option maxHeartbeats 2000000
/-! def f(a, .., *v, k = .., ..) called with no keyword: the defaults are looked up -/
namespace WKd
open PySem PySem.Spec PyProof.Rows L2 StX WSt
def KwTo {α : Type} (D : Addr) : List (Str × Value) → Sem α → Sem α → Prop
  | [], t, r => t = r
  | q :: l, t, r => ∃ (β γ : Type) (k1 : Option Value → Sem β) (k2 : β → Sem γ) (k3 : γ → Sem α) (a : β), t = ((nsGet D q.1 >>= k1) >>= k2) >>= k3 ∧ k1 (some q.2) = pure a ∧ KwTo D l (k2 a >>= k3) r
theorem KwTo.run {α : Type} {K : PySem.W.Frag} {M : Model} {A : Around} {D : Addr} {Q : α → Shared → Prop} {E : Value → Shared → Prop} {s : Shared} (X : K.In s.heap) : ∀ {l : List (Str × Value)} {t r : Sem α}, (∀ q ∈ l, PySem.W.nsIn K D q.1 = some (some q.2)) → KwTo D l t r → wpAny M A r Q E s → wpAny M A t Q E s
  | [], t, r, _, e, h => by rw [show t = r from e]; exact h
  | q :: l, t, r, hl, e, h => by
    obtain ⟨β, γ, k1, k2, k3, a, e1, e2, e3⟩ := e
    have l1 : PySem.W.Looks M s.heap (nsGet D q.1 >>= k1) a := (PySem.W.looks_nsIn X (hl q (List.mem_cons_self ..))).andThen (PySem.W.Looks.of_pure e2)
    rw [e1, bind_assoc]
    exact wpAny_bind (l1.here (KwTo.run X (fun p hp => hl p (List.mem_cons_of_mem _ hp)) e3 h))
section
variable {CX : CXT} {P : Program} {w : World} {K : PySem.W.Frag} {mg : Str → Option Value} {base : Heap} {k n : Nat} {f D : Addr} {name qual : Str} {params : Arguments} {body : List Stmt} {scope : Scope} {dV doc pm cdv ct oc : Value} {an od : Option Addr}
  {osl : Array (Option Value)} {N ps : List Str} {sp : Sp} {ms : List (Str × V)}
theorem fn_starD {pv : Str} (lk : K.lookup f = some ⟨oc, od, .func (PySem.W.fnOf name qual params body scope dV (.ref D) doc pm an cdv ct), osl⟩) (hcd : PySem.W.codeIn K cdv qual = true) (S : FnScope N (ps ++ ms.map (·.1) ++ [pv]) scope) (hCX : CXUp CX)
    (hK : ∀ q ∈ ms, ∃ u, PySem.W.nsIn K D q.1 = some (some u) ∧ RelV q.2 u)
    (hb : ∀ us rest mv : List Value, us.length = ps.length → mv.length = (ms.map (·.1)).length → KwTo D ((ms.map (·.1)).zip mv) (bindArgs (PySem.W.fnOf name qual params body scope dV (.ref D) doc pm an cdv ct) ⟨us ++ rest, []⟩) (newTuple rest >>= fun t => pure ((ps ++ ms.map (·.1)).zip (us ++ mv) ++ [(pv, t)])))
    (hbody : ∀ (A : Around) (outer : List Env) (s : Shared) (H : Hp) (vs : List V) (Q : VK) (E : XK), Room k (A.deeper (envOfC qual scope s.heap.objs.size f cdv)) → sp vs H Q E →
      ∃ t, PSs (cxOf CX P w K mg base N qual scope f cdv A outer s H E) body t ∧ t { nx := fun _ H' => Q .non H', rt := Q } (start N vs) H) :
    FnK P w K mg base CX (k + 1) f [] (fun vs zs H Q E => ∃ as rest, vs = as ++ rest ∧ as.length = ps.length ∧ rest.length ≤ sizeLine ∧ ∀ p, H p = Option.none → sp (as ++ ms.map (·.2) ++ [V.ref p]) (upd H p (.tup rest)) Q E) := by
  intro A outer s H us ws vs zs Q E hr e0 r rz hlz hsp
  obtain ⟨as, rest, rfl, hl, hz, hq⟩ := hsp
  obtain ⟨u1, u2, rfl, r1, r2⟩ := vals_split r
  obtain ⟨mv, hml, rmv, hmv⟩ := kwd_vals hK
  have KX : K.In s.heap := e0.mod.kin.keeps fun b o h => (e0.bs b o h).1
  have hn : H s.heap.objs.size = Option.none := e0.hok.fresh (Nat.le_refl _)
  have hl1 : u1.length = ps.length := by rw [← r1.length]; exact hl
  have hl2 : u2.length ≤ sizeLine := by rw [← r2.length]; exact hz
  have hl3 : mv.length = (ms.map (·.1)).length := by rw [hml, List.length_map]
  refine run_bnd (ps := ps ++ ms.map (·.1) ++ [pv]) lk hcd S hr e0 (G := fun xs H2 => ∃ p, H p = Option.none ∧ xs = as ++ ms.map (·.2) ++ [V.ref p] ∧ H2 = upd H p (.tup rest)) (fun A' Ex Q' h => ?_) fun s2 H2 xs ⟨p, hp, ex, eH⟩ hr' => ?_
  · refine KwTo.run KX hmv (hb u1 u2 mv hl1 hl3) ?_
    refine wpAny_bind (wpAny_newTuple (wpAny_pure ?_) hl2)
    have new : ObjOk P w (upd H s.heap.objs.size (.tup rest)) (s.heap.push ({ cls := .type "tuple", data := .seq u2.toArray } : Obj)) s.heap.objs.size (.tup rest) := ⟨hz, u2, r2, ⟨_, Heap.get?_push_size _ rfl, rfl, _, rfl⟩⟩
    have un := un_laid (fs := frs outer) (s := s) (o := ({ cls := .type "tuple", data := .seq u2.toArray } : Obj)) (u := .tup rest) hn
    have z := h _ _ (as ++ ms.map (·.2) ++ [V.ref s.heap.objs.size]) (u1 ++ mv ++ [Value.ref s.heap.objs.size]) (env0_laid e0 new) un rfl (fun e s' => hCX outer s H _ _ E e s' un (fun b o q => Heap.get?_push_of_some _ q) rfl) ((r1.append rmv).append (.cons rfl .nil))
      (by simp only [List.length_append, List.length_cons, List.length_nil, hl, List.length_map]) ⟨_, hn, rfl, rfl⟩
    rw [List.zip_append (by rw [List.length_append, List.length_append, hl1, hl3])] at z
    exact z
  · subst ex eH
    exact hbody A outer s2 _ _ Q E hr' (hq p hp)
end
end WKd

set_option Elab.async false
set_option linter.all false
set_option maxRecDepth 100000
set_option maxHeartbeats 1000000
namespace W53
open PySem PySem.Spec PyProof.Rows L2 WXG WEv WRd WLf WEn WZs WRu WSt StX WDc WPv WEb WXO WXE WKd
/-- a plan's plans and levels -/
def kidOf : Pv → Option (Nat × Nat)
  | .wrk _ => some (1, 1)
  | .sup n d => some (n, d)
  | _ => none
def up (d h : Nat) : Nat := if d < h + 1 then h + 1 else d
/-- the first wrong child, its index from i on; c, d: plans and levels so far -/
def badChild : Nat → Nat → Nat → List Pv → Option Nat
  | _, _, _, [] => none
  | i, c, d, k :: ks => match kidOf k with
    | none => some i
    | some (n, h) => if 12 ≤ i then some i else if 200 < c + n ∨ 20 < up d h then some i else badChild (i + 1) (c + n) (up d h) ks
theorem badChild_cons (i c d : Nat) (k : Pv) (ks : List Pv) : badChild i c d (k :: ks) = (match kidOf k with
    | none => some i
    | some (n, h) => if 12 ≤ i then some i else if 200 < c + n ∨ 20 < up d h then some i else badChild (i + 1) (c + n) (up d h) ks) := rfl
def endCD : Nat → Nat → List Pv → Nat × Nat
  | c, d, [] => (c, d)
  | c, d, k :: ks => match kidOf k with
    | none => (c, d)
    | some (n, h) => endCD (c + n) (up d h) ks
theorem kid_at {K : PySem.W.Frag} {N : Addr → Prop} {p : Pv} {v : V} {H : Hp} {n h : Nat} (e : kidOf p = some (n, h)) (a : At K N p v H) : ∃ b C dy fs, v = .ref b ∧ H b = some (.ins C dy fs) ∧ (C = CW K ∨ C = CS K) ∧ fs.lookup ("own_count" : Str) = some (V.int n) ∧ fs.lookup ("own_depth" : Str) = some (V.int h) := by
  cases p with
  | wrk l =>
    cases e
    obtain ⟨b, dx, q, xs, rfl, h1, _⟩ := a
    exact ⟨b, _, dx, _, rfl, h1, .inl rfl, rfl, rfl⟩
  | sup n d =>
    cases e
    obtain ⟨b, dx, q, c, rfl, h1⟩ := a
    exact ⟨b, _, dx, _, rfl, h1, .inr rfl, rfl, rfl⟩
  | _ => cases e
theorem kid_plan (p : Pv) : (isWrk p || isSup p) = (kidOf p).isSome := by cases p <;> rfl
def spSInit (K : PySem.W.Frag) : Sp := fun vs H Q E => ∃ N M x dx c ks ys p1 p2 p3 p4 p5 p6 v1 v2 v3 v4 v5 v6, vs = [.ref x, v1, v2, v3, v4, v5, v6, .ref c] ∧ AtL K N [p1, p2, p3, p4, p5, p6] [v1, v2, v3, v4, v5, v6] H ∧ H c = some (.tup ys) ∧ AtL K M ks ys H ∧ H x = some (.ins (CS K) dx []) ∧
  (firstBad (sRows p1 p2 p3 p4 p5 p6) = none → (badChild 0 1 1 ks = none → ∀ q H', InitEnd x H (SIns K dx q c (endCD 1 1 ks).1 (endCD 1 1 ks).2) H' → H' q = some (.tup [v1, v2, v3, v4, v5, v6]) → Q .non H') ∧ ∀ i, badChild 0 1 1 ks = some i → Err H (BC K) "index" (.int (i : Nat)) E) ∧
  ∀ f, firstBad (sRows p1 p2 p3 p4 p5 p6) = some f → Err H (BS K) "setting" (.str f) E
section
variable {P : Program} {w : World} {K : PySem.W.Frag} {mg : Str → Option Value} {base : Heap}
theorem ok_sinit (T : Env K mg) {fa : Addr} {cdv : Value} (A : Around) (outer : List PySem.Env) (s : Shared) (H : Hp) (vs : List V) (Q : VK) (E : XK) (hr : Room 8 (A.deeper (envOfC d_SupervisorPlan__init.qual d_SupervisorPlan__init.scope s.heap.objs.size fa cdv))) (h : spSInit K vs H Q E) :
    ∃ t, PSs (cxOf (L2.CX P w) P w K mg base ["self", "name", "restart", "strategy", "most", "span", "deadline", "children", "rows", "count", "depth", "index", "child"] d_SupervisorPlan__init.qual d_SupervisorPlan__init.scope fa cdv A outer s H E) d_SupervisorPlan__init.body t ∧ t { nx := fun _ H' => Q .non H', rt := Q } (start ["self", "name", "restart", "strategy", "most", "span", "deadline", "children", "rows", "count", "depth", "index", "child"] vs) H := by
  have G_is_name : FnOk P w K mg base CX0 2 _ _ _ _ := ok_is_name T
  have G_is_one_of : FnOk P w K mg base CX0 1 _ _ _ _ := ok_is_one_of T
  have G_is_between : FnOk P w K mg base CX0 1 _ _ _ _ := ok_is_between T
  have G_is_deadline : FnOk P w K mg base CX0 2 _ _ _ _ := ok_is_deadline T
  have G_require : FnOk P w K mg base (L2.CX P w) 3 _ _ _ _ := ok_require T
  have G_BadChild__init : FnOk P w K mg base CX0 1 _ _ _ _ := ok_BadChild T
  have nd := sc_SupervisorPlan__init.nd
  have hu := hu_of hr
  obtain ⟨N, M, x, dx, c, ks, ys, p1, p2, p3, p4, p5, p6, v1, v2, v3, v4, v5, v6, rfl, hat, hc, hks, hx, kk, ke⟩ := h
  obtain ⟨_, _, e, a1, _, _, e', a2, _, _, e'', a3, _, _, e3, a4, _, _, e4, a5, _, _, e5, a6, _⟩ := hat
  cases e; cases e'; cases e''; cases e3; cases e4; cases e5
  refine ⟨_, (pss_cons (ps_set (i := 8) nd rfl (Or.inl rfl) (pe_lst (pa_cons (pe_tup (pa_cons pe_str (pa_cons (pe_call G_is_name (hr.mono (by decide)) (by rfl) T.g_is_name T.F_is_name.kp T.bi_is_name .nil pass0 (pa_cons (pv 1) pa_nil)) pa_nil))) (pa_cons (pe_tup (pa_cons pe_str (pa_cons (pe_call G_is_one_of (hr.mono (by decide)) (by rfl) T.g_is_one_of T.F_is_one_of.kp T.bi_is_one_of .nil pass0 (pa_cons (pv 2) (pa_cons (pe_globR (by rfl) T.g_RESTARTS) pa_nil))) pa_nil))) pa_nil))))
 (pss_cons (ps_expr (pe_bm PySem.F.plainAttrs_list PySem.F.slot_list_append PySem.F.type_list_append mt_append (pv 8) (pa_cons (pe_tup (pa_cons pe_str (pa_cons (pe_call G_is_one_of (hr.mono (by decide)) (by rfl) T.g_is_one_of T.F_is_one_of.kp T.bi_is_one_of .nil pass0 (pa_cons (pv 3) (pa_cons (pe_globR (by rfl) T.g_STRATEGIES) pa_nil))) pa_nil))) pa_nil)))
 (pss_cons (ps_expr (pe_bm PySem.F.plainAttrs_list PySem.F.slot_list_append PySem.F.type_list_append mt_append (pv 8) (pa_cons (pe_tup (pa_cons pe_str (pa_cons (pe_call G_is_between (hr.mono (by decide)) (by rfl) T.g_is_between T.F_is_between.kp T.bi_is_between .nil pass0 (pa_cons (pv 4) (pa_cons pe_int (pa_cons pe_int pa_nil)))) pa_nil))) pa_nil)))
 (pss_cons (ps_expr (pe_bm PySem.F.plainAttrs_list PySem.F.slot_list_append PySem.F.type_list_append mt_append (pv 8) (pa_cons (pe_tup (pa_cons pe_str (pa_cons (pe_call G_is_between (hr.mono (by decide)) (by rfl) T.g_is_between T.F_is_between.kp T.bi_is_between .nil pass0 (pa_cons (pv 5) (pa_cons pe_int (pa_cons (C8.pe_gc (by rfl) T.c_MOST_WAIT) pa_nil)))) pa_nil))) pa_nil)))
 (pss_cons (ps_expr (pe_bm PySem.F.plainAttrs_list PySem.F.slot_list_append PySem.F.type_list_append mt_append (pv 8) (pa_cons (pe_tup (pa_cons pe_str (pa_cons (pe_call G_is_deadline (hr.mono (by decide)) (by rfl) T.g_is_deadline T.F_is_deadline.kp T.bi_is_deadline .nil pass0 (pa_cons (pv 6) pa_nil)) pa_nil))) pa_nil)))
 (pss_cons (ps_expr (pe_call G_require (hr.mono (by decide)) (by rfl) T.g_require T.F_require.kp T.bi_require .nil (WXO.takes_e (E := E) rfl rfl rfl rfl) (pa_cons (pv 8) pa_nil)))
 (pss_cons (ps_asg (pe_tup (pa_cons pe_int (pa_cons pe_int pa_nil))) (pg_tup rfl (pgs_cons (pg_name (i := 9) nd rfl (Or.inl rfl)) (pgs_cons (pg_name (i := 10) nd rfl (Or.inl rfl)) pgs_nil))))
 (pss_cons (ps_for (passes_of rfl) rfl (pi_enumT (by rfl) T.b_enumerate (pa_cons (pv 7) pa_nil)) (pg_tup rfl (pgs_cons (pg_name (i := 11) nd rfl (Or.inl rfl)) (pgs_cons (pg_name (i := 12) nd rfl (Or.inl rfl)) pgs_nil)))
  (pss_cons (ps_if (PW.pt (pw_or (pt_not (pt_val (pe_callB (isiK (K := K)) (by rfl) T.b_isinstance (by decide +kernel) (pa_cons (pv 12) (pa_cons (pe_globR (by rfl) T.g_Plan) pa_nil))))) (pw_or1 (pt_cmpR op_ge (pv 11) (C8.pe_gc (by rfl) T.c_MOST_CHILDREN) (nomark _)))))
  (pss_one (ps_raise rfl (takes_of (E := E) rfl rfl rfl rfl) (pmk_oex T.o_BadChild T.i_BadChild T.t_BadChild G_BadChild__init (hr.mono (by decide)) T.bi_BadChild__init .nil pass0 (by rfl) T.g_BadChild (pa_cons (pv 11) pa_nil))))
  pss_nil)
 (pss_cons (ps_par (i := 9) (j := 10) (by rfl) nd rfl rfl (by decide) rfl rfl (pa_cons (pe_op op_add (pv 9) (pe_fld (pv 12) rfl)) (pa_cons (pe_callB (call_max2 rfl) (by rfl) T.b_max (by decide +kernel) (pa_cons (pv 10) (pa_cons (pe_op op_add (pe_fld (pv 12) rfl) pe_int) pa_nil))) pa_nil)) (by rfl))
 (pss_one (ps_if (PW.pt (pw_or (pt_cmpR op_gt (pv 9) (C8.pe_gc (by rfl) T.c_MOST_WHOLE) (nomark _)) (pw_or1 (pt_cmpR op_gt (pv 10) (C8.pe_gc (by rfl) T.c_MOST_DEPTH) (nomark _)))))
  (pss_one (ps_raise rfl (takes_of (E := E) rfl rfl rfl rfl) (pmk_oex T.o_BadChild T.i_BadChild T.t_BadChild G_BadChild__init (hr.mono (by decide)) T.bi_BadChild__init .nil pass0 (by rfl) T.g_BadChild (pa_cons (pv 11) pa_nil))))
  pss_nil)))))
 (pss_cons (ps_fld (pv 0) (pe_tup (pa_cons (pv 1) (pa_cons (pv 2) (pa_cons (pv 3) (pa_cons (pv 4) (pa_cons (pv 5) (pa_cons (pv 6) pa_nil))))))) rfl)
 (pss_cons (ps_fld (pv 0) (pv 7) rfl)
 (pss_cons (ps_fld (pv 0) (pv 9) rfl)
 (pss_one (ps_fld (pv 0) (pv 10) rfl))))))))))))), ?_⟩
  refine st_rows (g_req (s := "name") (g_callB (fun H1 s => ev_var rfl) a1)) (g_req (s := "restart") (g_oneF (fun H1 s => ev_var rfl) a2 T.q_RESTARTS rfl)) fun l ys3 H3 sn hn el rq => ?_
  dsimp only
  show tSeq _ _ _ _ _
  refine st_appR sn hn rfl el rq (Nat.le_of_ble_eq_true rfl) (g_req (s := "strategy") (g_oneF (fun H1 s => ev_var rfl) (at_kn (Kn.same sn) _ a3) T.q_STRATEGIES rfl)) fun H4 xs4 s4 el4 rq4 => ?_
  refine st_appR s4 hn rfl el4 rq4 (Nat.le_of_ble_eq_true rfl) (g_req (s := "most") (g_betF (fun H1 s => ev_var rfl) (at_kn (Kn.same s4) _ a4) rfl)) fun H5 xs5 s5 el5 rq5 => ?_
  refine st_appR s5 hn rfl el5 rq5 (Nat.le_of_ble_eq_true rfl) (g_req (s := "span") (g_betF (fun H1 s => ev_var rfl) (at_kn (Kn.same s5) _ a5) rfl)) fun H6 xs6 s6 el6 rq6 => ?_
  refine st_appR s6 hn rfl el6 rq6 (Nat.le_of_ble_eq_true rfl) (g_req (s := "deadline") (g_callB (fun H1 s => ev_var rfl) (at_kn (Kn.same s6) _ a6))) fun H8 xs8 s8 el8 rq8 => ?_
  refine ⟨_, rfl, l, sRows p1 p2 p3 p4 p5 p6, xs8, rfl, el8, rq8, fun hb => ?_, fun f hf => (ke f hf).mono s8⟩
  obtain ⟨k, kc⟩ := kk hb
  clear el rq el4 rq4 el5 rq5 el6 rq6 el8 rq8 sn s4 s5 s6
  refine ⟨(by decide : 2 ≤ sizeLine), fun p hp => ?_⟩
  refine ⟨p, _, rfl, .of upd_same, rfl, _, _, rfl, _, _, rfl, rfl, ?_⟩
  have s9 : Same H (upd H8 p (.tup [.int 1, .int 1])) := s8.trans (same_new hp)
  generalize upd H8 p (.tup [.int 1, .int 1]) = H9 at s9 ⊢
  have yl := hks.len
  refine ⟨_, rfl, c, ys, rfl, .of (s9 _ _ hc), ?_⟩
  show ∃ W, _
  refine for_it (walk_enumC (K := K) (t := true) (c := 0) (a := c) (xs := ys)) (fun i σ H' => Same H H' ∧ ∃ (a11 a12 : Option V) (cc dd : Nat), badChild 0 1 1 ks = badChild i cc dd (ks.drop i) ∧ endCD 1 1 ks = endCD cc dd (ks.drop i) ∧ σ = [some (.ref x), some v1, some v2, some v3, some v4, some v5, some v6, some (.ref c), some (.ref l), some (.int (cc : Nat)), some (.int (dd : Nat)), a11, a12])
    ⟨s9, none, none, 1, 1, rfl, rfl, rfl⟩ (fun i σ H' _ q => (show SqT K H' c ys from .of (q.1 _ _ hc))) (fun i y σ H1 H2 hi q yy => ?_) (fun σ H1 q => ?_)
  · obtain ⟨s10, a11, a12, cc, dd, hbc, hec, rfl⟩ := q
    obtain ⟨t0, u, g, rfl, ht0, rfl, eu, eg⟩ := yy
    cases eu
    obtain ⟨t, ht, px⟩ := hks.get2 eg
    have s11 := s10.trans (same_new (o := .tup [.int (0 + (i : Nat)), g]) ht0)
    refine ⟨t0, _, rfl, .of upd_same, rfl, _, _, rfl, _, _, rfl, rfl, ?_⟩
    generalize upd H1 t0 (.tup [.int (0 + (i : Nat)), g]) = H2 at s11 ⊢
    have hdrop : ks.drop i = t :: ks.drop (i + 1) := (List.getElem_cons_drop (h := (List.getElem?_eq_some_iff.mp ht).1)).symm.trans (by rw [(List.getElem?_eq_some_iff.mp ht).2])
    rw [hdrop] at hbc hec
    have px2 := at_kn (Kn.same s11) _ px
    have hty := at_ty T.kt _ px2
    have hkp := kit_plan T.kt t
    rw [kid_plan] at hkp
    have stop : badChild 0 1 1 ks = some i → ∀ {te : TE} {σ : L2.St}, σ[11]? = some (some (.int ((0 : Int) + (i : Nat)))) → tMkO (BC K) (spI1 (BC K) "index") [] (tCons (tVar 11) tNil) σ H2 E := fun e {te σ} hσ => by
      have := kc i e
      exact raise_of (E := E) (p_var hσ) (by rw [Int.zero_add]; exact this.mono s11)
    rw [badChild_cons] at hbc
    cases hk : kidOf t with
    | none =>
      rw [hk] at hbc hkp
      exact st_ya (evb_or (a := true) (b := false) (evb_not (b := false) (evb_B (ev_isiC (ev_var rfl) hty hkp))) fun z => nomatch z) (stop hbc (te := tVar 0) rfl)
    | some nh =>
      obtain ⟨n, h⟩ := nh
      rw [hk] at hbc hkp
      dsimp only at hbc
      by_cases h12 : 12 ≤ i
      · rw [if_pos h12] at hbc
        exact st_ya (evb_or (a := false) (b := true) (evb_not (b := true) (evb_B (ev_isiC (ev_var rfl) hty hkp))) fun _ => evb_cmpF (g := fun i j => decide (i ≥ j)) (ev_var rfl) ev_c (decide_eq_true (by omega))) (stop hbc (te := tVar 0) rfl)
      · rw [if_neg h12] at hbc
        refine st_nn (evb_or (a := false) (b := false) (evb_not (b := true) (evb_B (ev_isiC (ev_var rfl) hty hkp))) fun _ => evb_cmpF (g := fun i j => decide (i ≥ j)) (ev_var rfl) ev_c (decide_eq_false (by omega))) ?_
        obtain ⟨b, C, dy, fs, rfl, hb2, hC, l1, l2⟩ := kid_at hk px2
        have cl : Cls K C ∧ NoAttr K C "own_count" ∧ NoAttr K C "own_depth" := by
          rcases hC with rfl | rfl
          · exact ⟨T.dc_WorkerPlan.cls, T.n_WorkerPlan_own_count, T.n_WorkerPlan_own_depth⟩
          · exact ⟨T.dc_SupervisorPlan.cls, T.n_SupervisorPlan_own_count, T.n_SupervisorPlan_own_depth⟩
        refine ⟨_, rfl, _, rfl, b, C, dy, fs, _, rfl, hb2, cl.1, cl.2.1, l1, _, _, rfl, rfl, ?_⟩
        refine ⟨_, rfl, _, rfl, b, C, dy, fs, _, rfl, hb2, cl.1, cl.2.2, l2, _, _, rfl, rfl, _, _, rfl, ?_⟩
        refine ⟨_, _, rfl, ?_⟩
        have ec : ((cc : Nat) : Int) + (n : Nat) = ((cc + n : Nat) : Int) := by omega
        have ed : (if (h : Int) + 1 > (dd : Int) then (h : Int) + 1 else dd) = ((up dd h : Nat) : Int) := by
          unfold up
          split <;> split <;> omega
        dsimp only
        rw [ec, ed]
        by_cases h200 : 200 < cc + n
        · rw [if_pos (.inl h200)] at hbc
          exact st_ya (evb_or (a := true) (b := false) (evb_cmpF (g := fun i j => decide (i > j)) (ev_var rfl) ev_c (decide_eq_true (by omega))) fun z => nomatch z) (stop hbc (te := tVar 0) rfl)
        by_cases h20 : 20 < up dd h
        · rw [if_pos (.inr h20)] at hbc
          exact st_ya (evb_or (a := false) (b := true) (evb_cmpF (g := fun i j => decide (i > j)) (ev_var rfl) ev_c (decide_eq_false (by omega))) fun _ => evb_cmpF (g := fun i j => decide (i > j)) (ev_var rfl) ev_c (decide_eq_true (by omega))) (stop hbc (te := tVar 0) rfl)
        rw [if_neg (fun z => z.elim h200 h20)] at hbc
        refine st_nn (evb_or (a := false) (b := false) (evb_cmpF (g := fun i j => decide (i > j)) (ev_var rfl) ev_c (decide_eq_false (by omega))) fun _ => evb_cmpF (g := fun i j => decide (i > j)) (ev_var rfl) ev_c (decide_eq_false (by omega))) ?_
        refine ⟨s11, _, _, cc + n, up dd h, hbc, ?_, rfl⟩
        rw [hec]
        conv => lhs; unfold endCD
        rw [hk]
  · obtain ⟨s10, a11, a12, cc, dd, hbc, hec, rfl⟩ := q
    rw [yl, List.drop_eq_nil_of_le (Nat.le_refl _)] at hbc hec
    have k := k hbc
    rw [hec] at k
    change ∀ q H', InitEnd x H (SIns K dx q c cc dd) H' → _ at k
    refine ⟨_, rfl, _, rfl, _, rfl, _, rfl, _, rfl, _, rfl, (by decide : 6 ≤ sizeLine), fun q hq => ?_⟩
    have hx8 := s10 _ _ hx
    have xq : x ≠ q := fun z => by rw [← z, hx8] at hq; cases hq
    have sq : Same H (upd H1 q (.tup [v1, v2, v3, v4, v5, v6])) := s10.trans (same_new hq)
    have eq8 : upd H1 q (.tup [v1, v2, v3, v4, v5, v6]) q = some (.tup [v1, v2, v3, v4, v5, v6]) := upd_same
    refine ⟨_, rfl, x, CS K, dx, [], rfl, sq _ _ hx, T.dc_SupervisorPlan.cls, T.n_SupervisorPlan_own_settings, (by decide : 0 < 1000), ?_⟩
    refine ⟨_, rfl, _, rfl, x, CS K, dx, [("own_settings", .ref q)], rfl, upd_same, T.dc_SupervisorPlan.cls, T.n_SupervisorPlan_own_children, (by decide : 1 < 1000), ?_⟩
    refine ⟨_, rfl, _, rfl, x, CS K, dx, [("own_settings", .ref q), ("own_children", .ref c)], rfl, upd_same, T.dc_SupervisorPlan.cls, T.n_SupervisorPlan_own_count, (by decide : 2 < 1000), ?_⟩
    refine ⟨_, rfl, _, rfl, x, CS K, dx, [("own_settings", .ref q), ("own_children", .ref c), ("own_count", .int (cc : Nat))], rfl, upd_same, T.dc_SupervisorPlan.cls, T.n_SupervisorPlan_own_depth, (by decide : 3 < 1000), ?_⟩
    refine k q _ ⟨fun b u hb ne => ?_, upd_same⟩ ?_
    · rw [upd_ne ne, upd_ne ne, upd_ne ne, upd_ne ne]
      exact sq _ _ hb
    · rw [upd_ne (Ne.symm xq), upd_ne (Ne.symm xq), upd_ne (Ne.symm xq), upd_ne (Ne.symm xq)]
      exact eq8
/-! ### plans made by calls -/
/-- a worker's plan with these settings is made, or refused -/
def spkW (K : PySem.W.Frag) : SpK := fun vs zs H Q E => vs.length = 2 ∧ spWInit K (vs ++ zs) H Q E
theorem fk_worker (T : Env K mg) : FnK P w K mg base (L2.CX P w) 9 (He.fAd K ("WorkerPlan", some "__init__")) ["restart", "opening", "closing", "deadline", "refused", "script"] (spkW K) := by
  refine FnK.of_ok (g := fun us ws => us ++ ws) (gV := fun vs zs => vs ++ zs) (ok_winit T) ?_ fun e => e.mod.kin.keeps fun b o h => (e.bs b o h).1
  obtain ⟨oc, od, dV, kV, doc, pm, an, cdv, ct, osl, e, lk, hcd, hD, hK⟩ := T.F_WorkerPlan__init.ex
  obtain rfl : dV = .none := hD.elim (fun h => h.2) fun h => absurd rfl h.1
  refine ⟨fun s us ws X l1 l2 => ?_, fun r1 r2 => r1.append r2⟩
  rw [e]
  refine BindsTo.of_looks fun M => PySem.W.Looks.of_pure ?_
  match us, ws, l1, l2 with
  | [a, b], [c, d, e, f, g, h], _, _ => rfl
theorem F_w (T : Env K mg) : FunD K d_WorkerPlan__init.name d_WorkerPlan__init.qual d_WorkerPlan__init.params d_WorkerPlan__init.body d_WorkerPlan__init.scope [] (kwsV K kws_WorkerPlan__init) (d_WorkerPlan__init.loc K) T.fd_WorkerPlan__init := by
  obtain ⟨oc, od, dV, kV, doc, pm, an, cdv, ct, osl, e, lk, hcd, hD, _⟩ := T.F_WorkerPlan__init.ex
  have hK := T.kd_WorkerPlan__init oc od osl lk
  exact ⟨⟨oc, od, dV, kV, doc, pm, an, cdv, ct, osl, e, lk, hcd, hD, by rw [e] at hK; exact hK⟩, T.F_WorkerPlan__init.kp⟩
def spkWs (K : PySem.W.Frag) : SpK := fun vs zs H Q E => vs.length = 2 ∧ spWInit K (vs ++ [.str "permanent", .int 0, .int 0, .non, .int 0] ++ zs) H Q E
theorem fk_workerS (T : Env K mg) : FnK P w K mg base (L2.CX P w) 9 (He.fAd K ("WorkerPlan", some "__init__")) ["script"] (spkWs K) := by
  obtain ⟨mv, kb⟩ := (F_w T).kbinds0 (ps := ["self", "name", "restart", "opening", "closing", "deadline", "refused", "script"]) 2 ["script"] [("restart", .str "permanent"), ("opening", .int 0), ("closing", .int 0), ("deadline", .non), ("refused", .int 0)] (fun us mv ws => us ++ mv ++ ws) (fun z => nomatch z) (fun q hq => by
      simp only [List.mem_cons, List.not_mem_nil, or_false] at hq
      rcases hq with rfl | rfl | rfl | rfl | rfl <;> simp [kwsV, kws_WorkerPlan__init, He.Dv.v]) (fun r1 r2 r3 => (r1.append r2).append r3) (by
    intro D doc pm an cdv ct us mv ws h1 h2 h3
    match us, mv, ws, h1, h2, h3 with
    | [a, b], [c, d, e, f, g], [h], _, _, _ =>
      refine ⟨_, _, _, _, _, _, rfl, rfl, _, _, _, _, _, _, rfl, rfl, _, _, _, _, _, _, rfl, rfl, _, _, _, _, _, _, rfl, rfl, _, _, _, _, _, _, rfl, rfl, rfl⟩)
  exact FnK.of_ok (ok_winit T) kb fun e => e.mod.kin.keeps fun b o h => (e.bs b o h).1
abbrev sdA (K : PySem.W.Frag) : Addr := kwAt (fun K => He.fAd K ("WorkerPlan", some "__init__")) "script" K
def spkW0 (K : PySem.W.Frag) : SpK := fun vs zs H Q E => vs.length = 2 ∧ spWInit K (vs ++ [.str "permanent", .int 0, .int 0, .non, .int 0, .ref (sdA K)] ++ zs) H Q E
theorem fk_worker0 (T : Env K mg) : FnK P w K mg base (L2.CX P w) 9 (He.fAd K ("WorkerPlan", some "__init__")) [] (spkW0 K) := by
  obtain ⟨mv, kb⟩ := (F_w T).kbinds0 (ps := ["self", "name", "restart", "opening", "closing", "deadline", "refused", "script"]) 2 [] [("restart", .str "permanent"), ("opening", .int 0), ("closing", .int 0), ("deadline", .non), ("refused", .int 0), ("script", .ref (sdA K))] (fun us mv ws => us ++ mv ++ ws) (fun z => nomatch z) (fun q hq => by
      simp only [List.mem_cons, List.not_mem_nil, or_false] at hq
      rcases hq with rfl | rfl | rfl | rfl | rfl | rfl <;> simp [kwsV, kws_WorkerPlan__init, He.Dv.v]) (fun r1 r2 r3 => (r1.append r2).append r3) (by
    intro D doc pm an cdv ct us mv ws h1 h2 h3
    match us, mv, ws, h1, h2, h3 with
    | [a, b], [c, d, e, f, g, h], [], _, _, _ =>
      refine ⟨_, _, _, _, _, _, rfl, rfl, _, _, _, _, _, _, rfl, rfl, _, _, _, _, _, _, rfl, rfl, _, _, _, _, _, _, rfl, rfl, _, _, _, _, _, _, rfl, rfl, _, _, _, _, _, _, rfl, rfl, rfl⟩)
  exact FnK.of_ok (ok_winit T) kb fun e => e.mod.kin.keeps fun b o h => (e.bs b o h).1
def spkS (K : PySem.W.Frag) : SpK := fun vs zs H Q E => ∃ as rest, vs = as ++ rest ∧ as.length = 2 ∧ rest.length ≤ sizeLine ∧ ∀ p, H p = Option.none → spSInit K (as ++ zs ++ [V.ref p]) (upd H p (.tup rest)) Q E
theorem fk_super (T : Env K mg) : FnK P w K mg base (L2.CX P w) 9 (He.fAd K ("SupervisorPlan", some "__init__")) ["restart", "strategy", "most", "span", "deadline"] (spkS K) := by
  obtain ⟨oc, od, dV, kV, doc, pm, an, cdv, ct, osl, e, lk, hcd, hD, hK⟩ := T.F_SupervisorPlan__init.ex
  obtain rfl : dV = .none := hD.elim (fun h => h.2) fun h => absurd rfl h.1
  rw [e] at lk
  refine fn_starK (ps := ["self", "name"]) (ks := ["restart", "strategy", "most", "span", "deadline"]) (pv := "children") lk hcd sc_SupervisorPlan__init cxUp (fun us rest ws l1 l2 => ?_) (fun A outer s H vs Q E hr h => ok_sinit T A outer s H vs Q E hr h)
  match us, ws, rest, l1, l2 with
  | [a, b], [c, d, e, f, g], [], _, _ => rfl
  | [a, b], [c, d, e, f, g], r :: rs, _, _ => rfl
def spkS0 (K : PySem.W.Frag) : SpK := fun vs zs H Q E => ∃ as rest, vs = as ++ rest ∧ as.length = 2 ∧ rest.length ≤ sizeLine ∧ ∀ p, H p = Option.none → spSInit K (as ++ [.str "permanent", .str "one", .int 1, .int 10, .non] ++ [V.ref p]) (upd H p (.tup rest)) Q E
theorem fk_super0 (T : Env K mg) : FnK P w K mg base (L2.CX P w) 9 (He.fAd K ("SupervisorPlan", some "__init__")) [] (spkS0 K) := by
  obtain ⟨oc, od, dV, kV, doc, pm, an, cdv, ct, osl, e, lk, hcd, hD, _⟩ := T.F_SupervisorPlan__init.ex
  have hK := T.kd_SupervisorPlan__init oc od osl lk
  obtain rfl : dV = .none := hD.elim (fun h => h.2) fun h => absurd rfl h.1
  rw [e] at lk hK
  rcases hK with hK | ⟨D, rfl, hq⟩
  · cases hK
  refine fn_starD (ps := ["self", "name"]) (ms := [("restart", .str "permanent"), ("strategy", .str "one"), ("most", .int 1), ("span", .int 10), ("deadline", .non)]) (pv := "children") lk hcd sc_SupervisorPlan__init cxUp hq (fun us rest mv l1 l2 => ?_) (fun A outer s H vs Q E hr h => ok_sinit T A outer s H vs Q E hr h)
  match us, mv, rest, l1, l2 with
  | [a, b], [c, d, e, f, g], [], _, _ => exact ⟨_, _, _, _, _, _, rfl, rfl, _, _, _, _, _, _, rfl, rfl, _, _, _, _, _, _, rfl, rfl, _, _, _, _, _, _, rfl, rfl, _, _, _, _, _, _, rfl, rfl, rfl⟩
  | [a, b], [c, d, e, f, g], r :: rs, _, _ => exact ⟨_, _, _, _, _, _, rfl, rfl, _, _, _, _, _, _, rfl, rfl, _, _, _, _, _, _, rfl, rfl, _, _, _, _, _, _, rfl, rfl, _, _, _, _, _, _, rfl, rfl, rfl⟩
end
end W53

set_option Elab.async false
set_option linter.all false
set_option maxRecDepth 100000
set_option maxHeartbeats 2000000
/-! dict(zip(tuple, tuple, strict=True)) -/
namespace WZd
open PySem PySem.Spec PyProof.Rows L2 WEn WZs
/-- a strict zip whose tuple T is still out -/
abbrev ZSH (h : Heap) (z TI TO T : Addr) (f : Bool) : Prop := h.get? z = some { cls := .type "zip", dict := none, data := .fields #[rawInt T, .bool f, .bool true, .ref TI, .ref TO], slots := #[] }
section
variable {prog : Program} {w : World} {A : Around} {E : Value → Shared → Prop} {s : Shared} {z TI TO T i1 i2 : Addr} {fp1 fp2 : List Addr} {n i : Nat} {P1 P2 : Nat → Value → Prop} {St1 St2 : Nat → Heap → Prop} {a1 a2 : Value} {f : Bool} {oT : Obj}
theorem held_free {Q : Bool → Shared → Prop} (hz : ZSH s.heap z TI TO T f) (hT : s.heap.get? T = some oT)
    (h : ∀ h', ZSH h' z TI TO T true → Heap.SameBut z s.heap h' → Q false { s with heap := h' }) : wpAny (model prog w) A (Builtin.SmallTypes.ownedTupleIsFree (.ref z)) Q E s := by
  unfold Builtin.SmallTypes.ownedTupleIsFree
  refine wpAny_bind (wpAny_field hz rfl (x := rawInt T) rfl ?_)
  show wpAny _ _ (loadIfAlive ((T : Int).toNat) >>= _) _ _ _
  rw [Int.toNat_natCast]
  refine wpAny_bind (PySem.W.kdx_alive hT ?_)
  simp only [Option.isNone_some, Bool.false_eq_true, if_false]
  refine wpAny_bind (wpAny_field hz rfl (x := .bool f) rfl ?_)
  cases f with
  | true =>
    rw [if_neg (show ¬ ((Value.bool true != Value.bool true) = true) from Bool.false_ne_true)]
    exact wpAny_pure (h s.heap hz (Heap.SameBut.refl _ _))
  | false =>
    rw [if_pos (show (Value.bool false != Value.bool true) = true from rfl)]
    exact wpAny_bind (wpAny_setField_rec hz (by simp) fun h₁ hz₁ hs₁ => wpAny_pure (h h₁ hz₁ hs₁))
theorem zs_item_held {Q : Value → Shared → Prop} (S : ZipSep2 z TI TO i1 i2 fp1 fp2) (D1 : Draws prog w A i1 fp1 n P1 St1) (D2 : Draws prog w A i2 fp2 n P2 St2)
    (hz : ZSH s.heap z TI TO T f) (hT : s.heap.get? T = some oT) (hTI : IsTupOf2 s.heap TI (.ref i1) (.ref i2)) (st1 : St1 i s.heap) (st2 : St2 i s.heap) (hlt : i < n)
    (hQ : ∀ x1 x2 h' tk, P1 i x1 → P2 i x2 → ZSH h' z TI TO T true → St1 (i + 1) h' → St2 (i + 1) h' → IsTupOf2 h' s.heap.objs.size x1 x2 →
      (∀ c o, c ≠ z → c ≠ i1 → c ≠ i2 → s.heap.get? c = some o → h'.get? c = some o) → Q (.ref s.heap.objs.size) { s with heap := h', toks := tk }) :
    wpAny (model prog w) A (Builtin.«zip.__next__» ⟨[.ref z], []⟩) (fun fin s' => ∃ v, fin = .done (.ret v) ∧ Q v s') E s := by
  obtain ⟨hp, g, d, tk0, os⟩ := s
  show wpAny _ _ (field (.ref z) 2 >>= _) _ _ _
  refine wpAny_bind (wpAny_field hz rfl (x := .bool true) rfl ?_)
  show wpAny _ _ (field (.ref z) 3 >>= _) _ _ _
  refine wpAny_bind (wpAny_field hz rfl (x := .ref TI) rfl ?_)
  refine wpAny_bind (wpAny_seqItems hTI rfl ?_)
  show wpAny _ _ (Builtin.SmallTypes.ownedTupleIsFree (.ref z) >>= _) _ _ _
  refine wpAny_bind (held_free hz hT fun g0 hz0 hs0 => ?_)
  replace hs0 : Heap.SameBut z hp g0 := hs0
  simp only [Bool.false_eq_true, if_false]
  refine wpAny_bind ?_
  rw [← Array.forIn_toList]
  simp only [List.forIn_cons, List.forIn_nil]
  refine wpAny_bind (wpAny_bind (wpAny_holding ?_))
  show wpAny _ _ (Builtin.SmallTypes.nextOrEnd (.ref i1)) _ _ ⟨g0, g, d, tk0, os⟩
  refine draw_more (s := ⟨g0, g, d, tk0, os⟩) D1 (D1.over st1 hs0 S.zf1) hlt fun x1 p1 tk1 hx1 sn1 hp1 => ?_
  replace hp1 : Heap.SameBut i1 g0 p1 := hp1
  refine wpAny_pure ?_
  refine wpAny_bind (wpAny_bind (wpAny_holding ?_))
  show wpAny _ _ (Builtin.SmallTypes.nextOrEnd (.ref i2)) _ _ ⟨p1, g, d, tk1, os⟩
  refine draw_more (s := ⟨p1, g, d, tk1, os⟩) D2 (D2.over (D2.over st2 hs0 S.zf2) hp1 S.sep1_2) hlt fun x2 p2 tk2 hx2 sn2 hp2 => ?_
  replace hp2 : Heap.SameBut i2 p1 p2 := hp2
  refine wpAny_pure (wpAny_pure ?_)
  show wpAny _ _ (newTuple [x1, x2] >>= _) _ _ _
  refine wpAny_bind (wpAny_newTuple ?_)
  have hsz : p2.objs.size = hp.objs.size := by rw [hp2.1, hp1.1, hs0.1]
  have hzz : ZSH p2 z TI TO T true := hp2.extBut _ _ S.zi2 (hp1.extBut _ _ S.zi1 hz0)
  have hk : ∀ c o, c ≠ z → c ≠ i1 → c ≠ i2 → hp.get? c = some o → p2.get? c = some o := fun c o c1 c2 c3 e => hp2.extBut _ _ c3 (hp1.extBut _ _ c2 (hs0.extBut _ _ c1 e))
  have hj1 : St1 (i + 1) p2 := D1.over sn1 hp2 S.sep2_1
  refine wpAny_pure ⟨_, rfl, ?_⟩
  show Q (.ref p2.objs.size) ⟨p2.push { cls := .type "tuple", data := .seq #[x1, x2] }, g, d, tk2, os⟩
  have hp' : IsTupOf2 (p2.push { cls := .type "tuple", data := .seq #[x1, x2] }) p2.objs.size x1 x2 := Heap.get?_push_size _ rfl
  rw [hsz] at hp' ⊢
  exact hQ x1 x2 _ tk2 hx1 hx2 (Heap.get?_push_of_some _ hzz) (D1.frame _ _ _ hj1 fun b hb o e => Heap.get?_push_of_some _ e) (D2.frame _ _ _ sn2 fun b hb o e => Heap.get?_push_of_some _ e) hp' fun c o c1 c2 c3 e => Heap.get?_push_of_some _ (hk c o c1 c2 c3 e)
theorem zs_over_held {Q : Fin → Shared → Prop} (hh : A.handled = none) (S : ZipSep2 z TI TO i1 i2 fp1 fp2) (D1 : Draws prog w A i1 fp1 n P1 St1) (D2 : Draws prog w A i2 fp2 n P2 St2)
    (hz : ZSH s.heap z TI TO T f) (hT : s.heap.get? T = some oT) (hTI : IsTupOf2 s.heap TI (.ref i1) (.ref i2)) (st1 : St1 n s.heap) (st2 : St2 n s.heap)
    (hE : ∀ h' e, (∀ c o, c ≠ z → c ≠ i1 → c ≠ i2 → s.heap.get? c = some o → h'.get? c = some o) → (∃ o, h'.get? e = some o ∧ o.cls = .type "StopIteration") → E (.ref e) { s with heap := h' }) :
    wpAny (model prog w) A (Builtin.«zip.__next__» ⟨[.ref z], []⟩) Q E s := by
  obtain ⟨hp, g, d, tk0, os⟩ := s
  show wpAny _ _ (field (.ref z) 2 >>= _) _ _ _
  refine wpAny_bind (wpAny_field hz rfl (x := .bool true) rfl ?_)
  show wpAny _ _ (field (.ref z) 3 >>= _) _ _ _
  refine wpAny_bind (wpAny_field hz rfl (x := .ref TI) rfl ?_)
  refine wpAny_bind (wpAny_seqItems hTI rfl ?_)
  show wpAny _ _ (Builtin.SmallTypes.ownedTupleIsFree (.ref z) >>= _) _ _ _
  refine wpAny_bind (held_free hz hT fun g0 hz0 hs0 => ?_)
  replace hs0 : Heap.SameBut z hp g0 := hs0
  simp only [Bool.false_eq_true, if_false]
  refine wpAny_bind ?_
  rw [← Array.forIn_toList]
  simp only [List.forIn_cons, List.forIn_nil]
  refine wpAny_bind (wpAny_bind (wpAny_holding ?_))
  show wpAny _ _ (Builtin.SmallTypes.nextOrEnd (.ref i1)) _ _ ⟨g0, g, d, tk0, os⟩
  refine draw_over (s := ⟨g0, g, d, tk0, os⟩) D1 (D1.over st1 hs0 S.zf1) fun p1 hp1 => ?_
  replace hp1 : Heap.ExtBut i1 g0 p1 := hp1
  have st2' : St2 n p1 := D2.frame _ _ _ (D2.over st2 hs0 S.zf2) fun b hb o e => hp1 b o (fun q => S.sep1_2 (q ▸ hb)) e
  dsimp only
  refine wpAny_bind ?_
  refine wpAny_mono (Q := fun _ _ => False) ?_ (fun _ _ h => h.elim) fun _ _ h => h
  wp_delta
  iterate 2 wp_step
  rw [show (List.drop 1 [Value.ref i1, Value.ref i2]).zipIdx 1 = [(Value.ref i2, 1)] from rfl, List.forIn_cons]
  refine wpAny_bind ?_
  refine wpAny_bind (draw_over (s := ⟨p1, g, d, tk0, os⟩) D2 st2' fun h2 he2 => ?_)
  rw [if_neg (by simp)]
  refine wpAny_pure ?_
  dsimp only
  rw [List.forIn_nil]
  refine wpAny_pure ?_
  refine wpAny_bind (wpAny_rule ?_)
  have hk2 : ∀ c o, c ≠ z → c ≠ i1 → c ≠ i2 → hp.get? c = some o → h2.get? c = some o := fun c o cz c1 c2 e => he2 c o c2 (hp1 c o c1 (hs0.extBut c o cz e))
  show wpAny _ _ (newExc (.type "StopIteration") [] >>= _) _ _ _
  refine wpAny_bind ?_
  simp only [newExc, newTuple]
  refine wpAny_bind (wpAny_newObj_type ?_ (by size_fits))
  refine wpAny_bind (m := firstArgMember _ _) (wpAny_of_eq (a := Value.none) (by first | rfl | (simp only [firstArgMember]; rfl)) ?_)
  refine wpAny_newObj_type ?_ (by size_fits)
  simp only [raiseNew]
  refine wpAny_bind (wpAny_handled ?_)
  rw [hh]
  refine wpAny_bind (wpAny_pure (wpAny_throw ?_))
  exact hE _ _ (fun c o cz c1 c2 e => Heap.get?_push_of_some _ (Heap.get?_push_of_some _ (hk2 c o cz c1 c2 e))) ⟨_, Heap.get?_push_size _ rfl, rfl⟩
theorem next_zs_item_held {Q : Option Value → Shared → Prop} (S : ZipSep2 z TI TO i1 i2 fp1 fp2) (D1 : Draws prog w A.in1 i1 fp1 n P1 St1) (D2 : Draws prog w A.in1 i2 fp2 n P2 St2)
    (hz : ZSH s.heap z TI TO T f) (hT : s.heap.get? T = some oT) (hTI : IsTupOf2 s.heap TI (.ref i1) (.ref i2)) (st1 : St1 i s.heap) (st2 : St2 i s.heap) (hlt : i < n)
    (hQ : ∀ x1 x2 h' tk, P1 i x1 → P2 i x2 → ZSH h' z TI TO T true → St1 (i + 1) h' → St2 (i + 1) h' → IsTupOf2 h' s.heap.objs.size x1 x2 →
      (∀ c o, c ≠ z → c ≠ i1 → c ≠ i2 → s.heap.get? c = some o → h'.get? c = some o) → Q (some (.ref s.heap.objs.size)) { s with heap := h', toks := tk }) :
    wpAny (model prog w) A (pyNext (.ref z)) Q E s := by
  have hTy : s.TypeIs (.ref z) "zip" := ⟨_, hz, rfl⟩
  unfold pyNext
  exact wpAny_bind (wpAny_attempt (wpAny_callSpecial?_slot (name := Str.ofString "__next__") hTy F.slot_zip_next
    (wpAny_call_entry F.slot_zip_next hTy F.entry_zip_next (zs_item_held S D1 D2 hz hT hTI st1 st2 hlt fun x1 x2 h' tk b1 b2 b3 b4 b5 b6 b8 => wpAny_pure (hQ x1 x2 h' tk b1 b2 b3 b4 b5 b6 b8)) (F.args_zip_next_1 _))))
theorem next_zs_over_held {Q : Option Value → Shared → Prop} (hh : A.handled = none) (S : ZipSep2 z TI TO i1 i2 fp1 fp2) (D1 : Draws prog w A.in1 i1 fp1 n P1 St1) (D2 : Draws prog w A.in1 i2 fp2 n P2 St2)
    (hz : ZSH s.heap z TI TO T f) (hT : s.heap.get? T = some oT) (hTI : IsTupOf2 s.heap TI (.ref i1) (.ref i2)) (st1 : St1 n s.heap) (st2 : St2 n s.heap)
    (hQ : ∀ h', (∀ c o, c ≠ z → c ≠ i1 → c ≠ i2 → s.heap.get? c = some o → h'.get? c = some o) → Q none { s with heap := h' }) : wpAny (model prog w) A (pyNext (.ref z)) Q E s := by
  have hTy : s.TypeIs (.ref z) "zip" := ⟨_, hz, rfl⟩
  unfold pyNext
  refine wpAny_bind (wpAny_attempt (wpAny_callSpecial?_slot (name := Str.ofString "__next__") hTy F.slot_zip_next
    (wpAny_call_entry F.slot_zip_next hTy F.entry_zip_next (zs_over_held hh S D1 D2 hz hT hTI st1 st2 fun h' e hk he => ?_) (F.args_zip_next_1 _))))
  obtain ⟨o, ho, hc⟩ := he
  refine wpAny_bind (wpAny_isInstance (T := "StopIteration") (b := true) ⟨o, ho, hc⟩ isSubtype_stop ?_)
  exact wpAny_pure (hQ _ hk)
end
section
variable {prog : Program} {w : World}
theorem zs_no_keys {A : Around} {E : Value → Shared → Prop} {s : Shared} {z TI TO : Addr} {f0 : Value} {Q : Option Value → Shared → Prop} (hz : ZS s.heap z TI TO f0) (hA : A.handled = none)
    (h : ∀ h' tk, (∀ b o, s.heap.get? b = some o → h'.get? b = some o) → Q none { s with heap := h', toks := tk }) : wpAny (model prog w) A (getAttr? (.ref z) "keys") Q E s :=
  getAttrOr_miss_zip hz rfl rfl rfl zip_no_keys (by decide +kernel) hA h
/-- the strict zip of two tuples as the argument of dict() -/
theorem PairArg.zs (z TI TO i1 i2 a b : Addr) (ha : a ≠ i1) (hb : b ≠ i2) (S : ZipSep2 z TI TO i1 i2 [i1, a] [i2, b]) (xs ys : Array Value) (hl : xs.size = ys.size) :
    PairArg prog w "zip" z [z, TI, TO, i1, i2, a, b] [z, TO, i1, i2] xs.size (fun i k v => xs[i]? = some k ∧ ys[i]? = some v)
      (fun h => ZS h z TI TO .none ∧ IsTupOf2 h TI (.ref i1) (.ref i2) ∧ (∃ u v, IsTupOf2 h TO u v) ∧ (h.IsTupleIter i1 a 0 ∧ h.IsTuple a xs) ∧ (h.IsTupleIter i2 b 0 ∧ h.IsTuple b ys)) where
  type := fun s ok => ⟨_, ok.1, rfl⟩
  notDict := by decide
  keep := fun h h' ok hk => by
    obtain ⟨hz, hTI, ⟨u, v, hTO⟩, ⟨h1, h2⟩, ⟨h3, h4⟩⟩ := ok
    exact ⟨hk _ _ hz, hk _ _ hTI, ⟨u, v, hk _ _ hTO⟩, ⟨h1.at fun o e => hk _ o e, h2.at fun o e => hk _ o e⟩, h3.at fun o e => hk _ o e, h4.at fun o e => hk _ o e⟩
  there := fun h ok c hc => by
    obtain ⟨hz, hTI, ⟨u, v, hTO⟩, ⟨⟨o1, h1, _⟩, ⟨o2, h2, _⟩⟩, ⟨⟨o3, h3, _⟩, ⟨o4, h4, _⟩⟩⟩ := ok
    simp only [List.mem_cons, List.not_mem_nil, or_false] at hc
    rcases hc with rfl | rfl | rfl | rfl | rfl | rfl | rfl
    all_goals first | exact ⟨_, hz⟩ | exact ⟨_, hTI⟩ | exact ⟨_, hTO⟩ | exact ⟨_, h1⟩ | exact ⟨_, h2⟩ | exact ⟨_, h3⟩ | exact ⟨_, h4⟩
  sub := fun c hc => by simp at hc ⊢; rcases hc with rfl | rfl | rfl | rfl <;> simp
  noKeys := fun A s Q E hA ok h => zs_no_keys ok.1 hA h
  iter := fun A s d Q E hA ok hd hdf h => by
    obtain ⟨hz, hTI, ⟨u, v, hTO⟩, hs1, hs2⟩ := ok
    simp only [List.mem_cons, List.not_mem_nil, or_false, not_or] at hdf
    obtain ⟨dz, dTI, dTO, di1, di2, da, db⟩ := hdf
    have hA1 : A.in1.handled = none := hA
    have D1 : Draws prog w A.in1 i1 [i1, a] xs.size (fun i v => xs[i]? = some v) (fun i h => h.IsTupleIter i1 a i ∧ h.IsTuple a xs) := Draws.tuple hA1 i1 a ha xs
    have D2 : Draws prog w A.in1 i2 [i2, b] xs.size (fun i v => ys[i]? = some v) (fun i h => h.IsTupleIter i2 b i ∧ h.IsTuple b ys) := by
      rw [hl]
      exact Draws.tuple hA1 i2 b hb ys
    refine iter_zs hz (h z [z, TO, i1, i2] (fun i h => IsTupOf2 h TI (.ref i1) (.ref i2) ∧ (h.IsTupleIter i1 a i ∧ h.IsTuple a xs) ∧ (h.IsTupleIter i2 b i ∧ h.IsTuple b ys) ∧
      ((ZS h z TI TO .none ∧ ∃ u v, IsTupOf2 h TO u v) ∨ ∃ T f oT, ZSH h z TI TO T f ∧ h.get? T = some oT ∧ T ≠ z ∧ T ≠ i1 ∧ T ≠ i2 ∧ T ≠ d)) s.heap s.toks ?_
      ⟨hTI, hs1, hs2, .inl ⟨hz, u, v, hTO⟩⟩ (fun _ _ e => e) fun b hb => .inl hb)
    exact {
      off := fun hm => by
        simp only [List.mem_cons, List.not_mem_nil, or_false] at hm
        rcases hm with e | e | e | e
        · exact dz e
        · exact dTO e
        · exact di1 e
        · exact di2 e
      frame := fun i h₁ h₂ st hk => by
        obtain ⟨hTI, h1, h2, hz⟩ := st
        refine ⟨hk _ _ (Ne.symm dTI) hTI, D1.frame _ _ _ h1 (fun c hc o e => hk c o (fun q => ?_) e), D2.frame _ _ _ h2 (fun c hc o e => hk c o (fun q => ?_) e), ?_⟩
        · subst q
          simp only [List.mem_cons, List.not_mem_nil, or_false] at hc
          rcases hc with e | e
          · exact di1 e
          · exact da e
        · subst q
          simp only [List.mem_cons, List.not_mem_nil, or_false] at hc
          rcases hc with e | e
          · exact di2 e
          · exact db e
        · rcases hz with ⟨hz, u, v, hTO⟩ | ⟨T, f, oT, hz, hT, r1, r2, r3, r4⟩
          · exact .inl ⟨hk _ _ (Ne.symm dz) hz, u, v, hk _ _ (Ne.symm dTO) hTO⟩
          · exact .inr ⟨T, f, oT, hk _ _ (Ne.symm dz) hz, hk _ _ r4 hT, r1, r2, r3, r4⟩
      item := fun i s₁ Q₁ E₁ hi st hds hQ => by
        obtain ⟨hTI, h1, h2, hz⟩ := st
        have lt : ∀ {c o}, s₁.heap.get? c = some o → s₁.heap.objs.size ≠ c := fun e => Nat.ne_of_gt (Heap.lt_size e)
        have n1 : s₁.heap.objs.size ≠ i1 := let ⟨_, e⟩ := D1.live _ _ h1; lt e
        have n2 : s₁.heap.objs.size ≠ i2 := let ⟨_, e⟩ := D2.live _ _ h2; lt e
        rcases hz with ⟨hz, u, v, hTO⟩ | ⟨T, f, oT, hz, hT, r1, r2, r3, r4⟩
        · refine next_zs_item S D1 D2 hz hTI hTO h1 h2 hi fun x1 x2 h' tk p1 p2 a1 a2 a3 a4 a5 hk => ?_
          exact hQ s₁.heap.objs.size _ _ h' tk ⟨p1, p2⟩ (.inl ⟨_, a5, rfl, _, rfl⟩)
            ⟨hk _ _ S.TIz S.TITO S.TIi1 S.TIi2 hTI, a3, a4, .inr ⟨s₁.heap.objs.size, false, _, a1, a5, lt hz, n1, n2, Nat.ne_of_gt hds⟩⟩
            fun c o hc e => hk c o (fun x => hc (by simp [x])) (fun x => hc (by simp [x])) (fun x => hc (by simp [x])) (fun x => hc (by simp [x])) e
        · refine next_zs_item_held S D1 D2 hz hT hTI h1 h2 hi fun x1 x2 h' tk p1 p2 a1 a3 a4 a5 hk => ?_
          exact hQ s₁.heap.objs.size _ _ h' tk ⟨p1, p2⟩ (.inl ⟨_, a5, rfl, _, rfl⟩)
            ⟨hk _ _ S.TIz S.TIi1 S.TIi2 hTI, a3, a4, .inr ⟨T, true, oT, a1, hk _ _ r1 r2 r3 hT, r1, r2, r3, r4⟩⟩
            fun c o hc e => hk c o (fun x => hc (by simp [x])) (fun x => hc (by simp [x])) (fun x => hc (by simp [x])) e
      done := fun s₁ Q₁ E₁ st hQ => by
        obtain ⟨hTI, h1, h2, hz⟩ := st
        rcases hz with ⟨hz, u, v, hTO⟩ | ⟨T, f, oT, hz, hT, r1, r2, r3, r4⟩
        · exact next_zs_over hA S D1 D2 hz hTI hTO h1 h2 fun h' hk => hQ h' s₁.toks fun c o hc e => hk c o (fun x => hc (by simp [x])) (fun x => hc (by simp [x])) (fun x => hc (by simp [x])) (fun x => hc (by simp [x])) e
        · exact next_zs_over_held hA S D1 D2 hz hT hTI h1 h2 fun h' hk => hQ h' s₁.toks fun c o hc e => hk c o (fun x => hc (by simp [x])) (fun x => hc (by simp [x])) (fun x => hc (by simp [x])) e }
end
/-- dict(zip(names, values, strict=True)) -/
def zipK (ks : List Str) (ys : List V) : List (Key × V) := (ks.zip ys).map fun p => (Sum.inr p.1, p.2)
theorem kv_zip (P : Program) (w : World) : ∀ {ks : List Str} {ys : List V} {its its2 : List Value}, Vals (ks.map V.str) its → Vals ys its2 → ks.length = ys.length →
    ∃ prs : List (Key × Value), KV (zipK ks ys) prs ∧ prs.length = its.length ∧ ∀ (i : Nat) (u v : Value), its[i]? = some u → its2[i]? = some v → ∃ k : Key, prs[i]? = some (k, v) ∧ (mixKind P w).is k u = true
  | [], [], its, its2, r, r2, _ => by
    cases r
    cases r2
    exact ⟨[], .nil, rfl, fun i u v e _ => by simp at e⟩
  | k :: ks, y :: ys, its, its2, r, r2, hl => by
    cases r with
    | cons h t =>
      cases r2 with
      | cons h2 t2 =>
        obtain ⟨prs, rel, hl', hp⟩ := kv_zip P w t t2 (Nat.succ.inj hl)
        refine ⟨(Sum.inr k, _) :: prs, .cons ⟨rfl, h2⟩ rel, by rw [List.length_cons, List.length_cons, hl'], fun i u v e e2 => ?_⟩
        cases i with
        | zero =>
          cases e
          cases e2
          exact ⟨Sum.inr k, rfl, kV_is (k := Sum.inr k) h⟩
        | succ i => exact hp i u v (by simpa using e) (by simpa using e2)
  | [], _ :: _, _, _, _, _, hl => by cases hl
  | _ :: _, [], _, _, _, _, hl => by cases hl
def tDictZip (K : PySem.W.Frag) (ta tk : TA) : TE := fun σ H Q => ta σ H fun vs H1 => tk σ H1 fun zs H2 => ∃ a b ks ys, vs = [.ref a, .ref b] ∧ zs = [.bl true] ∧ SqT K H2 a (ks.map V.str) ∧ SqT K H2 b ys ∧ ks.length = ys.length ∧ ∀ p, H2 p = none → Q (.ref p) (upd H2 p (.dK (mergeK [] (zipK ks ys))))
theorem pe_dictZip {X : Cx} {e e2 : Expr} {ta tk : TA} {p p2 pos pos2 : Pos} {kws : List Keyword} (hcalm : X.calm = true) (hgd : Gl X "dict") (hmd : X.mg "dict" = none) (hg : Gl X "zip") (hm : X.mg "zip" = none) (ha : PA X [e, e2] ta) (hkw : PK X kws tk)
    (hall : (backToKw pos2 (keywordEach kws X.env)).all (·.1.isSome) = true := by rfl) (hks : (backToKw pos2 (keywordEach kws X.env)).filterMap (·.1) = [("strict" : Str)] := by rfl)
    (he : starEach [e, e2] X.env = (false, eval e X.env) :: starEach [e2] X.env := by rfl) (hpl : ((backTo pos2 (starEach [e, e2] X.env)).any (·.1) || (backToKw pos2 (keywordEach kws X.env)).any (·.1.isNone)) = false := by rfl)
    (hed : starEach [.Call (.Name "zip" p2) [e, e2] kws pos2] X.env = (false, eval (.Call (.Name "zip" p2) [e, e2] kws pos2) X.env) :: starEach [] X.env := by rfl) :
    PE X (.Call (.Name "dict" p) [.Call (.Name "zip" p2) [e, e2] kws pos2] [] pos) (tDictZip X.K ta tk) := by
  refine ⟨fun pins s σ H Q I h => ?_⟩
  refine wpAny_Call_Name_kw (ld_blt I hgd hmd (by decide +kernel : bootBuiltins "dict" = some (.type "dict")) ?_)
  refine PyProof.Rows.callWith_type1 ?_ hed rfl
  rw [hed]
  refine Calls.spliced_cons ?_
  refine wpAny_Call_Name_kw (ld_blt I hg hm PyProof.Rows.boot_zip (callWith_typeK hall (thn (ha.run pos2 pins s σ H _ I h) fun us s1 ⟨vs, H1, I1, r1, q1⟩ => ?_) hpl he))
  refine thn (hkw.run pos2 pins s1 σ H1 _ I1 q1) fun ws s2 ⟨zs, H2, I2, rz, a, b, ks, ys, e1, e2', hqx, hqy, hlen, q⟩ => ?_
  subst e1 e2'
  rw [hks]
  cases r1 with
  | cons r rr =>
    cases rr with
    | cons r' rr =>
      cases rr
      cases r
      cases r'
      cases rz with
      | cons rk rr =>
        cases rr
        cases rk
        obtain ⟨its, rv, p1, z1⟩ := I2.tuple hqx
        obtain ⟨its2, rv2, p2', _⟩ := I2.tuple hqy
        obtain ⟨o1, ho1, _⟩ := id p1
        obtain ⟨o2, ho2, _⟩ := id p2'
        have la : a < s2.heap.objs.size := Heap.lt_size ho1
        have lb : b < s2.heap.objs.size := Heap.lt_size ho2
        obtain ⟨prs, rel, hl1, hpr⟩ := kv_zip X.prog X.w rv rv2 hlen
        have l1 : its.length = ks.length := by
          have := rv.length
          rw [List.length_map] at this
          exact this.symm
        have l2 : its2.length = ys.length := rv2.length.symm
        rw [List.length_map] at z1
        refine zs_begins (begins_tuple a its.toArray) (begins_tuple b its2.toArray) p1 p2' fun h' hz hTI hTO h1 h2 hk => Calls.spliced_nil ?_
        have I3 : Inv X pins σ H2 { s2 with heap := h' } := I2.kept (t' := s2.toks) hk
        have PA1 := PairArg.zs (prog := X.prog) (w := X.w) (s2.heap.objs.size + 4) (s2.heap.objs.size + 2) (s2.heap.objs.size + 3) s2.heap.objs.size (s2.heap.objs.size + 1) a b (Nat.ne_of_lt la) (Nat.ne_of_lt (Nat.lt_succ_of_lt lb)) (sep_of s2.heap.objs.size a b la lb) its.toArray its2.toArray (by simp [l1, l2, hlen])
        have zlt : s2.heap.objs.size + 4 < h'.objs.size := Heap.lt_size hz
        refine PySem.call_dict_pairs (knd := mixKind X.prog X.w) (kvs := prs) PA1 (I.ok.hd hcalm) ⟨hz, hTI, ⟨_, _, hTO⟩, ⟨⟨_, h1, rfl, rfl⟩, (let ⟨o, e, r⟩ := p1; ⟨o, hk _ o e, r⟩)⟩, ⟨_, h2, rfl, rfl⟩, (let ⟨o, e, r⟩ := p2'; ⟨o, hk _ o e, r⟩)⟩ ⟨by rw [hl1, List.size_toArray], fun i key v e => hpr i key v (by simpa using e.1) (by simpa using e.2)⟩ (by rw [List.size_toArray, l1]; exact z1) fun h3 tk hd' hk' => ?_
        have hle : s2.heap.objs.size ≤ h'.objs.size := by
          have : s2.heap.objs.size + 4 < h'.objs.size := zlt
          omega
        have kk : ∀ b o, s2.heap.get? b = some o → h3.get? b = some o := fun c o e => hk' c o (fun hm => by
          have hc := Heap.lt_size e
          simp only [List.mem_cons, List.not_mem_nil, or_false] at hm
          rcases hm with z | z | z | z
          · rw [z] at hc; exact absurd hc (Nat.not_lt.mpr (Nat.le_add_right _ _))
          · rw [z] at hc; exact absurd hc (Nat.not_lt.mpr (Nat.le_add_right _ _))
          · rw [z] at hc; exact absurd hc (Nat.lt_irrefl _)
          · rw [z] at hc; exact absurd hc (Nat.not_lt.mpr (Nat.le_add_right _ _))) (hk c o e)
        have hms : (h'.objs.size == sysModules) = false := beq_eq_false_iff_ne.mpr (Nat.ne_of_gt (Nat.lt_of_lt_of_le I2.big hle))
        have hlen2 : (mergeK [] (zipK ks ys)).length ≤ sizeLine := by
          refine Nat.le_trans (length_mergeK (zipK ks ys) []) ?_
          rw [List.length_nil, Nat.zero_add, rel.length, hl1, l1]
          exact z1
        exact ⟨.ref h'.objs.size, upd H2 h'.objs.size (.dK (mergeK [] (zipK ks ys))), I2.laid (t' := tk) kk hle (show ObjOk X.prog X.w _ _ _ (.dK (mergeK [] (zipK ks ys))) from ⟨hlen2, hms, merged [] prs, KV.merge rel .nil, hd'⟩), rfl, q _ (I2.hok.fresh hle)⟩
end WZd

set_option Elab.async false
set_option linter.all false
set_option maxRecDepth 100000
set_option maxHeartbeats 4000000
namespace W53
open PySem PySem.Spec PyProof.Rows L2 WXG WEv WRd WLf WEn WZs WRu WSt StX WDc
/-! ### the source of draws -/
def src (s : Addr) (k l : Int) : List (Key × V) := [(Sum.inr "cells", .ref s), (Sum.inr "at", .int k), (Sum.inr "left", .int l)]
theorem v_script {s : Addr} {k l : Int} : valV (src s k l) (Sum.inr "cells") = some (.ref s) := rfl
theorem v_at {s : Addr} {k l : Int} : valV (src s k l) (Sum.inr "at") = some (.int k) := rfl
theorem v_left {s : Addr} {k l : Int} : valV (src s k l) (Sum.inr "left") = some (.int l) := rfl
theorem p_at {s : Addr} {k l x : Int} : putK (src s k l) (Sum.inr "at") (.int x) = src s x l := rfl
theorem p_left {s : Addr} {k l x : Int} : putK (src s k l) (Sum.inr "left") (.int x) = src s k x := rfl
/-- the source at m: it has drawn at most a times, and given c names -/
def SrcAt (K : PySem.W.Frag) (S : Addr × List Int) (H : Hp) (m : Addr) (a c : Nat) : Prop := ∃ (s : Addr) (cs : List Int) (k l : Int), H m = some (.dK (src s k l)) ∧ SqL K H s (cs.map V.int) ∧ cs.length ≤ 1000 ∧ 0 ≤ k ∧ k ≤ a ∧ (s, cs) = S
/-- all but what stands at m is as it was -/
def But (m : Addr) (H H' : Hp) : Prop := ∀ b o, H b = some o → b ≠ m → H' b = some o
theorem But.refl {m : Addr} {H : Hp} : But m H H := fun _ _ h _ => h
theorem But.trans {m : Addr} {H H' H'' : Hp} (h : But m H H') (g : But m H' H'') : But m H H'' := fun b o e n => g b o (h b o e n) n
theorem But.put {m : Addr} {H H' : Hp} {x : HO} (h : But m H H') : But m H (upd H' m x) := fun b o e n => by rw [upd_ne n]; exact h b o e n
theorem But.new {m p : Addr} {H H' : Hp} {x : HO} (h : But m H H') (hp : H' p = none) : But m H (upd H' p x) := fun b o e n => by
  have := h b o e n
  rw [upd_ne (fun z => by rw [z, hp] at this; cases this)]
  exact this
theorem But.seq {K : PySem.W.Frag} {m s : Addr} {H H' : Hp} {kvs : List (Key × V)} {xs : List V} (h : But m H H') (hm : H m = some (.dK kvs)) (q : SqL K H s xs) : SqL K H' s xs := by
  rcases q with (q | ⟨o, q⟩) | q
  · exact .inl (.inl (h _ _ q fun z => by rw [z, hm] at q; cases q))
  · exact .inl (.inr ⟨o, h _ _ q fun z => by rw [z, hm] at q; cases q⟩)
  · exact .inr q
theorem five {s : Addr} {k l : Int} : (src s k l).length < sizeLine := (by decide : 3 < sizeLine)
theorem fmod_nn {a b : Int} (h : 0 < b) : 0 ≤ a.fmod b ∧ a.fmod b < b := by
  rw [Int.fmod_eq_emod_of_nonneg a (Int.le_of_lt h)]
  exact ⟨Int.emod_nonneg a (by omega), Int.emod_lt_of_pos a h⟩
theorem st_any {te : TE} {σ : L2.St} {H : Hp} {D : Ends} {i : Nat} {R : V → Hp → Prop} (h : ∀ Q : VK, (∀ v H', R v H' → Q v H') → te σ H Q) (q : ∀ v H', R v H' → D.nx (σ.set i (some v)) H') : tAsg te (gName i) D σ H := h _ q
def spBegun (K : PySem.W.Frag) (S : Addr × List Int) : Sp := fun vs H Q _ => vs = [.ref S.1] ∧ SqL K H S.1 (S.2.map V.int) ∧ S.2.length ≤ 1000 ∧ ∀ m H', H m = none → Same H H' → SrcAt K S H' m 0 0 → Q (.ref m) H'
def spNext (K : PySem.W.Frag) (S : Addr × List Int) : Sp := fun vs H Q _ => ∃ (m : Addr) (b : Int) (a c : Nat), vs = [.ref m, .int b] ∧ 0 < b ∧ b ≤ 1000 ∧ SrcAt K S H m a c ∧ a ≤ 100000 ∧ ∀ r H', 0 ≤ r → r < b → But m H H' → SrcAt K S H' m (a + 1) c → Q (.int r) H'
section
variable {P : Program} {w : World} {K : PySem.W.Frag} {S : Addr × List Int} {mg : Str → Option Value} {base : Heap}
theorem ok_begun (T : Env K mg) : FnOk P w K mg base CX0 1 (d_L_begun.loc K) T.fd_L_begun ["cells"] (spBegun K S) := by
  refine T.F_L_begun.ok sc_L_begun (fun vs H Q E h => ?_) (fun cdv A outer s H vs Q E hr h => ?_)
  · obtain ⟨rfl, _⟩ := h
    rfl
  · have nd := sc_L_begun.nd
    have hu := hu_of hr
    obtain ⟨rfl, hS, hl, k⟩ := h
    refine ⟨_, PSs.nox (pss_one (ps_ret (pe_disp (pps_cons pe_str (pv 0) (pps_cons pe_str pe_int (pps_cons pe_str pe_int pps_nil))) (by rfl) (by rfl) (fun z => by cases z) (by decide)))), ?_⟩
    intro p hp
    have s1 : Same H (upd H p (.dK [])) := same_new hp
    refine ⟨_, rfl, upd_same, src S.1 0 0, rfl, (by decide : 3 ≤ 15), ?_⟩
    exact k p _ hp (same_put s1 hp) ⟨S.1, S.2, 0, 0, upd_same, (same_put s1 hp).seq hS, hl, by decide, by decide, rfl⟩
theorem ok_next (T : Env K mg) : FnOk P w K mg base CX0 1 (d_L_next.loc K) T.fd_L_next ["m", "total"] (spNext K S) := by
  refine T.F_L_next.ok sc_L_next (fun vs H Q E h => ?_) (fun cdv A outer s H vs Q E hr h => ?_)
  · obtain ⟨m, b, a, c, rfl, _⟩ := h
    rfl
  · have nd := sc_L_next.nd
    have hu := hu_of hr
    obtain ⟨m, b, a, c, rfl, hb0, hb1, hS, ha, k⟩ := h
    obtain ⟨s0, cs, kk, l, hm, hc, hlen, hk0, hka, hs0⟩ := hS
    refine ⟨_, PSs.nox (pss_cons (ps_if (pt_cmpR op_gt (pe_dget hu (pv 0) pe_str (fun _ _ => rfl)) pe_int (nomark _))
  (pss_cons (ps_set (i := 2) nd rfl (Or.inl rfl) (pe_op op_modN (pe_callTy call_int1 (by rfl) T.b_int (by decide +kernel) (pa_cons (pe_dget hu (pv 0) pe_str (fun _ _ => rfl)) pa_nil)) (pv 1)))
 (pss_cons (ps_dput hu (pv 0) pe_str (pe_op op_fdivN (pe_dget hu (pv 0) pe_str (fun _ _ => rfl)) (pv 1)) rfl)
 (pss_one (ps_ret (pv 2)))))
  pss_nil)
 (pss_cons (ps_set (i := 3) nd rfl (Or.inl rfl) (pe_dget hu (pv 0) pe_str (fun _ _ => rfl)))
 (pss_cons (ps_dput hu (pv 0) pe_str (pe_op op_add (pv 3) pe_int) rfl)
 (pss_cons (ps_set (i := 4) nd rfl (Or.inl rfl) (pe_ifExp (pt_cmpR (op_neN hr.units) (pe_dget hu (pv 0) pe_str (fun _ _ => rfl)) (pe_lst pa_nil) (nomark _)) (pe_ix (ixlK (K := K)) (pe_dget hu (pv 0) pe_str (fun _ _ => rfl)) (pe_op op_modN (pe_callTy call_int1 (by rfl) T.b_int (by decide +kernel) (pa_cons (pv 3) pa_nil)) (pe_callB call_len_seq (by rfl) T.b_len (by decide +kernel) (pa_cons (pe_dget hu (pv 0) pe_str (fun _ _ => rfl)) pa_nil))) (fun _ _ => rfl)) pe_int))
 (pss_cons (ps_if (PW.pt (pw_and (pt_cmpR op_ge (pv 4) (pe_op op_pow pe_int pe_int) (nomark _)) (pw_and1 (pt_cmpR op_lt (pv 3) (pe_callB call_len_seq (by rfl) T.b_len (by decide +kernel) (pa_cons (pe_dget hu (pv 0) pe_str (fun _ _ => rfl)) pa_nil)) (nomark _)))))
  (pss_cons (ps_dput hu (pv 0) pe_str (pe_op op_fdivN (pv 4) (pv 1)) rfl)
 (pss_one (ps_ret (pe_op op_modN (pe_callTy call_int1 (by rfl) T.b_int (by decide +kernel) (pa_cons (pv 4) pa_nil)) (pv 1)))))
  pss_nil)
 (pss_cons (ps_set (i := 5) nd rfl (Or.inl rfl) (pe_op op_add (pe_op op_mul (pe_op op_modN (pe_callTy call_int1 (by rfl) T.b_int (by decide +kernel) (pa_cons (pv 4) pa_nil)) pe_int) pe_int) (pe_op op_modN (pe_callTy call_int1 (by rfl) T.b_int (by decide +kernel) (pa_cons (pe_op op_fdivN (pv 4) pe_int) pa_nil)) pe_int)))
 (pss_cons (ps_set (i := 5) nd rfl (Or.inl rfl) (pe_op op_modN (pe_callTy call_int1 (by rfl) T.b_int (by decide +kernel) (pa_cons (pe_op op_add (pe_op op_add (pe_op op_add (pv 5) (pe_op op_mul (pe_op op_mul pe_int (pv 3)) (pv 3))) (pe_op op_mul pe_int (pv 3))) pe_int) pa_nil)) pe_int))
 (pss_cons (ps_set (i := 5) nd rfl (Or.inl rfl) (pe_op op_modN (pe_callTy call_int1 (by rfl) T.b_int (by decide +kernel) (pa_cons (pe_op op_mul (pv 5) (pv 5)) pa_nil)) pe_int))
 (pss_one (ps_ret (pe_op op_modN (pe_callTy call_int1 (by rfl) T.b_int (by decide +kernel) (pa_cons (pe_op op_fdivN (pe_op op_modN (pe_callTy call_int1 (by rfl) T.b_int (by decide +kernel) (pa_cons (pe_op op_mul (pv 5) pe_int) pa_nil)) pe_int) pe_int) pa_nil)) (pv 1)))))))))))), ?_⟩
    have fin : ∀ (z : Int) (H' : Hp) (k' l' : Int), H' m = some (.dK (src s0 k' l')) → But m H H' → 0 ≤ k' → k' ≤ a + 1 → Q (.int (z.fmod b)) H' := by
      intro z H' k' l' hm' hb' h0 h1
      exact k _ _ (fmod_nn hb0).1 (fmod_nn hb0).2 hb' ⟨s0, cs, k', l', hm', hb'.seq hm hc, hlen, h0, by omega, hs0⟩
    refine WRd.st_if (evb_cmp (ev_dget (ev_var rfl) ev_c hm (k := Sum.inr "left") v_left) ev_c) ?_
    split
    · refine WRd.st_asg (ev_iI (ev_int1 (evl_cons (ev_dget (ev_var rfl) ev_c hm (k := Sum.inr "left") v_left) evl_nil)) (ev_var rfl) (by omega)) ?_
      refine st_dput (k := Sum.inr "left") (ev_iI (ev_dget (ev_var rfl) ev_c hm (k := Sum.inr "left") v_left) (ev_var rfl) ⟨by omega, by omega⟩) (ev_var rfl) ev_c hm five ?_
      rw [p_left]
      refine WRd.st_ret (ev_var rfl) ?_
      exact fin _ _ _ _ upd_same But.refl.put hk0 (by omega)
    · refine WRd.st_asg (ev_dget (ev_var rfl) ev_c hm (k := Sum.inr "at") v_at) ?_
      refine st_dput (k := Sum.inr "at") (ev_i0 (ev_var rfl) ev_c) (ev_var rfl) ev_c hm five ?_
      rw [p_at]
      have m1 : upd H m (.dK (src s0 (kk + 1) l)) m = some (.dK (src s0 (kk + 1) l)) := upd_same
      have B1 : But m H (upd H m (.dK (src s0 (kk + 1) l))) := But.refl.put
      generalize upd H m (.dK (src s0 (kk + 1) l)) = H1 at m1 B1 ⊢
      have s1 := B1.seq hm hc
      dsimp only
      show tAsg _ (gName 4) _ _ _
      refine st_any (R := fun v H2 => ∃ cell, v = .int cell ∧ H2 m = some (.dK (src s0 (kk + 1) l)) ∧ But m H H2) (fun Q' q' => ?_) (fun v H2 ⟨cell, hv, m2, B2⟩ => ?_)
      · refine ev_dget (ev_var rfl) ev_c m1 (k := Sum.inr "cells") v_script _ ?_
        refine ⟨(by decide : 0 ≤ sizeLine), fun p hp => ?_⟩
        have mp : m ≠ p := fun z => by rw [← z, m1] at hp; cases hp
        have B2 : But m H (upd H1 p (.lst [])) := B1.new hp
        have m2 : upd H1 p (.lst []) m = some (.dK (src s0 (kk + 1) l)) := by rw [upd_ne mp]; exact m1
        have s2 := B2.seq hm hc
        refine ⟨s0, p, cs.map V.int, rfl, rfl, s2, .inl (.of upd_same), ?_⟩
        refine ⟨_, rfl, ?_⟩
        generalize upd H1 p (.lst []) = H2 at B2 m2 s2 ⊢
        by_cases he : cs.map V.int = []
        · rw [decide_eq_true he]
          exact q' _ _ ⟨0, rfl, m2, B2⟩
        · rw [decide_eq_false he]
          have hL : 0 < (cs.length : Int) := by
            cases cs with
            | nil => exact absurd rfl he
            | cons x xs => simp only [List.length_cons]; omega
          have fm := fmod_nn (a := kk) hL
          obtain ⟨cell, hcell⟩ : ∃ cell, cs[(kk.fmod cs.length).toNat]? = some cell := ⟨_, List.getElem?_eq_getElem (by omega)⟩
          have hat : atI (cs.map V.int) (kk.fmod ((cs.map V.int).length : Int)) = some (.int cell) := by
            rw [List.length_map]
            have := atI_nat (xs := cs.map V.int) (j := (kk.fmod cs.length).toNat) (v := .int cell) (by rw [List.getElem?_map, hcell]; rfl)
            rw [Int.toNat_of_nonneg fm.1] at this
            exact this
          refine ev_op (v := .int cell) (ev_dget (ev_var rfl) ev_c m2 (k := Sum.inr "cells") v_script)
            (ev_iI (ev_int1 (evl_cons (ev_var rfl) evl_nil)) (ev_cb (vs := [.ref s0]) (v := .int ((cs.map V.int).length : Int)) (evl_cons (ev_dget (ev_var rfl) ev_c m2 (k := Sum.inr "cells") v_script) evl_nil) fun Q q => ⟨s0, _, rfl, .inl s2, q⟩)
              (by rw [List.length_map]; omega)) (fun Q q => ⟨s0, _, _, _, rfl, rfl, s2, hat, q⟩) _ (q' _ _ ⟨cell, rfl, m2, B2⟩)
      · subst hv
        have s2 := B2.seq hm hc
        refine WRd.st_if (evb_and (evb_cmp (ev_var rfl) (ev_iI ev_c ev_c ⟨by decide, by decide, by decide⟩)) fun _ => evb_cmp (ev_var rfl)
          (ev_cb (vs := [.ref s0]) (v := .int ((cs.map V.int).length : Int)) (evl_cons (ev_dget (ev_var rfl) ev_c m2 (k := Sum.inr "cells") v_script) evl_nil) fun Q q => ⟨s0, _, rfl, .inl s2, q⟩)) ?_
        split
        · refine st_dput (k := Sum.inr "left") (ev_iI (ev_var rfl) (ev_var rfl) ⟨by omega, by omega⟩) (ev_var rfl) ev_c m2 five ?_
          rw [p_left]
          refine WRd.st_ret (ev_iI (ev_int1 (evl_cons (ev_var rfl) evl_nil)) (ev_var rfl) (by omega)) ?_
          exact fin _ _ _ _ upd_same B2.put (by omega) (by omega)
        · have f1 := fmod_nn (a := cell) (b := 1000003) (by decide)
          refine WRd.st_asg (ev_i0 (ev_iI (ev_iI (ev_int1 (evl_cons (ev_var rfl) evl_nil)) ev_c (by decide)) ev_c (.inr (by decide))) (ev_iI (ev_int1 (evl_cons (ev_iI (ev_var rfl) ev_c ⟨by decide, by decide⟩) evl_nil)) ev_c (by decide))) ?_
          generalize cell.fmod 1000003 * 48271 + (cell.fdiv 1000003).fmod 1000003 = z1
          refine WRd.st_asg (ev_iI (ev_int1 (evl_cons (ev_i0 (ev_i0 (ev_i0 (ev_var rfl) (ev_iI (ev_iI ev_c (ev_var rfl) (.inl (by decide))) (ev_var rfl) (.inr ⟨by omega, by omega⟩))) (ev_iI ev_c (ev_var rfl) (.inl (by decide)))) ev_c) evl_nil)) ev_c (by decide)) ?_
          generalize z1 + 7919 * kk * kk + 104729 * kk + 67 = z2
          have f2 := fmod_nn (a := z2) (b := 2147483647) (by decide)
          generalize z2.fmod 2147483647 = z3 at f2 ⊢
          refine WRd.st_asg (ev_iI (ev_int1 (evl_cons (ev_iI (ev_var rfl) (ev_var rfl) (.inl ⟨by omega, by omega⟩)) evl_nil)) ev_c (by decide)) ?_
          refine WRd.st_ret (ev_iI (ev_int1 (evl_cons (ev_iI (ev_iI (ev_int1 (evl_cons (ev_iI (ev_var rfl) ev_c (.inr (by decide))) evl_nil)) ev_c (by decide)) ev_c ⟨by decide, by decide⟩) evl_nil)) (ev_var rfl) (by omega)) ?_
          exact fin _ _ _ _ m2 B2 (by omega) (by omega)
end
end W53

set_option Elab.async false
set_option linter.all false
set_option maxRecDepth 100000
set_option maxHeartbeats 4000000
namespace W53
open PySem PySem.Spec PyProof.Rows L2 WXG WEv WRd WLf WEn WZs WRu WSt StX WDc
/-! ### readings that draw -/
theorem SrcAt.new {K : PySem.W.Frag} {S : Addr × List Int} {H : Hp} {m p : Addr} {a c : Nat} {x : HO} (h : SrcAt K S H m a c) (hp : H p = none) : SrcAt K S (upd H p x) m a c := by
  obtain ⟨s, cs, k, l, hm, hs, r⟩ := h
  have B : But m H (upd H p x) := But.refl.new hp
  exact ⟨s, cs, k, l, by rw [upd_ne (fun z => by rw [← z, hm] at hp; cases hp)]; exact hm, B.seq hm hs, r⟩
theorem SrcAt.mono {K : PySem.W.Frag} {S : Addr × List Int} {H : Hp} {m : Addr} {a a' c : Nat} (h : SrcAt K S H m a c) (ha : a ≤ a') : SrcAt K S H m a' c := by
  obtain ⟨s, cs, k, l, hm, hs, h1, h2, h3, h4⟩ := h
  exact ⟨s, cs, k, l, hm, hs, h1, h2, by omega, h4⟩
theorem SrcAt.ne {K : PySem.W.Frag} {S : Addr × List Int} {H : Hp} {m p : Addr} {a c : Nat} (h : SrcAt K S H m a c) (hp : H p = none) : p ≠ m := by
  obtain ⟨s, cs, k, l, hm, _⟩ := h
  exact fun z => by rw [z, hm] at hp; cases hp
abbrev VP := V → Hp → Prop
abbrev LP := List V → Hp → Prop
def MnB (m : Addr) (P : VP) : Prop := ∀ v H H', But m H H' → P v H → P v H'
def MnL (m : Addr) (P : LP) : Prop := ∀ v H H', But m H H' → P v H → P v H'
def Dr (K : PySem.W.Frag) (S : Addr × List Int) (m : Addr) (te : TE) (σ : L2.St) (n d : Nat) (P : VP) : Prop := ∀ (a c : Nat) (H : Hp), SrcAt K S H m a c → a + n ≤ 100000 → c + d ≤ 100000 → ∀ Q : VK, (∀ v H', But m H H' → SrcAt K S H' m (a + n) (c + d) → P v H' → Q v H') → te σ H Q
def DrA (K : PySem.W.Frag) (S : Addr × List Int) (m : Addr) (te : TA) (σ : L2.St) (n d : Nat) (P : LP) : Prop := ∀ (a c : Nat) (H : Hp), SrcAt K S H m a c → a + n ≤ 100000 → c + d ≤ 100000 → ∀ Q : List V → Hp → Prop, (∀ v H', But m H H' → SrcAt K S H' m (a + n) (c + d) → P v H' → Q v H') → te σ H Q
section
variable {K : PySem.W.Frag} {S : Addr × List Int} {m : Addr} {σ : L2.St} {n d n' d' : Nat} {te ta tb : TE} {tr : TA} {P P' : VP} {Ps Ps' : LP}
theorem mb_pure {p : V → Prop} : MnB m (fun v _ => p v) := fun _ _ _ _ h => h
theorem dr_c {v : V} : Dr K S m (tC v) σ 0 0 (fun x _ => x = v) := fun a c H hS _ _ Q q => q v H But.refl hS rfl
theorem dr_var {i : Nat} {v : V} (h : σ[i]? = some (some v)) : Dr K S m (tVar i) σ 0 0 (fun x _ => x = v) := fun a c H hS _ _ Q q => ⟨v, h, q v H But.refl hS rfl⟩
theorem Dr.imp (h : Dr K S m te σ n d P) (k : ∀ v H, P v H → P' v H) : Dr K S m te σ n d P' := fun a c H hS h1 h2 Q q => h a c H hS h1 h2 Q fun v H' b s p => q v H' b s (k v H' p)
theorem DrA.imp (h : DrA K S m tr σ n d Ps) (k : ∀ v H, Ps v H → Ps' v H) : DrA K S m tr σ n d Ps' := fun a c H hS h1 h2 Q q => h a c H hS h1 h2 Q fun v H' b s p => q v H' b s (k v H' p)
theorem dra_nil : DrA K S m tNil σ 0 0 (fun x _ => x = []) := fun a c H hS _ _ Q q => q [] H But.refl hS rfl
theorem dra_cons (h : Dr K S m te σ n d P) (g : DrA K S m tr σ n' d' Ps) (mP : MnB m P) : DrA K S m (tCons te tr) σ (n + n') (d + d') (fun vs H => ∃ x xs, vs = x :: xs ∧ P x H ∧ Ps xs H) :=
  fun a c H hS h1 h2 Q q => h a c H hS (by omega) (by omega) _ fun x H1 b1 s1 p1 => g (a + n) (c + d) H1 s1 (by omega) (by omega) _ fun xs H2 b2 s2 p2 =>
    q (x :: xs) H2 (b1.trans b2) (by rw [← Nat.add_assoc, ← Nat.add_assoc]; exact s2) ⟨x, xs, rfl, mP _ _ _ b2 p1, p2⟩
theorem dr_lst (h : DrA K S m tr σ n d Ps) (hl : ∀ xs H, Ps xs H → xs.length ≤ 1000) (mP : MnL m Ps) : Dr K S m (tLst tr) σ n d (fun v H => ∃ l xs, v = .ref l ∧ H l = some (.lst xs) ∧ l ≠ m ∧ Ps xs H) :=
  fun a c H hS h1 h2 Q q => h a c H hS h1 h2 _ fun xs H1 b1 s1 p1 => ⟨Nat.le_trans (hl _ _ p1) (by decide), fun l hn => q (.ref l) _ (b1.new hn) (s1.new hn) ⟨l, xs, rfl, upd_same, s1.ne hn, mP _ _ _ (But.refl.new hn) p1⟩⟩
theorem dr_op0 {i j : Int → Prop} {g : Int → Int → V} (h : Dr K S m ta σ n d (fun v _ => ∃ x, v = .int x ∧ i x)) (h' : Dr K S m tb σ n' d' (fun v _ => ∃ x, v = .int x ∧ j x)) :
    Dr K S m (tOp (rI0 g) ta tb) σ (n + n') (d + d') (fun v _ => ∃ x y, v = g x y ∧ i x ∧ j y) :=
  fun a c H hS h1 h2 Q q => h a c H hS (by omega) (by omega) _ fun x H1 b1 s1 ⟨x', ex, px⟩ => h' (a + n) (c + d) H1 s1 (by omega) (by omega) _ fun y H2 b2 s2 ⟨y', ey, py⟩ =>
    ⟨x', y', ex, ey, q _ H2 (b1.trans b2) (by rw [← Nat.add_assoc, ← Nat.add_assoc]; exact s2) ⟨x', y', rfl, px, py⟩⟩
theorem dr_pure {te : TE} {p : V → Prop} (h : ∀ H (Q : VK), (∀ v, p v → Q v H) → te σ H Q) : Dr K S m te σ 0 0 (fun v _ => p v) := fun a c H hS _ _ Q q => h H Q fun v pv => q v H But.refl hS pv
theorem dr_next {b : Int} {E : XK} (h : DrA K S m tr σ n d (fun vs _ => vs = [.ref m, .int b])) (h0 : 0 < b) (hb : b ≤ 1000) : Dr K S m (tCall (spNext K S) [] E tr) σ (n + 1) d (fun v _ => ∃ r, v = .int r ∧ 0 ≤ r ∧ r < b) :=
  fun a c H hS h1 h2 Q q => h a c H hS (by omega) h2 _ fun vs H1 b1 s1 e => ⟨m, b, a + n, c + d, by rw [e]; rfl, h0, hb, s1, by omega, fun r H2 r0 r1 b2 s2 => q _ H2 (b1.trans b2) s2 ⟨r, rfl, r0, r1⟩⟩
theorem dra_mi {b : Int} (hm : σ[0]? = some (some (.ref m))) : DrA K S m (tCons (tVar 0) (tCons (tC (.int b)) tNil)) σ 0 0 (fun vs _ => vs = [.ref m, .int b]) :=
  (dra_cons (dr_var hm) (dra_cons dr_c dra_nil mb_pure) mb_pure).imp fun v H ⟨x, xs, e, ex, y, ys, e2, ey, e3⟩ => by subst e e2 ex ey e3; rfl
theorem dr_next' {b : Int} {E : XK} (hm : σ[0]? = some (some (.ref m))) (h0 : 0 < b) (hb : b ≤ 1000) : Dr K S m (tCall (spNext K S) [] E (tCons (tVar 0) (tCons (tC (.int b)) tNil))) σ 1 0 (fun v _ => ∃ r, v = .int r ∧ 0 ≤ r ∧ r < b) := dr_next (n := 0) (dra_mi hm) h0 hb
end
def spOf (K : PySem.W.Frag) (S : Addr × List Int) : Sp := fun vs H Q _ => ∃ (m l : Addr) (xs : List V) (a c : Nat), vs = [.ref m, .ref l] ∧ H l = some (.lst xs) ∧ xs ≠ [] ∧ xs.length ≤ 1000 ∧ SrcAt K S H m a c ∧ a ≤ 100000 ∧ l ≠ m ∧
  ∀ v H', v ∈ xs → But m H H' → SrcAt K S H' m (a + 1) c → Q v H'
section
variable {P : Program} {w : World} {K : PySem.W.Frag} {S : Addr × List Int} {mg : Str → Option Value} {base : Heap}
theorem ok_of (T : Env K mg) : FnOk P w K mg base CX0 2 (d_L_of.loc K) T.fd_L_of ["m", "items"] (spOf K S) := by
  have G_L_next : FnOk P w K mg base CX0 1 _ _ _ _ := ok_next (S := S) T
  refine T.F_L_of.ok sc_L_of (fun vs H Q E h => ?_) (fun cdv A outer s H vs Q E hr h => ?_)
  · obtain ⟨m, l, xs, a, c, rfl, _⟩ := h
    rfl
  · have nd := sc_L_of.nd
    have hu := hu_of hr
    obtain ⟨m, l, xs, a, c, rfl, hl, hne, hlen, hS, ha, hlm, k⟩ := h
    refine ⟨_, PSs.nox (pss_one (ps_ret (pe_ix (ixlK (K := K)) (pv 1) (pe_call G_L_next (hr.mono (by decide)) (by rfl) T.g__law_next T.F_L_next.kp T.bi_L_next .nil pass0 (pa_cons (pv 0) (pa_cons (pe_callB call_len_seq (by rfl) T.b_len (by decide +kernel) (pa_cons (pv 1) pa_nil)) pa_nil))) (fun _ _ => rfl)))), ?_⟩
    have hx : 0 < xs.length := List.length_pos_iff.mpr hne
    refine ⟨.ref l, rfl, .ref m, rfl, .ref l, rfl, l, xs, rfl, .inl (.inl (.of hl)), ?_⟩
    refine ⟨m, (xs.length : Int), a, c, rfl, by omega, by omega, hS, ha, fun r H' h0 h1 hb hS' => ?_⟩
    obtain ⟨v, hv⟩ : ∃ v, xs[r.toNat]? = some v := ⟨_, List.getElem?_eq_getElem (by omega)⟩
    have hat := atI_nat hv
    rw [Int.toNat_of_nonneg h0] at hat
    exact ⟨l, xs, r, v, rfl, rfl, .inl (.of (hb _ _ hl hlm)), hat, k v H' (List.mem_of_getElem? hv) hb hS'⟩
end
end W53

set_option Elab.async false
set_option linter.all false
set_option maxRecDepth 100000
set_option maxHeartbeats 4000000
namespace W53
open PySem PySem.Spec PyProof.Rows L2 WXG WEv WRd WLf WEn WZs WRu WSt StX WDc
section
variable {K : PySem.W.Frag} {S : Addr × List Int} {m : Addr} {σ : L2.St} {n d n' d' k : Nat} {te ta tb : TE} {tr : TA} {p : V → Prop}
theorem dral_nil : DrA K S m tNil σ 0 0 (fun xs _ => xs.length = 0 ∧ ∀ x ∈ xs, p x) := dra_nil.imp fun v H e => by subst e; exact ⟨rfl, fun x hx => absurd hx (by simp)⟩
theorem dral_cons (h : Dr K S m te σ n d (fun v _ => p v)) (g : DrA K S m tr σ n' d' (fun xs _ => xs.length = k ∧ ∀ x ∈ xs, p x)) : DrA K S m (tCons te tr) σ (n + n') (d + d') (fun xs _ => xs.length = k + 1 ∧ ∀ x ∈ xs, p x) :=
  (dra_cons h g mb_pure).imp fun v H ⟨x, xs, e, px, hl, hp⟩ => by
    subst e
    refine ⟨by rw [List.length_cons, hl], fun y hy => ?_⟩
    rcases List.mem_cons.mp hy with e | hy
    · rw [e]; exact px
    · exact hp y hy
theorem ml_pure {p : List V → Prop} : MnL m (fun v _ => p v) := fun _ _ _ _ h => h
theorem dr_ev {v : V} (h : ∀ H, Ev te σ H v) (hp : p v) : Dr K S m te σ 0 0 (fun v _ => p v) := fun a c H hS _ _ Q q => h H Q (q v H But.refl hS hp)
theorem st_retD {a c : Nat} {H : Hp} {D : Ends} {P : VP} (h : Dr K S m te σ n d P) (hS : SrcAt K S H m a c) (h1 : a + n ≤ 100000) (h2 : c + d ≤ 100000) (q : ∀ v H', But m H H' → SrcAt K S H' m (a + n) (c + d) → P v H' → D.rt v H') : tRet te D σ H := h a c H hS h1 h2 _ q
theorem st_asgD {a c i : Nat} {H : Hp} {D : Ends} {P : VP} (h : Dr K S m te σ n d P) (hS : SrcAt K S H m a c) (h1 : a + n ≤ 100000) (h2 : c + d ≤ 100000) (q : ∀ v H', But m H H' → SrcAt K S H' m (a + n) (c + d) → P v H' → D.nx (σ.set i (some v)) H') : tAsg te (gName i) D σ H := h a c H hS h1 h2 _ q
theorem dr_ix {b : Int} {k : Nat} (h : Dr K S m ta σ n d (fun v H => ∃ l xs, v = .ref l ∧ H l = some (.lst xs) ∧ l ≠ m ∧ xs.length = k ∧ ∀ x ∈ xs, p x)) (g : Dr K S m tb σ n' d' (fun v _ => ∃ r, v = .int r ∧ 0 ≤ r ∧ r < b)) (hb : b ≤ k) : Dr K S m (tOp (rIxL K) ta tb) σ (n + n') (d + d') (fun v _ => p v) :=
  fun a c H hS h1 h2 Q q => h a c H hS (by omega) (by omega) _ fun v H1 b1 s1 ⟨l, xs, ev, hl, hlm, hlen, hp⟩ => g (a + n) (c + d) H1 s1 (by omega) (by omega) _ fun u H2 b2 s2 ⟨r, eu, h0, h1'⟩ => by
    subst ev eu
    obtain ⟨v, hv⟩ : ∃ v, xs[r.toNat]? = some v := ⟨_, List.getElem?_eq_getElem (by omega)⟩
    have hat := atI_nat hv
    rw [Int.toNat_of_nonneg h0] at hat
    exact ⟨l, xs, r, v, rfl, rfl, .inl (.of (b2 _ _ hl hlm)), hat, q v H2 (b1.trans b2) (by rw [← Nat.add_assoc, ← Nat.add_assoc]; exact s2) (hp v (List.mem_of_getElem? hv))⟩
theorem dr_int {z : Int} : Dr K S m (tC (.int z)) σ 0 0 (fun v _ => ∃ x, v = .int x ∧ x = z) := dr_ev (fun H => ev_c) ⟨z, rfl, rfl⟩
end
/-- 0 .. 10 ** 9 -/
def TkV (v : V) : Prop := ∃ i : Int, v = .int i ∧ 0 ≤ i ∧ i ≤ 1000000000
def LimV (v : V) : Prop := v = .non ∨ TkV v
end W53

set_option Elab.async false
set_option linter.all false
set_option maxRecDepth 100000
set_option maxHeartbeats 2000000
/-! displays of constants as values of any kind -/
namespace WGp
open PySem PySem.Spec PyProof.Rows L2 WEv WRd WLf WPv WEb WRu
mutual
theorem at_dom {K : PySem.W.Frag} {N : Addr → Prop} {H : Hp} : ∀ (p : Pv) {v : V}, At K N p v H → At K (fun a => N a ∧ H a ≠ none) p v H
  | .non, _, h => h
  | .bl _, _, h => h
  | .int _, _, h => h
  | .str _, _, h => h
  | .dic, _, ⟨p, e1, hn, h⟩ => ⟨p, e1, ⟨hn, by rw [h]; exact fun z => nomatch z⟩, h⟩
  | .tup l, _, ⟨p, xs, e1, h, a, z⟩ => ⟨p, xs, e1, h, atl_dom l a, z⟩
  | .lst l, _, ⟨p, xs, e1, hn, h, a, z⟩ => ⟨p, xs, e1, ⟨hn, by rw [h]; exact fun z => nomatch z⟩, h, atl_dom l a, z⟩
  | .wrk l, _, ⟨a, dx, q, xs, e1, h, h1, h2, h3⟩ => ⟨a, dx, q, xs, e1, h, h1, h2, atl_dom l h3⟩
  | .sup n d, _, ⟨a, dx, q, c, e1, h⟩ => ⟨a, dx, q, c, e1, h⟩
theorem atl_dom {K : PySem.W.Frag} {N : Addr → Prop} {H : Hp} : ∀ (l : List Pv) {xs : List V}, AtL K N l xs H → AtL K (fun a => N a ∧ H a ≠ none) l xs H
  | [], _, h => h
  | p :: l, _, ⟨y, ys, e1, h, h2⟩ => ⟨y, ys, e1, at_dom p h, atl_dom l h2⟩
end
/-- values that stood before l was made do not stand at l -/
theorem atl_ne {K : PySem.W.Frag} {N : Addr → Prop} {H : Hp} {l : Addr} {ps : List Pv} {xs : List V} (h : AtL K N ps xs H) (hl : H l = none) : AtL K (fun a => N a ∧ a ≠ l) ps xs H := atl_imp (fun a h => ⟨h.1, fun z => h.2 (by rw [z]; exact hl)⟩) _ (atl_dom _ h)
theorem at_ne {K : PySem.W.Frag} {N : Addr → Prop} {H : Hp} {l : Addr} {p : Pv} {v : V} (h : At K N p v H) (hl : H l = none) : At K (fun a => N a ∧ a ≠ l) p v H := at_imp (fun a h => ⟨h.1, fun z => h.2 (by rw [z]; exact hl)⟩) _ (at_dom _ h)
section
variable {K : PySem.W.Frag} {N : Addr → Prop} {σ : L2.St} {H : Hp} {te ta : TE} {tr : TA} {p : Pv} {ps : List Pv} {v : V} {i : Int} {D : Ends}
structure GL (K : PySem.W.Frag) (N : Addr → Prop) (tr : TA) (σ : L2.St) (H : Hp) (ps : List Pv) : Prop where
  ev : EvA tr σ H (AtL K N ps)
theorem gl_nil : GL K N tNil σ H [] := ⟨fun H1 _ _ q => q _ H1 (Same.refl H1) rfl⟩
theorem gl_cons (h : G te σ H (At K N p)) (g : GL K N tr σ H ps) : GL K N (tCons te tr) σ H (p :: ps) := ⟨fun H1 e Q q => h.ev H1 e _ fun x H2 s2 p2 => g.ev H2 (e.trans s2) _ fun xs H3 s3 p3 => q _ H3 (s2.trans s3) ⟨x, xs, rfl, mn_at _ _ _ s3 p2, p3⟩⟩
theorem g_non : G (tC .non) σ H (At K N .non) := ⟨fun H1 _ _ q => q _ H1 (Same.refl H1) rfl, mn_at⟩
theorem g_bl {b : Bool} : G (tC (.bl b)) σ H (At K N (.bl b)) := ⟨fun H1 _ _ q => q _ H1 (Same.refl H1) rfl, mn_at⟩
theorem g_int : G (tC (.int i)) σ H (At K N (.int i)) := ⟨fun H1 _ _ q => q _ H1 (Same.refl H1) rfl, mn_at⟩
theorem g_str {z : Str} (h : z.length ≤ 1000) : G (tC (.str z)) σ H (At K N (.str z)) := ⟨fun H1 _ _ q => q _ H1 (Same.refl H1) ⟨rfl, h⟩, mn_at⟩
theorem g_evI (h : ∀ H1, Same H H1 → Ev te σ H1 (.int i)) : G te σ H (At K N (.int i)) := ⟨fun H1 e _ q => h H1 e _ (q _ H1 (Same.refl H1) rfl), mn_at⟩
theorem g_varA {n : Nat} (h : σ[n]? = some (some v)) (a : At K N p v H) : G (tVar n) σ H (At K N p) := g_varP h a mn_at
theorem g_tupP (h : GL K N tr σ H ps) (hz : ps.length ≤ 1000) : G (tTup tr) σ H (At K N (.tup ps)) := ⟨fun H1 e _ q => h.ev H1 e _ fun xs H2 s2 p2 =>
  ⟨by rw [p2.len]; exact Nat.le_trans hz (by decide), fun t ht => q _ _ (s2.trans (same_new ht)) ⟨t, xs, rfl, .inl (.inl upd_same), mn_atl _ _ _ (same_new ht) p2, hz⟩⟩, mn_at⟩
theorem g_lstP (hN : ∀ t H1, Same H H1 → H1 t = none → N t) (h : GL K N tr σ H ps) (hz : ps.length ≤ 1000) : G (tLst tr) σ H (At K N (.lst ps)) := ⟨fun H1 e _ q => h.ev H1 e _ fun xs H2 s2 p2 =>
  ⟨by rw [p2.len]; exact Nat.le_trans hz (by decide), fun t ht => q _ _ (s2.trans (same_new ht)) ⟨t, xs, rfl, hN t _ (e.trans s2) ht, upd_same, mn_atl _ _ _ (same_new ht) p2, hz⟩⟩, mn_at⟩
theorem g_dicP (hN : ∀ t H1, Same H H1 → H1 t = none → N t) : G tDNewK σ H (At K N .dic) := ⟨fun H1 e _ q t ht => q _ _ (same_new ht) ⟨t, rfl, hN t _ e ht, upd_same⟩, mn_at⟩
theorem atl_rep {H : Hp} {xs : List V} (h : AtL K N ps xs H) : ∀ n, AtL K N (List.replicate n ps).flatten (List.replicate n xs).flatten H
  | 0 => rfl
  | n + 1 => by
    rw [List.replicate_succ, List.replicate_succ, List.flatten_cons, List.flatten_cons]
    exact h.app (atl_rep h n)
theorem g_repP {k : Nat} (h : G te σ H (At K N (.tup ps))) (hk : ps ≠ [] ∧ 2 ≤ k ∧ k ≤ 1000) (hz : (List.replicate k ps).flatten.length ≤ 1000) : G (tOp (rRepT K) te (tC (.int (k : Int)))) σ H (At K N (.tup (List.replicate k ps).flatten)) := ⟨fun H1 e _ q => h.ev H1 e _ fun x H2 s2 p2 => by
  obtain ⟨t, xs, rfl, ht, ha, hl⟩ := p2
  refine ⟨t, (k : Int), xs, rfl, rfl, ht, fun z => ?_, by omega, by omega, by rw [ha.len]; exact hl, fun r hr => ?_⟩
  · have := ha.len
    rw [z] at this
    exact hk.1 (List.length_eq_zero_iff.mp this.symm)
  · rw [Int.toNat_natCast]
    exact q _ _ (s2.trans (same_new hr)) ⟨r, _, rfl, .inl (.inl upd_same), mn_atl _ _ _ (same_new hr) (atl_rep ha k), hz⟩, mn_at⟩
theorem g_mulS {z : Str} {k : Nat} (hk : k ≤ 1000) (hz : z.length ≤ 1000) (h : (repS z k).length ≤ 1000) : G (tOp rMulS (tC (.str z)) (tC (.int (k : Int)))) σ H (At K N (.str (repS z k))) := ⟨fun H1 _ _ q => ⟨z, k, rfl, rfl, hk, hz, q _ H1 (Same.refl H1) ⟨rfl, h⟩⟩, mn_at⟩
theorem g_ifP {tt : TT} {b : Bool} (ht : ∀ H1, Same H H1 → EvB tt σ H1 b) (ha : G te σ H (At K N p)) (hb : G ta σ H (At K N p)) : G (tIf tt te ta) σ H (At K N p) := ⟨fun H1 e Q q => ht H1 e _ (by
  cases b with
  | true => exact ha.ev H1 e Q q
  | false => exact hb.ev H1 e Q q), mn_at⟩
/-- a + b, two lists -/
theorem g_catL {qs : List Pv} {tb : TE} (ha : G ta σ H (At K N (.lst ps))) (hb : G tb σ H (At K N (.lst qs))) (hN : ∀ t H1, Same H H1 → H1 t = none → N t) (hz : (ps ++ qs).length ≤ 1000) : G (tOp rCat ta tb) σ H (At K N (.lst (ps ++ qs))) := ⟨fun H1 e _ q =>
  ha.ev H1 e _ fun a H2 s2 pa => hb.ev H2 (e.trans s2) _ fun b H3 s3 pb => by
    obtain ⟨l, xs, rfl, _, hl, al, _⟩ := mn_at _ _ _ s3 pa
    obtain ⟨m, ys, rfl, _, hm, am, _⟩ := pb
    refine ⟨l, m, xs, ys, rfl, rfl, hl, hm, by rw [al.len, am.len, ← List.length_append]; exact Nat.le_trans hz (by decide), fun r hr => ?_⟩
    have s4 := same_new (o := .lst (xs ++ ys)) hr
    exact q _ _ ((s2.trans s3).trans s4) ⟨r, _, rfl, hN r _ (e.trans (s2.trans s3)) hr, upd_same, mn_atl _ _ _ s4 (al.app am), hz⟩, mn_at⟩
/-- a + b, two tuples -/
theorem g_catT {qs : List Pv} {tb : TE} (ha : G ta σ H (At K N (.tup ps))) (hb : G tb σ H (At K N (.tup qs))) (hp : ps ≠ [] ∧ qs ≠ []) (hz : (ps ++ qs).length ≤ 1000) : G (tOp (rCatT K) ta tb) σ H (At K N (.tup (ps ++ qs))) := ⟨fun H1 e _ q =>
  ha.ev H1 e _ fun a H2 s2 pa => hb.ev H2 (e.trans s2) _ fun b H3 s3 pb => by
    obtain ⟨l, xs, rfl, hl, al, _⟩ := mn_at _ _ _ s3 pa
    obtain ⟨m, ys, rfl, hm, am, _⟩ := pb
    have nx : xs ≠ [] := fun z => by have := al.len; rw [z] at this; exact hp.1 (List.length_eq_zero_iff.mp this.symm)
    have ny : ys ≠ [] := fun z => by have := am.len; rw [z] at this; exact hp.2 (List.length_eq_zero_iff.mp this.symm)
    refine ⟨l, m, xs, ys, rfl, rfl, hl, hm, nx, by rw [al.len, am.len, ← List.length_append]; exact Nat.le_trans hz (by decide), fun z => absurd z ny, fun _ r hr => ?_⟩
    have s4 := same_new (o := .tup (xs ++ ys)) hr
    exact q _ _ ((s2.trans s3).trans s4) ⟨r, _, rfl, .inl (.inl upd_same), mn_atl _ _ _ s4 (al.app am), hz⟩, mn_at⟩
/-- a list of values at l -/
def LAt (K : PySem.W.Frag) (N : Addr → Prop) (ps : List Pv) (l : Addr) (H : Hp) : Prop := ∃ xs, H l = some (.lst xs) ∧ AtL K N ps xs H
/-- some.append(e), some at l, its items elsewhere -/
theorem st_appP {n : Nat} {l : Addr} (h0 : σ[n]? = some (some (.ref l))) (hl : LAt K N ps l H) (hn : ¬ N l) (hz : ps.length ≤ 1000) (h : G te σ H (At K N p)) (k : ∀ H1, (∀ b o, H b = some o → b ≠ l → H1 b = some o) → LAt K N (ps ++ [p]) l H1 → D.nx σ H1) : tDrop (tBM K "list" rAppend (tVar n) (tCons te tNil)) D σ H := by
  obtain ⟨xs, hl, ha⟩ := hl
  refine ⟨_, h0, .inl ⟨rfl, _, .of hl⟩, h.ev H (Same.refl _) _ fun y H2 s2 py => ?_⟩
  have kn : Kn N H2 (upd H2 l (.lst (xs ++ [y]))) := Kn.lst (s2 _ _ hl) hn
  refine ⟨l, xs, y, rfl, rfl, s2 _ _ hl, Nat.lt_of_le_of_lt (show xs.length ≤ 1000 by rw [ha.len]; exact hz) (by decide), ?_⟩
  refine k _ (fun b o hb ne => by rw [upd_ne ne]; exact s2 _ _ hb) ⟨_, upd_same, (atl_kn ((Kn.same s2).trans kn) _ ha).app (AtL.one (at_kn kn _ py))⟩
end
end WGp

set_option Elab.async false
set_option linter.all false
set_option maxRecDepth 100000
set_option maxHeartbeats 1000000
namespace W53
open PySem PySem.Spec PyProof.Rows L2 WXG WEv WRd WLf WEn WZs WRu WSt StX WDc WPv WEb WXO WXE WKd WGp
/-! ### plans made, values drawn -/
theorem wrongGo_rows : ∀ (i : Nat) (kn : List (Str × Str)) (rs : List Pv), wrongGo i kn rs = none → rs.all isRow = true
  | _, _, [], _ => rfl
  | i, kn, r :: rs, h => by
    unfold wrongGo at h
    split at h
    · cases h
    · rename_i hc
      have h1 : isRow r = true := by
        cases e : isRow r with
        | true => rfl
        | false => exact absurd (by rw [e]; simp) hc
      rw [List.all_cons, h1, wrongGo_rows _ _ _ h]
      rfl
theorem row_form {p : Pv} (h : isRow p = true) : rowForm p = true := by
  obtain ⟨a, b, c, ds, rfl⟩ := isRow_of h
  rw [isRow_eq] at h
  have h1 : rowD (.tup ds) = true := by
    have := (Bool.and_eq_true _ _).mp h
    have := (Bool.and_eq_true _ _).mp this.2
    exact ((Bool.and_eq_true _ _).mp this.2).2
  have h2 : ds.all isDeed = true := ((Bool.and_eq_true _ _).mp h1).2
  show ds.all _ = true
  refine List.all_eq_true.mpr fun d hd => ?_
  have h3 := List.all_eq_true.mp h2 d hd
  unfold isDeed at h3
  split at h3
  · rfl
  · cases h3
theorem scr_form {p : Pv} (h : isScript p = true) : scrForm p = true := by
  cases p with
  | tup rs =>
    have h1 : (wrongGo 0 [] rs).isNone = true := h
    have h2 := wrongGo_rows 0 [] rs (Option.isNone_iff_eq_none.mp h1)
    exact List.all_eq_true.mpr fun r hr => row_form (List.all_eq_true.mp h2 r hr)
  | _ => cases h
theorem wRows_ok {p1 p2 p3 p4 p5 p6 p7 : Pv} (h : firstBad (wRows p1 p2 p3 p4 p5 p6 p7) = none) : isScript p7 = true := by
  unfold wRows firstBad at h
  split at h
  case isFalse => cases h
  unfold firstBad at h
  split at h
  case isFalse => cases h
  unfold firstBad at h
  split at h
  case isFalse => cases h
  unfold firstBad at h
  split at h
  case isFalse => cases h
  unfold firstBad at h
  split at h
  case isFalse => cases h
  unfold firstBad at h
  split at h
  case isFalse => cases h
  unfold firstBad at h
  split at h
  case isFalse => cases h
  rename_i h7
  exact h7
theorem same_two {H : Hp} {x dx : Addr} {o o' : HO} (hx : H x = none) (hdx : H dx = none) (ne : dx ≠ x) : Same H (upd (upd H dx o) x o') := (same_new hdx).trans (same_new (by rw [upd_ne (Ne.symm ne)]; exact hx))
section
variable {K : PySem.W.Frag} {N M : Addr → Prop} {σ : L2.St} {H : Hp} {Q : VK} {E : XK}
theorem w_init {x dx : Addr} {p1 p2 p3 p4 p5 p6 p7 : Pv} {v1 v2 v3 v4 v5 v6 v7 : V} (al : AtL K N [p1, p2, p3, p4, p5, p6, p7] [v1, v2, v3, v4, v5, v6, v7] H) (hos : okScr p7 = true) (hx : H x = none) (hdx : H dx = none) (ne : dx ≠ x)
    (k : firstBad (wRows p1 p2 p3 p4 p5 p6 p7) = none → ∀ H', Same H H' → At K N (.wrk [p1, p2, p3, p4, p5, p6, p7]) (.ref x) H' → Q (.ref x) H') (ke : ∀ f, firstBad (wRows p1 p2 p3 p4 p5 p6 p7) = some f → Err H (BS K) "setting" (.str f) E) :
    spWInit K [.ref x, v1, v2, v3, v4, v5, v6, v7] (upd (upd H dx (.own x)) x (.ins (CW K) dx [])) (fun v H3 => v = .non ∧ Q (.ref x) H3) E := by
  have sp := same_two (o := .own x) (o' := .ins (CW K) dx []) hx hdx ne
  refine ⟨N, x, dx, p1, p2, p3, p4, p5, p6, p7, v1, v2, v3, v4, v5, v6, v7, rfl, mn_atl _ _ _ sp al, hos, upd_same, fun hb q H' he hq => ⟨rfl, ?_⟩, fun f hf => (ke f hf).mono sp⟩
  have sH : Same H H' := fun b u hb => he.1 b u (sp _ _ hb) fun z => by rw [z, hx] at hb; cases hb
  exact k hb H' sH ⟨x, dx, q, _, rfl, he.2, .inl (.inl hq), ⟨_, _, _, _, _, _, _, rfl, scr_form (wRows_ok hb)⟩, mn_atl _ _ _ sH al⟩
theorem s_init {x dx : Addr} {ks : List Pv} {ys : List V} {p1 p2 p3 p4 p5 p6 : Pv} {v1 v2 v3 v4 v5 v6 : V} (al : AtL K N [p1, p2, p3, p4, p5, p6] [v1, v2, v3, v4, v5, v6] H) (ak : AtL K M ks ys H) (hx : H x = none) (hdx : H dx = none) (ne : dx ≠ x)
    (k : firstBad (sRows p1 p2 p3 p4 p5 p6) = none → badChild 0 1 1 ks = none → ∀ H', Same H H' → (∃ dx q c, H' x = some (SIns K dx q c (endCD 1 1 ks).1 (endCD 1 1 ks).2)) → Q (.ref x) H')
    (kc : firstBad (sRows p1 p2 p3 p4 p5 p6) = none → ∀ i, badChild 0 1 1 ks = some i → Err H (BC K) "index" (.int (i : Nat)) E) (ke : ∀ f, firstBad (sRows p1 p2 p3 p4 p5 p6) = some f → Err H (BS K) "setting" (.str f) E) :
    ∀ p, upd (upd H dx (.own x)) x (.ins (CS K) dx []) p = none → spSInit K [.ref x, v1, v2, v3, v4, v5, v6, .ref p] (upd (upd (upd H dx (.own x)) x (.ins (CS K) dx [])) p (.tup ys)) (fun v H3 => v = .non ∧ Q (.ref x) H3) E := by
  intro p hp
  have sp0 := same_two (o := .own x) (o' := .ins (CS K) dx []) hx hdx ne
  have e1 : upd (upd H dx (.own x)) x (.ins (CS K) dx []) x = some (.ins (CS K) dx []) := upd_same
  generalize upd (upd H dx (.own x)) x (.ins (CS K) dx []) = H2 at *
  have xp : x ≠ p := fun z => by rw [← z, e1] at hp; cases hp
  have sp := sp0.trans (same_new (o := .tup ys) hp)
  refine ⟨N, M, x, dx, p, ks, ys, p1, p2, p3, p4, p5, p6, v1, v2, v3, v4, v5, v6, rfl, mn_atl _ _ _ sp al, upd_same, mn_atl _ _ _ sp ak, (same_new hp) _ _ e1, fun hb => ⟨fun hc q H' he hq => ⟨rfl, ?_⟩, fun i hi => (kc hb i hi).mono sp⟩, fun f hf => (ke f hf).mono sp⟩
  have sH : Same H H' := fun b u hb => he.1 b u (sp _ _ hb) fun z => by rw [z, hx] at hb; cases hb
  exact k hb hc H' sH ⟨dx, q, p, he.2⟩
/-- WorkerPlan(z, script=s) -/
theorem g_mkWs {ts : TE} {z : Str} {s : Pv} (hz : isName (.str z) = true ∧ z.length ≤ 1000) (hs : G ts σ H (At K N s)) (h : isScript s = true ∧ okScr s = true) : G (tMkKF (CW K) (spkWs K) 1 E (tCons (tC (.str z)) tNil) (tCons ts tNil)) σ H (At K N (.wrk [.str z, .str "permanent", .int 0, .int 0, .non, .int 0, s])) := ⟨fun H1 e Q q => hs.ev H1 e _ fun v H2 s2 p2 =>
  ⟨rfl, fun x dx hx hdx ne => ⟨rfl, w_init (N := N) (Q := Q) (p1 := .str z) (p2 := .str "permanent") (p3 := .int 0) (p4 := .int 0) (p5 := .non) (p6 := .int 0) (p7 := s) ⟨_, _, rfl, ⟨rfl, hz.2⟩, _, _, rfl, ⟨rfl, Nat.le_of_ble_eq_true rfl⟩, _, _, rfl, rfl, _, _, rfl, rfl, _, _, rfl, rfl, _, _, rfl, rfl, _, _, rfl, p2, rfl⟩ h.2 hx hdx ne (fun _ H' s' a => q _ _ (s2.trans s') a) fun f hf => by
    have : firstBad (wRows (.str z) (.str "permanent") (.int 0) (.int 0) .non (.int 0) s) = none := by
      simp only [wRows, firstBad, hz.1, h.1, if_true]
      decide
    rw [this] at hf
    cases hf⟩⟩, mn_at⟩
/-- WorkerPlan(z) -/
theorem g_mkW0 (hsd : ∀ H, SqT K H (sdA K) []) {z : Str} (hz : isName (.str z) = true ∧ z.length ≤ 1000) : G (tMkKF (CW K) (spkW0 K) 0 E (tCons (tC (.str z)) tNil) tNil) σ H (At K N (.wrk [.str z, .str "permanent", .int 0, .int 0, .non, .int 0, .tup []])) := ⟨fun H2 e Q q =>
  ⟨rfl, fun x dx hx hdx ne => ⟨rfl, w_init (N := N) (Q := Q) (p1 := .str z) (p2 := .str "permanent") (p3 := .int 0) (p4 := .int 0) (p5 := .non) (p6 := .int 0) (p7 := .tup []) ⟨_, _, rfl, ⟨rfl, hz.2⟩, _, _, rfl, ⟨rfl, Nat.le_of_ble_eq_true rfl⟩, _, _, rfl, rfl, _, _, rfl, rfl, _, _, rfl, rfl, _, _, rfl, rfl, _, _, rfl, ⟨sdA K, [], rfl, hsd _, rfl, Nat.zero_le _⟩, rfl⟩ rfl hx hdx ne (fun _ H' s' a => q _ _ s' a) fun f hf => by
    have : firstBad (wRows (.str z) (.str "permanent") (.int 0) (.int 0) .non (.int 0) (.tup [])) = none := by
      simp only [wRows, firstBad, hz.1, if_true]
      decide
    rw [this] at hf
    cases hf⟩⟩, mn_at⟩
/-- SupervisorPlan(z, e, ..) -/
theorem g_mkS0 {tr : TA} {z : Str} {ks : List Pv} (hz : isName (.str z) = true ∧ z.length ≤ 1000) (hk : GL K M tr σ H ks) (hb : badChild 0 1 1 ks = none ∧ ks.length ≤ 1000) : G (tMkKF (CS K) (spkS0 K) 0 E (tCons (tC (.str z)) tr) tNil) σ H (At K N (.sup (endCD 1 1 ks).1 (endCD 1 1 ks).2)) := ⟨fun H1 e Q q => hk.ev H1 e _ fun ys H2 s2 p2 =>
  ⟨rfl, fun x dx hx hdx ne => ⟨[.ref x, .str z], ys, rfl, rfl, by rw [p2.len]; exact Nat.le_trans hb.2 (by decide), s_init (N := N) (Q := Q) (p1 := .str z) (p2 := .str "permanent") (p3 := .str "one") (p4 := .int 1) (p5 := .int 10) (p6 := .non) ⟨_, _, rfl, ⟨rfl, hz.2⟩, _, _, rfl, ⟨rfl, Nat.le_of_ble_eq_true rfl⟩, _, _, rfl, ⟨rfl, Nat.le_of_ble_eq_true rfl⟩, _, _, rfl, rfl, _, _, rfl, rfl, _, _, rfl, rfl, rfl⟩ p2 hx hdx ne (fun _ _ H' s' ⟨dx', q', c', a⟩ => q _ _ (s2.trans s') ⟨x, dx', q', c', rfl, a⟩) (fun _ i hi => by rw [hb.1] at hi; cases hi) fun f hf => by
    have : firstBad (sRows (.str z) (.str "permanent") (.str "one") (.int 1) (.int 10) .non) = none := by
      simp only [sRows, firstBad, hz.1, if_true]
      decide
    rw [this] at hf
    cases hf⟩⟩, mn_at⟩
end
end W53

set_option Elab.async false
set_option linter.all false
set_option maxRecDepth 100000
set_option maxHeartbeats 4000000
namespace W53
open PySem PySem.Spec PyProof.Rows L2 WXG WEv WRd WLf WEn WZs WRu WSt StX WDc WPv WEb
/-! ### readings that draw values of any kind -/
def NM (m : Addr) : Addr → Prop := fun _ => False
theorem kn_but {K : PySem.W.Frag} {S : Addr × List Int} {m : Addr} {a c : Nat} {H H' : Hp} (hS : SrcAt K S H m a c) (b : But m H H') : Kn (NM m) H H' := fun x o h h1 h2 => by
  obtain ⟨s, cs, k, l, hm, _⟩ := hS
  refine b x o h (fun z => ?_)
  subst z
  rw [hm] at h
  cases h
  exact h2 _ rfl
theorem SrcAt.same {K : PySem.W.Frag} {S : Addr × List Int} {m : Addr} {a c : Nat} {H H' : Hp} (h : SrcAt K S H m a c) (s : Same H H') : SrcAt K S H' m a c := by
  obtain ⟨s0, cs, k, l, hm, hs, r⟩ := h
  exact ⟨s0, cs, k, l, s _ _ hm, s.seq hs, r⟩
theorem But.same {m : Addr} {H H' : Hp} (s : Same H H') : But m H H' := fun b o e _ => s b o e
def MnS (K : PySem.W.Frag) (S : Addr × List Int) (m : Addr) {α : Type} (P : α → Hp → Prop) : Prop := ∀ v H H' a c, SrcAt K S H m a c → But m H H' → P v H → P v H'
def PB (K : PySem.W.Frag) (m : Addr) (c : Pv → Bool) : HP V := fun v H => ∃ p, At K (NM m) p v H ∧ c p = true
def All2 : List (Pv → Bool) → List Pv → Prop
  | [], [] => True
  | c :: cs, p :: ps => c p = true ∧ All2 cs ps
  | _, _ => False
theorem All2.len : ∀ {cs : List (Pv → Bool)} {ps : List Pv}, All2 cs ps → ps.length = cs.length
  | [], [], _ => rfl
  | c :: cs, p :: ps, h => by rw [List.length_cons, List.length_cons, All2.len h.2]
  | [], _ :: _, h => h.elim
  | _ :: _, [], h => h.elim
def AtsL (K : PySem.W.Frag) (m : Addr) (cs : List (Pv → Bool)) : List V → Hp → Prop := fun xs H => ∃ ps, AtL K (NM m) ps xs H ∧ All2 cs ps
def LsP (P : HP V) (k : Nat) : List V → Hp → Prop := fun xs H => xs.length = k ∧ ∀ x ∈ xs, P x H
def LstA (m : Addr) (k : Nat) (P : HP V) : HP V := fun v H => ∃ l xs, v = .ref l ∧ H l = some (.lst xs) ∧ l ≠ m ∧ xs.length = k ∧ ∀ x ∈ xs, P x H
structure Dw (K : PySem.W.Frag) (S : Addr × List Int) (m : Addr) (H0 : Hp) (te : TE) (σ : L2.St) (n : Nat) (P : HP V) : Prop where
  ev : ∀ a c H, But m H0 H → SrcAt K S H m a c → a + n ≤ 100000 → ∀ Q : VK, (∀ v H', But m H H' → SrcAt K S H' m (a + n) c → P v H' → Q v H') → te σ H Q
  mn : MnS K S m P
structure DwL (K : PySem.W.Frag) (S : Addr × List Int) (m : Addr) (H0 : Hp) (te : TA) (σ : L2.St) (n : Nat) (P : List V → Hp → Prop) : Prop where
  ev : ∀ a c H, But m H0 H → SrcAt K S H m a c → a + n ≤ 100000 → ∀ Q : List V → Hp → Prop, (∀ v H', But m H H' → SrcAt K S H' m (a + n) c → P v H' → Q v H') → te σ H Q
  mn : MnS K S m P
section
variable {K : PySem.W.Frag} {S : Addr × List Int} {m : Addr} {H0 : Hp} {σ : L2.St} {n n' k k' : Nat} {te ta tb : TE} {tr : TA} {P P' : HP V} {c c' : Pv → Bool} {cs : List (Pv → Bool)}
theorem ms_pb : MnS K S m (PB K m c) := fun v H H' a d hS b ⟨p, h, e⟩ => ⟨p, at_kn (kn_but hS b) p h, e⟩
theorem ms_pure {p : V → Prop} : MnS K S m (fun v _ => p v) := fun _ _ _ _ _ _ _ h => h
theorem ms_lst (h : MnS K S m P) : MnS K S m (LstA m k P) := fun v H H' a d hS b ⟨l, xs, e, hl, hm, hk, hx⟩ => ⟨l, xs, e, b _ _ hl hm, hm, hk, fun x hx' => h _ _ _ _ _ hS b (hx x hx')⟩
theorem ms_lsp (h : MnS K S m P) : MnS K S m (LsP P k) := fun v H H' a d hS b ⟨hk, hx⟩ => ⟨hk, fun x hx' => h _ _ _ _ _ hS b (hx x hx')⟩
theorem ms_ats : MnS K S m (AtsL K m cs) := fun v H H' a d hS b ⟨ps, h, e⟩ => ⟨ps, atl_kn (kn_but hS b) ps h, e⟩
theorem Dw.imp (h : Dw K S m H0 te σ n P) (mn : MnS K S m P') (k : ∀ v H, P v H → P' v H) : Dw K S m H0 te σ n P' := ⟨fun a d H b hS ha Q q => h.ev a d H b hS ha Q fun v H' b' s p => q v H' b' s (k v H' p), mn⟩
theorem Dw.pb (h : Dw K S m H0 te σ n (PB K m c)) (k : ∀ p, c p = true → c' p = true) : Dw K S m H0 te σ n (PB K m c') := h.imp ms_pb fun v H ⟨p, a, e⟩ => ⟨p, a, k p e⟩
theorem dw_g (h : ∀ H a d, But m H0 H → SrcAt K S H m a d → G te σ H P) (mn : MnS K S m P) : Dw K S m H0 te σ 0 P := ⟨fun a d H b hS _ Q q => (h H a d b hS).ev H (Same.refl H) Q fun v H' s p => q v H' (But.same s) (hS.same s) p, mn⟩
theorem dw_at {p : Pv} (h : ∀ H, G te σ H (At K (NM m) p)) (hc : c p = true) : Dw K S m H0 te σ 0 (PB K m c) :=
  ⟨fun a d H b hS _ Q q => (h H).ev H (Same.refl H) Q fun v H' s pv => q v H' (But.same s) (hS.same s) ⟨p, pv, hc⟩, ms_pb⟩
theorem dw_var {i : Nat} {v : V} {a0 c0 : Nat} (h : σ[i]? = some (some v)) (hS0 : SrcAt K S H0 m a0 c0) (hv : P v H0) (mn : MnS K S m P) : Dw K S m H0 (tVar i) σ 0 P :=
  ⟨fun a d H b hS _ Q q => ⟨v, h, q v H But.refl hS (mn _ _ _ _ _ hS0 b hv)⟩, mn⟩
theorem dwn_nil : DwL K S m H0 tNil σ 0 (AtsL K m []) := ⟨fun a d H b hS _ Q q => q [] H But.refl hS ⟨[], rfl, trivial⟩, ms_ats⟩
theorem dwn_cons (h : Dw K S m H0 te σ n (PB K m c)) (g : DwL K S m H0 tr σ n' (AtsL K m cs)) : DwL K S m H0 (tCons te tr) σ (n + n') (AtsL K m (c :: cs)) :=
  ⟨fun a d H b hS ha Q q => h.ev a d H b hS (by omega) _ fun x H1 b1 s1 p1 => g.ev (a + n) d H1 (b.trans b1) s1 (by omega) _ fun xs H2 b2 s2 ⟨ps, p2, e2⟩ => by
    obtain ⟨p, px, e⟩ := ms_pb _ _ _ _ _ s1 b2 p1
    exact q (x :: xs) H2 (b1.trans b2) (by rw [← Nat.add_assoc]; exact s2) ⟨p :: ps, ⟨x, xs, rfl, px, p2⟩, e, e2⟩, ms_ats⟩
theorem dw_tup (h : DwL K S m H0 tr σ n (AtsL K m cs)) (hl : cs.length ≤ 1000) (k : ∀ ps, All2 cs ps → c (.tup ps) = true) : Dw K S m H0 (tTup tr) σ n (PB K m c) :=
  ⟨fun a d H b hS ha Q q => h.ev a d H b hS ha _ fun xs H1 b1 s1 ⟨ps, p1, e1⟩ => by
    have hx := p1.len
    have hp := e1.len
    refine ⟨by rw [hx, hp]; exact Nat.le_trans hl (by decide), fun t ht => ?_⟩
    exact q (.ref t) _ (b1.new ht) (s1.new ht) ⟨.tup ps, ⟨t, xs, rfl, .inl (.inl upd_same), atl_kn (Kn.same (same_new ht)) ps p1, by rw [hp]; exact hl⟩, k ps e1⟩, ms_pb⟩
theorem dwl_nil : DwL K S m H0 tNil σ 0 (LsP P 0) := ⟨fun a d H b hS _ Q q => q [] H But.refl hS ⟨rfl, fun x hx => absurd hx (by simp)⟩, fun v H H' a d hS b ⟨e, _⟩ => by
  refine ⟨e, fun x hx => ?_⟩
  rw [List.length_eq_zero_iff.mp e] at hx
  exact absurd hx (by simp)⟩
theorem dwl_cons (h : Dw K S m H0 te σ n P) (g : DwL K S m H0 tr σ n' (LsP P k)) : DwL K S m H0 (tCons te tr) σ (n + n') (LsP P (k + 1)) :=
  ⟨fun a d H b hS ha Q q => h.ev a d H b hS (by omega) _ fun x H1 b1 s1 p1 => g.ev (a + n) d H1 (b.trans b1) s1 (by omega) _ fun xs H2 b2 s2 ⟨e2, p2⟩ =>
    q (x :: xs) H2 (b1.trans b2) (by rw [← Nat.add_assoc]; exact s2) ⟨by rw [List.length_cons, e2], fun y hy => by
      rcases List.mem_cons.mp hy with e | hy
      · rw [e]; exact h.mn _ _ _ _ _ s1 b2 p1
      · exact p2 y hy⟩, ms_lsp h.mn⟩
theorem dw_lst (h : DwL K S m H0 tr σ n (LsP P k)) (mn : MnS K S m P) (hl : k ≤ 1000) : Dw K S m H0 (tLst tr) σ n (LstA m k P) :=
  ⟨fun a d H b hS ha Q q => h.ev a d H b hS ha _ fun xs H1 b1 s1 ⟨e1, p1⟩ =>
    ⟨by rw [e1]; exact Nat.le_trans hl (by decide), fun t ht => q (.ref t) _ (b1.new ht) (s1.new ht) ⟨t, xs, rfl, upd_same, s1.ne ht, e1, fun x hx => mn _ _ _ _ _ s1 (But.refl.new ht) (p1 x hx)⟩⟩, ms_lst mn⟩
theorem dw_cat (ha : Dw K S m H0 ta σ n (LstA m k P)) (hb : Dw K S m H0 tb σ n' (LstA m k' P)) (mn : MnS K S m P) (hl : k + k' ≤ 1000) : Dw K S m H0 (tOp rCat ta tb) σ (n + n') (LstA m (k + k') P) :=
  ⟨fun a d H b hS hn Q q => ha.ev a d H b hS (by omega) _ fun v H1 b1 s1 p1 => hb.ev (a + n) d H1 (b.trans b1) s1 (by omega) _ fun u H2 b2 s2 ⟨l', ys, eu, hl', hm', hk', hy⟩ => by
    obtain ⟨l0, xs, ev, hl0, hm0, hk0, hx⟩ := ms_lst mn _ _ _ _ _ s1 b2 p1
    subst ev eu
    refine ⟨l0, l', xs, ys, rfl, rfl, hl0, hl', by rw [hk0, hk']; exact Nat.le_trans hl (by decide), fun t ht => ?_⟩
    refine q (.ref t) _ ((b1.trans b2).new ht) (by rw [← Nat.add_assoc]; exact s2.new ht) ⟨t, xs ++ ys, rfl, upd_same, s2.ne ht, by rw [List.length_append, hk0, hk'], fun x hx' => mn _ _ _ _ _ s2 (But.refl.new ht) ?_⟩
    rcases List.mem_append.mp hx' with h | h
    · exact hx x h
    · exact hy x h, ms_lst mn⟩
theorem dw_of {E : XK} (h0 : σ[0]? = some (some (.ref m))) (h : Dw K S m H0 te σ n (LstA m k P)) (mn : MnS K S m P) (hk : 1 ≤ k) (hk' : k ≤ 1000) : Dw K S m H0 (tCall (spOf K S) [] E (tCons (tVar 0) (tCons te tNil))) σ (n + 1) P :=
  ⟨fun a d H b hS hn Q q => ⟨.ref m, h0, h.ev a d H b hS (by omega) _ fun v H1 b1 s1 ⟨l, xs, ev, hl, hm, hlen, hx⟩ => by
    subst ev
    exact ⟨m, l, xs, a + n, d, rfl, hl, (fun z => by rw [z] at hlen; simp at hlen; omega), by omega, s1, by omega, hm, fun x H2 hx2 b2 s2 => q x H2 (b1.trans b2) s2 (mn _ _ _ _ _ s1 b2 (hx x hx2))⟩⟩, mn⟩
theorem dw_next {E : XK} {t : Int} (h0 : σ[0]? = some (some (.ref m))) (ht : 0 < t) (ht' : t ≤ 1000) : Dw K S m H0 (tCall (spNext K S) [] E (tCons (tVar 0) (tCons (tC (.int t)) tNil))) σ 1 (fun v _ => ∃ r, v = .int r ∧ 0 ≤ r ∧ r < t) :=
  ⟨fun a d H b hS hn Q q => ⟨.ref m, h0, m, t, a, d, rfl, ht, ht', hS, by omega, fun r H2 r0 r1 b2 s2 => q _ H2 b2 s2 ⟨r, rfl, r0, r1⟩⟩, ms_pure⟩
theorem dw_ix {t : Int} (ha : Dw K S m H0 ta σ n (LstA m k P)) (hb : Dw K S m H0 tb σ n' (fun v _ => ∃ r, v = .int r ∧ 0 ≤ r ∧ r < t)) (mn : MnS K S m P) (hk : t ≤ k) : Dw K S m H0 (tOp (rIxL K) ta tb) σ (n + n') P :=
  ⟨fun a d H b hS hn Q q => ha.ev a d H b hS (by omega) _ fun v H1 b1 s1 p1 => hb.ev (a + n) d H1 (b.trans b1) s1 (by omega) _ fun u H2 b2 s2 ⟨r, eu, r0, r1⟩ => by
    obtain ⟨l, xs, ev, hl, hm, hlen, hx⟩ := ms_lst mn _ _ _ _ _ s1 b2 p1
    subst ev eu
    obtain ⟨x, hx2⟩ : ∃ x, xs[r.toNat]? = some x := ⟨_, List.getElem?_eq_getElem (by omega)⟩
    have hat := atI_nat hx2
    rw [Int.toNat_of_nonneg r0] at hat
    exact ⟨l, xs, r, x, rfl, rfl, .inl (.of hl), hat, q x H2 (b1.trans b2) (by rw [← Nat.add_assoc]; exact s2) (hx x (List.mem_of_getElem? hx2))⟩, mn⟩
theorem st_asgW {a d i : Nat} {H : Hp} {D : Ends} (h : Dw K S m H te σ n P) (hS : SrcAt K S H m a d) (h1 : a + n ≤ 100000) (q : ∀ v H', But m H H' → SrcAt K S H' m (a + n) d → P v H' → D.nx (σ.set i (some v)) H') : tAsg te (gName i) D σ H := h.ev a d H But.refl hS h1 _ q
theorem st_retW {a d : Nat} {H : Hp} {D : Ends} (h : Dw K S m H te σ n P) (hS : SrcAt K S H m a d) (h1 : a + n ≤ 100000) (q : ∀ v H', But m H H' → SrcAt K S H' m (a + n) d → P v H' → D.rt v H') : tRet te D σ H := h.ev a d H But.refl hS h1 _ q
end
end W53

set_option Elab.async false
set_option linter.all false
set_option maxRecDepth 100000
set_option maxHeartbeats 4000000
namespace W53
open PySem PySem.Spec PyProof.Rows L2 WXG WEv WRd WLf WEn WZs WRu WSt StX WDc WPv WEb WXO WXE WKd WGp
/-! ### a right deed, drawn -/
def eqS (z : Str) : Pv → Bool
  | .str s => decide (s = z)
  | _ => false
theorem eqS_of {p : Pv} {z : Str} (h : eqS z p = true) : p = .str z := by
  cases p <;> first | cases h | skip
  rw [of_decide_eq_true h]
def cWord (p : Pv) : Bool := isWord p && (isFree p && isFailure p)
def cWorth : Pv → Bool := isDeedValue
def cDeed (p : Pv) : Bool := isDeed p && okDeed p
def cTicks : Pv → Bool := isBetween 1 1000000000
theorem ok_word {p : Pv} (h : isWord p = true) : okDV p = true := by
  obtain ⟨z, rfl⟩ := isWord_str h
  rfl
theorem ok_value {p : Pv} (h : isDeedValue p = true) : okDV p = true := by
  match p, h with
  | .non, _ => rfl
  | .bl _, _ => rfl
  | .int _, _ => rfl
  | .str _, _ => rfl
  | .dic, _ => rfl
  | .lst _, _ => rfl
  | .wrk _, _ => rfl
  | .sup _ _, _ => rfl
  | .tup [.str w, x], _ => rfl
theorem ok_ticks {p : Pv} (h : cTicks p = true) : okDV p = true := by cases p <;> first | rfl | cases h
theorem w_word {p : Pv} (h : cWord p = true) : isWord p = true := (He.ba h).1
theorem w_free {p : Pv} (h : cWord p = true) : isFree p = true := (He.ba (He.ba h).2).1
theorem w_fail {p : Pv} (h : cWord p = true) : isFailure p = true := (He.ba (He.ba h).2).2
theorem deed_of {w : Str} {l : List Pv} (h1 : 1 ≤ l.length) (h2 : hasShape w l = true) (h3 : l.all okDV = true) : cDeed (.tup (.str w :: l)) = true := by
  show ((decide (1 ≤ l.length) && hasShape w l) && (okDV (.str w) && l.all okDV)) = true
  rw [decide_eq_true h1, h2, h3]
  rfl
theorem d_one {w : Str} {c : Pv → Bool} (hw : hit words1 w = true) (hc : ∀ p, c p = true → isWord p = true) (ps : List Pv) (h : All2 [eqS w, c] ps) : cDeed (.tup ps) = true := by
  match ps, h with
  | [p, q], ⟨h1, h2, _⟩ =>
    cases eqS_of h1
    have hq := hc q h2
    refine deed_of (Nat.le_refl _) ?_ (by simp [ok_word hq])
    unfold hasShape
    rw [if_pos hw]
    simpa using hq
theorem d_send {w : Str} (h0 : hit words1 w = false) (hw : hit ["send", "ask"] w = true) (ps : List Pv) (h : All2 [eqS w, isWord, cWord, cWorth] ps) : cDeed (.tup ps) = true := by
  match ps, h with
  | [p, q, r, s], ⟨h1, h2, h3, h4, _⟩ =>
    cases eqS_of h1
    refine deed_of (by simp) ?_ (by simp [ok_word h2, ok_word (w_word h3), ok_value h4])
    unfold hasShape
    rw [if_neg (by rw [h0]; exact Bool.false_ne_true), if_pos hw]
    have e3 := w_free h3
    have e4 : isDeedValue s = true := h4
    simp [h2, e3, e4]
theorem d_reply (ps : List Pv) (h : All2 [eqS "reply", cWorth] ps) : cDeed (.tup ps) = true := by
  match ps, h with
  | [p, s], ⟨h1, h4, _⟩ =>
    cases eqS_of h1
    refine deed_of (by simp) ?_ (by simp [ok_value h4])
    unfold hasShape
    rw [if_neg (by decide +kernel), if_neg (by decide +kernel), if_pos (by decide +kernel)]
    have e4 : isDeedValue s = true := h4
    simp [e4]
theorem d_later (ps : List Pv) (h : All2 [eqS "later", cTicks, cWord, cWorth] ps) : cDeed (.tup ps) = true := by
  match ps, h with
  | [p, q, r, s], ⟨h1, h2, h3, h4, _⟩ =>
    cases eqS_of h1
    refine deed_of (by simp) ?_ (by simp [ok_ticks h2, ok_word (w_word h3), ok_value h4])
    unfold hasShape
    rw [if_neg (by decide +kernel), if_neg (by decide +kernel), if_neg (by decide +kernel), if_pos (by decide +kernel)]
    have e2 : isBetween 1 1000000000 q = true := h2
    have e3 := w_free h3
    have e4 : isDeedValue s = true := h4
    simp [e2, e3, e4]
theorem d_trap (ps : List Pv) (h : All2 [eqS "trap", isBl] ps) : cDeed (.tup ps) = true := by
  match ps, h with
  | [p, s], ⟨h1, h4, _⟩ =>
    cases eqS_of h1
    refine deed_of (by simp) ?_ (by cases s <;> first | rfl | cases h4)
    unfold hasShape
    rw [if_neg (by decide +kernel), if_neg (by decide +kernel), if_neg (by decide +kernel), if_neg (by decide +kernel), if_pos (by decide +kernel)]
    simpa using h4
theorem d_end (ps : List Pv) (h : All2 [eqS "end", cWord] ps) : cDeed (.tup ps) = true := by
  match ps, h with
  | [p, s], ⟨h1, h4, _⟩ =>
    cases eqS_of h1
    refine deed_of (by simp) ?_ (by simp [ok_word (w_word h4)])
    unfold hasShape
    rw [if_neg (by decide +kernel), if_neg (by decide +kernel), if_neg (by decide +kernel), if_neg (by decide +kernel), if_neg (by decide +kernel), if_pos (by decide +kernel)]
    have := w_fail h4
    simpa using this
def isAddedO (p : Pv) : Bool := isAdded p && okDV p
theorem d_add (ps : List Pv) (h : All2 [eqS "add", isWord, isAddedO] ps) : cDeed (.tup ps) = true := by
  match ps, h with
  | [p, q, s], ⟨h1, h2, h4, _⟩ =>
    cases eqS_of h1
    obtain ⟨h5, h6⟩ := He.ba h4
    refine deed_of (by simp) ?_ (by simp [ok_word h2, h6])
    unfold hasShape
    rw [if_neg (by decide +kernel), if_neg (by decide +kernel), if_neg (by decide +kernel), if_neg (by decide +kernel), if_neg (by decide +kernel), if_neg (by decide +kernel), if_pos (by decide +kernel)]
    simp [h2, h5]
def plan0 : Pv := (.tup [(.tup [(.str "first"), (.str "go"), (.int 1), (.tup [])])])
theorem plan0_ok : isScript plan0 = true ∧ okScr plan0 = true := by decide +kernel
theorem new_name : isName (.str "new") = true ∧ ("new" : Str).length ≤ 1000 := by decide +kernel
theorem plus_ok (ps : List Pv) (h : All2 [eqS "plus", isValue] ps) : cWorth (.tup ps) = true := by
  match ps, h with
  | [p, q], ⟨h1, h2, _⟩ =>
    cases eqS_of h1
    show (decide (("plus" : Str) = ("plus" : Str)) && isValue q) = true
    rw [h2]
    rfl
theorem p12 : (10 : Int) ^ (12 : Int).toNat = 1000000000000 := by decide +kernel
theorem p9 : (10 : Int) ^ (9 : Int).toNat = 1000000000 := by decide +kernel
theorem ev_p12 {σ : L2.St} {H : Hp} : Ev (tOp (rI CPow fun i j => V.int (i ^ j.toNat)) (tC (.int 10)) (tC (.int 12))) σ H (.int 1000000000000) := by
  have h : Ev (tOp (rI CPow fun i j => V.int (i ^ j.toNat)) (tC (.int 10)) (tC (.int 12))) σ H (.int ((10 : Int) ^ (12 : Int).toNat)) := ev_iI ev_c ev_c ⟨by decide, by decide, by decide⟩
  rw [p12] at h
  exact h
theorem ev_p9 {σ : L2.St} {H : Hp} : Ev (tOp (rI CPow fun i j => V.int (i ^ j.toNat)) (tC (.int 10)) (tC (.int 9))) σ H (.int 1000000000) := by
  have h : Ev (tOp (rI CPow fun i j => V.int (i ^ j.toNat)) (tC (.int 10)) (tC (.int 9))) σ H (.int ((10 : Int) ^ (9 : Int).toNat)) := ev_iI ev_c ev_c ⟨by decide, by decide, by decide⟩
  rw [p9] at h
  exact h
theorem ev_m12 {σ : L2.St} {H : Hp} : Ev (tOp (rI0 fun i j => V.int (i - j)) (tC (.int 0)) (tOp (rI CPow fun i j => V.int (i ^ j.toNat)) (tC (.int 10)) (tC (.int 12)))) σ H (.int (-1000000000000)) := by
  have h : Ev (tOp (rI0 fun i j => V.int (i - j)) (tC (.int 0)) (tOp (rI CPow fun i j => V.int (i ^ j.toNat)) (tC (.int 10)) (tC (.int 12)))) σ H (.int (0 - 1000000000000)) := ev_i0 ev_c ev_p12
  exact h
theorem tick_ok : cTicks (.int 1) = true ∧ cTicks (.int 1000000000) = true := by decide +kernel
theorem worth_0 : cWorth (.int 0) = true ∧ cWorth (.int 1000000000000) = true ∧ cWorth (.int (-1000000000000)) = true := by decide +kernel
theorem value_0 : isValue (.int 0) = true ∧ isValue (.int (-1000000000000)) = true := by decide +kernel
/-- six names -/
def spGoodDeed (K : PySem.W.Frag) (S : Addr × List Int) : Sp := fun vs H Q _ => ∃ m t a c, vs = [.ref m, .ref t] ∧ LstA m 6 (PB K m isWord) (.ref t) H ∧ SrcAt K S H m a c ∧ a + 7 ≤ 100000 ∧ ∀ v H', But m H H' → SrcAt K S H' m (a + 7) c → PB K m cDeed v H' → Q v H'
section
variable {K : PySem.W.Frag} {S : Addr × List Int} {m : Addr} {H0 : Hp} {σ : L2.St} {n n' k k' : Nat} {te ta tb : TE} {tr : TA} {P P' : HP V} {c c' : Pv → Bool} {cs : List (Pv → Bool)}
theorem dw_s {z : Str} (hz : z.length ≤ 1000 := by decide +kernel) : Dw K S m H0 (tC (.str z)) σ 0 (PB K m (eqS z)) := dw_at (fun H => g_str hz) (by show decide (z = z) = true; exact decide_eq_true rfl)
theorem dw_str {z : Str} (hc : c (.str z) = true := by decide +kernel) (hz : z.length ≤ 1000 := by decide +kernel) : Dw K S m H0 (tC (.str z)) σ 0 (PB K m c) := dw_at (fun H => g_str hz) hc
theorem dw_evI {i : Int} (h : ∀ H, Ev te σ H (.int i)) (hc : c (.int i) = true := by decide +kernel) : Dw K S m H0 te σ 0 (PB K m c) := dw_at (fun H => g_evI fun H1 _ => h H1) hc
theorem dw_mulS {z : Str} {k : Nat} (hc : c (.str (repS z k)) = true := by decide +kernel) (hk : k ≤ 1000 := by decide) (hz : z.length ≤ 1000 := by decide +kernel) (hl : (repS z k).length ≤ 1000 := by decide +kernel) : Dw K S m H0 (tOp rMulS (tC (.str z)) (tC (.int (k : Int)))) σ 0 (PB K m c) := dw_at (fun H => g_mulS hk hz hl) hc
theorem dw_isB {t z : Int} (h : Dw K S m H0 te σ n (fun v _ => ∃ r, v = .int r ∧ 0 ≤ r ∧ r < t)) : Dw K S m H0 (tOp rEq te (tC (.int z))) σ n (PB K m isBl) :=
  ⟨fun a d H b hS hn Q q => h.ev a d H b hS hn _ fun v H1 b1 s1 ⟨r, e, _⟩ => by
    subst e
    exact ⟨rfl, q _ H1 b1 s1 ⟨.bl (decide (V.int r = V.int z)), rfl, rfl⟩⟩, ms_pb⟩
end
section
variable {P : Program} {w : World} {K : PySem.W.Frag} {S : Addr × List Int} {mg : Str → Option Value} {base : Heap}
theorem ok_good_deed (T : Env K mg) : FnOk P w K mg base CX0 12 (d_L_good_deed.loc K) T.fd_L_good_deed ["m", "titles"] (spGoodDeed K S) := by
  have G_L_next : FnOk P w K mg base CX0 1 _ _ _ _ := ok_next (S := S) T
  have G_L_of : FnOk P w K mg base CX0 2 _ _ _ _ := ok_of (S := S) T
  have G_mkS_WorkerPlan : FnK P w K mg base (L2.CX P w) 9 _ _ _ := fk_workerS T
  refine T.F_L_good_deed.ok sc_L_good_deed (fun vs H Q E h => ?_) (fun cdv A outer s H vs Q E hr h => ?_)
  · obtain ⟨m, t, a, c, rfl, _⟩ := h
    rfl
  · have nd := sc_L_good_deed.nd
    have hu := hu_of hr
    obtain ⟨m, t, a, c, rfl, ht, hS, ha, k⟩ := h
    refine ⟨_, PSs.nox (pss_cons (ps_par3 (i := 2) (j := 3) (l := 4) (by rfl) nd rfl rfl rfl (by decide) (by decide) (by decide) rfl rfl rfl (pa_cons (pe_call G_L_next (hr.mono (by decide)) (by rfl) T.g__law_next T.F_L_next.kp T.bi_L_next .nil pass0 (pa_cons (pv 0) (pa_cons pe_int pa_nil))) (pa_cons (pe_call G_L_of (hr.mono (by decide)) (by rfl) T.g__law_of T.F_L_of.kp T.bi_L_of .nil pass0 (pa_cons (pv 0) (pa_cons (pv 1) pa_nil))) (pa_cons (pe_call G_L_of (hr.mono (by decide)) (by rfl) T.g__law_of T.F_L_of.kp T.bi_L_of .nil pass0 (pa_cons (pv 0) (pa_cons (pe_lst (pa_cons pe_str (pa_cons pe_str (pa_cons (pe_op op_mulS pe_str pe_int) (pa_cons pe_str pa_nil))))) pa_nil))) pa_nil))) (by rfl))
 (pss_cons (ps_set (i := 5) nd rfl (Or.inl rfl) (pe_call G_L_of (hr.mono (by decide)) (by rfl) T.g__law_of T.F_L_of.kp T.bi_L_of .nil pass0 (pa_cons (pv 0) (pa_cons (pe_lst (pa_cons pe_int (pa_cons (pe_op op_pow pe_int pe_int) (pa_cons (pe_op op_sub pe_int (pe_op op_pow pe_int pe_int)) (pa_cons (pe_tup (pa_cons pe_str (pa_cons pe_int pa_nil))) (pa_cons (pe_tup (pa_cons pe_str (pa_cons (pe_op op_sub pe_int (pe_op op_pow pe_int pe_int)) pa_nil))) pa_nil)))))) pa_nil))))
 (pss_cons (ps_set (i := 6) nd rfl (Or.inl rfl) (pe_lst (pa_cons (pe_tup (pa_cons pe_str (pa_cons (pv 4) pa_nil))) (pa_cons (pe_tup (pa_cons pe_str (pa_cons (pv 3) (pa_cons (pv 4) (pa_cons (pv 5) pa_nil))))) (pa_cons (pe_tup (pa_cons pe_str (pa_cons (pv 3) (pa_cons (pv 4) (pa_cons (pv 5) pa_nil))))) (pa_cons (pe_tup (pa_cons pe_str (pa_cons (pv 5) pa_nil))) pa_nil))))))
 (pss_cons (ps_set (i := 6) nd rfl (Or.inl rfl) (pe_op op_cat (pv 6) (pe_lst (pa_cons (pe_tup (pa_cons pe_str (pa_cons (pe_call G_L_of (hr.mono (by decide)) (by rfl) T.g__law_of T.F_L_of.kp T.bi_L_of .nil pass0 (pa_cons (pv 0) (pa_cons (pe_lst (pa_cons pe_int (pa_cons (pe_op op_pow pe_int pe_int) pa_nil))) pa_nil))) (pa_cons (pv 4) (pa_cons (pv 5) pa_nil))))) (pa_cons (pe_tup (pa_cons pe_str (pa_cons (pe_call G_L_of (hr.mono (by decide)) (by rfl) T.g__law_of T.F_L_of.kp T.bi_L_of .nil pass0 (pa_cons (pv 0) (pa_cons (pe_lst (pa_cons pe_str (pa_cons pe_str (pa_cons (pv 4) pa_nil)))) pa_nil))) pa_nil))) pa_nil)))))
 (pss_cons (ps_set (i := 6) nd rfl (Or.inl rfl) (pe_op op_cat (pv 6) (pe_lst (pa_cons (pe_tup (pa_cons pe_str (pa_cons (pv 3) pa_nil))) (pa_cons (pe_tup (pa_cons pe_str (pa_cons (pv 3) pa_nil))) pa_nil)))))
 (pss_cons (ps_set (i := 6) nd rfl (Or.inl rfl) (pe_op op_cat (pv 6) (pe_lst (pa_cons (pe_tup (pa_cons pe_str (pa_cons (pv 3) pa_nil))) (pa_cons (pe_tup (pa_cons pe_str (pa_cons (pv 3) pa_nil))) (pa_cons (pe_tup (pa_cons pe_str (pa_cons (pe_cmpR op_eq (pe_call G_L_next (hr.mono (by decide)) (by rfl) T.g__law_next T.F_L_next.kp T.bi_L_next .nil pass0 (pa_cons (pv 0) (pa_cons pe_int pa_nil))) pe_int (nomark _)) pa_nil))) (pa_cons (pe_tup (pa_cons pe_str (pa_cons (pv 4) pa_nil))) pa_nil)))))))
 (pss_cons (ps_set (i := 6) nd rfl (Or.inl rfl) (pe_op op_cat (pv 6) (pe_lst (pa_cons (pe_tup (pa_cons pe_str (pa_cons (pv 4) pa_nil))) (pa_cons (pe_tup (pa_cons pe_str (pa_cons (pv 3) pa_nil))) (pa_cons (pe_tup (pa_cons pe_str (pa_cons (pv 3) (pa_cons (pe_mkKF T.mk_WorkerPlan G_mkS_WorkerPlan (hr.mono (by decide)) (by rfl) T.g_WorkerPlan passL (pa_cons pe_str pa_nil) (pk_cons (pe_tup (pa_cons (pe_tup (pa_cons pe_str (pa_cons pe_str (pa_cons pe_int (pa_cons (pe_tup pa_nil) pa_nil))))) pa_nil)) pk_nil)) pa_nil)))) pa_nil))))))
 (pss_one (ps_ret (pe_ix (ixlK (K := K)) (pv 6) (pv 2) (fun _ _ => rfl))))))))))), ?_⟩
    refine (dw_next (K := K) (S := S) (H0 := H) (t := 15) rfl (by decide) (by decide)).ev a c H But.refl hS (by omega) _ fun way H1 b1 s1 ⟨r, e1, r0, r1⟩ => ?_
    subst e1
    refine (dw_of (H0 := H) (n := 0) (k := 6) (P := PB K m isWord) rfl (dw_var rfl hS ht (ms_lst ms_pb)) ms_pb (by decide) (by decide)).ev (a + 1) c H1 b1 s1 (by omega) _ fun name H2 b2 s2 pn => ?_
    refine (dw_of (H0 := H) (P := PB K m cWord) rfl (dw_lst (dwl_cons dw_str (dwl_cons dw_str (dwl_cons (dw_mulS (k := 20)) (dwl_cons dw_str dwl_nil)))) ms_pb (by decide)) ms_pb (by decide) (by decide)).ev (a + 1 + 1) c H2 (b1.trans b2) s2 (by omega) _ fun word H3 b3 s3 pw => ?_
    replace pn := ms_pb _ _ _ _ _ s2 b3 pn
    refine ⟨_, _, _, rfl, ?_⟩
    have b03 := (b1.trans b2).trans b3
    clear b1 b2 b3 s1 s2
    generalize hA : a + 1 + 1 + 1 = a3 at s3
    show tSeq _ _ _ _ _
    refine st_asgW (P := PB K m cWorth) (n := 1) (dw_of rfl (dw_lst (dwl_cons (dw_evI (fun H => ev_c) worth_0.1) (dwl_cons (dw_evI (fun H => ev_p12) worth_0.2.1) (dwl_cons (dw_evI (fun H => ev_m12) worth_0.2.2) (dwl_cons (dw_tup (cs := [eqS "plus", isValue]) (dwn_cons dw_s (dwn_cons (dw_evI (fun H => ev_c) value_0.1) dwn_nil)) (by decide) plus_ok) (dwl_cons (dw_tup (cs := [eqS "plus", isValue]) (dwn_cons dw_s (dwn_cons (dw_evI (fun H => ev_m12) value_0.2) dwn_nil)) (by decide) plus_ok) dwl_nil))))) ms_pb (by decide)) ms_pb (by decide) (by decide)) s3 (by omega) fun worth H4 b4 s4 p5 => ?_
    replace pn := ms_pb _ _ _ _ _ s3 b4 pn
    replace pw := ms_pb _ _ _ _ _ s3 b4 pw
    have b04 := b03.trans b4
    clear b03 b4 s3
    refine st_asgW (P := LstA m 4 (PB K m cDeed)) (n := 0) (dw_lst (dwl_cons (dw_tup (dwn_cons dw_s (dwn_cons (dw_var rfl s4 pw ms_pb) dwn_nil)) (by decide) (d_one (by decide +kernel) fun p z => w_word z)) (dwl_cons (dw_tup (dwn_cons dw_s (dwn_cons (dw_var rfl s4 pn ms_pb) (dwn_cons (dw_var rfl s4 pw ms_pb) (dwn_cons (dw_var rfl s4 p5 ms_pb) dwn_nil)))) (by decide) (d_send (by decide +kernel) (by decide +kernel))) (dwl_cons (dw_tup (dwn_cons dw_s (dwn_cons (dw_var rfl s4 pn ms_pb) (dwn_cons (dw_var rfl s4 pw ms_pb) (dwn_cons (dw_var rfl s4 p5 ms_pb) dwn_nil)))) (by decide) (d_send (by decide +kernel) (by decide +kernel))) (dwl_cons (dw_tup (dwn_cons dw_s (dwn_cons (dw_var rfl s4 p5 ms_pb) dwn_nil)) (by decide) d_reply) dwl_nil)))) ms_pb (by decide)) s4 (by omega) fun v6 H6 b6 s6 p6 => ?_
    replace pn := ms_pb _ _ _ _ _ s4 b6 pn
    replace pw := ms_pb _ _ _ _ _ s4 b6 pw
    replace p5 := ms_pb _ _ _ _ _ s4 b6 p5
    replace b04 := b04.trans b6
    refine st_asgW (P := LstA m 6 (PB K m cDeed)) (n := 2) (dw_cat (dw_var rfl s6 p6 (ms_lst ms_pb)) (dw_lst (dwl_cons (dw_tup (dwn_cons dw_s (dwn_cons (dw_of rfl (dw_lst (dwl_cons (dw_evI (fun H => ev_c) tick_ok.1) (dwl_cons (dw_evI (fun H => ev_p9) tick_ok.2) dwl_nil)) ms_pb (by decide)) ms_pb (by decide) (by decide)) (dwn_cons (dw_var rfl s6 pw ms_pb) (dwn_cons (dw_var rfl s6 p5 ms_pb) dwn_nil)))) (by decide) d_later) (dwl_cons (dw_tup (dwn_cons dw_s (dwn_cons (dw_of rfl (dw_lst (dwl_cons (dw_str (c := isWord)) (dwl_cons dw_str (dwl_cons ((dw_var rfl s6 pw ms_pb).pb fun p => w_word) dwl_nil))) ms_pb (by decide)) ms_pb (by decide) (by decide)) dwn_nil)) (by decide) (d_one (by decide +kernel) fun p z => z)) dwl_nil)) ms_pb (by decide)) ms_pb (by decide)) s6 (by omega) fun v7 H7 b7 s7 p7 => ?_
    replace pn := ms_pb _ _ _ _ _ s6 b7 pn
    replace pw := ms_pb _ _ _ _ _ s6 b7 pw
    replace p5 := ms_pb _ _ _ _ _ s6 b7 p5
    replace b04 := b04.trans b7
    refine st_asgW (P := LstA m 8 (PB K m cDeed)) (n := 0) (dw_cat (dw_var rfl s7 p7 (ms_lst ms_pb)) (dw_lst (dwl_cons (dw_tup (dwn_cons dw_s (dwn_cons (dw_var rfl s7 pn ms_pb) dwn_nil)) (by decide) (d_one (by decide +kernel) fun p z => z)) (dwl_cons (dw_tup (dwn_cons dw_s (dwn_cons (dw_var rfl s7 pn ms_pb) dwn_nil)) (by decide) (d_one (by decide +kernel) fun p z => z)) dwl_nil)) ms_pb (by decide)) ms_pb (by decide)) s7 (by omega) fun v8 H8 b8 s8 p8 => ?_
    replace pn := ms_pb _ _ _ _ _ s7 b8 pn
    replace pw := ms_pb _ _ _ _ _ s7 b8 pw
    replace p5 := ms_pb _ _ _ _ _ s7 b8 p5
    replace b04 := b04.trans b8
    refine st_asgW (P := LstA m 12 (PB K m cDeed)) (n := 1) (dw_cat (dw_var rfl s8 p8 (ms_lst ms_pb)) (dw_lst (dwl_cons (dw_tup (dwn_cons dw_s (dwn_cons (dw_var rfl s8 pn ms_pb) dwn_nil)) (by decide) (d_one (by decide +kernel) fun p z => z)) (dwl_cons (dw_tup (dwn_cons dw_s (dwn_cons (dw_var rfl s8 pn ms_pb) dwn_nil)) (by decide) (d_one (by decide +kernel) fun p z => z)) (dwl_cons (dw_tup (dwn_cons dw_s (dwn_cons (dw_isB (dw_next rfl (by decide) (by decide))) dwn_nil)) (by decide) d_trap) (dwl_cons (dw_tup (dwn_cons dw_s (dwn_cons (dw_var rfl s8 pw ms_pb) dwn_nil)) (by decide) (d_one (by decide +kernel) fun p z => w_word z)) dwl_nil)))) ms_pb (by decide)) ms_pb (by decide)) s8 (by omega) fun v9 H9 b9 s9 p9 => ?_
    replace pn := ms_pb _ _ _ _ _ s8 b9 pn
    replace pw := ms_pb _ _ _ _ _ s8 b9 pw
    replace p5 := ms_pb _ _ _ _ _ s8 b9 p5
    replace b04 := b04.trans b9
    refine st_asgW (P := LstA m 15 (PB K m cDeed)) (n := 0) (dw_cat (dw_var rfl s9 p9 (ms_lst ms_pb)) (dw_lst (dwl_cons (dw_tup (dwn_cons dw_s (dwn_cons (dw_var rfl s9 pw ms_pb) dwn_nil)) (by decide) d_end) (dwl_cons (dw_tup (dwn_cons dw_s (dwn_cons (dw_var rfl s9 pn ms_pb) dwn_nil)) (by decide) (d_one (by decide +kernel) fun p z => z)) (dwl_cons (dw_tup (dwn_cons dw_s (dwn_cons (dw_var rfl s9 pn ms_pb) (dwn_cons (dw_at (fun H => g_mkWs new_name (g_tupP (gl_cons (g_tupP (gl_cons (g_str (Nat.le_of_ble_eq_true rfl)) (gl_cons (g_str (Nat.le_of_ble_eq_true rfl)) (gl_cons g_int (gl_cons (g_tupP gl_nil (Nat.le_of_ble_eq_true rfl)) gl_nil)))) (Nat.le_of_ble_eq_true rfl)) gl_nil) (Nat.le_of_ble_eq_true rfl)) plan0_ok) (c := isAddedO) (by decide +kernel)) dwn_nil))) (by decide) d_add) dwl_nil))) ms_pb (by decide)) ms_pb (by decide)) s9 (by omega) fun v10 H10 b10 s10 p10 => ?_
    replace pn := ms_pb _ _ _ _ _ s9 b10 pn
    replace pw := ms_pb _ _ _ _ _ s9 b10 pw
    replace p5 := ms_pb _ _ _ _ _ s9 b10 p5
    replace b04 := b04.trans b10
    exact st_retW (P := PB K m cDeed) (n := 0) (dw_ix (n := 0) (n' := 0) (k := 15) (t := 15) (dw_var rfl s10 p10 (ms_lst ms_pb)) (dw_var (P := fun v _ => ∃ r, v = .int r ∧ 0 ≤ r ∧ r < 15) rfl s10 ⟨r, rfl, r0, r1⟩ ms_pure) ms_pb (by decide)) s10 (by omega) fun v H' b' s' pv => k v H' (b04.trans b') (s'.mono (by omega)) pv
end
end W53

set_option Elab.async false
set_option linter.all false
set_option maxRecDepth 100000
set_option maxHeartbeats 4000000
namespace W53
open PySem PySem.Spec PyProof.Rows L2 WXG WEv WRd WLf WEn WZs WRu WSt StX WDc WPv WEb WXO WXE WKd WGp
/-! ### right rows, drawn -/
def Far (K : PySem.W.Frag) (l : Addr) (S : Addr × List Int) : Prop := ∀ (H : Hp) (x : HO), SqL K H S.1 (S.2.map V.int) → SqL K (upd H l x) S.1 (S.2.map V.int)
theorem SrcAt.far {K : PySem.W.Frag} {S : Addr × List Int} {H : Hp} {m l : Addr} {a c : Nat} (h : SrcAt K S H m a c) (hl : H l = none) : Far K l S := by
  obtain ⟨s, cs, k, z, hm, hs, h1, h2, h3, rfl⟩ := h
  intro H' x q
  rcases hs with hs | hs
  · have ne : s ≠ l := fun e => by
      rcases hs with q | ⟨o, q⟩ <;> (rw [e, hl] at q; cases q)
    rcases q with (q | ⟨o, q⟩) | q
    · exact .inl (.inl (by rw [upd_ne ne]; exact q))
    · exact .inl (.inr ⟨o, by rw [upd_ne ne]; exact q⟩)
    · exact .inr q
  · exact .inr hs
theorem SrcAt.putl {K : PySem.W.Frag} {S : Addr × List Int} {H : Hp} {m l : Addr} {a c : Nat} {xs : List V} {x : HO} (hl : H l = some (.lst xs)) (hn : Far K l S) (h : SrcAt K S H m a c) : SrcAt K S (upd H l x) m a c := by
  obtain ⟨s, cs, k, z, hm, hs, h1, h2, h3, rfl⟩ := h
  exact ⟨s, cs, k, z, by rw [upd_ne (fun e => by rw [← e, hm] at hl; cases hl)]; exact hm, hn _ _ hs, h1, h2, h3, rfl⟩
def LstI (K : PySem.W.Frag) (m : Addr) (cs : List (Pv → Bool)) : HP V := fun v H => ∃ l xs, v = .ref l ∧ H l = some (.lst xs) ∧ l ≠ m ∧ AtsL K m cs xs H
theorem All2.get : ∀ {cs : List (Pv → Bool)} {ps : List Pv} {i : Nat} {c : Pv → Bool}, All2 cs ps → cs[i]? = some c → ∃ p, ps[i]? = some p ∧ c p = true
  | c :: cs, p :: ps, 0, _, h, e => by cases e; exact ⟨p, rfl, h.1⟩
  | c :: cs, p :: ps, i + 1, _, h, e => by
    obtain ⟨q, e', hq⟩ := All2.get (i := i) h.2 (by simpa using e)
    exact ⟨q, by simpa using e', hq⟩
section
variable {K : PySem.W.Frag} {S : Addr × List Int} {m : Addr} {H0 : Hp} {σ : L2.St} {n n' k k' : Nat} {te ta tb : TE} {tr : TA} {P P' : HP V} {c c' : Pv → Bool} {cs : List (Pv → Bool)}
theorem ms_lsti : MnS K S m (LstI K m cs) := fun v H H' a d hS b ⟨l, xs, e, hl, hm, hx⟩ => ⟨l, xs, e, b _ _ hl hm, hm, ms_ats _ _ _ _ _ hS b hx⟩
theorem dw_lstI (h : DwL K S m H0 tr σ n (AtsL K m cs)) (hl : cs.length ≤ 1000) : Dw K S m H0 (tLst tr) σ n (LstI K m cs) :=
  ⟨fun a d H b hS ha Q q => h.ev a d H b hS ha _ fun xs H1 b1 s1 p1 => by
    obtain ⟨ps, p2, e2⟩ := p1
    refine ⟨by rw [p2.len, e2.len]; exact Nat.le_trans hl (by decide), fun t ht => q (.ref t) _ (b1.new ht) (s1.new ht) ⟨t, xs, rfl, upd_same, s1.ne ht, ms_ats _ _ _ _ _ s1 (But.refl.new ht) ⟨ps, p2, e2⟩⟩⟩, ms_lsti⟩
theorem dw_ev {v : V} (h : ∀ H, Ev te σ H v) : Dw K S m H0 te σ 0 (fun x _ => x = v) := ⟨fun a d H b hS _ Q q => h H Q (q v H But.refl hS rfl), ms_pure⟩
theorem dw_pure {v : V} {p : V → Prop} (h : p v) : Dw K S m H0 (tC v) σ 0 (fun x _ => p x) := ⟨fun a d H b hS _ Q q => q v H But.refl hS h, ms_pure⟩
theorem dw_ixI {i : Nat} (ha : Dw K S m H0 ta σ n (LstI K m cs)) (hb : Dw K S m H0 tb σ n' (fun x _ => x = .int (i : Int))) (hc : cs[i]? = some c) : Dw K S m H0 (tOp (rIxL K) ta tb) σ (n + n') (PB K m c) :=
  ⟨fun a d H b hS hn Q q => ha.ev a d H b hS (by omega) _ fun v H1 b1 s1 p1 => hb.ev (a + n) d H1 (b.trans b1) s1 (by omega) _ fun u H2 b2 s2 eu => by
    obtain ⟨l, xs, ev, hl, hm, ps, hx, e2⟩ := ms_lsti _ _ _ _ _ s1 b2 p1
    subst ev eu
    obtain ⟨p, hp, cp⟩ := e2.get hc
    obtain ⟨x, hx2, px⟩ := hx.get hp
    exact ⟨l, xs, _, x, rfl, rfl, .inl (.of hl), atI_nat hx2, q x H2 (b1.trans b2) (by rw [← Nat.add_assoc]; exact s2) ⟨p, px, cp⟩⟩, ms_pb⟩
/-- [e for v in range(n)], n drawn, e draws d numbers -/
theorem dw_lcN {v d : Nat} (hn : Dw K S m H0 ta σ n (fun x _ => ∃ i : Nat, x = .int (i : Int) ∧ i ≤ 8)) (mP : MnS K S m P) (mK : ∀ (y : V) (H : Hp) (D : Addr) (xs zs : List V), H D = some (.lst xs) → P y H → P y (upd H D (.lst zs)))
    (he : ∀ (i : Int) a' c' H1, But m H0 H1 → SrcAt K S H1 m a' c' → a' + d ≤ 100000 → ∀ Q : VK, (∀ y H2, But m H1 H2 → SrcAt K S H2 m (a' + d) c' → P y H2 → Q y H2) → te ((σ.set v none).set v (some (.int i))) H1 Q) :
    Dw K S m H0 (tLc (iRng1 (tCons ta tNil)) (gName v) tYes te [v]) σ (n + 8 * d) (fun x H => ∃ k, k ≤ 8 ∧ LstA m k P x H) :=
  ⟨fun a e H b hS ha Q q => hn.ev a e H b hS (by omega) _ fun x H1 b1 s1 ⟨j, ex, hj⟩ => by
    subst ex
    refine ⟨(j : Int), rfl, by omega, by omega, fun D hD => ?_⟩
    show ∃ W, _
    have far : Far K D S := s1.far hD
    have ne := s1.ne hD
    have hdj : ∀ i, i < j → d * (i + 1) ≤ 8 * d := fun i hi => by
      rw [Nat.mul_comm 8 d]
      exact Nat.mul_le_mul_left d (by omega)
    refine lc_it (walk_range (lo := 0) (n := j)) (fun i H' => But m H1 H' ∧ SrcAt K S H' m (a + n + d * i) e ∧ ∃ acc, H' D = some (.lst acc) ∧ acc.length = i ∧ ∀ y ∈ acc, P y H') ⟨But.refl.new hD, s1.new hD, [], upd_same, rfl, by simp⟩ (fun _ _ _ _ => trivial) (fun i x H2 H3 hi p y => ?_) (fun H2 p => ?_)
    · obtain ⟨b3, s3, acc, hd, la, pa⟩ := p
      obtain ⟨rfl, rfl⟩ := y
      have h8 := hdj i hi
      rw [Nat.mul_add, Nat.mul_one] at h8
      refine ⟨(List.set_set ..).trans (List.set_set ..), ?_⟩
      refine he _ _ _ _ ((b.trans b1).trans b3) s3 (by omega) _ fun y H5 b5 s5 py => ?_
      have hd5 := b5 _ _ hd ne
      refine ⟨acc, hd5, Nat.lt_of_le_of_lt (show acc.length ≤ 1000 by omega) (by decide), fun b o e n => ?_, (s5.mono (by rw [Nat.mul_add, Nat.mul_one]; omega)).putl hd5 far, acc ++ [y], upd_same, by rw [List.length_append, la]; rfl, fun x hx => ?_⟩
      · rw [upd_ne (fun z => by rw [z, hD] at e; cases e)]
        exact b5 _ _ (b3 _ _ e n) n
      · rcases List.mem_append.mp hx with hx | hx
        · exact mK _ _ _ _ _ hd5 (mP _ _ _ _ _ s3 b5 (pa x hx))
        · cases List.mem_singleton.mp hx
          exact mK _ _ _ _ _ hd5 py
    · obtain ⟨b3, s3, acc, hd, la, pa⟩ := p
      have h8 : d * j ≤ 8 * d := by rw [Nat.mul_comm 8 d]; exact Nat.mul_le_mul_left d hj
      exact q _ _ (b1.trans b3) (s3.mono (by omega)) ⟨j, hj, D, acc, rfl, hd, ne, la, pa⟩,
  fun v H H' a d hS b ⟨k, hk, h⟩ => ⟨k, hk, ms_lst mP _ _ _ _ _ hS b h⟩⟩
theorem pbs_at {xs : List V} {H : Hp} (h : ∀ x ∈ xs, PB K m c x H) : ∃ ps, AtL K (NM m) ps xs H ∧ ps.all c = true := by
  induction xs with
  | nil => exact ⟨[], rfl, rfl⟩
  | cons x xs ih =>
    obtain ⟨p, hp, cp⟩ := h x List.mem_cons_self
    obtain ⟨ps, hps, cps⟩ := ih fun y hy => h y (List.mem_cons_of_mem _ hy)
    exact ⟨p :: ps, ⟨x, xs, rfl, hp, hps⟩, by simp [cp, cps]⟩
def cDeeds : Pv → Bool
  | .tup ds => decide (ds.length ≤ 8) && ds.all cDeed
  | _ => false
/-- tuple(list) -/
theorem dw_tupOf (h : Dw K S m H0 te σ n (fun x H => ∃ k, k ≤ 8 ∧ LstA m k (PB K m cDeed) x H)) : Dw K S m H0 (tCB (fun xs H Q => ∃ p ys, xs = [.ref p] ∧ ((SqL K H p ys ∧ ∀ l, H l = none → Q (.ref l) (upd H l (.tup ys))) ∨ (SqT K H p ys ∧ Q (.ref p) H))) (tCons te tNil)) σ n (PB K m cDeeds) :=
  ⟨fun a d H b hS ha Q q => h.ev a d H b hS ha _ fun x H1 b1 s1 p1 => by
    obtain ⟨k, hk, l, xs, rfl, hl, hlm, hlen, hx⟩ := p1
    obtain ⟨ps, hps, cps⟩ := pbs_at hx
    have hln := hps.len
    exact ⟨l, xs, rfl, .inl ⟨.of hl, fun t ht => q _ _ (b1.new ht) (s1.new ht) ⟨.tup ps, ⟨t, xs, rfl, .inl (.inl upd_same), atl_kn (Kn.same (same_new ht)) ps hps, by omega⟩, by
      show (decide (ps.length ≤ 8) && ps.all cDeed) = true
      rw [decide_eq_true (by omega), cps]
      rfl⟩⟩⟩, ms_pb⟩
theorem mk_pb (y : V) (H : Hp) (D : Addr) (xs zs : List V) (h : H D = some (.lst xs)) (p : PB K m c y H) : PB K m c y (upd H D (.lst zs)) := by
  obtain ⟨p, hp, e⟩ := p
  exact ⟨p, at_kn (Kn.lst h id) p hp, e⟩
/-- found.append(e) -/
theorem st_appW {i l a d : Nat} {xs : List V} {ps : List Pv} {H : Hp} {D : Ends} (h0 : σ[i]? = some (some (.ref l))) (hl : H l = some (.lst xs)) (hlm : l ≠ m) (far : Far K l S) (ax : AtL K (NM m) ps xs H) (hz : ps.length ≤ 1000) (hS : SrcAt K S H m a d) (ha : a ≤ 100000) (h : Dw K S m H te σ 0 (PB K m c))
    (k : ∀ p y H1, (∀ b o, H b = some o → b ≠ m → b ≠ l → H1 b = some o) → SrcAt K S H1 m a d → H1 l = some (.lst (xs ++ [y])) → AtL K (NM m) (ps ++ [p]) (xs ++ [y]) H1 → c p = true → D.nx σ H1) : tDrop (tBM K "list" rAppend (tVar i) (tCons te tNil)) D σ H := by
  refine ⟨_, h0, .inl ⟨rfl, _, .of hl⟩, h.ev a d H But.refl hS ha _ fun y H2 b2 s2 ⟨p, py, cp⟩ => ?_⟩
  have hl2 := b2 _ _ hl hlm
  have kn : Kn (NM m) H2 (upd H2 l (.lst (xs ++ [y]))) := Kn.lst hl2 id
  refine ⟨l, xs, y, rfl, rfl, hl2, Nat.lt_of_le_of_lt (show xs.length ≤ 1000 by rw [ax.len]; exact hz) (by decide), ?_⟩
  refine k p y _ (fun b o hb ne nl => by rw [upd_ne nl]; exact b2 _ _ hb ne) (s2.putl hl2 far) upd_same ((atl_kn ((kn_but hS b2).trans kn) _ ax).app (AtL.one (at_kn kn _ py))) cp
end
def cWork : Pv → Bool := isBetween 1 1000
def modeAt (i : Nat) : Str := if i % 2 = 0 then "first" else "second"
def wordAt (i : Nat) : Str := if i / 2 = 0 then "go" else if i / 2 = 1 then "put" else if i / 2 = 2 then "answer" else "x"
def okRowAt (i : Nat) : Pv → Bool
  | .tup [a, b, w, ds] => eqS (modeAt i) a && (eqS (wordAt i) b && (cWork w && cDeeds ds))
  | _ => false
def Good (rs : List Pv) : Prop := rs.length ≤ 6 ∧ ∀ i p, rs[i]? = some p → okRowAt i p = true
def RowsAt (K : PySem.W.Frag) (m l : Addr) (H : Hp) : Prop := ∃ rs xs, H l = some (.lst xs) ∧ l ≠ m ∧ AtL K (NM m) rs xs H ∧ Good rs
theorem ms_ats_all {K : PySem.W.Frag} {S : Addr × List Int} {m : Addr} {a d : Nat} {H H' : Hp} {ps : List Pv} {xs : List V} (hS : SrcAt K S H m a d) (b : But m H H') (h : AtL K (NM m) ps xs H) : AtL K (NM m) ps xs H' := atl_kn (kn_but hS b) ps h
theorem kn_two {K : PySem.W.Frag} {S : Addr × List Int} {m l : Addr} {a d : Nat} {H H' : Hp} {xs : List V} (hS : SrcAt K S H m a d) (hl : H l = some (.lst xs)) (k : ∀ b o, H b = some o → b ≠ m → b ≠ l → H' b = some o) : Kn (NM m) H H' := fun b o h h1 h2 => by
  obtain ⟨s, cs, kk, z, hm, _⟩ := hS
  refine k b o h (fun e => ?_) (fun e => ?_)
  · subst e
    rw [hm] at h
    cases h
    exact h2 _ rfl
  · subst e
    rw [hl] at h
    cases h
    exact h1 _ rfl
theorem mod_at (i : Nat) : ((0 : Int) + (i : Nat)).fmod 2 = ((i % 2 : Nat) : Int) := by rw [Int.fmod_eq_emod_of_nonneg _ (by decide)]; omega
theorem div_at (i : Nat) : ((0 : Int) + (i : Nat)).fdiv 2 = ((i / 2 : Nat) : Int) := by rw [Int.fdiv_eq_ediv_of_nonneg _ (by decide)]; omega
theorem mode_get {i : Nat} (hi : i < 6) : [eqS "first", eqS "second"][i % 2]? = some (eqS (modeAt i)) := by
  match i, hi with
  | 0, _ => rfl
  | 1, _ => rfl
  | 2, _ => rfl
  | 3, _ => rfl
  | 4, _ => rfl
  | 5, _ => rfl
theorem word_get {i : Nat} (hi : i < 6) : [eqS "go", eqS "put", eqS "answer", eqS "x"][i / 2]? = some (eqS (wordAt i)) := by
  match i, hi with
  | 0, _ => rfl
  | 1, _ => rfl
  | 2, _ => rfl
  | 3, _ => rfl
  | 4, _ => rfl
  | 5, _ => rfl
theorem row_ok (i : Nat) (ps : List Pv) (h : All2 [eqS (modeAt i), eqS (wordAt i), cWork, cDeeds] ps) : okRowAt i (.tup ps) = true := by
  match ps, h with
  | [a, b, c, d], ⟨h1, h2, h3, h4, _⟩ =>
    show (eqS (modeAt i) a && (eqS (wordAt i) b && (cWork c && cDeeds d))) = true
    rw [h1, h2, h3, h4]
    rfl
def spGoodRows (K : PySem.W.Frag) (S : Addr × List Int) : Sp := fun vs H Q _ => ∃ m t a c, vs = [.ref m, .ref t] ∧ LstA m 6 (PB K m isWord) (.ref t) H ∧ SrcAt K S H m a c ∧ a + 400 ≤ 100000 ∧ ∀ l H', H l = none → But m H H' → SrcAt K S H' m (a + 400) c → RowsAt K m l H' → Q (.ref l) H'
section
variable {P : Program} {w : World} {K : PySem.W.Frag} {S : Addr × List Int} {mg : Str → Option Value} {base : Heap}
theorem ok_good_rows (T : Env K mg) : FnOk P w K mg base CX0 13 (d_L_good_rows.loc K) T.fd_L_good_rows ["m", "titles"] (spGoodRows K S) := by
  have G_L_next : FnOk P w K mg base CX0 1 _ _ _ _ := ok_next (S := S) T
  have G_L_good_deed : FnOk P w K mg base CX0 12 _ _ _ _ := ok_good_deed (S := S) T
  refine T.F_L_good_rows.ok sc_L_good_rows (fun vs H Q E h => ?_) (fun cdv A outer s H vs Q E hr h => ?_)
  · obtain ⟨m, t, a, c, rfl, _⟩ := h
    rfl
  · have nd := sc_L_good_rows.nd
    have hu := hu_of hr
    obtain ⟨m, t, a, c, rfl, ht, hS, ha, k⟩ := h
    refine ⟨_, PSs.nox (pss_cons (ps_set (i := 2) nd rfl (Or.inl rfl) (pe_lst pa_nil))
 (pss_cons (ps_for PassesOwn.never rfl (pi_range1 (by rfl) T.b_range (pa_cons (pe_call G_L_next (hr.mono (by decide)) (by rfl) T.g__law_next T.F_L_next.kp T.bi_L_next .nil pass0 (pa_cons (pv 0) (pa_cons pe_int pa_nil))) pa_nil)) (pg_name (i := 3) nd rfl (Or.inl rfl))
  (pss_cons (ps_set (i := 4) nd rfl (Or.inl rfl) (pe_callTy call_tuple_of (by rfl) T.b_tuple (by decide +kernel) (pa_cons (pe_lc (own := [("j", 5)]) (by rfl) nd (pi_range1 (by rfl) T.b_range (pa_cons (pe_ix (ixlK (K := K)) (pe_lst (pa_cons pe_int (pa_cons pe_int (pa_cons pe_int (pa_cons pe_int pa_nil))))) (pe_call G_L_next (hr.mono (by decide)) (by rfl) T.g__law_next T.F_L_next.kp T.bi_L_next .nil pass0 (pa_cons (pv 0) (pa_cons pe_int pa_nil))) (fun _ _ => rfl)) pa_nil)) (blkOk_by (N := ["m", "titles", "found", "k", "deeds", "j", "work"]) (sc := defScope s_L_good_rows) (by decide +kernel)) (fun _ _ _ _ _ => (pg_name (i := 5) nd rfl (Or.inl rfl))) (fun _ _ _ _ _ => pts_nil) (fun _ _ _ _ _ => (pe_call G_L_good_deed (hr.mono (by decide)) (by rfl) T.g__law_good_deed T.F_L_good_deed.kp T.bi_L_good_deed .nil pass0 (pa_cons (pv 0) (pa_cons (pv 1) pa_nil))))) pa_nil)))
 (pss_cons (ps_set (i := 6) nd rfl (Or.inl rfl) (pe_ix (ixlK (K := K)) (pe_lst (pa_cons pe_int (pa_cons pe_int (pa_cons pe_int pa_nil)))) (pe_call G_L_next (hr.mono (by decide)) (by rfl) T.g__law_next T.F_L_next.kp T.bi_L_next .nil pass0 (pa_cons (pv 0) (pa_cons pe_int pa_nil))) (fun _ _ => rfl)))
 (pss_one (ps_expr (pe_bm PySem.F.plainAttrs_list PySem.F.slot_list_append PySem.F.type_list_append mt_append (pv 2) (pa_cons (pe_tup (pa_cons (pe_ix (ixlK (K := K)) (pe_lst (pa_cons pe_str (pa_cons pe_str pa_nil))) (pe_op op_modN (pv 3) pe_int) (fun _ _ => rfl)) (pa_cons (pe_ix (ixlK (K := K)) (pe_lst (pa_cons pe_str (pa_cons pe_str (pa_cons pe_str (pa_cons pe_str pa_nil))))) (pe_op op_fdivN (pv 3) pe_int) (fun _ _ => rfl)) (pa_cons (pv 6) (pa_cons (pv 4) pa_nil))))) pa_nil)))))))
 (pss_one (ps_ret (pv 2))))), ?_⟩
    refine ⟨by decide, fun l hl => ?_⟩
    have far := hS.far hl
    have hlm := hS.ne hl
    have hS0 := hS.new (x := .lst []) hl
    have ht0 := ms_lst (ms_pb (K := K) (S := S)) _ _ _ _ _ hS (But.refl.new (x := .lst []) hl) ht
    have b0 : But m H (upd H l (.lst [])) := But.refl.new hl
    have l0 : upd H l (.lst []) l = some (.lst []) := upd_same
    have lt : ∀ H1, LstA m 6 (PB K m isWord) (.ref t) H1 → True := fun _ _ => trivial
    generalize upd H l (.lst []) = H0 at *
    refine (dw_next (K := K) (S := S) (H0 := H0) (t := 7) rfl (by decide) (by decide)).ev a c H0 But.refl hS0 (by omega) _ fun r H1 b1 s1 ⟨r, er, r0, r1⟩ => ?_
    subst er
    refine ⟨r, rfl, by omega, by omega, ?_⟩
    refine for_it (walk_range (lo := 0) (n := r.toNat)) (fun i σ H' => ∃ a3 a4 a5 a6 xs rs, σ = [some (.ref m), some (.ref t), some (.ref l), a3, a4, a5, a6] ∧ SrcAt K S H' m (a + 1 + 58 * i) c ∧ H' l = some (.lst xs) ∧ AtL K (NM m) rs xs H' ∧ rs.length = i ∧ (∀ q p, rs[q]? = some p → okRowAt q p = true) ∧
      LstA m 6 (PB K m isWord) (.ref t) H' ∧ (∀ b o, H b = some o → b ≠ m → H' b = some o)) ⟨_, _, _, _, [], [], rfl, s1, b1 _ _ l0 hlm, rfl, rfl, (fun q p z => by simp at z), ms_lst ms_pb _ _ _ _ _ hS0 b1 ht0, (fun b o e n => b1 _ _ (b0 _ _ e n) n)⟩ (fun _ _ _ _ _ => trivial) (fun i x σ H2 H3 hi q y => ?_) (fun σ H2 q => ?_)
    · obtain ⟨a3, a4, a5, a6, xs, rs, rfl, sI, hl2, ax, lr, good, ht2, b2⟩ := q
      obtain ⟨rfl, rfl⟩ := y
      have hi6 : i < 6 := by omega
      have tl : t ≠ l := fun z => by
        obtain ⟨l', ys, e, h1, _⟩ := ht
        cases e
        rw [z, hl] at h1
        cases h1
      refine st_asgW (P := PB K m cDeeds) (n := 57) (dw_tupOf (dw_lcN (n := 1) (d := 7) (dw_ix (n := 0) (n' := 1) (k := 4) (t := 4) (dw_lst (dwl_cons (dw_pure (p := fun x => ∃ i : Nat, x = .int (i : Int) ∧ i ≤ 8) ⟨0, rfl, by decide⟩) (dwl_cons (dw_pure (p := fun x => ∃ i : Nat, x = .int (i : Int) ∧ i ≤ 8) ⟨1, rfl, by decide⟩) (dwl_cons (dw_pure (p := fun x => ∃ i : Nat, x = .int (i : Int) ∧ i ≤ 8) ⟨2, rfl, by decide⟩) (dwl_cons (dw_pure (p := fun x => ∃ i : Nat, x = .int (i : Int) ∧ i ≤ 8) ⟨8, rfl, by decide⟩) dwl_nil)))) ms_pure (by decide))
        (dw_next rfl (by decide) (by decide)) ms_pure (by decide)) ms_pb mk_pb (fun j a' c' H4 b4 s4 ha' Q' q' => ⟨.ref m, rfl, .ref t, rfl, m, t, a', c', rfl, ms_lst ms_pb _ _ _ _ _ sI b4 ht2, s4, ha', q'⟩))) sI (by omega) fun deeds H4 b4 s4 pd => ?_
      refine st_asgW (P := PB K m cWork) (n := 1) (dw_ix (n := 0) (n' := 1) (k := 3) (t := 3) (dw_lst (dwl_cons (dw_evI (fun H => ev_c)) (dwl_cons (dw_evI (fun H => ev_c)) (dwl_cons (dw_evI (fun H => ev_c)) dwl_nil))) ms_pb (by decide)) (dw_next rfl (by decide) (by decide)) ms_pb (by decide)) s4 (by omega) fun work H5 b5 s5 pk => ?_
      have b45 := b4.trans b5
      have hl5 := b45 _ _ hl2 hlm
      have ax5 := ms_ats_all sI b45 ax
      replace pd := ms_pb _ _ _ _ _ s4 b5 pd
      have ht5 := ms_lst ms_pb _ _ _ _ _ sI b45 ht2
      refine st_appW (i := 2) (c := okRowAt i) rfl hl5 hlm far ax5 (by omega) s5 (by omega) (dw_tup (n := 0) (cs := [eqS (modeAt i), eqS (wordAt i), cWork, cDeeds]) (dwn_cons (n := 0) (n' := 0) (dw_ixI (n := 0) (n' := 0) (i := i % 2) (dw_lstI (cs := [eqS "first", eqS "second"]) (dwn_cons (n := 0) (n' := 0) dw_s (dwn_cons (n := 0) (n' := 0) dw_s dwn_nil)) (by decide)) (dw_ev fun H => by rw [← mod_at i]; exact ev_iI (ev_var rfl) ev_c (by decide)) (mode_get hi6))
        (dwn_cons (n := 0) (n' := 0) (dw_ixI (n := 0) (n' := 0) (i := i / 2) (dw_lstI (cs := [eqS "go", eqS "put", eqS "answer", eqS "x"]) (dwn_cons (n := 0) (n' := 0) dw_s (dwn_cons (n := 0) (n' := 0) dw_s (dwn_cons (n := 0) (n' := 0) dw_s (dwn_cons (n := 0) (n' := 0) dw_s dwn_nil)))) (by decide)) (dw_ev fun H => by rw [← div_at i]; exact ev_iI (ev_var rfl) ev_c ⟨by decide, by decide⟩) (word_get hi6))
        (dwn_cons (n := 0) (n' := 0) (dw_var rfl s5 pk ms_pb) (dwn_cons (n := 0) (n' := 0) (dw_var rfl s5 pd ms_pb) dwn_nil)))) (show 4 ≤ 1000 by decide) (row_ok i)) fun p y H6 k6 s6 l6 ax6 cp => ?_
      refine ⟨_, _, _, _, xs ++ [y], rs ++ [p], rfl, s6.mono (by omega), l6, ax6, by rw [List.length_append, lr]; rfl, fun q p' e => ?_, ?_, fun b o e n => k6 _ _ (b45 _ _ (b2 _ _ e n) n) n (fun z => by rw [z, hl] at e; cases e)⟩
      · rcases Nat.lt_or_ge q rs.length with h | h
        · rw [List.getElem?_append_left h] at e
          exact good q p' e
        · rw [List.getElem?_append_right h] at e
          have hq : q - rs.length = 0 := by
            rcases Nat.eq_zero_or_pos (q - rs.length) with z | z
            · exact z
            · rw [List.getElem?_eq_none (by rw [List.length_singleton]; exact z)] at e
              cases e
          rw [hq] at e
          cases e
          have : q = i := by omega
          rw [this]
          exact cp
      · obtain ⟨l', ys, e, h1, h2, h3, h4⟩ := ht5
        cases e
        exact ⟨t, ys, rfl, k6 _ _ h1 h2 tl, h2, h3, fun x hx => by
          obtain ⟨p, hp, cpw⟩ := h4 x hx
          exact ⟨p, at_kn (kn_two s5 hl5 k6) p hp, cpw⟩⟩
    · obtain ⟨a3, a4, a5, a6, xs, rs, rfl, sI, hl2, ax, lr, good, ht2, b2⟩ := q
      exact ⟨_, rfl, k l H2 hl b2 (sI.mono (by omega)) ⟨rs, xs, hl2, hlm, ax, by omega, good⟩⟩
end
end W53

set_option Elab.async false
set_option linter.all false
set_option maxRecDepth 100000
set_option maxHeartbeats 4000000
/-! tuple * 0 and tuple * 1 -/
namespace WTm
open PySem PySem.Spec PyProof.Rows L2
theorem tuple_mul1 (l : Addr) (items : Array Value) (n : Nat) (dd : Option Addr) (sl : Array (Option Value)) (u : Tok) :
    Meets (Builtin.«tuple.__mul__» ⟨[.ref l, .int 1 u], []⟩) (fun _ R s => s.heap.get? l = some { cls := .type "tuple", dict := dd, data := .seq items n, slots := sl } ∧ R (.ok (.ret (Value.ref l))) s) :=
  .of_wp fun prog w A R s h => by
    obtain ⟨hp, g, d, tk, os⟩ := s
    obtain ⟨hl, h⟩ := h
    have f1 := AutoSeq1.idx_int
    wp_walk using wpAny_loadPart' hl
    exact ⟨_, rfl, h⟩
theorem tuple_mul0 (l : Addr) (items : Array Value) (n : Nat) (dd : Option Addr) (sl : Array (Option Value)) (u : Tok) (hne : items.isEmpty = false) :
    Meets (Builtin.«tuple.__mul__» ⟨[.ref l, .int 0 u], []⟩) (fun _ R s => s.heap.get? l = some { cls := .type "tuple", dict := dd, data := .seq items n, slots := sl } ∧ R (.ok (.ret (Value.ref s.heap.objs.size))) { s with heap := s.heap.push { cls := Value.type "tuple", data := Data.seq #[] } }) :=
  .of_wp fun prog w A R s h => by
    obtain ⟨hp, g, d, tk, os⟩ := s
    obtain ⟨hl, h⟩ := h
    have f1 := AutoSeq1.idx_int
    have c1 : (items.isEmpty || (0 : Int) == 1) = false := by rw [hne]; rfl
    wp_walk using wpAny_loadPart' hl
    repeat (first
      | (refine wpAny_ite_false (decide_eq_false (by rw [c1]; exact Bool.false_ne_true)) ?_; wp_walk using wpAny_loadPart' hl))
    exact ⟨_, rfl, h⟩
def rRep01 (K : PySem.W.Frag) : R2 := fun x y H Q => ∃ l k xs, x = .ref l ∧ y = .int k ∧ SqT K H l xs ∧ xs ≠ [] ∧ ((k = 1 ∧ Q (.ref l) H) ∨ (k = 0 ∧ ∀ p, H p = none → Q (.ref p) (upd H p (.tup []))))
section
variable {X : Cx}
theorem op_rep01 : OpR X (binaryOp .Mult) (rRep01 X.K) := by
  intro pins s σ H x y v u Q I rx ry h
  obtain ⟨l, k, xs, rfl, rfl, hT, hne, q⟩ := h
  cases rx
  obtain ⟨t, rfl⟩ := ry
  obtain ⟨its, r, ⟨⟨cls, dd, data, sl⟩, ho, hc, n, hd⟩, hs⟩ := I.tuple hT
  simp only at hc hd
  subst hc hd
  have hle : its.length = xs.length := r.length.symm
  have hn : its ≠ [] := fun e => hne (by
    rw [e] at hle
    exact List.eq_nil_of_length_eq_zero hle.symm)
  have hi : its.toArray.isEmpty = false := by
    cases its with
    | nil => exact absurd rfl hn
    | cons a b => rfl
  rcases q with ⟨rfl, q⟩ | ⟨rfl, q⟩
  · refine wpAny_binaryOp_repeat_ref (T := "tuple") (U := "int") (by decide) ⟨_, ho, rfl⟩ (fun s' => typeIs_int s' 1 t) noFill_tuple_mul F.fills_int_mul F.slot_int_rmul repeat_tuple F.slot_int_index.lookup
      (call_meets F.slot_int_rmul (typeIs_int s 1 t) F.entry_int_rmul (F.args_int_rmul_2 _ _) (int_rmul_tuple 1 t l its.toArray n dd sl)
        ⟨ho, rfl, ⟨_, ho, rfl⟩, call_meets F.slot_tuple_mul ⟨_, ho, rfl⟩ F.entry_tuple_mul (F.args_tuple_mul_2 _ _) (tuple_mul1 l its.toArray n dd sl t) ⟨ho, ?_⟩⟩)
    exact ⟨.ref l, H, I, rfl, q⟩
  · refine wpAny_binaryOp_repeat_ref (T := "tuple") (U := "int") (by decide) ⟨_, ho, rfl⟩ (fun s' => typeIs_int s' 0 t) noFill_tuple_mul F.fills_int_mul F.slot_int_rmul repeat_tuple F.slot_int_index.lookup
      (call_meets F.slot_int_rmul (typeIs_int s 0 t) F.entry_int_rmul (F.args_int_rmul_2 _ _) (int_rmul_tuple 0 t l its.toArray n dd sl)
        ⟨ho, rfl, ⟨_, ho, rfl⟩, call_meets F.slot_tuple_mul ⟨_, ho, rfl⟩ F.entry_tuple_mul (F.args_tuple_mul_2 _ _) (tuple_mul0 l its.toArray n dd sl t hi) ⟨ho, ?_⟩⟩)
    refine ⟨.ref s.heap.objs.size, _, I.laid (t' := s.toks) (o := .tup []) (fun b ob q => Heap.get?_push_of_some _ q) (Nat.le_refl _) ?_, rfl, q _ (I.hok.fresh (Nat.le_refl _))⟩
    exact ⟨Nat.zero_le _, [], .nil, IsTup.new _ _⟩
end
end WTm

set_option Elab.async false
set_option linter.all false
set_option maxRecDepth 100000
set_option maxHeartbeats 4000000
namespace W53
open PySem PySem.Spec PyProof.Rows L2 WXG WEv WRd WLf WEn WZs WRu WSt StX WDc WPv WEb WXO WXE WKd WGp
/-! ### a wrong deed, drawn -/
def N0 (H0 : Hp) : Addr → Prop := fun a => H0 a = none
def NN (H0 : Hp) (l : Addr) : Addr → Prop := fun a => H0 a = none ∧ a ≠ l
def SP (K : PySem.W.Frag) (H0 : Hp) (ps : List Pv) : HP V := fun v H => ∃ l, v = .ref l ∧ H0 l = none ∧ LAt K (NN H0 l) ps l H
theorem kn_butN {K : PySem.W.Frag} {S : Addr × List Int} {m : Addr} {a c : Nat} {H H' : Hp} {N : Addr → Prop} (hN : ¬ N m) (hS : SrcAt K S H m a c) (b : But m H H') : Kn N H H' := fun x o h h1 h2 => by
  obtain ⟨s, cs, k, l, hm, _⟩ := hS
  refine b x o h (fun z => ?_)
  subst z
  rw [hm] at h
  cases h
  exact hN (h2 _ rfl)
section
variable {K : PySem.W.Frag} {H0 H : Hp} {σ : L2.St} {te ta tb : TE} {tr : TA} {ps qs : List Pv} {p : Pv} {D : Ends}
theorem mn_sp : Mn (SP K H0 ps) := fun _ _ _ s ⟨l, e, n, xs, hl, ha⟩ => ⟨l, e, n, xs, s _ _ hl, mn_atl _ _ _ s ha⟩
theorem sp_at {v : V} (h : SP K H0 ps v H) (hz : ps.length ≤ 1000) : At K (N0 H0) (.lst ps) v H := by
  obtain ⟨l, rfl, hn, xs, hl, ha⟩ := h
  exact ⟨l, xs, rfl, hn, hl, atl_imp (fun a z => z.1) _ ha, hz⟩
theorem g_lstS (s0 : Same H0 H) (h : GL K (N0 H0) tr σ H ps) (hz : ps.length ≤ 1000) : G (tLst tr) σ H (SP K H0 ps) := ⟨fun H1 e Q q => h.ev H1 e _ fun xs H2 s2 p2 =>
  ⟨by rw [p2.len]; exact Nat.le_trans hz (by decide), fun l hl => q (.ref l) _ (s2.trans (same_new hl)) ⟨l, rfl, Same.free (s0.trans (e.trans s2)) hl, xs, upd_same, mn_atl _ _ _ (same_new hl) (atl_ne p2 hl)⟩⟩, mn_sp⟩
theorem g_catS (s0 : Same H0 H) (ha : G ta σ H (At K (N0 H0) (.lst ps))) (hb : G tb σ H (At K (N0 H0) (.lst qs))) (hz : (ps ++ qs).length ≤ 1000) : G (tOp rCat ta tb) σ H (SP K H0 (ps ++ qs)) := ⟨fun H1 e _ q =>
  ha.ev H1 e _ fun a H2 s2 pa => hb.ev H2 (e.trans s2) _ fun b H3 s3 pb => by
    obtain ⟨l, xs, rfl, _, hl, al, _⟩ := mn_at _ _ _ s3 pa
    obtain ⟨m, ys, rfl, _, hm, am, _⟩ := pb
    refine ⟨l, m, xs, ys, rfl, rfl, hl, hm, by rw [al.len, am.len, ← List.length_append]; exact Nat.le_trans hz (by decide), fun r hr => ?_⟩
    have s4 := same_new (o := .lst (xs ++ ys)) hr
    exact q _ _ ((s2.trans s3).trans s4) ⟨r, rfl, Same.free (s0.trans (e.trans (s2.trans s3))) hr, _, upd_same, mn_atl _ _ _ s4 (atl_ne (al.app am) hr)⟩, mn_sp⟩
theorem g_sp (h : G te σ H (SP K H0 ps)) (hz : ps.length ≤ 1000) : G te σ H (At K (N0 H0) (.lst ps)) := ⟨fun H1 e Q q => h.ev H1 e _ fun v H2 s p => q v H2 s (sp_at p hz), mn_at⟩
theorem g_varS {i : Nat} {v : V} (h : σ[i]? = some (some v)) (p : SP K H0 ps v H) (hz : ps.length ≤ 1000) : G (tVar i) σ H (At K (N0 H0) (.lst ps)) := g_varA h (sp_at p hz)
/-- some.append(e) -/
theorem st_appS {i : Nat} {v : V} (s0 : Same H0 H) (h0 : σ[i]? = some (some v)) (hp : SP K H0 ps v H) (hz : ps.length ≤ 1000) (h : ∀ l, (∀ t H1, Same H H1 → H1 t = none → NN H0 l t) → G te σ H (At K (NN H0 l) p))
    (k : ∀ H1, Same H0 H1 → (∀ q x, At K (fun _ => False) q x H → At K (fun _ => False) q x H1) → SP K H0 (ps ++ [p]) v H1 → D.nx σ H1) : tDrop (tBM K "list" rAppend (tVar i) (tCons te tNil)) D σ H := by
  obtain ⟨l, rfl, hn, hl⟩ := hp
  obtain ⟨xs, hlx, _⟩ := id hl
  refine st_appP h0 hl (fun z => z.2 rfl) hz (h l fun t H1 s ht => ⟨Same.free (s0.trans s) ht, fun z => by rw [z, s _ _ hlx] at ht; cases ht⟩) fun H1 b1 l1 => ?_
  refine k H1 (fun b o e => b1 b o (s0 _ _ e) fun z => by rw [z, hn] at e; cases e) (fun q x a => at_kn (fun b o e h1 _ => b1 b o e fun z => ?_) q a) ⟨l, rfl, hn, l1⟩
  rw [z, hlx] at e
  cases e
  exact h1 _ rfl
/-- [e for word in words] -/
theorem g_lcW {v n : Nat} {ws : List Pv} {x : V} {N : Addr → Prop} (hv : σ[n]? = some (some x)) (hq : At K N (.lst ws) x H) (f : Pv → Pv) (h : ∀ p y H1, p ∈ ws → Same H H1 → At K N p y H1 → G te ((σ.set v none).set v (some y)) H1 (At K (fun _ => False) (f p))) (hz : ws.length ≤ 1000)
    (hN : ∀ t H1, Same H H1 → H1 t = none → N t) : G (tLc (iList K (tVar n)) (gName v) tYes te [v]) σ H (At K N (.lst (ws.map f))) := by
  refine ⟨fun H1 e Q q => ?_, mn_at⟩
  obtain ⟨r, xs, rfl, nr, hl, ha, _⟩ := mn_at _ _ _ e hq
  have hlen := ha.len
  refine ⟨.ref r, hv, r, rfl, ⟨xs, .of hl⟩, fun D hD => ?_⟩
  show ∃ W, _
  have sD : Same H1 (upd H1 D (.lst [])) := same_new hD
  refine lc_it (walk_list (xs := xs)) (fun i H' => Same H1 H' ∧ ∃ acc, H' D = some (.lst acc) ∧ AtL K (fun _ => False) ((ws.take i).map f) acc H') ⟨sD, [], upd_same, rfl⟩ (fun i H' _ p => .of (p.1 _ _ hl)) (fun i y H2 H3 hi p yy => ?_) (fun H2 p => ?_)
  · obtain ⟨s2, acc, hd, hacc⟩ := p
    obtain ⟨rfl, hy⟩ := yy
    refine ⟨(List.set_set ..).trans (List.set_set ..), ?_⟩
    obtain ⟨p, hp, py⟩ := (mn_atl _ _ _ s2 ha).get2 hy
    refine (h p y _ (List.mem_of_getElem? hp) (e.trans s2) py).ev _ (Same.refl _) _ fun z H4 s4 pz => ?_
    have kn : Kn (fun _ => False) H4 (upd H4 D (.lst (acc ++ [z]))) := Kn.lst (s4 _ _ hd) id
    refine ⟨acc, s4 _ _ hd, ?_, same_put (s2.trans s4) hD, acc ++ [z], upd_same, ?_⟩
    · rw [hacc.len, List.length_map, List.length_take]
      exact Nat.lt_of_le_of_lt (show min i ws.length ≤ 1000 by omega) (by decide)
    · have e2 : ws.take (i + 1) = ws.take i ++ [p] := by rw [List.take_succ, hp]; rfl
      rw [e2, List.map_append]
      exact (atl_kn ((Kn.same s4).trans kn) _ hacc).app (AtL.one (at_kn kn _ pz))
  · obtain ⟨s2, acc, hd, hacc⟩ := p
    rw [hlen, List.take_length] at hacc
    exact q _ _ s2 ⟨D, acc, rfl, hN D _ e hD, hd, atl_imp (fun _ z => z.elim) _ hacc, by rw [List.length_map]; exact hz⟩
end
def worse0 : Pv := .wrk (.str "new" :: [.str "permanent", .int 0, .int 0, .non, .int 0, (.tup [(.tup [(.str "first"), (.str "go"), (.int 1), (.tup [(.tup [(.str "add"), (.str "r"), (Pv.wrk [.str "x", .str "permanent", .int 0, .int 0, .non, .int 0, .tup []])])])])])])
theorem worse_ok : isScript (.tup [(.tup [(.str "first"), (.str "go"), (.int 1), (.tup [(.tup [(.str "add"), (.str "r"), (Pv.wrk [.str "x", .str "permanent", .int 0, .int 0, .non, .int 0, .tup []])])])])]) = true ∧ okScr (.tup [(.tup [(.str "first"), (.str "go"), (.int 1), (.tup [(.tup [(.str "add"), (.str "r"), (Pv.wrk [.str "x", .str "permanent", .int 0, .int 0, .non, .int 0, .tup []])])])])]) = true := by decide +kernel
theorem x_name : isName (.str "x") = true ∧ Str.length "x" ≤ 1000 := by decide +kernel
theorem s_name : isName (.str "s") = true ∧ Str.length "s" ≤ 1000 := by decide +kernel
def bad0 : List Pv := [.non, (.tup []), (.str "note"), (.lst [(.str "note"), (.str "go")]), (.tup [(.str "note")]), (.tup [(.str "note"), (.str "Go")]), (.tup [(.str "note"), (.str "go"), (.int 1)]), (.tup [(.str "notes"), (.str "go")])]
def bad1 : List Pv := [(.tup [(.str "end"), (.str "killed")])]
def bad2 : List Pv := [(.tup [(.str "send"), (.str "a"), (.str "go")]), (.tup [(.str "send"), (.str "a"), (.str "answer"), (.int 1)]), (.tup [(.str "ask"), (.str "a"), (.str "told"), (.int 0)]), (.tup [(.str "send"), (.str "a"), (.str "go"), (.bl true)])]
def bad3 : List Pv := [(.tup [(.str "send"), (.str "a b"), (.str "go"), (.int 1)]), (.tup [(.str "ask"), (.str "a"), (.str "go"), (.int ((10 : Int) ^ (12 : Int).toNat + (1 : Int)))]), (.tup [(.str "reply"), (.tup [(.str "plus"), (.bl true)])])]
def bad4 : List Pv := [(.tup [(.str "reply"), .non])]
def bad5 : List Pv := [(.tup [(.str "reply"), (.tup [(.str "plus"), (.int ((10 : Int) ^ (12 : Int).toNat + (1 : Int)))])]), (.tup [(.str "reply"), (.lst [(.str "plus"), (.int 1)])]), (.tup [(.str "later"), (.int 0), (.str "go"), (.int 1)])]
def bad6 : List Pv := [(.tup [(.str "later"), (.int 1), (.str "down"), (.int 1)])]
def bad7 : List Pv := [(.tup [(.str "later"), (.int ((10 : Int) ^ (9 : Int).toNat + (1 : Int))), (.str "go"), (.int 1)]), (.tup [(.str "later"), (.bl true), (.str "go"), (.int 1)]), (.tup [(.str "trap"), (.int 1)]), (.tup [(.str "trap"), .non]), (.tup [(.str "mode"), (.str "")])]
def bad8 : List Pv := [(.tup [(.str "mode"), (.str (repS "x" 21))]), (.tup [(.str "end"), (.str "shutdown")]), (.tup [(.str "end"), (.str "refused")]), (.tup [(.str "end"), (.str "gave_up")]), (.tup [(.str "end"), (.str "nobody")])]
def bad9 : List Pv := [(.tup [(.str "link"), (.str "a"), (.str "b")]), (.tup [(.str "cancel"), (.int 5)]), (.tup [(.str "monitor"), .non]), (.tup [(.str "add"), (.str "a"), (.str "b")]), (.tup [(.str "add"), (.str "a"), worse0])]
def bad10 : List Pv := [(.tup [(.str "add"), (.str "a"), (Pv.sup 1 1)]), (.tup [(.str "remove")]), (.tup [(.str "send"), (.str "a"), (.str "back"), (.int 1)])]
def bad11 : List Pv := [(.tup [(.str "ask"), (.str "a"), (.str "ended"), (.int 1)]), (.int 7)]
def five0 : List Pv := [(.str "answer"), (.str "back"), (.str "ended"), (.str "down"), (.str "told")]
def bad12 : List Pv := five0.map fun w => (.tup [(.str "send"), (.str "a"), w, (.int 1)])
def bad13 : List Pv := five0.map fun w => (.tup [(.str "ask"), (.str "a"), w, (.int 1)])
def bad14 : List Pv := five0.map fun w => (.tup [(.str "later"), (.int 2), w, (.int 1)])
def bad15 : List Pv := [(.tup [(.str "reply"), (.int ((0 : Int) - (10 : Int) ^ (12 : Int).toNat - (1 : Int)))])]
def bad16 : List Pv := [(.tup [(.str "reply"), (.tup [(.str "plus"), (.int ((0 : Int) - (10 : Int) ^ (12 : Int).toNat - (1 : Int)))])]), (.tup [(.str "send"), (.str "a"), (.str "go"), (.int ((0 : Int) - (10 : Int) ^ (12 : Int).toNat - (1 : Int)))])]
def allBad : List Pv := ((((((((((((((((bad0 ++ bad1) ++ bad2) ++ bad3) ++ bad4) ++ bad5) ++ bad6) ++ bad7) ++ bad8) ++ bad9) ++ bad10) ++ bad11) ++ bad12) ++ bad13) ++ bad14) ++ bad15) ++ bad16)
theorem all_bad : allBad.all (fun p => !isDeed p && okDeed p) = true := by decide +kernel
theorem five_str {p : Pv} (h : p ∈ five0) : ∃ z, p = .str z ∧ z.length ≤ 1000 := by
  simp only [five0, List.mem_cons, List.not_mem_nil, or_false] at h
  rcases h with rfl | rfl | rfl | rfl | rfl <;> exact ⟨_, rfl, Nat.le_of_ble_eq_true rfl⟩
def spWrongDeed (K : PySem.W.Frag) (S : Addr × List Int) : Sp := fun vs H Q _ => ∃ m a c, vs = [.ref m] ∧ SrcAt K S H m a c ∧ a + 1 ≤ 100000 ∧ ∀ v H' p, But m H H' → SrcAt K S H' m (a + 1) c → At K (N0 H) p v H' → isDeed p = false → okDeed p = true → Q v H'
section
variable {P : Program} {w : World} {K : PySem.W.Frag} {S : Addr × List Int} {mg : Str → Option Value} {base : Heap}
theorem ok_wrong_deed (T : Env K mg) : FnOk P w K mg base CX0 12 (d_L_wrong_deed.loc K) T.fd_L_wrong_deed ["m"] (spWrongDeed K S) := by
  have G_L_of : FnOk P w K mg base CX0 2 _ _ _ _ := ok_of (S := S) T
  have G_mkS_WorkerPlan : FnK P w K mg base (L2.CX P w) 9 _ _ _ := fk_workerS T
  have G_mk0_WorkerPlan : FnK P w K mg base (L2.CX P w) 9 _ _ _ := fk_worker0 T
  have G_mk0_SupervisorPlan : FnK P w K mg base (L2.CX P w) 9 _ _ _ := fk_super0 T
  refine T.F_L_wrong_deed.ok sc_L_wrong_deed (fun vs H Q E h => ?_) (fun cdv A outer s H vs Q E hr h => ?_)
  · obtain ⟨m, a, c, rfl, _⟩ := h
    rfl
  · have nd := sc_L_wrong_deed.nd
    have hu := hu_of hr
    obtain ⟨m, a, c, rfl, hS, ha, k⟩ := h
    refine ⟨_, PSs.nox (pss_cons (ps_set (i := 1) nd rfl (Or.inl rfl) (pe_mkKF T.mk_WorkerPlan G_mkS_WorkerPlan (hr.mono (by decide)) (by rfl) T.g_WorkerPlan passL (pa_cons pe_str pa_nil) (pk_cons (pe_tup (pa_cons (pe_tup (pa_cons pe_str (pa_cons pe_str (pa_cons pe_int (pa_cons (pe_tup (pa_cons (pe_tup (pa_cons pe_str (pa_cons pe_str (pa_cons (pe_mkKF T.mk_WorkerPlan G_mk0_WorkerPlan (hr.mono (by decide)) (by rfl) T.g_WorkerPlan passL (pa_cons pe_str pa_nil) pk_nil) pa_nil)))) pa_nil)) pa_nil))))) pa_nil)) pk_nil)))
 (pss_cons (ps_set (i := 2) nd rfl (Or.inl rfl) (pe_lst (pa_cons pe_non (pa_cons (pe_tup pa_nil) (pa_cons pe_str (pa_cons (pe_lst (pa_cons pe_str (pa_cons pe_str pa_nil))) (pa_cons (pe_tup (pa_cons pe_str pa_nil)) (pa_cons (pe_tup (pa_cons pe_str (pa_cons pe_str pa_nil))) (pa_cons (pe_tup (pa_cons pe_str (pa_cons pe_str (pa_cons pe_int pa_nil)))) (pa_cons (pe_tup (pa_cons pe_str (pa_cons pe_str pa_nil))) pa_nil))))))))))
 (pss_cons (ps_expr (pe_bm PySem.F.plainAttrs_list PySem.F.slot_list_append PySem.F.type_list_append mt_append (pv 2) (pa_cons (pe_tup (pa_cons pe_str (pa_cons pe_str pa_nil))) pa_nil)))
 (pss_cons (ps_set (i := 2) nd rfl (Or.inl rfl) (pe_op op_cat (pv 2) (pe_lst (pa_cons (pe_tup (pa_cons pe_str (pa_cons pe_str (pa_cons pe_str pa_nil)))) (pa_cons (pe_tup (pa_cons pe_str (pa_cons pe_str (pa_cons pe_str (pa_cons pe_int pa_nil))))) (pa_cons (pe_tup (pa_cons pe_str (pa_cons pe_str (pa_cons pe_str (pa_cons pe_int pa_nil))))) (pa_cons (pe_tup (pa_cons pe_str (pa_cons pe_str (pa_cons pe_str (pa_cons pe_bl pa_nil))))) pa_nil)))))))
 (pss_cons (ps_set (i := 2) nd rfl (Or.inl rfl) (pe_op op_cat (pv 2) (pe_lst (pa_cons (pe_tup (pa_cons pe_str (pa_cons pe_str (pa_cons pe_str (pa_cons pe_int pa_nil))))) (pa_cons (pe_tup (pa_cons pe_str (pa_cons pe_str (pa_cons pe_str (pa_cons (pe_op op_add (pe_op op_pow pe_int pe_int) pe_int) pa_nil))))) (pa_cons (pe_tup (pa_cons pe_str (pa_cons (pe_tup (pa_cons pe_str (pa_cons pe_bl pa_nil))) pa_nil))) pa_nil))))))
 (pss_cons (ps_expr (pe_bm PySem.F.plainAttrs_list PySem.F.slot_list_append PySem.F.type_list_append mt_append (pv 2) (pa_cons (pe_tup (pa_cons pe_str (pa_cons pe_non pa_nil))) pa_nil)))
 (pss_cons (ps_set (i := 2) nd rfl (Or.inl rfl) (pe_op op_cat (pv 2) (pe_lst (pa_cons (pe_tup (pa_cons pe_str (pa_cons (pe_tup (pa_cons pe_str (pa_cons (pe_op op_add (pe_op op_pow pe_int pe_int) pe_int) pa_nil))) pa_nil))) (pa_cons (pe_tup (pa_cons pe_str (pa_cons (pe_lst (pa_cons pe_str (pa_cons pe_int pa_nil))) pa_nil))) (pa_cons (pe_tup (pa_cons pe_str (pa_cons pe_int (pa_cons pe_str (pa_cons pe_int pa_nil))))) pa_nil))))))
 (pss_cons (ps_expr (pe_bm PySem.F.plainAttrs_list PySem.F.slot_list_append PySem.F.type_list_append mt_append (pv 2) (pa_cons (pe_tup (pa_cons pe_str (pa_cons pe_int (pa_cons pe_str (pa_cons pe_int pa_nil))))) pa_nil)))
 (pss_cons (ps_set (i := 2) nd rfl (Or.inl rfl) (pe_op op_cat (pv 2) (pe_lst (pa_cons (pe_tup (pa_cons pe_str (pa_cons (pe_op op_add (pe_op op_pow pe_int pe_int) pe_int) (pa_cons pe_str (pa_cons pe_int pa_nil))))) (pa_cons (pe_tup (pa_cons pe_str (pa_cons pe_bl (pa_cons pe_str (pa_cons pe_int pa_nil))))) (pa_cons (pe_tup (pa_cons pe_str (pa_cons pe_int pa_nil))) (pa_cons (pe_tup (pa_cons pe_str (pa_cons pe_non pa_nil))) (pa_cons (pe_tup (pa_cons pe_str (pa_cons pe_str pa_nil))) pa_nil))))))))
 (pss_cons (ps_set (i := 2) nd rfl (Or.inl rfl) (pe_op op_cat (pv 2) (pe_lst (pa_cons (pe_tup (pa_cons pe_str (pa_cons (pe_op op_mulS pe_str pe_int) pa_nil))) (pa_cons (pe_tup (pa_cons pe_str (pa_cons pe_str pa_nil))) (pa_cons (pe_tup (pa_cons pe_str (pa_cons pe_str pa_nil))) (pa_cons (pe_tup (pa_cons pe_str (pa_cons pe_str pa_nil))) (pa_cons (pe_tup (pa_cons pe_str (pa_cons pe_str pa_nil))) pa_nil))))))))
 (pss_cons (ps_set (i := 2) nd rfl (Or.inl rfl) (pe_op op_cat (pv 2) (pe_lst (pa_cons (pe_tup (pa_cons pe_str (pa_cons pe_str (pa_cons pe_str pa_nil)))) (pa_cons (pe_tup (pa_cons pe_str (pa_cons pe_int pa_nil))) (pa_cons (pe_tup (pa_cons pe_str (pa_cons pe_non pa_nil))) (pa_cons (pe_tup (pa_cons pe_str (pa_cons pe_str (pa_cons pe_str pa_nil)))) (pa_cons (pe_tup (pa_cons pe_str (pa_cons pe_str (pa_cons (pv 1) pa_nil)))) pa_nil))))))))
 (pss_cons (ps_set (i := 2) nd rfl (Or.inl rfl) (pe_op op_cat (pv 2) (pe_lst (pa_cons (pe_tup (pa_cons pe_str (pa_cons pe_str (pa_cons (pe_mkKF T.mk_SupervisorPlan G_mk0_SupervisorPlan (hr.mono (by decide)) (by rfl) T.g_SupervisorPlan passL (pa_cons pe_str pa_nil) pk_nil) pa_nil)))) (pa_cons (pe_tup (pa_cons pe_str pa_nil)) (pa_cons (pe_tup (pa_cons pe_str (pa_cons pe_str (pa_cons pe_str (pa_cons pe_int pa_nil))))) pa_nil))))))
 (pss_cons (ps_set (i := 2) nd rfl (Or.inl rfl) (pe_op op_cat (pv 2) (pe_lst (pa_cons (pe_tup (pa_cons pe_str (pa_cons pe_str (pa_cons pe_str (pa_cons pe_int pa_nil))))) (pa_cons pe_int pa_nil)))))
 (pss_cons (ps_set (i := 3) nd rfl (Or.inl rfl) (pe_lst (pa_cons pe_str (pa_cons pe_str (pa_cons pe_str (pa_cons pe_str (pa_cons pe_str pa_nil)))))))
 (pss_cons (ps_set (i := 2) nd rfl (Or.inl rfl) (pe_op op_cat (pe_op op_cat (pv 2) (pe_lc (own := [("word", 4)]) (by rfl) nd (pi_list (pv 3)) (blkOk_by (N := ["m", "worse", "some", "five", "word"]) (sc := defScope s_L_wrong_deed) (by decide +kernel)) (fun _ _ _ _ _ => (pg_name (i := 4) nd rfl (Or.inl rfl))) (fun _ _ _ _ _ => pts_nil) (fun _ _ _ _ _ => (pe_tup (pa_cons pe_str (pa_cons pe_str (pa_cons (pv 4) (pa_cons pe_int pa_nil)))))))) (pe_lc (own := [("word", 4)]) (by rfl) nd (pi_list (pv 3)) (blkOk_by (N := ["m", "worse", "some", "five", "word"]) (sc := defScope s_L_wrong_deed) (by decide +kernel)) (fun _ _ _ _ _ => (pg_name (i := 4) nd rfl (Or.inl rfl))) (fun _ _ _ _ _ => pts_nil) (fun _ _ _ _ _ => (pe_tup (pa_cons pe_str (pa_cons pe_str (pa_cons (pv 4) (pa_cons pe_int pa_nil)))))))))
 (pss_cons (ps_set (i := 2) nd rfl (Or.inl rfl) (pe_op op_cat (pe_op op_cat (pv 2) (pe_lc (own := [("word", 4)]) (by rfl) nd (pi_list (pv 3)) (blkOk_by (N := ["m", "worse", "some", "five", "word"]) (sc := defScope s_L_wrong_deed) (by decide +kernel)) (fun _ _ _ _ _ => (pg_name (i := 4) nd rfl (Or.inl rfl))) (fun _ _ _ _ _ => pts_nil) (fun _ _ _ _ _ => (pe_tup (pa_cons pe_str (pa_cons pe_int (pa_cons (pv 4) (pa_cons pe_int pa_nil)))))))) (pe_lst (pa_cons (pe_tup (pa_cons pe_str (pa_cons (pe_op op_sub (pe_op op_sub pe_int (pe_op op_pow pe_int pe_int)) pe_int) pa_nil))) pa_nil))))
 (pss_cons (ps_set (i := 2) nd rfl (Or.inl rfl) (pe_op op_cat (pv 2) (pe_lst (pa_cons (pe_tup (pa_cons pe_str (pa_cons (pe_tup (pa_cons pe_str (pa_cons (pe_op op_sub (pe_op op_sub pe_int (pe_op op_pow pe_int pe_int)) pe_int) pa_nil))) pa_nil))) (pa_cons (pe_tup (pa_cons pe_str (pa_cons pe_str (pa_cons pe_str (pa_cons (pe_op op_sub (pe_op op_sub pe_int (pe_op op_pow pe_int pe_int)) pe_int) pa_nil))))) pa_nil)))))
 (pss_one (ps_ret (pe_call G_L_of (hr.mono (by decide)) (by rfl) T.g__law_of T.F_L_of.kp T.bi_L_of .nil pass0 (pa_cons (pv 0) (pa_cons (pv 2) pa_nil)))))))))))))))))))))), ?_⟩
    have hNN : ∀ {H1 : Hp}, Same H H1 → ∀ t H2, Same H1 H2 → H2 t = none → N0 H t := fun s0 t H2 s2 h2 => Same.free (s0.trans s2) h2
    refine g_asg (P := At K (fun _ => False) worse0) (g_mkWs new_name (g_tupP (gl_cons (g_tupP (gl_cons (g_str (Nat.le_of_ble_eq_true rfl)) (gl_cons (g_str (Nat.le_of_ble_eq_true rfl)) (gl_cons g_int (gl_cons (g_tupP (gl_cons (g_tupP (gl_cons (g_str (Nat.le_of_ble_eq_true rfl)) (gl_cons (g_str (Nat.le_of_ble_eq_true rfl)) (gl_cons (g_mkW0 (fun H => T.sd H) x_name) gl_nil))) (Nat.le_of_ble_eq_true rfl)) gl_nil) (Nat.le_of_ble_eq_true rfl)) gl_nil)))) (Nat.le_of_ble_eq_true rfl)) gl_nil) (Nat.le_of_ble_eq_true rfl)) worse_ok) fun v1 H1 S1 pw => ?_
    have hN := hNN S1
    refine g_asg (P := SP K H bad0) (g_lstS S1 (gl_cons g_non (gl_cons (g_tupP gl_nil (Nat.le_of_ble_eq_true rfl)) (gl_cons (g_str (Nat.le_of_ble_eq_true rfl)) (gl_cons (g_lstP hN (gl_cons (g_str (Nat.le_of_ble_eq_true rfl)) (gl_cons (g_str (Nat.le_of_ble_eq_true rfl)) gl_nil)) (Nat.le_of_ble_eq_true rfl)) (gl_cons (g_tupP (gl_cons (g_str (Nat.le_of_ble_eq_true rfl)) gl_nil) (Nat.le_of_ble_eq_true rfl)) (gl_cons (g_tupP (gl_cons (g_str (Nat.le_of_ble_eq_true rfl)) (gl_cons (g_str (Nat.le_of_ble_eq_true rfl)) gl_nil)) (Nat.le_of_ble_eq_true rfl)) (gl_cons (g_tupP (gl_cons (g_str (Nat.le_of_ble_eq_true rfl)) (gl_cons (g_str (Nat.le_of_ble_eq_true rfl)) (gl_cons g_int gl_nil))) (Nat.le_of_ble_eq_true rfl)) (gl_cons (g_tupP (gl_cons (g_str (Nat.le_of_ble_eq_true rfl)) (gl_cons (g_str (Nat.le_of_ble_eq_true rfl)) gl_nil)) (Nat.le_of_ble_eq_true rfl)) gl_nil)))))))) (by decide)) fun v2 H2 s2 p2 => ?_
    have S2 := S1.trans s2
    replace pw := mn_at _ _ _ s2 pw
    refine st_appS (i := 2) (p := (.tup [(.str "end"), (.str "killed")])) S2 rfl p2 (by decide) (fun l hN => (g_tupP (gl_cons (g_str (Nat.le_of_ble_eq_true rfl)) (gl_cons (g_str (Nat.le_of_ble_eq_true rfl)) gl_nil)) (Nat.le_of_ble_eq_true rfl))) fun H3 S3 kf p3 => ?_
    replace pw := kf _ _ pw
    have hN := hNN S3
    refine g_asg (P := SP K H ((bad0 ++ bad1) ++ bad2)) (g_catS S3 (g_varS rfl p3 (by decide)) (g_lstP hN (gl_cons (g_tupP (gl_cons (g_str (Nat.le_of_ble_eq_true rfl)) (gl_cons (g_str (Nat.le_of_ble_eq_true rfl)) (gl_cons (g_str (Nat.le_of_ble_eq_true rfl)) gl_nil))) (Nat.le_of_ble_eq_true rfl)) (gl_cons (g_tupP (gl_cons (g_str (Nat.le_of_ble_eq_true rfl)) (gl_cons (g_str (Nat.le_of_ble_eq_true rfl)) (gl_cons (g_str (Nat.le_of_ble_eq_true rfl)) (gl_cons g_int gl_nil)))) (Nat.le_of_ble_eq_true rfl)) (gl_cons (g_tupP (gl_cons (g_str (Nat.le_of_ble_eq_true rfl)) (gl_cons (g_str (Nat.le_of_ble_eq_true rfl)) (gl_cons (g_str (Nat.le_of_ble_eq_true rfl)) (gl_cons g_int gl_nil)))) (Nat.le_of_ble_eq_true rfl)) (gl_cons (g_tupP (gl_cons (g_str (Nat.le_of_ble_eq_true rfl)) (gl_cons (g_str (Nat.le_of_ble_eq_true rfl)) (gl_cons (g_str (Nat.le_of_ble_eq_true rfl)) (gl_cons g_bl gl_nil)))) (Nat.le_of_ble_eq_true rfl)) gl_nil)))) (by decide)) (by decide)) fun v4 H4 s4 p4 => ?_
    have S4 := S3.trans s4
    replace pw := mn_at _ _ _ s4 pw
    have hN := hNN S4
    refine g_asg (P := SP K H (((bad0 ++ bad1) ++ bad2) ++ bad3)) (g_catS S4 (g_varS rfl p4 (by decide)) (g_lstP hN (gl_cons (g_tupP (gl_cons (g_str (Nat.le_of_ble_eq_true rfl)) (gl_cons (g_str (Nat.le_of_ble_eq_true rfl)) (gl_cons (g_str (Nat.le_of_ble_eq_true rfl)) (gl_cons g_int gl_nil)))) (Nat.le_of_ble_eq_true rfl)) (gl_cons (g_tupP (gl_cons (g_str (Nat.le_of_ble_eq_true rfl)) (gl_cons (g_str (Nat.le_of_ble_eq_true rfl)) (gl_cons (g_str (Nat.le_of_ble_eq_true rfl)) (gl_cons (g_evI fun _ _ => (ev_i0 (ev_iI ev_c ev_c ⟨by decide, by decide, by decide⟩) ev_c)) gl_nil)))) (Nat.le_of_ble_eq_true rfl)) (gl_cons (g_tupP (gl_cons (g_str (Nat.le_of_ble_eq_true rfl)) (gl_cons (g_tupP (gl_cons (g_str (Nat.le_of_ble_eq_true rfl)) (gl_cons g_bl gl_nil)) (Nat.le_of_ble_eq_true rfl)) gl_nil)) (Nat.le_of_ble_eq_true rfl)) gl_nil))) (by decide)) (by decide)) fun v5 H5 s5 p5 => ?_
    have S5 := S4.trans s5
    replace pw := mn_at _ _ _ s5 pw
    refine st_appS (i := 2) (p := (.tup [(.str "reply"), .non])) S5 rfl p5 (by decide) (fun l hN => (g_tupP (gl_cons (g_str (Nat.le_of_ble_eq_true rfl)) (gl_cons g_non gl_nil)) (Nat.le_of_ble_eq_true rfl))) fun H6 S6 kf p6 => ?_
    replace pw := kf _ _ pw
    have hN := hNN S6
    refine g_asg (P := SP K H (((((bad0 ++ bad1) ++ bad2) ++ bad3) ++ bad4) ++ bad5)) (g_catS S6 (g_varS rfl p6 (by decide)) (g_lstP hN (gl_cons (g_tupP (gl_cons (g_str (Nat.le_of_ble_eq_true rfl)) (gl_cons (g_tupP (gl_cons (g_str (Nat.le_of_ble_eq_true rfl)) (gl_cons (g_evI fun _ _ => (ev_i0 (ev_iI ev_c ev_c ⟨by decide, by decide, by decide⟩) ev_c)) gl_nil)) (Nat.le_of_ble_eq_true rfl)) gl_nil)) (Nat.le_of_ble_eq_true rfl)) (gl_cons (g_tupP (gl_cons (g_str (Nat.le_of_ble_eq_true rfl)) (gl_cons (g_lstP hN (gl_cons (g_str (Nat.le_of_ble_eq_true rfl)) (gl_cons g_int gl_nil)) (Nat.le_of_ble_eq_true rfl)) gl_nil)) (Nat.le_of_ble_eq_true rfl)) (gl_cons (g_tupP (gl_cons (g_str (Nat.le_of_ble_eq_true rfl)) (gl_cons g_int (gl_cons (g_str (Nat.le_of_ble_eq_true rfl)) (gl_cons g_int gl_nil)))) (Nat.le_of_ble_eq_true rfl)) gl_nil))) (by decide)) (by decide)) fun v7 H7 s7 p7 => ?_
    have S7 := S6.trans s7
    replace pw := mn_at _ _ _ s7 pw
    refine st_appS (i := 2) (p := (.tup [(.str "later"), (.int 1), (.str "down"), (.int 1)])) S7 rfl p7 (by decide) (fun l hN => (g_tupP (gl_cons (g_str (Nat.le_of_ble_eq_true rfl)) (gl_cons g_int (gl_cons (g_str (Nat.le_of_ble_eq_true rfl)) (gl_cons g_int gl_nil)))) (Nat.le_of_ble_eq_true rfl))) fun H8 S8 kf p8 => ?_
    replace pw := kf _ _ pw
    have hN := hNN S8
    refine g_asg (P := SP K H (((((((bad0 ++ bad1) ++ bad2) ++ bad3) ++ bad4) ++ bad5) ++ bad6) ++ bad7)) (g_catS S8 (g_varS rfl p8 (by decide)) (g_lstP hN (gl_cons (g_tupP (gl_cons (g_str (Nat.le_of_ble_eq_true rfl)) (gl_cons (g_evI fun _ _ => (ev_i0 (ev_iI ev_c ev_c ⟨by decide, by decide, by decide⟩) ev_c)) (gl_cons (g_str (Nat.le_of_ble_eq_true rfl)) (gl_cons g_int gl_nil)))) (Nat.le_of_ble_eq_true rfl)) (gl_cons (g_tupP (gl_cons (g_str (Nat.le_of_ble_eq_true rfl)) (gl_cons g_bl (gl_cons (g_str (Nat.le_of_ble_eq_true rfl)) (gl_cons g_int gl_nil)))) (Nat.le_of_ble_eq_true rfl)) (gl_cons (g_tupP (gl_cons (g_str (Nat.le_of_ble_eq_true rfl)) (gl_cons g_int gl_nil)) (Nat.le_of_ble_eq_true rfl)) (gl_cons (g_tupP (gl_cons (g_str (Nat.le_of_ble_eq_true rfl)) (gl_cons g_non gl_nil)) (Nat.le_of_ble_eq_true rfl)) (gl_cons (g_tupP (gl_cons (g_str (Nat.le_of_ble_eq_true rfl)) (gl_cons (g_str (Nat.le_of_ble_eq_true rfl)) gl_nil)) (Nat.le_of_ble_eq_true rfl)) gl_nil))))) (by decide)) (by decide)) fun v9 H9 s9 p9 => ?_
    have S9 := S8.trans s9
    replace pw := mn_at _ _ _ s9 pw
    have hN := hNN S9
    refine g_asg (P := SP K H ((((((((bad0 ++ bad1) ++ bad2) ++ bad3) ++ bad4) ++ bad5) ++ bad6) ++ bad7) ++ bad8)) (g_catS S9 (g_varS rfl p9 (by decide)) (g_lstP hN (gl_cons (g_tupP (gl_cons (g_str (Nat.le_of_ble_eq_true rfl)) (gl_cons (g_mulS (z := "x") (k := 21) (Nat.le_of_ble_eq_true rfl) (Nat.le_of_ble_eq_true rfl) (Nat.le_of_ble_eq_true rfl)) gl_nil)) (Nat.le_of_ble_eq_true rfl)) (gl_cons (g_tupP (gl_cons (g_str (Nat.le_of_ble_eq_true rfl)) (gl_cons (g_str (Nat.le_of_ble_eq_true rfl)) gl_nil)) (Nat.le_of_ble_eq_true rfl)) (gl_cons (g_tupP (gl_cons (g_str (Nat.le_of_ble_eq_true rfl)) (gl_cons (g_str (Nat.le_of_ble_eq_true rfl)) gl_nil)) (Nat.le_of_ble_eq_true rfl)) (gl_cons (g_tupP (gl_cons (g_str (Nat.le_of_ble_eq_true rfl)) (gl_cons (g_str (Nat.le_of_ble_eq_true rfl)) gl_nil)) (Nat.le_of_ble_eq_true rfl)) (gl_cons (g_tupP (gl_cons (g_str (Nat.le_of_ble_eq_true rfl)) (gl_cons (g_str (Nat.le_of_ble_eq_true rfl)) gl_nil)) (Nat.le_of_ble_eq_true rfl)) gl_nil))))) (by decide)) (by decide)) fun v10 H10 s10 p10 => ?_
    have S10 := S9.trans s10
    replace pw := mn_at _ _ _ s10 pw
    have hN := hNN S10
    refine g_asg (P := SP K H (((((((((bad0 ++ bad1) ++ bad2) ++ bad3) ++ bad4) ++ bad5) ++ bad6) ++ bad7) ++ bad8) ++ bad9)) (g_catS S10 (g_varS rfl p10 (by decide)) (g_lstP hN (gl_cons (g_tupP (gl_cons (g_str (Nat.le_of_ble_eq_true rfl)) (gl_cons (g_str (Nat.le_of_ble_eq_true rfl)) (gl_cons (g_str (Nat.le_of_ble_eq_true rfl)) gl_nil))) (Nat.le_of_ble_eq_true rfl)) (gl_cons (g_tupP (gl_cons (g_str (Nat.le_of_ble_eq_true rfl)) (gl_cons g_int gl_nil)) (Nat.le_of_ble_eq_true rfl)) (gl_cons (g_tupP (gl_cons (g_str (Nat.le_of_ble_eq_true rfl)) (gl_cons g_non gl_nil)) (Nat.le_of_ble_eq_true rfl)) (gl_cons (g_tupP (gl_cons (g_str (Nat.le_of_ble_eq_true rfl)) (gl_cons (g_str (Nat.le_of_ble_eq_true rfl)) (gl_cons (g_str (Nat.le_of_ble_eq_true rfl)) gl_nil))) (Nat.le_of_ble_eq_true rfl)) (gl_cons (g_tupP (gl_cons (g_str (Nat.le_of_ble_eq_true rfl)) (gl_cons (g_str (Nat.le_of_ble_eq_true rfl)) (gl_cons (g_varA rfl (at_imp (fun _ z => z.elim) _ pw)) gl_nil))) (Nat.le_of_ble_eq_true rfl)) gl_nil))))) (by decide)) (by decide)) fun v11 H11 s11 p11 => ?_
    have S11 := S10.trans s11
    replace pw := mn_at _ _ _ s11 pw
    have hN := hNN S11
    refine g_asg (P := SP K H ((((((((((bad0 ++ bad1) ++ bad2) ++ bad3) ++ bad4) ++ bad5) ++ bad6) ++ bad7) ++ bad8) ++ bad9) ++ bad10)) (g_catS S11 (g_varS rfl p11 (by decide)) (g_lstP hN (gl_cons (g_tupP (gl_cons (g_str (Nat.le_of_ble_eq_true rfl)) (gl_cons (g_str (Nat.le_of_ble_eq_true rfl)) (gl_cons (g_mkS0 (M := fun _ => False) s_name gl_nil (by decide)) gl_nil))) (Nat.le_of_ble_eq_true rfl)) (gl_cons (g_tupP (gl_cons (g_str (Nat.le_of_ble_eq_true rfl)) gl_nil) (Nat.le_of_ble_eq_true rfl)) (gl_cons (g_tupP (gl_cons (g_str (Nat.le_of_ble_eq_true rfl)) (gl_cons (g_str (Nat.le_of_ble_eq_true rfl)) (gl_cons (g_str (Nat.le_of_ble_eq_true rfl)) (gl_cons g_int gl_nil)))) (Nat.le_of_ble_eq_true rfl)) gl_nil))) (by decide)) (by decide)) fun v12 H12 s12 p12 => ?_
    have S12 := S11.trans s12
    replace pw := mn_at _ _ _ s12 pw
    have hN := hNN S12
    refine g_asg (P := SP K H (((((((((((bad0 ++ bad1) ++ bad2) ++ bad3) ++ bad4) ++ bad5) ++ bad6) ++ bad7) ++ bad8) ++ bad9) ++ bad10) ++ bad11)) (g_catS S12 (g_varS rfl p12 (by decide)) (g_lstP hN (gl_cons (g_tupP (gl_cons (g_str (Nat.le_of_ble_eq_true rfl)) (gl_cons (g_str (Nat.le_of_ble_eq_true rfl)) (gl_cons (g_str (Nat.le_of_ble_eq_true rfl)) (gl_cons g_int gl_nil)))) (Nat.le_of_ble_eq_true rfl)) (gl_cons g_int gl_nil)) (by decide)) (by decide)) fun v13 H13 s13 p13 => ?_
    have S13 := S12.trans s13
    replace pw := mn_at _ _ _ s13 pw
    have hN := hNN S13
    refine g_asg (P := At K (N0 H) (.lst five0)) (g_lstP hN (gl_cons (g_str (Nat.le_of_ble_eq_true rfl)) (gl_cons (g_str (Nat.le_of_ble_eq_true rfl)) (gl_cons (g_str (Nat.le_of_ble_eq_true rfl)) (gl_cons (g_str (Nat.le_of_ble_eq_true rfl)) (gl_cons (g_str (Nat.le_of_ble_eq_true rfl)) gl_nil))))) (by decide)) fun v14 H14 s14 p5f => ?_
    have S14 := S13.trans s14
    replace pw := mn_at _ _ _ s14 pw
    have p14 := mn_sp _ _ _ s14 p13
    have hN := hNN S14
    refine g_asg (P := SP K H (((((((((((((bad0 ++ bad1) ++ bad2) ++ bad3) ++ bad4) ++ bad5) ++ bad6) ++ bad7) ++ bad8) ++ bad9) ++ bad10) ++ bad11) ++ bad12) ++ bad13)) (g_catS S14 (g_sp (g_catS S14 (g_varS rfl p14 (by decide)) (g_lcW rfl p5f (fun w => (.tup [(.str "send"), (.str "a"), w, (.int 1)])) (fun p y H9 hp s9 py => (by rcases five_str hp with ⟨z, rfl, hz⟩; obtain ⟨rfl, _⟩ := py; exact (g_tupP (gl_cons (g_str (Nat.le_of_ble_eq_true rfl)) (gl_cons (g_str (Nat.le_of_ble_eq_true rfl)) (gl_cons (g_varA rfl ⟨rfl, hz⟩) (gl_cons g_int gl_nil)))) (Nat.le_of_ble_eq_true rfl)))) (by decide) hN) (by decide)) (by decide)) (g_lcW rfl p5f (fun w => (.tup [(.str "ask"), (.str "a"), w, (.int 1)])) (fun p y H9 hp s9 py => (by rcases five_str hp with ⟨z, rfl, hz⟩; obtain ⟨rfl, _⟩ := py; exact (g_tupP (gl_cons (g_str (Nat.le_of_ble_eq_true rfl)) (gl_cons (g_str (Nat.le_of_ble_eq_true rfl)) (gl_cons (g_varA rfl ⟨rfl, hz⟩) (gl_cons g_int gl_nil)))) (Nat.le_of_ble_eq_true rfl)))) (by decide) hN) (by decide)) fun v15 H15 s15 p15 => ?_
    have S15 := S14.trans s15
    replace pw := mn_at _ _ _ s15 pw
    replace p5f := mn_at _ _ _ s15 p5f
    have hN := hNN S15
    refine g_asg (P := SP K H (((((((((((((((bad0 ++ bad1) ++ bad2) ++ bad3) ++ bad4) ++ bad5) ++ bad6) ++ bad7) ++ bad8) ++ bad9) ++ bad10) ++ bad11) ++ bad12) ++ bad13) ++ bad14) ++ bad15)) (g_catS S15 (g_sp (g_catS S15 (g_varS rfl p15 (by decide)) (g_lcW rfl p5f (fun w => (.tup [(.str "later"), (.int 2), w, (.int 1)])) (fun p y H9 hp s9 py => (by rcases five_str hp with ⟨z, rfl, hz⟩; obtain ⟨rfl, _⟩ := py; exact (g_tupP (gl_cons (g_str (Nat.le_of_ble_eq_true rfl)) (gl_cons g_int (gl_cons (g_varA rfl ⟨rfl, hz⟩) (gl_cons g_int gl_nil)))) (Nat.le_of_ble_eq_true rfl)))) (by decide) hN) (by decide)) (by decide)) (g_lstP hN (gl_cons (g_tupP (gl_cons (g_str (Nat.le_of_ble_eq_true rfl)) (gl_cons (g_evI fun _ _ => (ev_i0 (ev_i0 ev_c (ev_iI ev_c ev_c ⟨by decide, by decide, by decide⟩)) ev_c)) gl_nil)) (Nat.le_of_ble_eq_true rfl)) gl_nil) (by decide)) (by decide)) fun v16 H16 s16 p16 => ?_
    have S16 := S15.trans s16
    replace pw := mn_at _ _ _ s16 pw
    replace p5f := mn_at _ _ _ s16 p5f
    have hN := hNN S16
    refine g_asg (P := SP K H ((((((((((((((((bad0 ++ bad1) ++ bad2) ++ bad3) ++ bad4) ++ bad5) ++ bad6) ++ bad7) ++ bad8) ++ bad9) ++ bad10) ++ bad11) ++ bad12) ++ bad13) ++ bad14) ++ bad15) ++ bad16)) (g_catS S16 (g_varS rfl p16 (by decide)) (g_lstP hN (gl_cons (g_tupP (gl_cons (g_str (Nat.le_of_ble_eq_true rfl)) (gl_cons (g_tupP (gl_cons (g_str (Nat.le_of_ble_eq_true rfl)) (gl_cons (g_evI fun _ _ => (ev_i0 (ev_i0 ev_c (ev_iI ev_c ev_c ⟨by decide, by decide, by decide⟩)) ev_c)) gl_nil)) (Nat.le_of_ble_eq_true rfl)) gl_nil)) (Nat.le_of_ble_eq_true rfl)) (gl_cons (g_tupP (gl_cons (g_str (Nat.le_of_ble_eq_true rfl)) (gl_cons (g_str (Nat.le_of_ble_eq_true rfl)) (gl_cons (g_str (Nat.le_of_ble_eq_true rfl)) (gl_cons (g_evI fun _ _ => (ev_i0 (ev_i0 ev_c (ev_iI ev_c ev_c ⟨by decide, by decide, by decide⟩)) ev_c)) gl_nil)))) (Nat.le_of_ble_eq_true rfl)) gl_nil)) (by decide)) (by decide)) fun v17 H17 s17 p17 => ?_
    have S17 := S16.trans s17
    replace pw := mn_at _ _ _ s17 pw
    replace p5f := mn_at _ _ _ s17 p5f
    obtain ⟨l, el, hln, xs, hl, hat⟩ := p17
    have hlen := hat.len
    have hS9 := hS.same S17
    refine ⟨.ref m, rfl, v17, rfl, m, l, xs, a, c, (by subst el; rfl), hl, (fun z => by rw [z] at hlen; revert hlen; decide +kernel), by rw [hlen]; decide +kernel, hS9, by omega, (fun z => by subst z; obtain ⟨_, _, _, _, hm, _⟩ := hS; rw [hm] at hln; cases hln), fun x H9 hx b9 s9 => ?_⟩
    obtain ⟨i, hi, ei⟩ := List.getElem_of_mem hx
    obtain ⟨p, hp, px⟩ := hat.get2 (i := i) (by rw [List.getElem?_eq_getElem hi, ei])
    have hb := List.all_eq_true.mp all_bad p (List.mem_of_getElem? hp)
    obtain ⟨h1, h2⟩ := He.ba hb
    refine k x H9 p (fun b o e n => b9 _ _ (S17 _ _ e) n) s9 (at_imp (fun _ z => z.1) _ (at_kn (kn_butN (fun z => ?_) hS9 b9) p px)) (by simpa using h1) h2
    obtain ⟨_, _, _, _, hm, _⟩ := hS
    rw [z.1] at hm
    cases hm
end
end W53

set_option Elab.async false
set_option linter.all false
set_option maxRecDepth 100000
set_option maxHeartbeats 4000000
namespace W53
open PySem PySem.Spec PyProof.Rows L2 WXG WEv WRd WLf WEn WZs WRu WSt StX WDc WPv WEb WXO WXE WKd WGp
/-! ### a wrong row, drawn -/
section
variable {K : PySem.W.Frag} {N : Addr → Prop} {σ : L2.St} {H : Hp} {te ta tb : TE} {tr : TA} {ps qs : List Pv}
/-- list(t) -/
theorem g_listOf (h : G te σ H (At K N (.tup ps))) (hN : ∀ t H1, Same H H1 → H1 t = none → N t) : G (tCB (fun xs H Q => ∃ p ys, xs = [.ref p] ∧ (SqL K H p ys ∨ SqT K H p ys) ∧ ∀ l, H l = none → Q (.ref l) (upd H l (.lst ys))) (tCons te tNil)) σ H (At K N (.lst ps)) := ⟨fun H1 e Q q => h.ev H1 e _ fun x H2 s2 px => by
  obtain ⟨p, xs, rfl, hp, ha, hz⟩ := px
  exact ⟨p, xs, rfl, .inr hp, fun l hl => q _ _ (s2.trans (same_new hl)) ⟨l, xs, rfl, hN l _ (e.trans s2) hl, upd_same, mn_atl _ _ _ (same_new hl) ha, hz⟩⟩, mn_at⟩
/-- t[:3], four items -/
theorem g_sl3 {n : Nat} {v : V} {a b c d : Pv} (h0 : σ[n]? = some (some v)) (hp : At K N (.tup [a, b, c, d]) v H) : G (tSl (rSlT K) (tVar n) tNoPart (tPart (tC (.int 3)))) σ H (At K N (.tup [a, b, c])) := ⟨fun H1 e Q q => by
  obtain ⟨p, xs, rfl, hx, ha, hz⟩ := mn_at _ _ _ e hp
  have hl : xs.length = 4 := ha.len
  have e1 : HT.sIx xs.length xs.length (some 3) = 3 := by rw [show HT.sIx xs.length xs.length (some 3) = min 3 xs.length from HT.sIx_nat _ _ 3]; omega
  refine ⟨_, h0, 3, rfl, p, xs, rfl, hx, fun z => by have := z.2; rw [e1] at this; omega, fun t ht => ?_⟩
  obtain ⟨x1, y1, rfl, p1, x2, y2, rfl, p2, x3, y3, rfl, p3, x4, y4, rfl, p4, rfl⟩ := ha
  have e2 : cutV [x1, x2, x3, x4] none (some 3) = [x1, x2, x3] := by
    unfold cutV
    rw [e1, HT.sIx_none]
    rfl
  rw [e2]
  have s := same_new (o := .tup [x1, x2, x3]) ht
  exact q _ _ s ⟨t, _, rfl, .inl (.inl upd_same), ⟨_, _, rfl, mn_at _ _ _ s p1, _, _, rfl, mn_at _ _ _ s p2, _, _, rfl, mn_at _ _ _ s p3, rfl⟩, Nat.le_of_ble_eq_true rfl⟩, mn_at⟩
/-- t + u -/
theorem catA_at {x y : V} {Q : VK} (hx : At K N (.tup ps) x H) (hy : At K N (.tup qs) y H) (hz : (ps ++ qs).length ≤ 1000) (q : ∀ v H', Same H H' → At K N (.tup (ps ++ qs)) v H' → Q v H') : rCatA K x y H Q := by
  obtain ⟨p, xs, rfl, hp, ha, _⟩ := hx
  obtain ⟨r, ys, rfl, hr, hb, _⟩ := hy
  have la := ha.len
  have lb := hb.len
  refine ⟨p, r, xs, ys, rfl, rfl, hp, hr, by rw [la, lb, ← List.length_append]; exact Nat.le_trans hz (by decide), fun e => ?_, fun _ e => ?_, fun _ _ t ht => ?_⟩
  · have : ps = [] := List.eq_nil_of_length_eq_zero (by rw [← la, e]; rfl)
    subst this
    exact q _ _ (Same.refl _) ⟨r, ys, rfl, hr, hb, hz⟩
  · have : qs = [] := List.eq_nil_of_length_eq_zero (by rw [← lb, e]; rfl)
    subst this
    rw [List.append_nil] at *
    exact q _ _ (Same.refl _) ⟨p, xs, rfl, hp, ha, hz⟩
  · have s := same_new (o := .tup (xs ++ ys)) ht
    exact q _ _ s ⟨t, _, rfl, .inl (.inl upd_same), mn_atl _ _ _ s (ha.app hb), hz⟩
def Dom (H0 H : Hp) : Prop := ∀ t, H t = none → H0 t = none
theorem But.dom {m : Addr} {H H' : Hp} (b : But m H H') (hm : H m ≠ none) (hm' : H' m ≠ none) : Dom H H' := fun t h => by
  cases e : H t with
  | none => rfl
  | some o =>
    by_cases z : t = m
    · subst z; exact absurd h hm'
    · rw [b _ _ e z] at h; cases h
theorem g_catD {H0 : Hp} (s0 : Dom H0 H) (ha : G ta σ H (At K (N0 H0) (.lst ps))) (hb : G tb σ H (At K (N0 H0) (.lst qs))) (hz : (ps ++ qs).length ≤ 1000) : G (tOp rCat ta tb) σ H (SP K H0 (ps ++ qs)) := ⟨fun H1 e _ q =>
  ha.ev H1 e _ fun a H2 s2 pa => hb.ev H2 (e.trans s2) _ fun b H3 s3 pb => by
    obtain ⟨l, xs, rfl, _, hl, al, _⟩ := mn_at _ _ _ s3 pa
    obtain ⟨m, ys, rfl, _, hm, am, _⟩ := pb
    refine ⟨l, m, xs, ys, rfl, rfl, hl, hm, by rw [al.len, am.len, ← List.length_append]; exact Nat.le_trans hz (by decide), fun r hr => ?_⟩
    have s4 := same_new (o := .lst (xs ++ ys)) hr
    exact q _ _ ((s2.trans s3).trans s4) ⟨r, rfl, s0 _ (Same.free (e.trans (s2.trans s3)) hr), _, upd_same, mn_atl _ _ _ s4 (atl_ne (al.app am) hr)⟩, mn_sp⟩
end
def rows1 (a b c : Pv) (ds : List Pv) : List Pv := [.non, .tup [], .lst [a, b, c, .tup ds], .tup [a, b, c], .tup ([a, b, c, .tup ds] ++ [.int 1]), .tup [.str "First", b, c, .tup ds], .tup [a, .str "", c, .tup ds]]
def rows2 (a b c : Pv) (ds : List Pv) : List Pv := [.tup [a, b, .int 0, .tup ds], .tup [a, b, .int 1001, .tup ds], .tup [a, b, .bl true, .tup ds]]
def rows3 (a b c : Pv) (ds ws : List Pv) : List Pv := [.tup [a, b, c, .lst ds], .tup [a, b, c, .non], .tup [a, b, c, .tup ((ds ++ ws) ++ [.int 7])]]
def rows4 (a b c : Pv) (ds : List Pv) : List Pv := [.tup [a, b, c, (.tup (List.replicate 9 [(.tup [(.str "note"), (.str "go")])]).flatten)], .tup [.non, b, c, .tup ds], .tup [a, b, .str "1", .tup ds]]
def allRows (a b c : Pv) (ds ws : List Pv) : List Pv := ((rows1 a b c ds ++ rows2 a b c ds) ++ rows3 a b c ds ws) ++ rows4 a b c ds
theorem row_all (a b c : Pv) (ds : List Pv) : okRow (.tup [a, b, c, .tup ds]) = (decide (ds.length ≤ 100) && ds.all okDeed) := rfl
theorem bad_rows {a b c : Pv} {ds ws : List Pv} (hd : ds.length ≤ 8) (hc : ds.all cDeed = true) (hw : ws.length ≤ 1) (hk : ws.all okDeed = true) : ∀ q ∈ allRows a b c ds ws, isRow q = false ∧ okRow q = true := by
  have ho : ds.all okDeed = true := List.all_eq_true.mpr fun x hx => (He.ba (List.all_eq_true.mp hc x hx)).2
  have hr : (decide (ds.length ≤ 100) && ds.all okDeed) = true := by rw [ho, decide_eq_true (by omega)]; rfl
  have hF : isWord (.str "First") = false := by decide +kernel
  have hE : isWord (.str "") = false := by decide +kernel
  have h9 : isRow (.tup [.str "go", .str "go", .int 1, (.tup (List.replicate 9 [(.tup [(.str "note"), (.str "go")])]).flatten)]) = false := by decide +kernel
  intro q hq
  simp only [allRows, rows1, rows2, rows3, rows4, List.mem_append, List.mem_cons, List.not_mem_nil, or_false] at hq
  rcases hq with ((((rfl | rfl | rfl | rfl | rfl | rfl | rfl) | (rfl | rfl | rfl)) | (rfl | rfl | rfl)) | (rfl | rfl | rfl))
  · exact ⟨rfl, rfl⟩
  · exact ⟨rfl, rfl⟩
  · exact ⟨rfl, rfl⟩
  · exact ⟨rfl, rfl⟩
  · exact ⟨rfl, rfl⟩
  · exact ⟨by rw [isRow_eq, hF]; rfl, hr⟩
  · exact ⟨by rw [isRow_eq, hE]; simp, hr⟩
  · exact ⟨by rw [isRow_eq]; simp [isBetween], hr⟩
  · exact ⟨by rw [isRow_eq]; simp [isBetween], hr⟩
  · exact ⟨by rw [isRow_eq]; simp [isBetween], hr⟩
  · exact ⟨by rw [isRow_eq]; simp [rowD], rfl⟩
  · exact ⟨by rw [isRow_eq]; simp [rowD], rfl⟩
  · refine ⟨by rw [isRow_eq]; simp [rowD, isDeed], ?_⟩
    rw [row_all]
    simp only [List.length_append, List.length_singleton, List.all_append, ho, hk, Bool.true_and]
    rw [decide_eq_true (by omega)]
    rfl
  · exact ⟨by rw [isRow_eq]; simp [rowD], by rw [row_all]; decide +kernel⟩
  · exact ⟨by rw [isRow_eq]; rfl, hr⟩
  · exact ⟨by rw [isRow_eq]; simp [isBetween], hr⟩
def spWrongRow (K : PySem.W.Frag) (S : Addr × List Int) : Sp := fun vs H Q _ => ∃ m a c v wa wb wc ds, vs = [.ref m, v] ∧ At K (NM m) (.tup [wa, wb, wc, .tup ds]) v H ∧ ds.length ≤ 8 ∧ ds.all cDeed = true ∧ SrcAt K S H m a c ∧ a + 2 ≤ 100000 ∧
  ∀ v' H' q, But m H H' → SrcAt K S H' m (a + 2) c → At K (N0 H) q v' H' → isRow q = false → okRow q = true → Q v' H'
section
variable {P : Program} {w : World} {K : PySem.W.Frag} {S : Addr × List Int} {mg : Str → Option Value} {base : Heap}
theorem ok_wrong_row_drawn (T : Env K mg) : FnOk P w K mg base CX0 13 (d_L_wrong_row.loc K) T.fd_L_wrong_row ["m", "row"] (spWrongRow K S) := by
  have G_L_of : FnOk P w K mg base CX0 2 _ _ _ _ := ok_of (S := S) T
  have G_L_wrong_deed : FnOk P w K mg base CX0 12 _ _ _ _ := ok_wrong_deed (S := S) T
  refine T.F_L_wrong_row.ok sc_L_wrong_row (fun vs H Q E h => ?_) (fun cdv A outer s H vs Q E hr h => ?_)
  · obtain ⟨m, a, c, v, wa, wb, wc, ds, rfl, _⟩ := h
    rfl
  · have nd := sc_L_wrong_row.nd
    have hu := hu_of hr
    obtain ⟨m, a, c, v, wa, wb, wc, ds, rfl, hp, hd, hc, hS, ha, k⟩ := h
    refine ⟨_, PSs.nox (pss_cons (ps_asg (pv 1) (pg_tup rfl (pgs_cons (pg_name (i := 2) nd rfl (Or.inl rfl)) (pgs_cons (pg_name (i := 3) nd rfl (Or.inl rfl)) (pgs_cons (pg_name (i := 4) nd rfl (Or.inl rfl)) (pgs_cons (pg_name (i := 5) nd rfl (Or.inl rfl)) pgs_nil))))))
 (pss_cons (ps_set (i := 6) nd rfl (Or.inl rfl) (pe_lst (pa_cons pe_non (pa_cons (pe_tup pa_nil) (pa_cons (pe_callTy call_list_of (by rfl) T.b_list (by decide +kernel) (pa_cons (pv 1) pa_nil)) (pa_cons (pe_slice sl_tup (pv 1) po_none (po_some pe_int)) (pa_cons (pe_op op_catT (pv 1) (pe_tup (pa_cons pe_int pa_nil))) (pa_cons (pe_tup (pa_cons pe_str (pa_cons (pv 3) (pa_cons (pv 4) (pa_cons (pv 5) pa_nil))))) (pa_cons (pe_tup (pa_cons (pv 2) (pa_cons pe_str (pa_cons (pv 4) (pa_cons (pv 5) pa_nil))))) pa_nil)))))))))
 (pss_cons (ps_set (i := 6) nd rfl (Or.inl rfl) (pe_op op_cat (pv 6) (pe_lst (pa_cons (pe_tup (pa_cons (pv 2) (pa_cons (pv 3) (pa_cons pe_int (pa_cons (pv 5) pa_nil))))) (pa_cons (pe_tup (pa_cons (pv 2) (pa_cons (pv 3) (pa_cons pe_int (pa_cons (pv 5) pa_nil))))) (pa_cons (pe_tup (pa_cons (pv 2) (pa_cons (pv 3) (pa_cons pe_bl (pa_cons (pv 5) pa_nil))))) pa_nil))))))
 (pss_cons (ps_set (i := 7) nd rfl (Or.inl rfl) (pe_op op_catA (pe_op op_catA (pv 5) (pe_op WTm.op_rep01 (pe_tup (pa_cons (pe_call G_L_wrong_deed (hr.mono (by decide)) (by rfl) T.g__law_wrong_deed T.F_L_wrong_deed.kp T.bi_L_wrong_deed .nil pass0 (pa_cons (pv 0) pa_nil)) pa_nil)) (pe_callTy call_int1 (by rfl) T.b_int (by decide +kernel) (pa_cons (pe_cmpR op_lt (pe_callB call_len_seq (by rfl) T.b_len (by decide +kernel) (pa_cons (pv 5) pa_nil)) pe_int (nomark _)) pa_nil)))) (pe_tup (pa_cons pe_int pa_nil))))
 (pss_cons (ps_set (i := 6) nd rfl (Or.inl rfl) (pe_op op_cat (pv 6) (pe_lst (pa_cons (pe_tup (pa_cons (pv 2) (pa_cons (pv 3) (pa_cons (pv 4) (pa_cons (pe_callTy call_list_of (by rfl) T.b_list (by decide +kernel) (pa_cons (pv 5) pa_nil)) pa_nil))))) (pa_cons (pe_tup (pa_cons (pv 2) (pa_cons (pv 3) (pa_cons (pv 4) (pa_cons pe_non pa_nil))))) (pa_cons (pe_tup (pa_cons (pv 2) (pa_cons (pv 3) (pa_cons (pv 4) (pa_cons (pv 7) pa_nil))))) pa_nil))))))
 (pss_cons (ps_set (i := 6) nd rfl (Or.inl rfl) (pe_op op_cat (pv 6) (pe_lst (pa_cons (pe_tup (pa_cons (pv 2) (pa_cons (pv 3) (pa_cons (pv 4) (pa_cons (pe_op op_repT (pe_tup (pa_cons (pe_tup (pa_cons pe_str (pa_cons pe_str pa_nil))) pa_nil)) pe_int) pa_nil))))) (pa_cons (pe_tup (pa_cons pe_non (pa_cons (pv 3) (pa_cons (pv 4) (pa_cons (pv 5) pa_nil))))) (pa_cons (pe_tup (pa_cons (pv 2) (pa_cons (pv 3) (pa_cons pe_str (pa_cons (pv 5) pa_nil))))) pa_nil))))))
 (pss_one (ps_ret (pe_call G_L_of (hr.mono (by decide)) (by rfl) T.g__law_of T.F_L_of.kp T.bi_L_of .nil pass0 (pa_cons (pv 0) (pa_cons (pv 6) pa_nil))))))))))), ?_⟩
    obtain ⟨r0, xs, rfl, hq, hx, hz⟩ := id hp
    obtain ⟨x1, y1, rfl, p1, x2, y2, rfl, p2, x3, y3, rfl, p3, x4, y4, rfl, p4, rfl⟩ := hx
    have hNN : ∀ {H1 : Hp}, Same H H1 → ∀ t H2, Same H1 H2 → H2 t = none → N0 H t := fun s0 t H2 s2 h2 => Same.free (s0.trans s2) h2
    have up : ∀ {p : Pv} {x : V} {H1 : Hp}, At K (NM m) p x H1 → At K (N0 H) p x H1 := fun h => at_imp (fun _ z => z.elim) _ h
    refine ⟨_, rfl, r0, _, rfl, hq, rfl, x1, _, rfl, x2, _, rfl, x3, _, rfl, x4, _, rfl, rfl, ?_⟩
    dsimp only
    have hN := hNN (Same.refl H)
    refine g_asg (P := SP K H (rows1 wa wb wc ds)) (g_lstS (Same.refl H) (gl_cons g_non (gl_cons (g_tupP gl_nil (Nat.le_of_ble_eq_true rfl)) (gl_cons (g_listOf (g_varA rfl (up hp)) hN) (gl_cons (g_sl3 rfl (up hp)) (gl_cons (g_catT (g_varA rfl (up hp)) (g_tupP (gl_cons g_int gl_nil) (Nat.le_of_ble_eq_true rfl)) (by simp) (by simp)) (gl_cons (g_tupP (gl_cons (g_str (Nat.le_of_ble_eq_true rfl)) (gl_cons (g_varA rfl (up p2)) (gl_cons (g_varA rfl (up p3)) (gl_cons (g_varA rfl (up p4)) gl_nil)))) (Nat.le_of_ble_eq_true rfl)) (gl_cons (g_tupP (gl_cons (g_varA rfl (up p1)) (gl_cons (g_str (Nat.le_of_ble_eq_true rfl)) (gl_cons (g_varA rfl (up p3)) (gl_cons (g_varA rfl (up p4)) gl_nil)))) (Nat.le_of_ble_eq_true rfl)) gl_nil))))))) (Nat.le_of_ble_eq_true rfl)) fun v6 H1 s1 q1 => ?_
    replace p1 := mn_at _ _ _ s1 p1
    replace p2 := mn_at _ _ _ s1 p2
    replace p3 := mn_at _ _ _ s1 p3
    replace p4 := mn_at _ _ _ s1 p4
    have hN := hNN s1
    refine g_asg (P := SP K H (rows1 wa wb wc ds ++ rows2 wa wb wc ds)) (g_catS s1 (g_varS rfl q1 (Nat.le_of_ble_eq_true rfl)) (g_lstP hN (gl_cons (g_tupP (gl_cons (g_varA rfl (up p1)) (gl_cons (g_varA rfl (up p2)) (gl_cons g_int (gl_cons (g_varA rfl (up p4)) gl_nil)))) (Nat.le_of_ble_eq_true rfl)) (gl_cons (g_tupP (gl_cons (g_varA rfl (up p1)) (gl_cons (g_varA rfl (up p2)) (gl_cons g_int (gl_cons (g_varA rfl (up p4)) gl_nil)))) (Nat.le_of_ble_eq_true rfl)) (gl_cons (g_tupP (gl_cons (g_varA rfl (up p1)) (gl_cons (g_varA rfl (up p2)) (gl_cons g_bl (gl_cons (g_varA rfl (up p4)) gl_nil)))) (Nat.le_of_ble_eq_true rfl)) gl_nil))) (Nat.le_of_ble_eq_true rfl)) (Nat.le_of_ble_eq_true rfl)) fun v7 H2 s2 q2 => ?_
    have S2 := s1.trans s2
    replace p1 := mn_at _ _ _ s2 p1
    replace p2 := mn_at _ _ _ s2 p2
    replace p3 := mn_at _ _ _ s2 p3
    replace p4 := mn_at _ _ _ s2 p4
    have hS2 := hS.same S2
    have hm0 : H m ≠ none := by obtain ⟨_, _, _, _, hm, _⟩ := hS; rw [hm]; exact fun z => nomatch z
    have nm : ¬ N0 H m := hm0
    -- what comes behind 'more'
    dsimp only
    show tAsg _ (gName 7) _ _ _
    refine st_any (i := 7) (R := fun v H6 => ∃ ws : List Pv, ws.length ≤ 1 ∧ ws.all okDeed = true ∧ But m H2 H6 ∧ SrcAt K S H6 m (a + 1) c ∧ At K (N0 H) (.tup ((ds ++ ws) ++ [.int 7])) v H6) (fun Q' fin => ?_) (fun v8 H6 ⟨ws, hw, hk, b6, s6, p8⟩ => ?_)
    · have mid : ∀ (ws : List Pv) (y : V) (H4 : Hp), ws.length ≤ 1 → ws.all okDeed = true → But m H2 H4 → SrcAt K S H4 m (a + 1) c → At K (N0 H) (.tup ws) y H4 → rCatA K x4 y H4 (fun z H5 => (tTup (tCons (tC (.int 7)) tNil)) ([some (V.ref m), some (V.ref r0), some x1, some x2, some x3, some x4, some v7, none] : L2.St) H5 fun y7 H6 => rCatA K z y7 H6 Q') := fun ws y H4 h1 h2 b4 s4 ay =>
        catA_at (N := N0 H) (ps := ds) (qs := ws) (up (at_kn (kn_but hS2 b4) _ p4)) ay (by rw [List.length_append]; omega) fun z H5 s5 az => ⟨(by decide : 1 ≤ sizeLine), fun t7 h7 =>
          catA_at (N := N0 H) (ps := ds ++ ws) (qs := [.int 7]) (mn_at _ _ _ (same_new h7) az) ⟨t7, [.int 7], rfl, .inl (.inl upd_same), ⟨_, _, rfl, rfl, rfl⟩, Nat.le_of_ble_eq_true rfl⟩ (by simp only [List.length_append, List.length_singleton]; omega) fun v8 H6 s6 a8 =>
            fin v8 H6 ⟨ws, h1, h2, b4.trans (But.same ((s5.trans (same_new h7)).trans s6)), s4.same ((s5.trans (same_new h7)).trans s6), a8⟩⟩
      refine ⟨_, rfl, .ref m, rfl, m, a, c, rfl, hS2, by omega, fun vW H3 pW b3 s3 aW nW oW => ⟨(by decide : 1 ≤ sizeLine), fun tp htp => ?_⟩⟩
      have st := same_new (o := .tup [vW]) htp
      have len4 : ∃ q ys, x4 = .ref q ∧ SqT K H2 q ys ∧ ys.length = ds.length := by
        obtain ⟨q, ys, e, hq', ha', _⟩ := p4
        exact ⟨q, ys, e, hq', ha'.len⟩
      obtain ⟨q4, ys4, e4, hq4, hl4⟩ := len4
      have hq5 : SqT K (upd H3 tp (.tup [vW])) q4 ys4 := sqt_same st (sqt_kn (N := NM m) (kn_but hS2 b3) hq4)
      refine ev_cb (vs := [.bl (decide (((ys4.length : Nat) : Int) < 8))]) (v := .int (if decide (((ys4.length : Nat) : Int) < 8) = true then 1 else 0)) (evl_cons (ev_op (v := .bl (decide (((ys4.length : Nat) : Int) < 8))) (ev_cb (vs := [x4]) (v := .int (ys4.length : Int)) (evl_cons (ev_var rfl) evl_nil) fun Q q => ⟨q4, ys4, by rw [e4], .inr hq5, q⟩) ev_c (fun Q q => ⟨_, _, rfl, rfl, q⟩)) evl_nil) (fun Q q => .inr ⟨_, rfl, q⟩) _ ?_
      refine ⟨tp, _, [vW], rfl, rfl, .inl (.inl upd_same), by simp, ?_⟩
      by_cases h8 : ((ys4.length : Nat) : Int) < 8
      · refine .inl ⟨by rw [decide_eq_true h8]; rfl, ?_⟩
        refine mid [pW] _ _ (Nat.le_refl _) (by simp [oW]) (b3.trans (But.same st)) (s3.same st) ⟨tp, [vW], rfl, .inl (.inl upd_same), AtL.one ?_, Nat.le_of_ble_eq_true rfl⟩
        exact mn_at _ _ _ st (at_imp (fun b z => Same.free S2 z) _ aW)
      · refine .inr ⟨by rw [decide_eq_false h8]; rfl, fun t0 h0 => ?_⟩
        have st2 := st.trans (same_new (o := .tup []) h0)
        exact mid [] _ _ (Nat.zero_le _) rfl (b3.trans (But.same st2)) (s3.same st2) ⟨t0, [], rfl, .inl (.inl upd_same), rfl, Nat.zero_le _⟩
    replace p1 := at_kn (kn_but hS2 b6) _ p1
    replace p2 := at_kn (kn_but hS2 b6) _ p2
    replace p3 := at_kn (kn_but hS2 b6) _ p3
    replace p4 := at_kn (kn_but hS2 b6) _ p4
    have hm2 : H2 m ≠ none := by obtain ⟨_, _, _, _, hm, _⟩ := hS2; rw [hm]; exact fun z => nomatch z
    have hm6 : H6 m ≠ none := by obtain ⟨_, _, _, _, hm, _⟩ := s6; rw [hm]; exact fun z => nomatch z
    have d6 : Dom H H6 := fun t h => Same.free S2 (b6.dom hm2 hm6 t h)
    have q6 : At K (N0 H) (.lst (rows1 wa wb wc ds ++ rows2 wa wb wc ds)) v7 H6 := at_kn (kn_butN nm hS2 b6) _ (sp_at q2 (Nat.le_of_ble_eq_true rfl))
    clear q1 q2
    have hN : ∀ t H1, Same H6 H1 → H1 t = none → N0 H t := fun t H1 s h => d6 _ (Same.free s h)
    refine g_asg (P := SP K H ((rows1 wa wb wc ds ++ rows2 wa wb wc ds) ++ rows3 wa wb wc ds ws)) (g_catD d6 (g_varA rfl q6) (g_lstP hN (gl_cons (g_tupP (gl_cons (g_varA rfl (up p1)) (gl_cons (g_varA rfl (up p2)) (gl_cons (g_varA rfl (up p3)) (gl_cons (g_listOf (g_varA rfl (up p4)) hN) gl_nil)))) (Nat.le_of_ble_eq_true rfl)) (gl_cons (g_tupP (gl_cons (g_varA rfl (up p1)) (gl_cons (g_varA rfl (up p2)) (gl_cons (g_varA rfl (up p3)) (gl_cons g_non gl_nil)))) (Nat.le_of_ble_eq_true rfl)) (gl_cons (g_tupP (gl_cons (g_varA rfl (up p1)) (gl_cons (g_varA rfl (up p2)) (gl_cons (g_varA rfl (up p3)) (gl_cons (g_varA rfl p8) gl_nil)))) (Nat.le_of_ble_eq_true rfl)) gl_nil))) (Nat.le_of_ble_eq_true rfl)) (Nat.le_of_ble_eq_true rfl)) fun v9 H7 s7 q7 => ?_
    replace p1 := mn_at _ _ _ s7 p1
    replace p2 := mn_at _ _ _ s7 p2
    replace p3 := mn_at _ _ _ s7 p3
    replace p4 := mn_at _ _ _ s7 p4
    have d7 : Dom H H7 := fun t h => d6 _ (Same.free s7 h)
    have hN : ∀ t H1, Same H7 H1 → H1 t = none → N0 H t := fun t H1 s h => d7 _ (Same.free s h)
    refine g_asg (P := SP K H (allRows wa wb wc ds ws)) (g_catD d7 (g_varS rfl q7 (Nat.le_of_ble_eq_true rfl)) (g_lstP hN (gl_cons (g_tupP (gl_cons (g_varA rfl (up p1)) (gl_cons (g_varA rfl (up p2)) (gl_cons (g_varA rfl (up p3)) (gl_cons (g_repP (g_tupP (gl_cons (g_tupP (gl_cons (g_str (Nat.le_of_ble_eq_true rfl)) (gl_cons (g_str (Nat.le_of_ble_eq_true rfl)) gl_nil)) (Nat.le_of_ble_eq_true rfl)) gl_nil) (Nat.le_of_ble_eq_true rfl)) (by decide) (Nat.le_of_ble_eq_true rfl)) gl_nil)))) (Nat.le_of_ble_eq_true rfl)) (gl_cons (g_tupP (gl_cons g_non (gl_cons (g_varA rfl (up p2)) (gl_cons (g_varA rfl (up p3)) (gl_cons (g_varA rfl (up p4)) gl_nil)))) (Nat.le_of_ble_eq_true rfl)) (gl_cons (g_tupP (gl_cons (g_varA rfl (up p1)) (gl_cons (g_varA rfl (up p2)) (gl_cons (g_str (Nat.le_of_ble_eq_true rfl)) (gl_cons (g_varA rfl (up p4)) gl_nil)))) (Nat.le_of_ble_eq_true rfl)) gl_nil))) (Nat.le_of_ble_eq_true rfl)) (Nat.le_of_ble_eq_true rfl)) fun v10 H8 s8 q8 => ?_
    have s86 := s6.same (s7.trans s8)
    obtain ⟨l, rfl, hln, xs, hl, hat⟩ := q8
    have hlen := hat.len
    have hal : (allRows wa wb wc ds ws).length = 16 := rfl
    refine ⟨.ref m, rfl, .ref l, rfl, m, l, xs, a + 1, c, rfl, hl, (fun z => by rw [z, hal] at hlen; simp at hlen), by rw [hlen, hal]; decide, s86, by omega, (fun z => by rw [z] at hln; exact hm0 hln), fun x H9 hx9 b9 s9 => ?_⟩
    obtain ⟨i, hi, ei⟩ := List.getElem_of_mem hx9
    obtain ⟨p, hp', px⟩ := hat.get2 (i := i) (by rw [List.getElem?_eq_getElem hi, ei])
    obtain ⟨h1, h2⟩ := bad_rows hd hc hw hk p (List.mem_of_getElem? hp')
    refine k x H9 p (fun b o e n => b9 _ _ ((s7.trans s8) _ _ (b6 _ _ (S2 _ _ e) n)) n) s9 (at_imp (fun _ z => z.1) _ (at_kn (kn_butN (fun z => hm0 z.1) s86 b9) p px)) h1 h2
end
end W53

set_option Elab.async false
set_option linter.all false
set_option maxRecDepth 100000
set_option maxHeartbeats 4000000
/-! sets of texts: set(list), sorted(set) -/
namespace WTs
open PySem PySem.Spec PyProof.Rows L2
open PySem (strKind)

def keyOf (e : Int × Value) : Str := match e.2 with | .str k _ => k | _ => ""
def GoodE (w : World) (e : Int × Value) : Prop := ∃ k tk, e.2 = Value.str k tk ∧ e.1 = hashStr w k

/-- the set of ints at a: S its members, n their number; its table rises and can be walked -/
def SetR (w : World) (h : Heap) (a : Addr) (S : Str → Bool) (n : Nat) : Prop :=
  ∃ o es ep t, h.get? a = some o ∧ o.ExactSet ∧ o.data = .set es ep t ∧ (∀ e ∈ es.toList, GoodE w e) ∧ (es.toList.map keyOf).Nodup ∧ (∀ k, S k = true ↔ k ∈ es.toList.map keyOf) ∧
    es.size < scanBound ∧ t.fits es.size = true ∧ es.size = n ∧ Ris t.place.toList ∧ (w.params.followText "set-order" = true ∨ t.led = true)

section
variable {P : Program} {w : World} {h h' : Heap} {a : Addr} {S : Str → Bool} {n : Nat}

theorem SetR.at (R : SetR w h a S n) (k : ∀ o, h.get? a = some o → h'.get? a = some o) : SetR w h' a S n := by
  obtain ⟨o, es, ep, t, ho, r⟩ := R
  exact ⟨o, es, ep, t, k o ho, r⟩
theorem SetR.lt (R : SetR w h a S n) : a < h.objs.size := by
  obtain ⟨o, es, ep, t, ho, r⟩ := R
  exact Heap.lt_size ho
theorem SetR.congr {S' : Str → Bool} (R : SetR w h a S n) (e : ∀ k, S' k = S k) : SetR w h a S' n := by
  have q : S' = S := funext e
  rw [q]; exact R
theorem good_elems {l : List (Int × Value)} (g : ∀ e ∈ l, GoodE w e) : ElemsOf (PySem.strKind P w) l := fun e he => by
  obtain ⟨k, tk, h1, h2⟩ := g e he
  exact ⟨⟨k, by rw [h1]; exact PySem.strKind_is P w k tk, h2⟩, by rw [h1] <;> rfl⟩
theorem good_is {e : Int × Value} (g : GoodE w e) (k : Str) : (PySem.strKind P w).is k e.2 = true ↔ keyOf e = k := by
  obtain ⟨k0, tk, h1, _⟩ := g
  unfold keyOf
  rw [h1]
  show ((Value.str k0 tk).isStrOf k = true) ↔ k0 = k
  simp [Value.isStrOf]
theorem good_mem {l : List (Int × Value)} (g : ∀ e ∈ l, GoodE w e) (k : Str) : k ∈ l.map keyOf ↔ ∃ e ∈ l, (PySem.strKind P w).is k e.2 = true := by
  rw [List.mem_map]
  constructor
  · rintro ⟨e, he, q⟩
    exact ⟨e, he, (good_is (g e he) k).2 q⟩
  · rintro ⟨e, he, q⟩
    exact ⟨e, he, (good_is (g e he) k).1 q⟩
theorem SetR.setOf (R : SetR w h a S n) : h.SetOf (PySem.strKind P w) a S n := by
  obtain ⟨o, es, ep, t, ho, hx, hd, g, nd, hm, hb, hf, hn, _⟩ := R
  exact ⟨o, es, ep, t, ho, hx, hd, good_elems g, fun k => (hm k).trans (good_mem g k), hb, hf, hn⟩
end

section
variable {P : Program} {w : World} {A : Around} {E : Value → Shared → Prop} {s : Shared} {a : Addr} {S : Str → Bool} {n : Nat}

/-! ### add -/
theorem store_at {h : Heap} {a : Addr} {o : Obj} {es es' : Array (Int × Value)} {ep : Nat} {t t' : SetTable} (ho : h.get? a = some o) (hd : o.data = .set es ep t) :
    (h.update a (Obj.putSet es' t')).get? a = some { o with data := .set es' (ep + 1) t' } := by
  have q := Heap.get?_update_self (Obj.putSet es' t') ho (by rw [putSet_of es' t' hd]; rfl)
  rw [putSet_of es' t' hd] at q
  exact q

theorem setR_add_tail {g : Bool → Sem Unit} (hg : ∀ (b : Bool) (s₁ : Shared) (Q' : Unit → Shared → Prop), Q' () s₁ → wpAny (model P w) A (g b) Q' E s₁)
    {o : Obj} {es : Array (Int × Value)} {ep : Nat} {t : SetTable} (ho : s.heap.get? a = some o) (hex : o.ExactSet) (hd : o.data = .set es ep t)
    {es1 : Array (Int × Value)} {t2 : SetTable} {S' : Str → Bool} (g1 : ∀ e ∈ es1.toList, GoodE w e) (nd1 : (es1.toList.map keyOf).Nodup) (m1 : ∀ k, S' k = true ↔ k ∈ es1.toList.map keyOf)
    (hb1 : es1.size < scanBound) (hf2 : t2.fits es1.size = true) (hr : Ris t2.place.toList) (hl : w.params.followText "set-order" = true ∨ t2.led = true) {wasDummy : Bool} {R : Option Bool → Shared → Prop}
    (hR : ∀ h', Heap.SameBut a s.heap h' → SetR w h' a S' es1.size → R (some true) { s with heap := h' }) :
    wpAny (model P w) A (do
        storeSet a es1 t2
        if (!wasDummy && t2.tooFull) = true then do
            g (relayAll t2 es1 (SetTable.grown es1.size)).2.2
            storeSet a (relayAll t2 es1 (SetTable.grown es1.size)).1 (relayAll t2 es1 (SetTable.grown es1.size)).2.1
            pure (some true)
          else pure (some true)) R E s := by
  refine wpAny_bind (wpAny_storeSet_of ho hd ?_ (fits_of_scanBound hb1))
  have ho1 := store_at (es' := es1) (t' := t2) ho hd
  have sb1 := Heap.SameBut.update s.heap a (Obj.putSet es1 t2)
  split
  · have pm := relayAll_perm t2 es1 (SetTable.grown es1.size)
    have hf3 := relayAll_fits t2 es1 (SetTable.grown es1.size)
    have hr3 := relayAll_ris t2 es1 (SetTable.grown es1.size)
    have hl3 := relayAll_led t2 es1 (SetTable.grown es1.size)
    generalize relayAll t2 es1 (SetTable.grown es1.size) = Z at pm hf3 hr3 hl3 ⊢
    obtain ⟨es2, t3, gave⟩ := Z
    dsimp only at pm hf3 hr3 hl3 ⊢
    have hsz : es2.size = es1.size := by rw [← Array.length_toList, pm.length_eq, Array.length_toList]
    have hb2 : es2.size < scanBound := by rw [hsz]; exact hb1
    refine wpAny_bind (hg _ _ _ ?_)
    refine wpAny_bind (wpAny_storeSet_of ho1 rfl ?_ (fits_of_scanBound hb2))
    have ho2 := store_at (es' := es2) (t' := t3) ho1 rfl
    refine wpAny_pure (hR _ (sb1.trans (Heap.SameBut.update _ a _)) ?_)
    exact ⟨_, es2, _, t3, ho2, hex, rfl, fun e he => g1 e (pm.mem_iff.mp he), (pm.map keyOf).nodup_iff.mpr nd1, fun k => (m1 k).trans (pm.map keyOf).mem_iff.symm, hb2, hf3, hsz, hr3,
      hl.imp id fun z => by rw [hl3]; exact z⟩
  · exact wpAny_pure (hR _ sb1 ⟨_, es1, _, t2, ho1, hex, rfl, g1, nd1, m1, hb1, hf2, rfl, hr, hl⟩)

theorem setR_add_hashed {k : Str} {tk : Tok} {Q : Bool → Shared → Prop} (R : SetR w s.heap a S n) (room : n + 1 < scanBound)
    (hQ : ∀ h', Heap.SameBut a s.heap h' → SetR w h' a (fun j => S j || decide (j = k)) (if S k = true then n else n + 1) → Q (!S k) { s with heap := h' }) :
    wpAny (model P w) A (setAddHashed a (.str k tk) ((PySem.strKind P w).hash k)) Q E s := by
  obtain ⟨o, es, ep, t, ho, hex, hd, g, nd, hm, hb, hf, hn, hr, hl⟩ := R
  have hkey : (PySem.strKind P w).is k (.str k tk) = true := PySem.strKind_is P w k tk
  have hsc : (Value.str k tk).scannable = true := rfl
  have hel : ElemsOf (PySem.strKind P w) es.toList := good_elems g
  unfold setAddHashed setAddHashedIn
  refine wpAny_holding (wpAny_bind (wpAny_setState_of ho hd hf ?_))
  dsimp only
  rw [byScan_of hsc hb hel]
  simp only [↓reduceIte]
  unfold setAddByScan
  refine wpAny_bind ?_
  refine wpAny_bind (wpAny_rule ?_)
  refine wpAny_bind (wpAny_setScan_of hkey ho hd hf hel ?_)
  cases hfi : List.findIdx? (fun e => (PySem.strKind P w).is k e.2) es.toList with
  | some j =>
    dsimp only
    obtain ⟨hj, pj, _⟩ := List.findIdx?_eq_some_iff_getElem.mp hfi
    have hSk : S k = true := (hm k).2 ((good_mem (P := P) (w := w) g k).2 ⟨es.toList[j], List.getElem_mem hj, pj⟩)
    refine wpAny_pure (wpAny_pure ?_)
    have q := hQ s.heap (Heap.SameBut.refl a s.heap) ⟨o, es, ep, t, ho, hex, hd, g, nd, fun i => by
      rw [Bool.or_eq_true, decide_eq_true_eq, ← hm i]
      exact ⟨fun z => z.elim id (fun e => e ▸ hSk), .inl⟩, hb, hf, by rw [if_pos hSk]; exact hn, hr, hl⟩
    rw [hSk] at q
    exact q
  | none =>
    dsimp only
    have hnk : k ∉ es.toList.map keyOf := fun z => by
      obtain ⟨e, he, q⟩ := (good_mem (P := P) (w := w) g k).1 z
      have c := List.findIdx?_eq_none_iff.mp hfi e he
      rw [q] at c
      cases c
    have hSk : S k = false := by
      cases q : S k with
      | false => rfl
      | true => exact absurd ((hm k).1 q) hnk
    have hgw : ∀ (b : Bool) {s₁ : Shared} {Q' : Unit → Shared → Prop}, Q' () s₁ → wpAny (model P w) A (match b with | true => rule "set.scan.the-table-gave-way" | false => pure ()) Q' E s₁ :=
      fun b s₁ Q' q => by cases b <;> first | exact wpAny_pure q | exact wpAny_rule q
    have pm := layNew_perm t es ((PySem.strKind P w).hash k) (.str k tk)
    have hf1 := layNew_fits t es ((PySem.strKind P w).hash k) (.str k tk)
    have hr1 := layNew_ris t es ((PySem.strKind P w).hash k) (.str k tk) hr
    have hl1 := layNew_led t es ((PySem.strKind P w).hash k) (.str k tk)
    generalize layNew t es ((PySem.strKind P w).hash k) (.str k tk) = Z at pm hf1 hr1 hl1 ⊢
    obtain ⟨es1, t1, wasDummy, gave⟩ := Z
    dsimp only at pm hf1 hr1 hl1 ⊢
    rw [Array.toList_push] at pm
    have pc : es1.toList.Perm (((PySem.strKind P w).hash k, Value.str k tk) :: es.toList) := pm.trans (List.perm_append_singleton _ _)
    have pk : (es1.toList.map keyOf).Perm (k :: es.toList.map keyOf) := pc.map keyOf
    have g1 : ∀ e ∈ es1.toList, GoodE w e := fun e he => by
      rcases List.mem_cons.mp (pc.mem_iff.mp he) with z | z
      · rw [z]; exact ⟨k, tk, rfl, rfl⟩
      · exact g e z
    have nd1 : (es1.toList.map keyOf).Nodup := pk.nodup_iff.mpr (List.nodup_cons.mpr ⟨hnk, nd⟩)
    have m1 : ∀ i, (S i || decide (i = k)) = true ↔ i ∈ es1.toList.map keyOf := fun i => by
      rw [Bool.or_eq_true, decide_eq_true_eq, hm i, pk.mem_iff, List.mem_cons]
      exact Or.comm
    have hsz : es1.size = n + 1 := by rw [← Array.length_toList, pc.length_eq, List.length_cons, Array.length_toList, hn]
    have hb1 : es1.size < scanBound := by rw [hsz]; exact room
    have hled : w.params.followText "set-order" = true ∨ t1.led = true := hl.imp id fun z => by rw [hl1]; exact z
    have fin : ∀ h', Heap.SameBut a s.heap h' → SetR w h' a (fun j => S j || decide (j = k)) es1.size → Q true { s with heap := h' } := fun h' sb r => by
      have q := hQ h' sb
      rw [hSk] at q
      rw [hsz] at r
      exact q r
    refine wpAny_bind (hgw _ ?_)
    split
    · refine wpAny_bind ?_
      rw [hashByValue_scannable 8 hsc]
      refine wpAny_pure ?_
      refine setR_add_tail ?_ ho hex hd g1 nd1 m1 hb1 ?_ ?_ ?_ ?_
      · intro b s₁ Q' q; cases b <;> first | exact wpAny_pure q | exact wpAny_rule q
      · first | (split <;> first | exact hf1 | exact SetTable.fits_plain_off hf1) | exact hf1
      · first | (split <;> exact hr1) | exact hr1
      · first | (split <;> exact hled) | exact hled
      · intro h' sb r; dsimp only; exact wpAny_pure (fin h' sb r)
    · refine wpAny_bind (wpAny_pure ?_)
      simp only [↓reduceIte]
      refine setR_add_tail ?_ ho hex hd g1 nd1 m1 hb1 hf1 hr1 hled ?_
      · intro b s₁ Q' q; cases b <;> first | exact wpAny_pure q | exact wpAny_rule q
      · intro h' sb r; dsimp only; exact wpAny_pure (fin h' sb r)

theorem strs_get : ∀ {us : List Value} {zs : List Str} {i : Nat} {v : Value}, StrsAre us zs → us[i]? = some v → ∃ z tk, zs[i]? = some z ∧ v = Value.str z tk
  | _, _, 0, _, .cons z k r, e => by cases e; exact ⟨z, k, rfl, rfl⟩
  | _, _, i + 1, _, .cons z k r, e => by
    obtain ⟨y, t, h1, h2⟩ := strs_get (i := i) r (by simpa using e)
    exact ⟨y, t, by simpa using h1, h2⟩
theorem setR_fresh {h : Heap} (w : World) : SetR w (h.push { cls := .type "set", dict := none, data := .set #[] 0 (.fresh 0 0 (!w.params.followText "set-order")) }) h.objs.size (fun _ => false) 0 :=
  ⟨_, #[], 0, _, Heap.get?_push_size _ rfl, ⟨rfl, rfl, rfl⟩, rfl, (fun e he => by simp at he), (by simp), (fun k => by simp), (by decide), (by rfl), rfl, List.Pairwise.nil, by
    show _ ∨ (!w.params.followText "set-order") = true
    cases w.params.followText "set-order"
    · exact .inr rfl
    · exact .inl rfl⟩

/-- set.update's loop -/
theorem set_update_strs {I : Addr} {fp wr : List Addr} {G : Array GenState → Array GenState → Prop} {n : Nat} {Pv : Nat → Value → Prop} {St : Nat → Shared → Prop} {R : Result → Shared → Prop}
    (W : WalksS P w A.in1 I fp wr G n Pv St) (S : Addr) (hSf : S ∉ fp) (ks : List Str) (hn : n = ks.length) (hfew : ks.length < 64) (hval : ∀ i v, Pv i v → ∃ z tk, ks[i]? = some z ∧ v = Value.str z tk)
    (h0 : Heap) (hS0 : h0.get? S = none) (hw0 : ∀ b ∈ wr, h0.get? b = none) :
    ∀ (k i : Nat) (s : Shared), n - i = k → i ≤ n → St i s → (∀ b o, h0.get? b = some o → s.heap.get? b = some o) → (∃ m, SetR w s.heap S (fun z => (ks.take i).any (· == z)) m ∧ m ≤ i) →
      (∀ s' m, Moved (S :: wr) G s s' → SetR w s'.heap S (fun z => (ks.take n).any (· == z)) m → m ≤ n → (∀ b o, h0.get? b = some o → s'.heap.get? b = some o) → R (.ok (.ret .none)) s') →
      codeAny (model P w) A (.builtin "set.update.loop" ⟨[.ref S, .ref I], []⟩) R s := by
  have hSw : S ∉ wr := fun h => hSf (W.sub _ h)
  have hsub : ∀ b ∈ wr, b ∈ S :: wr := fun b hb => List.mem_cons_of_mem _ hb
  have keepM : ∀ {s s' : Shared}, Moved wr G s s' → (∀ b o, h0.get? b = some o → s.heap.get? b = some o) → ∀ b o, h0.get? b = some o → s'.heap.get? b = some o := fun hm hkp b o e =>
    hm.heap b o (fun hb => by rw [hw0 b hb] at e; cases e) (hkp b o e)
  intro k
  induction k with
  | zero =>
    intro i s hk' hi hst hkp ⟨m0, hS, g⟩ hR
    have hin : i = n := by omega
    subst hin
    refine codeAny_builtin F.entry_set_update_loop ?_
    rw [Around.under_plainId F.plain_set_update_loop _]
    show wpAny _ A.in1 (pyNext (.ref I) >>= _) _ _ s
    refine wpAny_bind (W.done s _ _ hst fun s' hm => ?_)
    show wpAny _ A.in1 (ret Value.none) _ _ s'
    have hkp' := keepM hm hkp
    exact wpAny_pure (hR s' m0 (hm.mono hsub) (hS.at (fun o e => hm.heap S o hSw e)) g hkp')
  | succ k ih =>
    intro i s hk' hi hst hkp ⟨m0, hS, g⟩ hR
    have hlt : i < n := by omega
    refine codeAny_builtin F.entry_set_update_loop ?_
    rw [Around.under_plainId F.plain_set_update_loop _]
    show wpAny _ A.in1 (pyNext (.ref I) >>= _) _ _ s
    refine wpAny_bind (W.item i s _ _ hlt hst fun v s' hP hst' hm => ?_)
    obtain ⟨z, tk, hp, rfl⟩ := hval i v hP
    have hkp' := keepM hm hkp
    have hS' : SetR w s'.heap S (fun z => (ks.take i).any (· == z)) m0 := hS.at fun o e => hm.heap S o hSw e
    show wpAny _ A.in1 (holding [Value.str z tk] (setAdd S (.str z tk)) >>= _) _ _ s'
    refine wpAny_bind (wpAny_holding ?_)
    unfold setAdd
    refine wpAny_holding ?_
    refine wpAny_bind ((strKind P w).pyHash (PySem.strKind_is P w z tk) ?_)
    refine setR_add_hashed (s := { s' with toks := s'.toks + 1 }) hS' (Nat.lt_of_le_of_lt (show m0 + 1 ≤ 64 by omega) (by decide)) fun h' hsb hS1 => ?_
    have hS2 : SetR w h' S (fun y => (ks.take (i + 1)).any (· == y)) (if (ks.take i).any (· == z) = true then m0 else m0 + 1) := hS1.congr fun y => by
      rw [List.take_succ, hp]
      simp only [Option.toList_some, List.any_append, List.any_cons, List.any_nil, Bool.or_false]
      by_cases e : y = z
      · subst e; simp
      · have e2 : (z == y) = false := beq_eq_false_iff_ne.mpr (fun q => e q.symm)
        rw [e2, decide_eq_false e]
    have g2 : (if (ks.take i).any (· == z) = true then m0 else m0 + 1) ≤ i + 1 := by split <;> omega
    have hkp2 : ∀ b o, h0.get? b = some o → h'.get? b = some o := fun b o e => (hsb.2 b (fun z => by rw [z, hS0] at e; cases e)).trans (hkp' b o e)
    refine wpAny_pure ⟨plainId_quiet F.plain_set_update_loop _, ih (i + 1) _ (by omega) hlt (W.frame _ s' _ _ hst' (Nat.le_add_right _ _) fun b hb o e => ?_) hkp2 ⟨_, hS2, g2⟩ fun s'' m2 hm'' hS'' g'' hkp'' => ?_⟩
    · rw [hsb.2 b (fun h : b = S => hSf (by rw [← h]; exact hb))]; exact e
    · refine hR s'' m2 (Moved.trans W.gtrans ((hm.mono hsub).then_heap (Nat.le_add_right _ _) fun b o hb e => ?_) hm'') hS'' g'' hkp''
      rw [hsb.2 b (fun h : b = S => hb (by rw [h]; exact List.mem_cons_self))]; exact e

set_option maxRecDepth 100000 in
set_option maxHeartbeats 3200000 in
/-- set(xs) -/
theorem call_set_strs {l : Addr} {items : Array Value} (ks : List Str) {Q : Value → Shared → Prop} (hh : A.handled = none) (hl : s.heap.IsList l items) (hit : StrsAre items.toList ks)
    (hfew : ks.length < 64)
    (h : ∀ (h' : Heap) (tk : Nat) m, SetR w h' s.heap.objs.size (fun z => ks.any (· == z)) m → m ≤ ks.length → (∀ b o, s.heap.get? b = some o → h'.get? b = some o) → Q (.ref s.heap.objs.size) { s with heap := h', toks := tk }) :
    wpAny (model P w) A (call (.type "set") [.ref l]) Q E s := by
  have hisz : items.size = ks.length := by
    have q := hit.length
    rw [Array.length_toList] at q
    omega
  obtain ⟨c, tl, hmro⟩ := F.called_set.mro
  have hmade := F.called_set.made
  have hsub := F.called_set.sub
  refine wpAny_call (codeAny_of_tree ?_)
  show wpAny _ _ (callAny (.type "set") _) _ _ _
  refine wpAny_pure ⟨Code.quiet_builtin _ (by decide +kernel), codeAny_builtin F.entry_type_call ?_⟩
  rw [Around.under_plain (weight_type_call_type "set" [.ref l] []) rfl]
  have h1 := F.called_set.notType
  have h2 := F.called_set.canCreate
  have hct := F.typeCall_set_1 (.ref l)
  repeat (any_goals (first | assumption | wp_step))

  refine codeAny_mono (code_set_led1 (.ref l) (E := E) (Q₁ := fun obj s₁ => obj = .ref s.heap.objs.size ∧ s₁ = { s with heap := s.heap.push { cls := .type "set", dict := none, data := .set #[] 0 (.fresh 0 0 (!w.params.followText "set-order")) } }) ⟨rfl, rfl⟩) fun r s₁ hr => ?_
  cases r with
  | error e => exact hr
  | ok fl =>
    cases fl with
    | ret obj =>
      obtain ⟨rfl, rfl⟩ := hr
      have hS : (s.heap.push { cls := .type "set", dict := none, data := .set #[] 0 (.fresh 0 0 (!w.params.followText "set-order")) }).get? s.heap.objs.size = some { cls := .type "set", dict := none, data := .set #[] 0 (.fresh 0 0 (!w.params.followText "set-order")) } := Heap.get?_push_size _ rfl
      have hT : Shared.TypeIs { s with heap := s.heap.push { cls := .type "set", dict := none, data := .set #[] 0 (.fresh 0 0 (!w.params.followText "set-order")) } } (.ref s.heap.objs.size) "set" := ⟨_, hS, rfl⟩
      have hli := F.called_set.init.lookup
      have hbi := F.called_set.init.bind (.ref s.heap.objs.size)
      repeat (any_goals (first | assumption | wp_step))

      refine codeAny_mono (codeAny_call_builtin (R := wants (fun r s₂ => r = .none ∧ ∃ h' tk m, s₂ = { s with heap := h', toks := tk } ∧ SetR w h' s.heap.objs.size (fun z => ks.any (· == z)) m ∧ m ≤ ks.length ∧
          (∀ b o, s.heap.get? b = some o → h'.get? b = some o)) E) F.called_set.init.plain F.entry_set_init (check_set_init_1 hT ?_)) fun r₂ s₂ hr₂ => ?_
      · obtain ⟨ol, hol, hcl, nl, hdl⟩ := hl
        obtain ⟨ocls, odict, odata, oslots⟩ := ol
        simp only at hcl hdl
        subst hcl; subst hdl
        have hol' : (s.heap.push { cls := .type "set", dict := none, data := .set #[] 0 (.fresh 0 0 (!w.params.followText "set-order")) }).get? l = some { cls := .type "list", dict := odict, data := .seq items nl, slots := oslots } := Heap.get?_push_of_some _ hol
        have hsls := F.sub_list_set
        have hslf := F.sub_list_frozenset
        have hne : (Value.type "list" == Value.type "dict") = false := by decide
        have hl1 : (s.heap.push { cls := .type "set", dict := none, data := .set #[] 0 (.fresh 0 0 (!w.params.followText "set-order")) }).IsList l items := ⟨_, hol', rfl, nl, rfl⟩
        unfold Builtin.«set.__init__» noKeywords Builtin.Frozenset.updateFrom
        generalize hPI : pyIter = PI
        wp_walk
        subst hPI

        refine wpAny_pyIter_list hl1 ?_
        refine wpAny_bind (wpAny_runValue ?_)
        have hlS : l < s.heap.objs.size := Heap.lt_size hol
        have hh3 : A.in1.in1.in1.handled = none := by simp [hh]
        have hz1 : (s.heap.push { cls := .type "set", dict := none, data := .set #[] 0 (.fresh 0 0 (!w.params.followText "set-order")) }).objs.size = s.heap.objs.size + 1 := Heap.size_push ..
        have hneI : l ≠ (s.heap.push { cls := .type "set", dict := none, data := .set #[] 0 (.fresh 0 0 (!w.params.followText "set-order")) }).objs.size := by
          rw [Heap.size_push]; exact Nat.ne_of_lt (Nat.lt_succ_of_lt hlS)
        have hSf : s.heap.objs.size ∉ [(s.heap.push { cls := .type "set", dict := none, data := .set #[] 0 (.fresh 0 0 (!w.params.followText "set-order")) }).objs.size, l] := by
          rw [Heap.size_push]; simp only [List.mem_cons, List.mem_singleton, List.not_mem_nil, or_false, not_or]
          exact ⟨Nat.ne_of_lt (Nat.lt_succ_self _), Nat.ne_of_gt hlS⟩
        have hval : ∀ (i : Nat) (v : Value), items[i]? = some v → ∃ z tk, ks[i]? = some z ∧ v = Value.str z tk := fun i v hv => by
          have q : items.toList[i]? = some v := by rw [Array.getElem?_toList]; exact hv
          exact strs_get hit q
        have none_of : ∀ b, s.heap.objs.size ≤ b → s.heap.get? b = none := fun b hb => by
          cases q : s.heap.get? b with
          | none => rfl
          | some o => exact absurd (Nat.lt_of_lt_of_le (Heap.lt_size q) hb) (Nat.lt_irrefl _)
        refine set_update_strs ((Walks.list hh3 _ l hneI items).toS) s.heap.objs.size
          hSf ks hisz hfew hval s.heap (none_of _ (Nat.le_refl _)) (fun b hb => none_of b (by
            rw [List.mem_singleton.mp hb, Heap.size_push]
            exact Nat.le_succ _)) (items.size - 0) 0 _ (by omega) (Nat.zero_le _)
          ⟨⟨_, Heap.get?_push_size _ rfl, rfl, rfl⟩, (hl1.push _)⟩ (fun b o e => Heap.get?_push_of_some _ (Heap.get?_push_of_some _ e)) ?hS0 ?hR
        case hS0 =>
          have hget : ((s.heap.push { cls := .type "set", dict := none, data := .set #[] 0 (.fresh 0 0 (!w.params.followText "set-order")) }).push { cls := .type "list_iterator", data := .fields #[.ref l, .int 0 0] }).get? s.heap.objs.size
              = some { cls := .type "set", dict := none, data := .set #[] 0 (.fresh 0 0 (!w.params.followText "set-order")) } := Heap.get?_push_of_some _ hS
          exact ⟨0, ((setR_fresh (h := s.heap) w).at (h' := _) fun o e => Heap.get?_push_of_some _ e).congr fun k => by simp, Nat.le_refl _⟩
        case hR =>
          intro s' m hm hS' g' hkp
          obtain ⟨h', g2, d', tk', os'⟩ := s'
          have eg : g2 = s.gens := hm.gens
          have ed : d' = s.drawn := hm.drawn
          have eo : os' = s.os := hm.os
          subst eg; subst ed; subst eo
          show wpAny _ _ _ _ _ _
          refine wpAny_pure ?_
          show wpAny _ _ (ret Value.none) _ _ _
          rw [hisz] at g' hS'
          rw [List.take_length] at hS'
          exact wpAny_pure ⟨rfl, h', tk', m, rfl, hS', g', hkp⟩

      · cases r₂ with
        | error e => exact hr₂
        | ok fl₂ =>
          cases fl₂ with
          | ret r =>
            obtain ⟨rfl, h', tk, m, rfl, hS', g', hk'⟩ := hr₂
            repeat (any_goals (first | assumption | wp_step))
            exact h _ _ _ hS' g' hk'
          | _ => exact hr₂.elim
    | _ => exact hr.elim

end
section
variable {P : Program} {w : World} {A : Around} {E : Value → Shared → Prop} {s : Shared} {a : Addr}
theorem strs_of : ∀ (l : List Value), (∀ v ∈ l, ∃ k tk, v = Value.str k tk) → StrsAre l (l.map fun v => keyOf (0, v))
  | [], _ => .nil
  | v :: l, h => by
    obtain ⟨k, tk, rfl⟩ := h v List.mem_cons_self
    exact .cons k tk (strs_of l fun u hu => h u (List.mem_cons_of_mem _ hu))
theorem sorted_setS {S : Str → Bool} {n : Nat} {Q : Value → Shared → Prop} (R : SetR w s.heap a S n) (hh : A.handled = none) (h64 : n < 64)
    (hQ : ∀ s' p (out : Array Value) (c : Nat) (ns : List Str), (∀ b o, s.heap.get? b = some o → s'.heap.get? b = some o) → s'.gens = s.gens → s'.os = s.os → s.heap.objs.size ≤ p →
      s'.heap.get? p = some (seqObj "list" out c) → StrsAre out.toList ns → sortedS ns = true → ns.Nodup → (∀ k, k ∈ ns ↔ S k = true) → ns.length = n → Q (.ref p) s') :
    wpAny (model P w) A (call (.builtin "sorted") [.ref a]) Q E s := by
  obtain ⟨o, es, ep, t, ho, hex, hd, g, nd, hm, hb, hf, hn, hr, hl⟩ := R
  refine Calls.call_function_entry kind_sorted plain_sorted entry_sorted (args_sorted1 _) ?_
  unfold Builtin.«sorted»
  refine wpAny_bind (m := checkCount "sorted" 1 1 _) (wpAny_pure ?_)
  refine wpAny_bind (collect_set (A := A.in1) hh ⟨o, ho, hex.1, hd⟩ hf hb hr hl fun s1 vs k1 hz g1 o1 pm => ?_)
  have hvl : vs.length = n := by rw [pm.length_eq, List.length_map, Array.length_toList]; exact hn
  have hI : StrsAre vs (vs.map fun v => keyOf (0, v)) := strs_of vs fun v hv => by
    obtain ⟨e, he, q⟩ := List.mem_map.mp (pm.mem_iff.mp hv)
    obtain ⟨k, tk, h1, _⟩ := g e he
    exact ⟨k, tk, by rw [← q]; exact h1⟩
  have pk : (vs.map fun v => keyOf (0, v)).Perm (es.toList.map keyOf) := by
    have q := pm.map fun v => keyOf (0, v)
    rw [List.map_map] at q
    exact q
  refine wpAny_bind (wpAny_newList ?_ (by rw [hvl, sizeLine_eq]; omega))
  have hoL : (s1.heap.push (seqObj "list" vs.toArray 0)).get? s1.heap.objs.size = some (seqObj "list" vs.toArray 0) := Heap.get?_push_size _ rfl
  refine wpAny_bind (wpAny_holding (wpAny_call_entry slot_list_sort ⟨_, hoL, rfl⟩ entry_list_sort (list_sort_treeK strKind_oneLt hoL hI.keysOf (fun v₁ v₂ rest e => keyKind_strs (by rw [← e]; exact hI)) (by rw [hvl]; exact h64) fun st' hp hs => ⟨_, rfl, ?_⟩) (args_list_sort _)))
  obtain ⟨ns', a1, a2, a3⟩ := sorted_out_str hI hp hs
  generalize (arrOf st').map (·.2) = out at a1 ⊢
  obtain ⟨c, hc⟩ := sortedHeap_at (vs := vs) (out := out) hoL
  have pn : ns'.Perm (es.toList.map keyOf) := a2.trans pk
  refine wpAny_pure ⟨_, rfl, hQ _ s1.heap.objs.size out c ns' (fun b u e => ?_) g1 o1 hz hc a1 a3 (pn.nodup_iff.mpr nd) (fun k => by rw [pn.mem_iff, ← hm k]) ?_⟩
  · have q := k1 b u e
    have hlt := Heap.lt_size q
    show (sortedHeap (s1.heap.push (seqObj "list" vs.toArray 0)) s1.heap.objs.size vs out).get? b = some u
    rw [sortedHeap_old (Nat.ne_of_lt hlt) (by rw [size_push']; exact Nat.lt_succ_of_lt hlt)]
    exact Heap.get?_push_of_some _ q
  · rw [pn.length_eq, List.length_map, Array.length_toList]; exact hn
end
/-- the set of some texts at a -/
def SetSO (w : World) (a : Addr) (zs : List Str) : HO := .ext fun h => ∃ m, SetR w h a (fun z => zs.any (· == z)) m ∧ m ≤ zs.length
section
variable {X : Cx}
def rSetS (K : PySem.W.Frag) (w : World) : List V → Hp → VK → Prop := fun xs H Q => ∃ (l : Addr) (zs : List Str), xs = [V.ref l] ∧ SqL K H l (zs.map V.str) ∧ zs.length < 64 ∧ ∀ p, H p = none → Q (.ref p) (upd H p (SetSO w p zs))
theorem cr_setS (hc : X.calm = true) : CallR X (.type "set") (rSetS X.K X.w) := by
  intro pins s σ H vs us Q I r h
  obtain ⟨l, zs, rfl, hq, h64, q⟩ := h
  rw [Vals.ref1 r]
  obtain ⟨its, rv, pl, hz⟩ := I.list hq
  refine call_set_strs zs (I.ok.hd hc) pl.isList (by simpa using strsAre_of rv) h64 fun h' tk m hS hm hk => ?_
  obtain ⟨o, es, ep, t, ho, hrest⟩ := id hS
  refine ⟨.ref s.heap.objs.size, _, I.laid (t' := tk) (o := SetSO X.w s.heap.objs.size zs) hk (Nat.le_refl _) ?_, rfl, q _ (I.hok.fresh (Nat.le_refl _))⟩
  exact ⟨⟨m, hS, hm⟩, ⟨o, ho⟩, fun h1 h2 ⟨m', r1, r2⟩ k => ⟨m', r1.at k, r2⟩⟩
def rSortedSS (w : World) : List V → Hp → VK → Prop := fun vs H Q => ∃ (a : Addr) (zs : List Str), vs = [V.ref a] ∧ H a = some (SetSO w a zs) ∧ zs.length < 64 ∧
  ∀ (ys : List Str) (p : Addr), sortedS ys = true → ys.Nodup → (∀ z, z ∈ ys ↔ z ∈ zs) → ys.length ≤ zs.length → H p = none → Q (.ref p) (upd H p (.lst (ys.map V.str)))
theorem cr_sortedSS (hc : X.calm = true) : CallR X (.builtin "sorted") (rSortedSS X.w) := by
  intro pins s σ H vs us Q I r h
  obtain ⟨a, zs, rfl, ha, h64, q⟩ := h
  obtain ⟨m, R, hm⟩ := (I.hok a _ ha).1
  rw [Vals.ref1 r]
  refine sorted_setS R (I.ok.hd hc) (by omega) fun s' p out c ns k g o hp hg hi hs hnd hme hl => ?_
  have hlen : (ns.map V.str).length ≤ sizeLine := by rw [List.length_map, hl, sizeLine_eq]; omega
  have hn : H p = none := I.hok.fresh hp
  have J : Inv X pins σ (upd H p (.lst (ns.map V.str))) { s with heap := s'.heap, gens := s'.gens, drawn := s'.drawn, toks := s'.toks } :=
    I.call (ch := []) (Un.laid k hp hn) (I.hok.laid k hp ⟨hlen, out.toList, c, vals_of_strs hi, hg⟩) (by rw [g]; exact I.bare) (fun _ z => nomatch z)
  have e : s' = { s with heap := s'.heap, gens := s'.gens, drawn := s'.drawn, toks := s'.toks } := by
    cases s'
    cases s
    cases o
    rfl
  rw [e]
  exact ⟨.ref p, _, J, rfl, q ns p hs hnd (fun z => by rw [hme z]; simp) (by omega) hn⟩
end
end WTs

set_option linter.all false
/-! a sorted list of texts without doubles is told by its members -/
namespace WTs
open PySem PySem.Spec PyProof.Rows L2
def le (a b : Str) : Prop := a.cps.toList ≤ b.cps.toList
theorem le_of {a b : Str} (h : ltCps b.cps.toList a.cps.toList = false) : le a b := by
  rw [ltCps_eq] at h
  exact of_decide_eq_false h
theorem pair_rising : ∀ (l : List Str) (p : Str), risingS p l = true → (p :: l).Pairwise le
  | [], p, _ => List.pairwise_singleton _ _
  | x :: r, p, h => by
    have h' : (!ltCps x.cps.toList p.cps.toList && risingS x r) = true := h
    rw [Bool.and_eq_true, Bool.not_eq_true'] at h'
    have ih := pair_rising r x h'.2
    have hp := le_of h'.1
    refine List.pairwise_cons.mpr ⟨fun y hy => ?_, ih⟩
    rcases List.mem_cons.mp hy with e | hy
    · rw [e]; exact hp
    · exact List.le_trans hp ((List.pairwise_cons.mp ih).1 y hy)
theorem pair_sorted : ∀ (l : List Str), sortedS l = true → l.Pairwise le
  | [], _ => .nil
  | x :: r, h => pair_rising r x h
theorem str_ext {a b : Str} (h : a.cps.toList = b.cps.toList) : a = b := by
  cases a; cases b
  simp only [Str.mk.injEq]
  exact Array.toList_inj.mp h
theorem sorted_unique {l m : List Str} (hl : sortedS l = true) (hm : sortedS m = true) (dl : l.Nodup) (dm : m.Nodup) (h : ∀ z, z ∈ l ↔ z ∈ m) : l = m :=
  List.Perm.eq_of_pairwise (le := le) (fun a b _ _ h1 h2 => str_ext (List.le_antisymm h1 h2)) (pair_sorted l hl) (pair_sorted m hm) ((List.perm_ext_iff_of_nodup dl dm).mpr h)
end WTs

set_option Elab.async false
set_option linter.all false
set_option maxRecDepth 100000
set_option maxHeartbeats 4000000
namespace W53
open PySem PySem.Spec PyProof.Rows L2 WXG WEv WRd WLf WEn WZs WRu WSt StX WDc WPv WEb WXO WXE WKd WGp
/-! ### scripts read -/
def foundV : List V → List Pv → Str × Str → V
  | x :: xs, r :: rs, k => if keyOf r = k then x else foundV xs rs k
  | _, _, _ => .non
theorem foundV_drop {xs : List V} {rs : List Pv} {k : Str × Str} {i : Nat} {x : V} {r : Pv} (hx : xs[i]? = some x) (hr : rs[i]? = some r) : foundV (xs.drop i) (rs.drop i) k = if keyOf r = k then x else foundV (xs.drop (i + 1)) (rs.drop (i + 1)) k := by
  have e1 : xs.drop i = x :: xs.drop (i + 1) := (List.getElem_cons_drop (h := (List.getElem?_eq_some_iff.mp hx).1)).symm.trans (by rw [(List.getElem?_eq_some_iff.mp hx).2])
  have e2 : rs.drop i = r :: rs.drop (i + 1) := (List.getElem_cons_drop (h := (List.getElem?_eq_some_iff.mp hr).1)).symm.trans (by rw [(List.getElem?_eq_some_iff.mp hr).2])
  rw [e1, e2]
  rfl
def dueOf : Pv → V
  | .tup rs => wrV (wrongGo 0 [] rs)
  | _ => .non
def spRequireS (K : PySem.W.Frag) : Sp := fun vs H Q E => ∃ N p v, vs = [v] ∧ At K N p v H ∧ okScr p = true ∧ (isScript p = false → Err H (BX K) "index" (dueOf p) E) ∧ (isScript p = true → ∀ H', Same H H' → Q .non H')
def spFound (K : PySem.W.Frag) : Sp := fun vs H Q _ => ∃ N rs xs q md wd, vs = [.ref q, .str md, .str wd] ∧ SqT K H q xs ∧ AtL K N rs xs H ∧ rs.all isRow = true ∧ Q (foundV xs rs (md, wd)) H
def spRowFor (K : PySem.W.Frag) : Sp := fun vs H Q E => ∃ N p v md wd, vs = [v, .str md, .str wd] ∧ At K N p v H ∧ okScr p = true ∧ (isScript p = false → Err H (BX K) "index" (dueOf p) E) ∧
  (isScript p = true → ∃ rs xs q, p = .tup rs ∧ v = .ref q ∧ SqT K H q xs ∧ AtL K N rs xs H ∧ ∀ H', Same H H' → Q (foundV xs rs (md, wd)) H')
def wordOf : Pv → Str := fun p => (keyOf p).2
/-- the words of rows, ascending -/
def WordsAt (K : PySem.W.Frag) (rs : List Pv) (v : V) (H : Hp) : Prop := ∃ q ys, v = .ref q ∧ H q = some (.tup (ys.map V.str)) ∧ sortedS ys = true ∧ ys.Nodup ∧ (∀ z, z ∈ ys ↔ z ∈ rs.map wordOf) ∧ ys.length ≤ rs.length
def spWords (K : PySem.W.Frag) : Sp := fun vs H Q E => ∃ N p v, vs = [v] ∧ At K N p v H ∧ okScr p = true ∧ (isScript p = false → Err H (BX K) "index" (dueOf p) E) ∧
  ∀ rs, p = .tup rs → isScript p = true → ∀ v' H', Same H H' → WordsAt K rs v' H' → Q v' H'
theorem script_tup {p : Pv} (h : isScript p = true) : ∃ rs, p = .tup rs ∧ wrongGo 0 [] rs = none ∧ rs.all isRow = true := by
  match p, h with
  | .tup rs, h =>
    have e : wrongGo 0 [] rs = none := by
      have : (wrongGo 0 [] rs).isNone = true := h
      simpa using this
    exact ⟨rs, rfl, e, wrongGo_rows 0 [] rs e⟩
theorem wrongGo_len : ∀ (rs : List Pv) (i : Nat) (kn : List (Str × Str)), wrongGo i kn rs = none → i ≤ 30 → i + rs.length ≤ 30
  | [], i, kn, _, h => h
  | r :: rs, i, kn, e, h => by
    unfold wrongGo at e
    split at e
    · cases e
    · rename_i hc
      have h30 : i < 30 := by
        apply Classical.byContradiction
        intro z
        exact hc (by rw [decide_eq_true (show 30 ≤ i by omega)]; rfl)
      have := wrongGo_len rs (i + 1) _ e (by omega)
      rw [List.length_cons]
      omega
theorem evb_notN {σ : L2.St} {H : Hp} {ta : TE} {x : V} {b : Bool} (ha : Ev ta σ H x) (hb : (!decide (x = .non)) = b) : EvB (tTest (tOp (fun x y H Q => y = .non ∧ Q (.bl (!decide (x = .non))) H) ta (tC .non))) σ H b := fun Q q => ha _ ⟨rfl, _, rfl, by rw [hb]; exact q⟩
section
variable {P : Program} {w : World} {K : PySem.W.Frag} {mg : Str → Option Value} {base : Heap}
theorem ok_require_script (T : Env K mg) : FnOk P w K mg base (L2.CX P w) 8 (d_require_script.loc K) T.fd_require_script ["script"] (spRequireS K) := by
  have G_BadScript__init : FnOk P w K mg base CX0 1 _ _ _ _ := ok_BadScript T
  have G_wrong_row : FnOk P w K mg base (L2.CX P w) 7 _ _ _ _ := ok_wrong_row T
  refine T.F_require_script.ok sc_require_script (fun vs H Q E h => ?_) (fun cdv A outer s H vs Q E hr h => ?_)
  · obtain ⟨N, p, v, rfl, _⟩ := h
    rfl
  · have nd := sc_require_script.nd
    have hu := hu_of hr
    obtain ⟨N, p, v, rfl, hp, ho, ke, k⟩ := h
    refine ⟨_, (pss_cons (ps_set (i := 1) nd rfl (Or.inl rfl) (pe_call G_wrong_row (hr.mono (by decide)) (by rfl) T.g_wrong_row T.F_wrong_row.kp T.bi_wrong_row .nil (WXO.takes_e (E := E) rfl rfl rfl rfl) (pa_cons (pv 0) pa_nil)))
 (pss_one (ps_if (pt_cmpR op_notN (pv 1) pe_non (nomark _))
  (pss_one (ps_raise rfl (takes_of (E := E) rfl rfl rfl rfl) (pmk_oex T.o_BadScript T.i_BadScript T.t_BadScript G_BadScript__init (hr.mono (by decide)) T.bi_BadScript__init .nil pass0 (by rfl) T.g_BadScript (pa_cons (pv 1) pa_nil))))
  pss_nil))), ?_⟩
    refine ⟨_, rfl, N, p, v, rfl, hp, ho, fun hs => ?_, fun rs e H' s' => ?_⟩
    · have hns : isScript p = false := (notTup hs).2.2
      have e : dueOf p = .non := by cases p <;> first | rfl | cases hs
      have := ke hns
      rw [e] at this
      exact this
    · subst e
      cases hw : wrongGo 0 [] rs with
      | none =>
        unfold gName
        dsimp only
        refine st_nn (evb_notN (x := .non) (ev_var rfl) rfl) ?_
        exact k (by show (wrongGo 0 [] rs).isNone = true; rw [hw]; rfl) _ s'
      | some i =>
        have hns : isScript (.tup rs) = false := by show (wrongGo 0 [] rs).isNone = false; rw [hw]; rfl
        have e : dueOf (.tup rs) = .int (i : Int) := by show wrV (wrongGo 0 [] rs) = _; rw [hw]; rfl
        have := (ke hns).mono s'
        rw [e] at this
        unfold gName
        dsimp only
        refine st_ya (evb_notN (x := .int (i : Int)) (ev_var rfl) (by simp)) ?_
        exact raise_of (E := E) (p_var rfl) this
theorem ok_found_row (T : Env K mg) : FnOk P w K mg base CX0 1 (d_found_row.loc K) T.fd_found_row ["script", "mode", "word"] (spFound K) := by
  refine T.F_found_row.ok sc_found_row (fun vs H Q E h => ?_) (fun cdv A outer s H vs Q E hr h => ?_)
  · obtain ⟨N, rs, xs, q, md, wd, rfl, _⟩ := h
    rfl
  · have nd := sc_found_row.nd
    have hu := hu_of hr
    obtain ⟨N, rs, xs, q, md, wd, rfl, hq, ha, hr', k⟩ := h
    refine ⟨_, PSs.nox (pss_cons (ps_for PassesOwn.never rfl (pi_tup (pv 0)) (pg_name (i := 3) nd rfl (Or.inl rfl))
  (pss_one (ps_if (PW.pt (pw_and (pt_cmpR op_eq (pe_ix (ixtK (K := K)) (pv 3) pe_int (fun _ _ => rfl)) (pv 1) (nomark _)) (pw_and1 (pt_cmpR op_eq (pe_ix (ixtK (K := K)) (pv 3) pe_int (fun _ _ => rfl)) (pv 2) (nomark _)))))
  (pss_one (ps_ret (pv 3)))
  pss_nil)))
 (pss_one (ps_ret pe_non))), ?_⟩
    have hl := ha.len
    refine ⟨_, rfl, q, rfl, ⟨xs, hq⟩, ?_⟩
    refine for_it (walk_tup (xs := xs)) (fun i σ H' => H' = H ∧ foundV xs rs (md, wd) = foundV (xs.drop i) (rs.drop i) (md, wd) ∧ ∃ a1, σ = [some (.ref q), some (.str md), some (.str wd), a1]) ⟨rfl, rfl, _, rfl⟩ (fun i σ H' _ p => by rw [p.1]; exact hq) (fun i x σ H1 H2 hi p y => ?_) (fun σ H1 p => ?_)
    · obtain ⟨rfl, hd, a1, rfl⟩ := p
      obtain ⟨rfl, ex⟩ := y
      obtain ⟨r, hr2, px⟩ := ha.get2 ex
      obtain ⟨ka, kb, c, ds, rfl⟩ := isRow_of (all_get hr' hr2)
      obtain ⟨rq, rx, rfl, hrq, hra, _⟩ := px
      obtain ⟨y0, _, rfl, p0, y1, _, rfl, p1, _⟩ := hra
      obtain ⟨rfl, _⟩ := p0
      obtain ⟨rfl, _⟩ := p1
      have ekey : keyOf (.tup [.str ka, .str kb, c, .tup ds]) = (ka, kb) := rfl
      rw [foundV_drop ex hr2, ekey] at hd
      by_cases h : (ka, kb) = (md, wd)
      · rw [if_pos h] at hd
        cases h
        rw [hd] at k
        exact st_ya (evb_and (a := true) (b := true) (evb_eqF (ev_ixT rfl hrq (at3 (n := 0) rfl)) (ev_var rfl) rfl (by simp)) fun _ => evb_eqF (ev_ixT rfl hrq (at3 (n := 1) rfl)) (ev_var rfl) rfl (by simp)) ⟨_, rfl, k⟩
      · rw [if_neg h] at hd
        by_cases hk : ka = md
        · have hk2 : kb ≠ wd := fun z => h (by rw [hk, z])
          refine st_nn (evb_and (a := true) (b := false) (evb_eqF (ev_ixT rfl hrq (at3 (n := 0) rfl)) (ev_var rfl) rfl (by rw [hk]; simp)) fun _ => evb_eqF (ev_ixT rfl hrq (at3 (n := 1) rfl)) (ev_var rfl) rfl (by simpa using hk2)) ?_
          exact ⟨rfl, hd, _, rfl⟩
        refine st_nn (evb_and (a := false) (b := false) (evb_eqF (ev_ixT rfl hrq (at3 (n := 0) rfl)) (ev_var rfl) rfl (by simpa using hk)) fun z => nomatch z) ?_
        exact ⟨rfl, hd, _, rfl⟩
    · obtain ⟨rfl, hd, a1, rfl⟩ := p
      rw [List.drop_eq_nil_of_le (Nat.le_refl _)] at hd
      rw [hd] at k
      exact k
theorem ok_row_for (T : Env K mg) : FnOk P w K mg base (L2.CX P w) 9 (d_row_for.loc K) T.fd_row_for ["script", "mode", "word"] (spRowFor K) := by
  have G_require_script : FnOk P w K mg base (L2.CX P w) 8 _ _ _ _ := ok_require_script T
  have G_found_row : FnOk P w K mg base CX0 1 _ _ _ _ := ok_found_row T
  refine T.F_row_for.ok sc_row_for (fun vs H Q E h => ?_) (fun cdv A outer s H vs Q E hr h => ?_)
  · obtain ⟨N, p, v, md, wd, rfl, _⟩ := h
    rfl
  · have nd := sc_row_for.nd
    have hu := hu_of hr
    obtain ⟨N, p, v, md, wd, rfl, hp, ho, ke, k⟩ := h
    refine ⟨_, (pss_cons (ps_expr (pe_call G_require_script (hr.mono (by decide)) (by rfl) T.g_require_script T.F_require_script.kp T.bi_require_script .nil (WXO.takes_e (E := E) rfl rfl rfl rfl) (pa_cons (pv 0) pa_nil)))
 (pss_one (ps_ret (pe_call G_found_row (hr.mono (by decide)) (by rfl) T.g_found_row T.F_found_row.kp T.bi_found_row .nil pass0 (pa_cons (pv 0) (pa_cons (pv 1) (pa_cons (pv 2) pa_nil))))))), ?_⟩
    refine ⟨_, rfl, N, p, v, rfl, hp, ho, ke, fun hs H' s' => ?_⟩
    obtain ⟨rs, xs, q, rfl, rfl, hq, ha, k2⟩ := k hs
    obtain ⟨rs2, e2, hw, hrs⟩ := script_tup hs
    cases e2
    exact ⟨_, rfl, _, rfl, _, rfl, N, rs, xs, q, md, wd, rfl, sqt_same s' hq, atl_kn (Kn.same s') _ ha, hrs, k2 H' s'⟩
theorem ok_words_of (T : Env K mg) : FnOk P w K mg base (L2.CX P w) 9 (d_words_of.loc K) T.fd_words_of ["script"] (spWords K) := by
  have G_require_script : FnOk P w K mg base (L2.CX P w) 8 _ _ _ _ := ok_require_script T
  refine T.F_words_of.ok sc_words_of (fun vs H Q E h => ?_) (fun cdv A outer s H vs Q E hr h => ?_)
  · obtain ⟨N, p, v, rfl, _⟩ := h
    rfl
  · have nd := sc_words_of.nd
    have hu := hu_of hr
    obtain ⟨N, p, v, rfl, hp, ho, ke, k⟩ := h
    refine ⟨_, (pss_cons (ps_expr (pe_call G_require_script (hr.mono (by decide)) (by rfl) T.g_require_script T.F_require_script.kp T.bi_require_script .nil (WXO.takes_e (E := E) rfl rfl rfl rfl) (pa_cons (pv 0) pa_nil)))
 (pss_one (ps_ret (pe_callTy call_tuple_of (by rfl) T.b_tuple (by decide +kernel) (pa_cons (pe_callB (WTs.cr_sortedSS (by rfl)) (by rfl) T.b_sorted (by decide +kernel) (pa_cons (pe_callTy (WTs.cr_setS (by rfl)) (by rfl) T.b_set (by decide +kernel) (pa_cons (pe_lc (own := [("row", 1)]) (by rfl) nd (pi_tup (pv 0)) (blkOk_by (N := ["script", "row"]) (sc := defScope s_words_of) (by decide +kernel)) (fun _ _ _ _ _ => (pg_name (i := 1) nd rfl (Or.inl rfl))) (fun _ _ _ _ _ => pts_nil) (fun _ _ _ _ _ => (pe_ix (ixtK (K := K)) (pv 1) pe_int (fun _ _ => rfl)))) pa_nil)) pa_nil)) pa_nil))))), ?_⟩
    refine ⟨_, rfl, N, p, v, rfl, hp, ho, ke, fun hs H' s' => ?_⟩
    obtain ⟨rs, rfl, hw, hrs⟩ := script_tup hs
    obtain ⟨q, xs, rfl, hq, ha, hz⟩ := hp
    have hln := wrongGo_len rs 0 [] hw (by decide)
    have hl := ha.len
    refine ⟨.ref q, rfl, q, rfl, ⟨xs, sqt_same s' hq⟩, fun D hD => ?_⟩
    show ∃ W, _
    refine lc_it (walk_tup (xs := xs)) (fun i H2 => Same H' H2 ∧ H2 D = some (.lst (((rs.take i).map wordOf).map V.str))) ⟨same_new hD, upd_same⟩ (fun i H2 _ p => sqt_same (s'.trans p.1) hq) (fun i x H2 H3 hi p y => ?_) (fun H2 p => ?_)
    · obtain ⟨s2, hd⟩ := p
      obtain ⟨rfl, ex⟩ := y
      obtain ⟨r, hr2, px⟩ := ha.get2 ex
      obtain ⟨ka, kb, c, ds, rfl⟩ := isRow_of (all_get hrs hr2)
      obtain ⟨rq, rx, rfl, hrq, hra, _⟩ := at_kn (Kn.same (s'.trans s2)) _ px
      obtain ⟨y1, hy1, p1⟩ := hra.get (i := 1) rfl
      obtain ⟨rfl, _⟩ := p1
      refine ⟨(List.set_set ..).trans (List.set_set ..), ?_⟩
      refine ev_ixT rfl hrq (at3 hy1) _ ?_
      refine ⟨_, hd, ?_, same_put s2 hD, ?_⟩
      · rw [List.length_map, List.length_map, List.length_take]
        exact Nat.lt_of_le_of_lt (show min i rs.length ≤ 30 by omega) (by decide)
      · rw [upd_same]
        have e2 : rs.take (i + 1) = rs.take i ++ [.tup [.str ka, .str kb, c, .tup ds]] := by rw [List.take_succ, hr2]; rfl
        rw [e2, List.map_append, List.map_append]
        rfl
    · obtain ⟨s2, hd⟩ := p
      rw [hl, List.take_length] at hd
      refine ⟨D, rs.map wordOf, rfl, .of hd, by rw [List.length_map]; omega, fun p3 hp3 => ?_⟩
      have s3 := same_new (o := WTs.SetSO w p3 (rs.map wordOf)) hp3
      refine ⟨p3, rs.map wordOf, rfl, upd_same, by rw [List.length_map]; omega, fun ys p4 hs4 hnd hme hlen hp4 => ?_⟩
      have s4 := same_new (o := .lst (ys.map V.str)) hp4
      refine ⟨p4, ys.map V.str, rfl, .inl ⟨.of upd_same, fun l hl5 => ?_⟩⟩
      have s5 := same_new (o := .tup (ys.map V.str)) hl5
      exact k rs rfl hs _ _ ((((s'.trans s2).trans s3).trans s4).trans s5) ⟨l, ys, rfl, upd_same, hs4, hnd, hme, by rw [List.length_map] at hlen; exact hlen⟩
end
end W53

set_option Elab.async false
set_option linter.all false
set_option maxRecDepth 100000
set_option maxHeartbeats 2000000
/-! calls of defs by keywords alone; tuples whose items are the same objects are equal -/
namespace WKn
open PySem PySem.Spec PyProof.Rows L2 WRu
def tCallK (m : Nat) (sp : Sp) (E : XK) (tk : TA) : TE := fun σ H Q => tk σ H fun zs H2 => zs.length = m ∧ sp zs H2 Q E
theorem kb_k1 {K : PySem.W.Frag} {x qual : Str} {params : Arguments} {body : List Stmt} {scope : Scope} {f : Addr} {fd : FuncData} {a : Str} (F : FunD K x qual params body scope [] [] f fd)
    (h : ∀ (kV doc pm : Value) (an : Option Addr) (cdv ct : Value) (u : Value), bindArgs (PySem.W.fnOf x qual params body scope .none kV doc pm an cdv ct) ⟨[], [(a, u)]⟩ = pure ([a].zip [u])) :
    KBn K fd [a] 0 [a] (fun _ ws => ws) (fun _ zs => zs) := by
  obtain ⟨oc, od, dV, kV, doc, pm, an, cdv, ct, osl, rfl, lk, hcd, hD, hK⟩ := F.ex
  rcases hD with ⟨_, rfl⟩ | ⟨e, _⟩
  · refine ⟨fun s us ws X h1 h2 => ?_, fun r1 r2 => r2⟩
    match us, ws, h1, h2 with
    | [], [v], _, _ => exact .of_eq (h kV doc pm an cdv ct v)
  · exact absurd rfl e
section
variable {X : Cx} {CX : CXT} {k : Nat} {f : Addr} {fd : FuncData} {ps ks : List Str} {sp : Sp} {E : XK} {x : Str} {p pos : Pos} {kws : List Keyword} {tk : TA}
/-- f(k = v, ..) -/
theorem pe_callK (F : FnOk X.prog X.w X.K X.mg X.base CX k f fd ps sp) (hr : Room k X.A) (hg : Gl X x) (hm : X.mg x = some (.ref f)) (hk : PySem.W.keepIn X.K (.ref f) = true) (hb : KBn X.K fd ps 0 ks (fun _ ws => ws) (fun _ zs => zs)) (hx : Passes CX X E)
    (hkw : PK X kws tk) (hall : (backToKw pos (keywordEach kws X.env)).all (·.1.isSome) = true := by rfl) (hks : (backToKw pos (keywordEach kws X.env)).filterMap (·.1) = ks := by rfl)
    (hdb : (x == ("__debug__" : Str)) = false := by decide)
    (hpl : ((backTo pos (starEach [] X.env)).any (·.1) || (backToKw pos (keywordEach kws X.env)).any (·.1.isNone)) = false := by rfl) :
    PE X (.Call (.Name x p) [] kws pos) (tCallK ks.length sp E tk) := by
  refine ⟨fun pins s σ H Q I h => ?_⟩
  refine wpAny_Call_Name_kw (ld_glob I hg hm ?_ hdb)
  refine PySem.W.callWith_KW0 (h₀ := X.base) I.ok.mod.kin hk hall ?_ hpl
  refine thn (hkw.run pos pins s σ H _ I h) fun ws s2 ⟨zs, H2, I2, rz, l1, q2⟩ => ⟨I2.kIn, ?_⟩
  rw [hks]
  exact run_fnN (n := 0) F hr hb hx I2 .nil rz rfl l1 q2
/-- the same object -/
def DSm : Eqv := fun x y _ => ∃ a, x = .ref a ∧ y = .ref a
theorem mon_sm : Mon DSm := fun x y H H' e h => h
theorem eqG_sm : EqG X 0 DSm := fun A pins s σ H x y u v sb I rx ry ⟨a, ex, ey⟩ => by
  subst ex ey
  cases rx
  cases ry
  exact SeqAt.EqAt.same (A := A) (s := s) (.ref a) X.prog X.w _ _ ⟨rfl, H, I, Ext.rfl'⟩
/-- t != t, one tuple -/
def rNeS (K : PySem.W.Frag) : R2 := fun x y H Q => ∃ a xs, x = .ref a ∧ y = .ref a ∧ SqT K H a xs ∧ Q (.bl false) H
theorem op_neS (hu : X.A.units < cLine) : OpR X (compareOp .NotEq) (rNeS X.K) := by
  intro pins s σ H x y v u Q I rx ry h
  obtain ⟨a, xs, rfl, rfl, hq, q⟩ := h
  cases rx
  cases ry
  obtain ⟨its, r, pl, hz⟩ := I.tuple hq
  have z := SeqAt.RcNeAt.tuples (A := X.A) (s := s) (e := fun _ => true) pl pl hu (fun j h1 h2 => SeqAt.EqAt.same _)
  have e : (!((List.range (min its.toArray.size its.toArray.size)).all (fun _ => true) && its.toArray.size == its.toArray.size)) = false := by simp
  rw [e] at z
  exact z X.prog X.w X.xe _ ⟨.bl false, H, I, rfl, q⟩
end
theorem neNK {X : Cx} {K : PySem.W.Frag} (hu : X.A.units + 64 < cLine) (h : X.K = K := by rfl) : OpR X (compareOp .NotEq) (rNeN K) := h ▸ op_neN hu
theorem eqDK {X : Cx} {K : PySem.W.Frag} (hu : X.A.units + 64 < cLine) (h : X.K = K := by rfl) : OpR X (compareOp .Eq) (rEqD K) := h ▸ op_eqD hu
theorem slTK {X : Cx} {K : PySem.W.Frag} (h : X.K = K := by rfl) : SlR X (rSlT K) := h ▸ sl_tup
theorem piTK {X : Cx} {K : PySem.W.Frag} {tg l : Expr} {tl : TE} (hl : PE X l tl) (h : X.K = K := by rfl) : PI X tg l (iTup K tl) := h ▸ pi_tup hl
end WKn

set_option Elab.async false
set_option linter.all false
set_option maxRecDepth 100000
set_option maxHeartbeats 4000000
/-! comprehensions with a test; signs of a text -/
namespace WCf
open PySem PySem.Spec PyProof.Rows L2 WXG WEv WRd WLf WEn WRu WDc
section
variable {K : PySem.W.Frag} {σ : L2.St} {H : Hp}

/-- [e for v in a sequence if ..], the test adds objects -/
theorem g_lcGt {te : TE} {tt : TT} {α : Type} {wi : TI} {v : Nat} {Pa : α → HP V} {rs : List α} {p : α → Bool} {f : α → V} (hw : ∀ H1, Same H H1 → ∀ R : It → Hp → Prop, (∀ (J : It) (Gw : Hp → Prop) (ys : List V) (H2 : Hp), Same H1 H2 → Walk J ys.length Gw (YAt ys) → (∀ H3, Same H2 H3 → Gw H3) → Fa (rs.map Pa) ys H2 → R J H2) → wi σ H1 R)
    (mq : Mn (Fa (rs.map Pa))) (hz : rs.length ≤ 1000)
    (ht : ∀ (r : α) (x : V) (H1 : Hp), r ∈ rs → Pa r x H1 → Same H H1 → ∀ Q : Bool → Hp → Prop, (∀ H2, Same H1 H2 → Q (p r) H2) → tt ((σ.set v none).set v (some x)) H1 Q)
    (he : ∀ (r : α) (x : V) (H1 : Hp), r ∈ rs → p r = true → Pa r x H1 → Same H H1 → ∀ Q : VK, (∀ H2, Same H1 H2 → Q (f r) H2) → te ((σ.set v none).set v (some x)) H1 Q)
    (mP : ∀ r, Mn (Pa r)) :
    G (tLc wi (gName v) tt te [v]) σ H (LF (((rs.filter p).map f).map Is)) := by
  refine ⟨fun H1 e Q q => ?_, mn_lf mn_is⟩
  refine hw H1 e _ ?_
  intro J Gw ys H0 s0 wk hg fq
  intro Dd hD
  show ∃ W, _
  have lq := fq.len
  rw [List.length_map] at lq
  refine lc_it wk (fun i H' => Same H0 H' ∧ H' Dd = some (.lst (((rs.take i).filter p).map f))) ⟨same_new hD, upd_same⟩ (fun _ H' _ p => hg H' p.1) (fun i x H2 H3 hi q y => ?_) (fun H2 q' => ?_)
  · obtain ⟨s2, hd⟩ := q
    obtain ⟨rfl, hx⟩ := y
    refine ⟨(List.set_set ..).trans (List.set_set ..), ?_⟩
    obtain ⟨r, hr⟩ : ∃ r, rs[i]? = some r := ⟨_, List.getElem?_eq_getElem (by omega)⟩
    obtain ⟨x', ex', px'⟩ := (mq _ _ _ s2 fq).get (n := i) (P := Pa r) (by rw [List.getElem?_map, hr]; rfl)
    rw [hx] at ex'
    cases ex'
    have rm := List.mem_of_getElem? hr
    have et : (rs.take (i + 1)).filter p = (rs.take i).filter p ++ [r].filter p := by rw [List.take_succ, hr, List.filter_append]; rfl
    refine ht r x _ rm px' ((e.trans s0).trans s2) _ fun H5 s5 => ?_
    cases hp : p r with
    | true =>
      rw [if_pos rfl]
      refine he r x _ rm hp (mP r _ _ _ s5 px') (((e.trans s0).trans s2).trans s5) _ fun H4 s4 => ?_
      refine ⟨_, s4 _ _ (s5 _ _ hd), Nat.lt_of_le_of_lt ?_ (show 1000 < sizeLine by decide), same_put ((s2.trans s5).trans s4) hD, ?_⟩
      · rw [List.length_map]
        refine Nat.le_trans (List.length_filter_le _ _) ?_
        rw [List.length_take]
        exact Nat.le_trans (Nat.min_le_right _ _) hz
      · rw [upd_same, et, List.filter_cons, hp]
        simp
    | false =>
      rw [if_neg Bool.false_ne_true]
      refine ⟨s2.trans s5, ?_⟩
      rw [s5 _ _ hd, et, List.filter_cons, hp]
      simp
  · obtain ⟨s2, hd⟩ := q'
    rw [lq, List.take_length] at hd
    exact q _ _ (s0.trans s2) ⟨Dd, _, rfl, hd, by
      have : ∀ ys : List V, Fa (ys.map Is) ys H2 := fun ys => by
        induction ys with
        | nil => trivial
        | cons y ys ih => exact ⟨rfl, ih⟩
      exact this _⟩
/-- [sign for sign in text if ..] -/
theorem g_lcSf {tt : TT} {v i : Nat} {cs : List Nat} (p : Nat → Bool) (h0 : σ[i]? = some (some (.str ⟨cs.toArray⟩))) (hv : v < σ.length) (hz : cs.length ≤ 1000)
    (ht : ∀ (c : Nat) (H1 : Hp), c ∈ cs → Same H H1 → ∀ Q : Bool → Hp → Prop, (∀ H2, Same H1 H2 → Q (p c) H2) → tt ((σ.set v none).set v (some (.str ⟨#[c]⟩))) H1 Q) :
    G (tLc (iStr (tVar i)) (gName v) tt (tVar v) [v]) σ H (LF (((cs.filter p).map fun c => V.str ⟨#[c]⟩).map Is)) := by
  refine g_lcGt (Pa := fun c => Is (.str ⟨#[c]⟩)) (rs := cs) (p := p) (f := fun c => V.str ⟨#[c]⟩) (fun H1 s R r => ⟨_, h0, _, rfl, ?_⟩) ?_ hz (fun c x H1 hc hx s Q q => ?_) (fun c x H1 hc hp hx s Q q => ?_) (fun _ => mn_i)
  · refine r (Its ⟨cs.toArray⟩) (fun _ => True) (cs.map fun c => V.str ⟨#[c]⟩) H1 (Same.refl _) ?_ (fun _ _ => trivial) ?_
    · have := walk_str (z := ⟨cs.toArray⟩)
      rw [show (⟨cs.toArray⟩ : Str).cps.size = (cs.map fun c => V.str ⟨#[c]⟩).length by simp] at this
      exact this.mono (fun _ g => g) fun i H x H' hi g y => by
        obtain ⟨e, c, hc, ex⟩ := y
        refine ⟨e, ?_⟩
        rw [List.getElem?_map, show cs[i]? = some c by simpa using hc, ex]
        rfl
    · have : ∀ ys : List V, Fa (ys.map Is) ys H1 := fun ys => by
        induction ys with
        | nil => trivial
        | cons y ys ih => exact ⟨rfl, ih⟩
      have := this (cs.map fun c => V.str ⟨#[c]⟩)
      rwa [List.map_map] at this
  · have : Mn (Fa ((cs.map fun c => V.str ⟨#[c]⟩).map Is)) := WLf.mn_is
    rwa [List.map_map] at this
  · obtain rfl : x = .str ⟨#[c]⟩ := hx
    exact ht c H1 hc s Q q
  · obtain rfl : x = .str ⟨#[c]⟩ := hx
    exact ⟨_, by rw [List.getElem?_set_self (by rw [List.length_set]; exact hv)], q _ (Same.refl _)⟩
theorem fl_nil {cs : List Nat} {p : Nat → Bool} : decide (((cs.filter p).map fun c => V.str ⟨#[c]⟩) = []) = decide (cs.filter p = []) := by
  rw [decide_eq_decide, List.map_eq_nil_iff]
theorem et_neN {ta : TE} {xs : List V} (h : G ta σ H (LF (xs.map Is))) : EvT (tTest (tOp (rNeN K) ta (tLst tNil))) σ H (!decide (xs = [])) := fun H1 e Q q =>
  h.ev H1 e _ fun a H2 s2 pa => by
    obtain ⟨l, xs, rfl, hl, fa⟩ := pa
    obtain rfl := fa.is
    exact ⟨Nat.zero_le _, fun b hb => ⟨l, b, _, rfl, rfl, .of ((same_new hb) _ _ hl), .of upd_same, _, rfl, q _ (s2.trans (same_new hb))⟩⟩
theorem g_eqN {ta : TE} {xs : List V} (h : G ta σ H (LF (xs.map Is))) : G (tOp (rEqN K) ta (tLst tNil)) σ H (Is (.bl (decide (xs = [])))) := ⟨fun H1 e Q q =>
  h.ev H1 e _ fun a H2 s2 pa => by
    obtain ⟨l, xs, rfl, hl, fa⟩ := pa
    obtain rfl := fa.is
    exact ⟨Nat.zero_le _, fun b hb => ⟨l, b, _, rfl, rfl, .of ((same_new hb) _ _ hl), .of upd_same, q _ _ (s2.trans (same_new hb)) rfl⟩⟩, mn_i⟩
/-- [sign ..] != [] -/
theorem et_lcN {tt : TT} {v i : Nat} {cs : List Nat} (p : Nat → Bool) (h0 : σ[i]? = some (some (.str ⟨cs.toArray⟩))) (hv : v < σ.length) (hz : cs.length ≤ 1000)
    (ht : ∀ (c : Nat) (H1 : Hp), c ∈ cs → Same H H1 → ∀ Q : Bool → Hp → Prop, (∀ H2, Same H1 H2 → Q (p c) H2) → tt ((σ.set v none).set v (some (.str ⟨#[c]⟩))) H1 Q) :
    EvT (tTest (tOp (rNeN K) (tLc (iStr (tVar i)) (gName v) tt (tVar v) [v]) (tLst tNil))) σ H (!decide (cs.filter p = [])) := by
  have := et_neN (K := K) (g_lcSf p h0 hv hz ht)
  rwa [fl_nil] at this
/-- [sign ..] == [] as a value -/
theorem g_lcE {tt : TT} {v i : Nat} {cs : List Nat} (p : Nat → Bool) (h0 : σ[i]? = some (some (.str ⟨cs.toArray⟩))) (hv : v < σ.length) (hz : cs.length ≤ 1000)
    (ht : ∀ (c : Nat) (H1 : Hp), c ∈ cs → Same H H1 → ∀ Q : Bool → Hp → Prop, (∀ H2, Same H1 H2 → Q (p c) H2) → tt ((σ.set v none).set v (some (.str ⟨#[c]⟩))) H1 Q) :
    G (tOp (rEqN K) (tLc (iStr (tVar i)) (gName v) tt (tVar v) [v]) (tLst tNil)) σ H (Is (.bl (decide (cs.filter p = [])))) := by
  have := g_eqN (K := K) (g_lcSf p h0 hv hz ht)
  rwa [fl_nil] at this
end
end WCf

set_option Elab.async false
set_option linter.all false
set_option maxRecDepth 100000
set_option maxHeartbeats 4000000
namespace W53
open PySem PySem.Spec PyProof.Rows L2 WXG WEv WRd WLf WEn WZs WRu WSt StX WDc WPv WEb WXO WXE WKd WGp
/-! ### comprehensions over right rows -/
def KeyAt (k : Str × Str) : HP V := fun v H => ∃ p, v = .ref p ∧ H p = some (.tup [.str k.1, .str k.2])
theorem mn_key {k : Str × Str} : Mn (KeyAt k) := fun _ _ _ s ⟨p, e, h⟩ => ⟨p, e, s _ _ h⟩
section
variable {K : PySem.W.Frag} {N : Addr → Prop} {σ : L2.St} {H : Hp} {te : TE} {tt : TT} {n v : Nat} {l : Addr} {xs : List V} {rs : List Pv}
theorem cut2 {x1 x2 x3 x4 : V} : cutV [x1, x2, x3, x4] none (some 2) = [x1, x2] := by
  unfold cutV
  rw [show HT.sIx [x1, x2, x3, x4].length [x1, x2, x3, x4].length (some 2) = min 2 4 from HT.sIx_nat _ _ 2, HT.sIx_none]
  rfl
/-- row[:2] -/
theorem key_of {r : Pv} {x : V} {Q : VK} (hr : isRow r = true) (hx : At K N r x H) (q : ∀ y H', Same H H' → KeyAt (keyOf r) y H' → Q y H') : rSlT K x none (some 2) H Q := by
  obtain ⟨ka, kb, c, ds, rfl⟩ := isRow_of hr
  obtain ⟨rq, rx, rfl, hrq, hra, _⟩ := hx
  obtain ⟨y0, _, rfl, p0, y1, _, rfl, p1, y2, _, rfl, p2, y3, _, rfl, p3, rfl⟩ := hra
  obtain ⟨rfl, _⟩ := p0
  obtain ⟨rfl, _⟩ := p1
  refine ⟨rq, _, rfl, hrq, fun z => ?_, fun t ht => ?_⟩
  · have := z.2
    rw [show HT.sIx [V.str ka, V.str kb, y2, y3].length [V.str ka, V.str kb, y2, y3].length (some 2) = min 2 4 from HT.sIx_nat _ _ 2] at this
    cases this
  · rw [cut2]
    exact q _ _ (same_new ht) ⟨t, rfl, upd_same⟩
theorem g_lcF {wi : TI} {J : It} {Gw : Hp → Prop} {v : Nat} {ys : List V} {Ps : List (HP V)} (hw : ∀ H1, Same H H1 → ∀ R : It → Hp → Prop, R J H1 → wi σ H1 R) (wk : Walk J ys.length Gw (YAt ys)) (hg : ∀ H1, Same H H1 → Gw H1)
    (hl : Ps.length = ys.length) (hz : ys.length ≤ 1000) (m : ∀ P ∈ Ps, MnK P)
    (h : ∀ (i : Nat) (x : V) (P : HP V) (H1 : Hp), ys[i]? = some x → Ps[i]? = some P → Same H H1 → ∀ Q : VK, (∀ y H2, Same H1 H2 → P y H2 → Q y H2) → te ((σ.set v none).set v (some x)) H1 Q) :
    G (tLc wi (gName v) tYes te [v]) σ H (LF Ps) := by
  refine ⟨fun H1 e Q q => ?_, mn_lf (mn_fa m)⟩
  refine hw H1 e _ ?_
  intro Dd hD
  show ∃ W, _
  refine lc_it wk (fun i H' => Same H1 H' ∧ ∃ acc, H' Dd = some (.lst acc) ∧ Fa (Ps.take i) acc H') ⟨same_new hD, [], upd_same, trivial⟩ (fun _ H' _ p => hg H' (e.trans p.1)) (fun i x H2 H3 hi p y => ?_) (fun H2 p => ?_)
  · obtain ⟨s2, acc, hd, fa⟩ := p
    obtain ⟨rfl, hx⟩ := y
    refine ⟨(List.set_set ..).trans (List.set_set ..), ?_⟩
    obtain ⟨P, hP⟩ : ∃ P, Ps[i]? = some P := ⟨_, List.getElem?_eq_getElem (by omega)⟩
    refine h i x P _ hx hP (e.trans s2) _ fun y H4 s4 py => ?_
    have hd4 := s4 _ _ hd
    have fa4 : Fa (Ps.take i) acc H4 := fa_kp (fun Q hQ => m Q (List.mem_of_mem_take hQ)) (Kp.same s4) fa
    have la := fa.len
    rw [List.length_take] at la
    refine ⟨acc, hd4, Nat.lt_of_le_of_lt (show acc.length ≤ 1000 by omega) (by decide), same_put (s2.trans s4) hD, acc ++ [y], upd_same, ?_⟩
    exact fa_kp (fun Q hQ => m Q (List.mem_of_mem_take hQ)) (Kp.lst hd4) (fa_take fa4 hP py)
  · obtain ⟨s2, acc, hd, fa⟩ := p
    rw [← hl, List.take_length] at fa
    exact q _ _ s2 ⟨Dd, acc, rfl, hd, fa⟩
theorem g_lcL {v i : Nat} {q : Addr} {ys : List V} {Ps : List (HP V)} (h0 : σ[i]? = some (some (.ref q))) (hq : H q = some (.lst ys))
    (hl : Ps.length = ys.length) (hz : ys.length ≤ 1000) (m : ∀ P ∈ Ps, MnK P)
    (h : ∀ (i : Nat) (x : V) (P : HP V) (H1 : Hp), ys[i]? = some x → Ps[i]? = some P → Same H H1 → ∀ Q : VK, (∀ y H2, Same H1 H2 → P y H2 → Q y H2) → te ((σ.set v none).set v (some x)) H1 Q) :
    G (tLc (iList K (tVar i)) (gName v) tYes te [v]) σ H (LF Ps) :=
  g_lcF (J := Itl K q) (fun H1 s R r => ⟨_, h0, q, rfl, ⟨ys, .of (s _ _ hq)⟩, r⟩) walk_list (fun H1 s => .of (s _ _ hq)) hl hz m h

theorem mk_key {k : Str × Str} : MnK (KeyAt k) := fun _ _ _ kp ⟨p, e, h⟩ => ⟨p, e, kp _ _ h (fun _ z => nomatch z) (fun _ z => nomatch z)⟩
/-- [row[:2] for row in rows] -/
theorem g_keys (h0 : σ[n]? = some (some (.ref l))) (hl : H l = some (.lst xs)) (ha : AtL K N rs xs H) (hr : rs.all isRow = true) (hz : rs.length ≤ 1000) (hv : ∀ x, ((σ.set v none).set v (some x))[v]? = some (some x)) :
    G (tLc (iList K (tVar n)) (gName v) tYes (tSl (rSlT K) (tVar v) tNoPart (tPart (tC (.int 2)))) [v]) σ H (LF (rs.map fun r => KeyAt (keyOf r))) :=
  g_lcL h0 hl (by rw [List.length_map, ha.len]) (by rw [ha.len]; exact hz) (fun P hP => by obtain ⟨r, _, rfl⟩ := List.mem_map.mp hP; exact mk_key) fun i x P H1 hx hP s Q q => by
    obtain ⟨r, hr2, px⟩ := ha.get2 hx
    rw [List.getElem?_map, hr2] at hP
    cases hP
    exact ⟨_, hv x, 2, rfl, key_of (all_get hr hr2) (mn_at _ _ _ s px) q⟩
abbrev RowAt (K : PySem.W.Frag) (N : Addr → Prop) (a : Pv × V) : HP V := fun v H => v = a.2 ∧ At K N a.1 v H
theorem mn_row {a : Pv × V} : Mn (RowAt K N a) := fun _ _ _ s ⟨e, h⟩ => ⟨e, mn_at _ _ _ s h⟩
theorem rows_fa : ∀ {rs : List Pv} {xs : List V} {H : Hp}, AtL K N rs xs H → Fa ((rs.zip xs).map (RowAt K N)) xs H
  | [], _, _, h => by cases h; trivial
  | r :: rs, _, _, ⟨y, ys, e, h, h2⟩ => by subst e; exact ⟨⟨rfl, h⟩, rows_fa h2⟩
theorem mn_rows : ∀ {l : List (Pv × V)}, Mn (Fa (l.map (RowAt K N)))
  | [] => fun v H H' _ h => by
    cases v with
    | nil => trivial
    | cons y ys => exact h.elim
  | a :: l => fun v H H' s h => by
    cases v with
    | nil => exact h.elim
    | cons y ys => exact ⟨mn_row _ _ _ s h.1, mn_rows _ _ _ s h.2⟩
/-- a comprehension with a test over the rows of a list -/
theorem g_rows {p : Pv × V → Bool} {f : Pv × V → V} (h0 : σ[n]? = some (some (.ref l))) (hl : H l = some (.lst xs)) (ha : AtL K N rs xs H) (hz : rs.length ≤ 1000)
    (ht : ∀ (r : Pv) (x : V) (H1 : Hp), r ∈ rs → At K N r x H1 → Same H H1 → ∀ Q : Bool → Hp → Prop, (∀ H2, Same H1 H2 → Q (p (r, x)) H2) → tt ((σ.set v none).set v (some x)) H1 Q)
    (he : ∀ (r : Pv) (x : V) (H1 : Hp), r ∈ rs → p (r, x) = true → At K N r x H1 → Same H H1 → ∀ Q : VK, (∀ H2, Same H1 H2 → Q (f (r, x)) H2) → te ((σ.set v none).set v (some x)) H1 Q) :
    G (tLc (iList K (tVar n)) (gName v) tt te [v]) σ H (LF ((((rs.zip xs).filter p).map f).map Is)) :=
  WCf.g_lcGt (Pa := RowAt K N) (fun H1 s R r => ⟨_, h0, l, rfl, ⟨xs, .of (s _ _ hl)⟩, r (Itl K l) (fun H => SqL K H l xs) xs H1 (Same.refl _) walk_list (fun H3 s3 => .of (s3 _ _ (s _ _ hl))) (rows_fa (atl_kn (Kn.same s) _ ha))⟩)
    mn_rows (by rw [List.length_zip, ha.len]; omega)
    (fun a x H1 hm px s Q q => by obtain ⟨e, px⟩ := px; subst e; exact ht a.1 a.2 H1 (List.of_mem_zip hm).1 px s Q q)
    (fun a x H1 hm hp px s Q q => by obtain ⟨e, px⟩ := px; subst e; exact he a.1 a.2 H1 (List.of_mem_zip hm).1 hp px s Q q) (fun a => mn_row)
theorem found_filter {k : Str × Str} : ∀ {xs : List V} {rs : List Pv}, xs.length = rs.length → (((rs.zip xs).filter fun (a : Pv × V) => decide (WPv.keyOf a.1 = k)).map (·.2) ++ [V.non])[0]? = some (foundV xs rs k)
  | [], [], _ => rfl
  | x :: xs, r :: rs, h => by
    rw [List.zip_cons_cons, List.filter_cons]
    unfold foundV
    by_cases e : keyOf r = k
    · rw [if_pos e, decide_eq_true e]
      rfl
    · rw [if_neg e, decide_eq_false e]
      simp only [Bool.false_eq_true, if_false]
      exact found_filter (by simpa using h)
theorem found_some {k : Str × Str} {H : Hp} : ∀ {xs : List V} {rs : List Pv}, AtL K N rs xs H → rs.all isRow = true → foundV xs rs k = .non ∨ ∃ a ys, foundV xs rs k = .ref a ∧ SqT K H a ys
  | [], [], _, _ => .inl rfl
  | [], _ :: _, h, _ => by obtain ⟨y, ys, e, _⟩ := h; cases e
  | x :: xs, [], h, _ => by cases h
  | x :: xs, r :: rs, ⟨y, ys, e, h, h2⟩, hr => by
    cases e
    simp only [List.all_cons, Bool.and_eq_true] at hr
    unfold foundV
    split
    · obtain ⟨ka, kb, c, ds, rfl⟩ := isRow_of hr.1
      obtain ⟨q, zs, rfl, hq, _⟩ := h
      exact .inr ⟨q, zs, rfl, hq⟩
    · exact found_some h2 hr.2
end
end W53

set_option Elab.async false
set_option linter.all false
set_option maxRecDepth 100000
set_option maxHeartbeats 4000000
namespace W53
open PySem PySem.Spec PyProof.Rows L2 WXG WEv WRd WLf WEn WZs WRu WSt StX WDc WPv WEb WXO WXE WKd WGp WKn
/-! ### a right script is read as it is -/
def spRight (K : PySem.W.Frag) : Sp := fun vs H Q _ => ∃ N mv l rs xs, vs = [mv, .ref l] ∧ H l = some (.lst xs) ∧ AtL K N rs xs H ∧ isScript (.tup rs) = true ∧ okScr (.tup rs) = true ∧ ∀ H', Same H H' → Q (.bl true) H'
theorem w_name : isName (.str "w") = true ∧ Str.length "w" ≤ 1000 := by decide +kernel
/-- WorkerPlan("w", script=told).script is told -/
theorem script_back {K : PySem.W.Frag} {N : Addr → Prop} {σ : L2.St} {H : Hp} {v : V} {s : Pv} {Q : VK} {E E' : XK} (h0 : σ[2]? = some (some v)) (al : At K N s v H) (hs : isScript s = true) (ho : okScr s = true) (q : ∀ H', Same H H' → Q v H') :
    tProp (CW K) (spPr K (CW K) 6) [] E (tMkKF (CW K) (spkWs K) 1 E' (tCons (tC (.str "w")) tNil) (tCons (tVar 2) tNil)) σ H Q := by
  refine ⟨v, h0, rfl, fun x dx hx hdx ne => ⟨rfl, ?_⟩⟩
  have sp := same_two (o := .own x) (o' := .ins (CW K) dx []) hx hdx ne
  have hb : firstBad (wRows (.str "w") (.str "permanent") (.int 0) (.int 0) .non (.int 0) s) = none := by
    simp only [wRows, firstBad, w_name.1, hs, if_true]
    decide
  refine ⟨N, x, dx, .str "w", .str "permanent", .int 0, .int 0, .non, .int 0, s, _, _, _, _, _, _, v, rfl, mn_atl _ _ _ sp ⟨_, _, rfl, ⟨rfl, w_name.2⟩, _, _, rfl, ⟨rfl, Nat.le_of_ble_eq_true rfl⟩, _, _, rfl, rfl, _, _, rfl, rfl, _, _, rfl, rfl, _, _, rfl, rfl, _, _, rfl, al, rfl⟩, ho, upd_same, fun _ q' H' he hq => ⟨rfl, ?_⟩, fun f hf => by rw [hb] at hf; cases hf⟩
  have sH : Same H H' := fun b u hu => he.1 b u (sp _ _ hu) fun z => by rw [z, hx] at hu; cases hu
  exact ⟨x, dx, _, rfl, he.2, x, dx, q', _, _, v, rfl, he.2, rfl, .inl (.inl hq), rfl, q H' sH⟩
theorem fa_app {Ps Qs : List (HP V)} {xs ys : List V} {H : Hp} (h : Fa Ps xs H) (g : Fa Qs ys H) : Fa (Ps ++ Qs) (xs ++ ys) H := by
  induction Ps generalizing xs with
  | nil =>
    cases xs with
    | nil => exact g
    | cons x xs => exact h.elim
  | cons P Ps ih =>
    cases xs with
    | nil => exact h.elim
    | cons x xs => exact ⟨h.1, ih h.2⟩
theorem eqv2 (a b c d : Str) : (PyData.tuple [.str a, .str b]).eqv (.tuple [.str c, .str d]) = decide ((a, b) = (c, d)) := by
  by_cases h1 : a = c
  · by_cases h2 : b = d
    · subst h1 h2
      rw [decide_eq_true rfl]
      simp [PyData.eqv, PyData.eqvAll]
    · rw [decide_eq_false (fun z => h2 (by cases z; rfl))]
      simp [PyData.eqv, PyData.eqvAll, h1, h2]
  · rw [decide_eq_false (fun z => h1 (by cases z; rfl))]
    simp [PyData.eqv, PyData.eqvAll, h1]
theorem sign_small (c : Nat) (h : sign c = true) : c < 0x110000 := by
  have h1 : c ∈ (Str.ofString "abcdefghijklmnopqrstuvwxyz0123456789_").cps.toList := of_decide_eq_true h
  have h2 : ∀ x ∈ (Str.ofString "abcdefghijklmnopqrstuvwxyz0123456789_").cps.toList, x < 0x110000 := by decide +kernel
  exact h2 c h1
theorem cps_ok {s : Str} (h : isWordS s = true) : (s.cps.all (· < 0x110000)) = true := by
  unfold isWordS at h
  simp only [Bool.and_eq_true] at h
  rw [← Array.all_toList]
  exact List.all_eq_true.mpr fun x hx => decide_eq_true (sign_small x (List.all_eq_true.mp h.2.2.2 x hx))
theorem sh2 {a b : Str} (ha : isWordS a = true) (hb : isWordS b = true) : SeqAt.shaped (.tuple [.str a, .str b]) = true := by
  have h1 := cps_ok ha
  have h2 := cps_ok hb
  simp [SeqAt.shaped, PyData.canLay0, PyData.canLayAll0, PyData.depth, PyData.depthAll]
  exact ⟨h1, h2⟩
theorem key_words {r : Pv} (h : isRow r = true) : isWordS (WPv.keyOf r).1 = true ∧ isWordS (WPv.keyOf r).2 = true := by
  obtain ⟨a, b, c, ds, rfl⟩ := isRow_of h
  rw [isRow_eq] at h
  obtain ⟨h1, h2⟩ := He.ba h
  exact ⟨h1, (He.ba h2).1⟩
theorem more_words : ∀ k ∈ [(("third" : Str), ("go" : Str)), ("first", "none")], isWordS k.1 = true ∧ isWordS k.2 = true := by decide +kernel
/-- the n-th of a list that is told item by item -/
theorem g_ix0 {K : PySem.W.Frag} {te : TE} {σ : L2.St} {H : Hp} {Ps : List (HP V)} {P : HP V} (h : G te σ H (LF Ps)) (hn : Ps[0]? = some P) (m : Mn P) : G (tOp (rIxL K) te (tC (.int 0))) σ H P := ⟨fun H1 e Q q => h.ev H1 e _ fun v H2 s2 pv => by
  obtain ⟨l, xs, rfl, hl, fa⟩ := pv
  obtain ⟨x, hx, px⟩ := fa.get hn
  exact ⟨l, xs, 0, x, rfl, rfl, .inl (.of hl), atI_nat (j := 0) hx, q x H2 s2 px⟩, m⟩
theorem fa_split {Ps Qs : List (HP V)} {zs : List V} {H : Hp} (h : Fa (Ps ++ Qs) zs H) : Fa Ps (zs.take Ps.length) H ∧ Fa Qs (zs.drop Ps.length) H := by
  induction Ps generalizing zs with
  | nil => exact ⟨trivial, h⟩
  | cons P Ps ih =>
    cases zs with
    | nil => exact h.elim
    | cons z zs => exact ⟨⟨h.1, (ih h.2).1⟩, (ih h.2).2⟩
theorem g_key2 {σ : L2.St} {H : Hp} {a b c d : Str} : G (tLst (tCons (tTup (tCons (tC (.str a)) (tCons (tC (.str b)) tNil))) (tCons (tTup (tCons (tC (.str c)) (tCons (tC (.str d)) tNil))) tNil))) σ H (LF [KeyAt (a, b), KeyAt (c, d)]) := ⟨fun H1 e Q q => ⟨(by decide : 2 ≤ sizeLine), fun ta hta => ⟨(by decide : 2 ≤ sizeLine), fun tb htb => ⟨(by decide : 2 ≤ sizeLine), fun tl htl => by
  have sa := same_new (o := .tup [.str a, .str b]) hta
  have sb := same_new (o := .tup [.str c, .str d]) htb
  have sl := same_new (o := .lst [.ref ta, .ref tb]) htl
  exact q _ _ ((sa.trans sb).trans sl) ⟨tl, _, rfl, upd_same, ⟨ta, rfl, sl _ _ (sb _ _ upd_same)⟩, ⟨tb, rfl, sl _ _ upd_same⟩, trivial⟩⟩⟩⟩, mn_lf (fun v H H' s h => by
    match v, h with
    | [x, y], ⟨h1, h2, _⟩ => exact ⟨mn_key _ _ _ s h1, mn_key _ _ _ s h2, trivial⟩)⟩
theorem mn_keys {ks : List (Str × Str)} : Mn (Fa (ks.map KeyAt)) := by
  induction ks with
  | nil => exact fun v H H' s h => by cases v with
    | nil => trivial
    | cons y ys => exact h.elim
  | cons k ks ih => exact fun v H H' s h => by cases v with
    | nil => exact h.elim
    | cons y ys => exact ⟨mn_key _ _ _ s h.1, ih _ _ _ s h.2⟩
theorem st_forG {K : PySem.W.Frag} {te : TE} {g : TG} {tb : TS} {D : Ends} {σ : L2.St} {H : Hp} {R : HP V} (h : G te σ H R) (k : ∀ v H1, Same H H1 → R v H1 → tFor (iList K (tC v)) g tb D σ H1) : tFor (iList K te) g tb D σ H := h.ev H (Same.refl H) _ k
theorem g_catF {ta tb : TE} {σ : L2.St} {H : Hp} {Ps Qs : List (HP V)} (ha : G ta σ H (LF Ps)) (hb : G tb σ H (LF Qs)) (mp : Mn (Fa Ps)) (mq : Mn (Fa Qs)) (hz : Ps.length + Qs.length ≤ 1000) : G (tOp rCat ta tb) σ H (LF (Ps ++ Qs)) := ⟨fun H1 e Q q => ha.ev H1 e _ fun a H2 s2 pa => hb.ev H2 (e.trans s2) _ fun b H3 s3 pb => by
  obtain ⟨l, xs, rfl, hl, fa⟩ := pa
  obtain ⟨m, ys, rfl, hm, fb⟩ := pb
  have fa3 := mp _ _ _ s3 fa
  refine ⟨l, m, xs, ys, rfl, rfl, s3 _ _ hl, hm, by rw [fa.len, fb.len]; exact Nat.le_trans hz (by decide), fun r hr => ?_⟩
  have sr := same_new (o := .lst (xs ++ ys)) hr
  exact q _ _ ((s2.trans s3).trans sr) ⟨r, _, rfl, upd_same, fa_app (mp _ _ _ sr fa3) (mq _ _ _ sr fb)⟩, mn_lf (fun v H H' s h => by
    have hh : ∀ {Ps Qs : List (HP V)}, Mn (Fa Ps) → Mn (Fa Qs) → ∀ v, Fa (Ps ++ Qs) v H → Fa (Ps ++ Qs) v H' := fun {Ps Qs} mp mq v h => by
      have e : v = v.take Ps.length ++ v.drop Ps.length := (List.take_append_drop ..).symm
      obtain ⟨h1, h2⟩ := fa_split h
      rw [e]
      exact fa_app (mp _ _ _ s h1) (mq _ _ _ s h2)
    exact hh mp mq v h)⟩
theorem mn_is {vs : List V} : Mn (Fa (vs.map Is)) := by
  induction vs with
  | nil => exact fun v H H' s h => by cases v with
    | nil => trivial
    | cons y ys => exact h.elim
  | cons k ks ih => exact fun v H H' s h => by cases v with
    | nil => exact h.elim
    | cons y ys => exact ⟨h.1, ih _ _ _ s h.2⟩
theorem g_non1 {σ : L2.St} {H : Hp} : G (tLst (tCons (tC .non) tNil)) σ H (LF [Is .non]) := ⟨fun H1 e Q q => ⟨(by decide : 1 ≤ sizeLine), fun tl htl => q _ _ (same_new htl) ⟨tl, _, rfl, upd_same, rfl, trivial⟩⟩, mn_lf (mn_is (vs := [.non]))⟩
/-- ([row for row in rows if row[:2] == (mode, word)] + [None])[0] -/
theorem g_due {K : PySem.W.Frag} {N : Addr → Prop} {σ : L2.St} {H : Hp} {l : Addr} {xs : List V} {rs : List Pv} {k : Str × Str} (h1 : σ[1]? = some (some (.ref l))) (hl : H l = some (.lst xs)) (ha : AtL K N rs xs H) (hr : rs.all isRow = true) (hz : rs.length ≤ 900)
    (h3 : ∀ x, ((σ.set 5 none).set 5 (some x))[3]? = some (some (.str k.1))) (h4 : ∀ x, ((σ.set 5 none).set 5 (some x))[4]? = some (some (.str k.2))) (h5 : ∀ x, ((σ.set 5 none).set 5 (some x))[5]? = some (some x)) (hk : isWordS k.1 = true ∧ isWordS k.2 = true) :
    G (tOp (rIxL K) (tOp rCat (tLc (iList K (tVar 1)) (gName 5) (tTest (tOp (rEqD K) (tSl (rSlT K) (tVar 5) tNoPart (tPart (tC (.int 2)))) (tTup (tCons (tVar 3) (tCons (tVar 4) tNil))))) (tVar 5) [5]) (tLst (tCons (tC .non) tNil))) (tC (.int 0))) σ H (Is (foundV xs rs k)) := by
  have hlx := ha.len
  have hf := found_filter (k := k) (xs := xs) (rs := rs) hlx
  refine g_ix0 (g_catF (g_rows (p := fun a => decide (WPv.keyOf a.1 = k)) (f := fun a => a.2) h1 hl ha (by omega) (fun r x H1 hm px s Q q => ?_) (fun r x H1 hm hp px s Q q => ⟨x, h5 x, q H1 (Same.refl _)⟩)) g_non1 mn_is (by exact mn_is (vs := [.non])) ?_) ?_ mn_i
  · refine ⟨x, h5 x, 2, rfl, key_of (List.all_eq_true.mp hr r hm) px fun y H' s' ⟨p, ey, hp⟩ => ?_⟩
    subst ey
    refine ⟨_, h3 x, _, h4 x, (by decide : 2 ≤ sizeLine), fun tq htq => ?_⟩
    have sq := same_new (o := .tup [.str k.1, .str k.2]) htq
    have hw := key_words (List.all_eq_true.mp hr r hm)
    refine ⟨.tuple [.str (WPv.keyOf r).1, .str (WPv.keyOf r).2], .tuple [.str k.1, .str k.2], .tup (.inl (.inl (sq _ _ hp))) (.cons (.str _) (.cons (.str _) .nil)), .tup (.inl (.inl upd_same)) (.cons (.str _) (.cons (.str _) .nil)), sh2 hw.1 hw.2, sh2 hk.1 hk.2, _, rfl, ?_⟩
    rw [eqv2]
    exact q _ (s'.trans sq)
  · simp only [List.length_map, List.length_cons, List.length_nil]
    have := List.length_filter_le (fun (a : Pv × V) => decide (WPv.keyOf a.1 = k)) (rs.zip xs)
    rw [List.length_zip] at this
    omega
  · have e : ((((rs.zip xs).filter fun (a : Pv × V) => decide (WPv.keyOf a.1 = k)).map (·.2)).map Is ++ [Is .non]) = ((((rs.zip xs).filter fun (a : Pv × V) => decide (WPv.keyOf a.1 = k)).map (·.2)) ++ [V.non]).map Is := by rw [List.map_append]; rfl
    show ((((rs.zip xs).filter fun (a : Pv × V) => decide (WPv.keyOf a.1 = k)).map (·.2)).map Is ++ [Is .non])[0]? = _
    rw [e, List.getElem?_map, hf]
    rfl
theorem dp_words {K : PySem.W.Frag} {H : Hp} : ∀ (l : List Str), DpAll K H (l.map V.str) (l.map PyData.str)
  | [] => .nil
  | x :: l => .cons (.str x) (dp_words l)
theorem lay_words : ∀ (l : List Str), (∀ z ∈ l, PyData.strOk z = true) → PyData.canLayAll0 (l.map PyData.str) = true ∧ PyData.depthAll (l.map PyData.str) ≤ 1
  | [], _ => ⟨rfl, by simp [PyData.depthAll]⟩
  | x :: l, h => by
    obtain ⟨h1, h2⟩ := lay_words l fun z hz => h z (List.mem_cons_of_mem _ hz)
    have h0 := h x List.mem_cons_self
    constructor
    · simp [PyData.canLayAll0, PyData.canLay0, h0, h1]
    · simp only [List.map_cons, PyData.depthAll, PyData.depth]
      omega
theorem sh_words {l : List Str} (h : ∀ z ∈ l, PyData.strOk z = true) : SeqAt.shaped (.tuple (l.map PyData.str)) = true := by
  obtain ⟨h1, h2⟩ := lay_words l h
  simp only [SeqAt.shaped, PyData.canLay0, PyData.depth, h1, Bool.true_and]
  exact decide_eq_true (by omega)
theorem zip_words {xs : List V} {rs : List Pv} (h : xs.length = rs.length) : ((rs.zip xs).filter fun _ => true).map (fun a => V.str (wordOf a.1)) = (rs.map wordOf).map V.str := by
  rw [List.filter_eq_self.mpr (fun a _ => rfl)]
  have e : ((rs.zip xs).map fun a => V.str (wordOf a.1)) = ((rs.zip xs).map Prod.fst).map fun r => V.str (wordOf r) := by rw [List.map_map]; rfl
  rw [e, List.map_fst_zip (by omega), List.map_map]
  rfl
theorem tcb3 {c1 c2 c3 : List V → Hp → VK → Prop} {te : TE} {σ : L2.St} {H : Hp} {Q : VK} (h : te σ H fun x H1 => c1 [x] H1 fun y H2 => c2 [y] H2 fun z H3 => c3 [z] H3 Q) : tCB c3 (tCons (tCB c2 (tCons (tCB c1 (tCons te tNil)) tNil)) tNil) σ H Q := h
section
variable {P : Program} {w : World} {K : PySem.W.Frag} {mg : Str → Option Value} {base : Heap}
theorem ok_right (T : Env K mg) : FnOk P w K mg base CX0 12 (d_L_right.loc K) T.fd_L_right ["m", "rows"] (spRight K) := by
  have G_is_script : FnOk P w K mg base CX0 8 _ _ _ _ := ok_is_script T
  have G_wrong_row : FnOk P w K mg base (L2.CX P w) 7 _ _ _ _ := ok_wrong_row T
  have G_mkS_WorkerPlan : FnK P w K mg base (L2.CX P w) 9 _ _ _ := fk_workerS T
  have G_WorkerPlan_script : FnOk P w K mg base CX0 1 _ _ _ _ := ok_WP_script T
  have G_row_for : FnOk P w K mg base (L2.CX P w) 9 _ _ _ _ := ok_row_for T
  have G_words_of : FnOk P w K mg base (L2.CX P w) 9 _ _ _ _ := ok_words_of T
  have G_is_deed : FnOk P w K mg base CX0 5 _ _ _ _ := ok_is_deed T
  refine T.F_L_right.ok sc_L_right (fun vs H Q E h => ?_) (fun cdv A outer s H vs Q E hr h => ?_)
  · obtain ⟨N, mv, l, rs, xs, rfl, _⟩ := h
    rfl
  · have nd := sc_L_right.nd
    have hu := hu_of hr
    obtain ⟨N, mv, l, rs, xs, rfl, hl, ax, hs, ho, k⟩ := h
    refine ⟨_, PSs.nox (pss_cons (ps_set (i := 2) nd rfl (Or.inl rfl) (pe_callTy call_tuple_of (by rfl) T.b_tuple (by decide +kernel) (pa_cons (pv 1) pa_nil)))
 (pss_cons (ps_if (PW.pt (pw_or (pt_not (pt_val (WKn.pe_callK G_is_script (hr.mono (by decide)) (by rfl) T.g_is_script T.F_is_script.kp (WKn.kb_k1 T.F_is_script fun _ _ _ _ _ _ _ => rfl) pass0 (pk_cons (pv 2) pk_nil)))) (pw_or (pt_cmpR op_notN (WKn.pe_callK G_wrong_row (hr.mono (by decide)) (by rfl) T.g_wrong_row T.F_wrong_row.kp (WKn.kb_k1 T.F_wrong_row fun _ _ _ _ _ _ _ => rfl) passL (pk_cons (pv 2) pk_nil)) pe_non (nomark _)) (pw_or1 (pt_cmpR ((WKn.op_neS (Nat.lt_of_succ_lt hu)).or op_ne) (pe_prop (pe_mkKF T.mk_WorkerPlan G_mkS_WorkerPlan (hr.mono (by decide)) (by rfl) T.g_WorkerPlan passL (pa_cons pe_str pa_nil) (pk_cons (pv 2) pk_nil)) T.dc_WorkerPlan.cls T.p_WorkerPlan_script G_WorkerPlan_script (hr.mono (by decide)) T.bi_WorkerPlan_script .nil pass0 rfl) (pv 2) (nomark _))))))
  (pss_one (ps_ret pe_bl))
  pss_nil)
 (pss_cons (ps_for PassesOwn.never rfl (pi_list (pe_op op_cat (pe_lc (own := [("row", 5)]) (by rfl) nd (pi_list (pv 1)) (blkOk_by (N := ["m", "rows", "told", "mode", "word", "row", "due", "deed"]) (sc := defScope s_L_right) (by decide +kernel)) (fun _ _ _ _ _ => (pg_name (i := 5) nd rfl (Or.inl rfl))) (fun _ _ _ _ _ => pts_nil) (fun _ _ _ _ _ => (pe_slice (WKn.slTK (K := K)) (pv 5) po_none (po_some pe_int)))) (pe_lst (pa_cons (pe_tup (pa_cons pe_str (pa_cons pe_str pa_nil))) (pa_cons (pe_tup (pa_cons pe_str (pa_cons pe_str pa_nil))) pa_nil))))) (pg_tup rfl (pgs_cons (pg_name (i := 3) nd rfl (Or.inr rfl)) (pgs_cons (pg_name (i := 4) nd rfl (Or.inr rfl)) pgs_nil)))
  (pss_cons (ps_set (i := 6) nd rfl (Or.inl rfl) (pe_ix (ixlK (K := K)) (pe_op op_cat (pe_lc (own := [("row", 5)]) (by rfl) nd (pi_list (pv 1)) (blkOk_by (N := ["m", "rows", "told", "mode", "word", "row", "due", "deed"]) (sc := defScope s_L_right) (by decide +kernel)) (fun _ _ _ _ _ => (pg_name (i := 5) nd rfl (Or.inl rfl))) (fun _ _ _ _ _ => (pts_one (pt_cmpR (WKn.eqDK (K := K) hr.units) (pe_slice (WKn.slTK (K := K)) (pv 5) po_none (po_some pe_int)) (pe_tup (pa_cons (pv 3) (pa_cons (pv 4) pa_nil))) (nomark _)))) (fun _ _ _ _ _ => (pv 5))) (pe_lst (pa_cons pe_non pa_nil))) pe_int (fun _ _ => rfl)))
 (pss_one (ps_if (pt_cmpR ((WKn.op_neS (Nat.lt_of_succ_lt hu)).or op_ne) (pe_call G_row_for (hr.mono (by decide)) (by rfl) T.g_row_for T.F_row_for.kp T.bi_row_for .nil passL (pa_cons (pv 2) (pa_cons (pv 3) (pa_cons (pv 4) pa_nil)))) (pv 6) (nomark _))
  (pss_one (ps_ret pe_bl))
  pss_nil))))
 (pss_cons (ps_if (pt_cmpR (op_neD hr.units) (pe_call G_words_of (hr.mono (by decide)) (by rfl) T.g_words_of T.F_words_of.kp T.bi_words_of .nil passL (pa_cons (pv 2) pa_nil)) (pe_callTy call_tuple_of (by rfl) T.b_tuple (by decide +kernel) (pa_cons (pe_callB (WTs.cr_sortedSS (by rfl)) (by rfl) T.b_sorted (by decide +kernel) (pa_cons (pe_callTy (WTs.cr_setS (by rfl)) (by rfl) T.b_set (by decide +kernel) (pa_cons (pe_lc (own := [("row", 5)]) (by rfl) nd (pi_list (pv 1)) (blkOk_by (N := ["m", "rows", "told", "mode", "word", "row", "due", "deed"]) (sc := defScope s_L_right) (by decide +kernel)) (fun _ _ _ _ _ => (pg_name (i := 5) nd rfl (Or.inl rfl))) (fun _ _ _ _ _ => pts_nil) (fun _ _ _ _ _ => (pe_ix (ixtK (K := K)) (pv 5) pe_int (fun _ _ => rfl)))) pa_nil)) pa_nil)) pa_nil)) (nomark _))
  (pss_one (ps_ret pe_bl))
  pss_nil)
 (pss_one (ps_ret (pe_cmpR (op_eqN hr.units) (pe_lc (own := [("row", 5)]) (by rfl) nd (pi_list (pv 1)) (blkOk_by (N := ["m", "rows", "told", "mode", "word", "row", "due", "deed"]) (sc := defScope s_L_right) (by decide +kernel)) (fun _ _ _ _ _ => (pg_name (i := 5) nd rfl (Or.inl rfl))) (fun _ _ _ _ _ => (pts_one (pt_cmpR (WKn.neNK (K := K) hr.units) (by exact (pe_lc (own := [("deed", 7)]) (by rfl) nd (WKn.piTK (K := K) (pe_ix (ixtK (K := K)) (pv 5) pe_int (fun _ _ => rfl))) (blkOk_by (N := ["m", "rows", "told", "mode", "word", "row", "due", "deed"]) (sc := _) (by kernel_rfl)) (fun _ _ _ _ _ => (pg_name (i := 7) nd rfl (Or.inl rfl))) (fun _ _ _ _ _ => (pts_one (pt_not (pt_val (WKn.pe_callK G_is_deed (hr.mono (by decide)) (by rfl) T.g_is_deed T.F_is_deed.kp (WKn.kb_k1 T.F_is_deed fun _ _ _ _ _ _ _ => rfl) pass0 (pk_cons (pv 7) pk_nil)))))) (fun _ _ _ _ _ => pe_int))) (pe_lst pa_nil) (nomark _)))) (fun _ _ _ _ _ => pe_int)) (pe_lst pa_nil) (nomark _)))))))), ?_⟩
    obtain ⟨rs', e', hw, hrs⟩ := script_tup hs
    cases e'
    have hln := wrongGo_len rs 0 [] hw (by decide)
    have hlx := ax.len
    refine st_any (i := 2) (R := fun v H1 => ∃ t, v = .ref t ∧ Same H H1 ∧ H1 t = some (.tup xs)) (fun Q' q => ⟨.ref l, rfl, l, xs, rfl, .inl ⟨.of hl, fun t ht => q _ _ ⟨t, rfl, same_new ht, upd_same⟩⟩⟩) (fun v H1 ⟨t, ev, s1, t1⟩ => ?_)
    subst ev
    have at1 : At K N (.tup rs) (.ref t) H1 := ⟨t, xs, rfl, .inl (.inl t1), atl_kn (Kn.same s1) _ ax, by omega⟩
    have e3 : ∀ H2, Same H1 H2 → True := fun _ _ => trivial
    dsimp only
    show tSeq _ _ _ _ _
    refine s_no (et_or (a := false) (b := false) (et_not (b := true) (et_val ⟨fun H2 e Q q => ⟨_, rfl, rfl, N, .tup rs, _, rfl, at_kn (Kn.same e) _ at1, ho, fun H' s' => q _ H' s' (by rw [hs]; rfl)⟩, mn_i⟩)) fun _ => et_or (a := false) (b := false) (fun H2 e Q q => ⟨_, rfl, rfl, N, .tup rs, _, rfl, at_kn (Kn.same e) _ at1, ho, (fun z => by cases z), fun rs' e' H' s' => by
      cases e'
      rw [hw]
      exact ⟨rfl, _, rfl, q H' s'⟩⟩) fun _ => (fun H2 e Q q => ?_)) fun H2 s2 => ?_
    · refine script_back (N := N) rfl (at_kn (Kn.same e) _ at1) hs ho fun H' s' => ?_
      exact ⟨.ref t, rfl, .inl ⟨t, xs, rfl, rfl, .inl (.inl (s' _ _ (e _ _ t1))), _, rfl, q H' s'⟩⟩
    · have S2 := s1.trans s2
      unfold tNext
      dsimp only
      have lH : ∀ {H' : Hp}, Same H H' → H' l = some (.lst xs) := fun s => s _ _ hl
      have ek : (rs.map WPv.keyOf ++ [(("third" : Str), ("go" : Str)), ("first", "none")]).map KeyAt = (rs.map fun r => KeyAt (WPv.keyOf r)) ++ [KeyAt ("third", "go"), KeyAt ("first", "none")] := by
        rw [List.map_append, List.map_map]
        rfl
      have ek2 : (rs.map WPv.keyOf).map KeyAt = rs.map fun r => KeyAt (WPv.keyOf r) := List.map_map
      refine st_forG (K := K) (g_catF (g_keys (n := 1) (v := 5) (K := K) (N := N) rfl (lH S2) (atl_kn (Kn.same S2) _ ax) hrs (by omega) (fun _ => rfl)) g_key2 (by rw [← ek2]; exact mn_keys) (by exact mn_keys (ks := [(("third" : Str), ("go" : Str)), ("first", "none")])) (by simp only [List.length_map, List.length_cons, List.length_nil]; omega)) fun vr Hr s3 pr => ?_
      obtain ⟨r, zs, rfl, er, fak0⟩ := pr
      have fak : Fa ((rs.map WPv.keyOf ++ [(("third" : Str), ("go" : Str)), ("first", "none")]).map KeyAt) zs Hr := by rw [ek]; exact fak0
      have Sr : Same H Hr := S2.trans s3
      have htr : Hr t = some (.tup xs) := s3 _ _ (s2 _ _ t1)
      refine ⟨r, rfl, ⟨_, .of er⟩, ?_⟩
      refine for_it (walk_list (xs := zs)) (fun i σ H' => Same Hr H' ∧ ∃ a3 a4 a5 a6 a7, σ = [some mv, some (.ref l), some (.ref t), a3, a4, a5, a6, a7]) ⟨Same.refl _, _, _, _, _, _, rfl⟩ (fun i σ H' _ p => .of (p.1 _ _ er)) (fun i x σ H5 H6 hi p y => ?_) (fun σ H5 p => ?_)
      · obtain ⟨s5, a3, a4, a5, a6, a7, rfl⟩ := p
        obtain ⟨rfl, ex⟩ := y
        obtain ⟨k1, hk1⟩ : ∃ k1, (rs.map WPv.keyOf ++ [(("third" : Str), ("go" : Str)), ("first", "none")])[i]? = some k1 := by
          have := fak.len
          rw [List.length_map] at this
          exact ⟨_, List.getElem?_eq_getElem (by omega)⟩
        obtain ⟨x', ex', px⟩ := fak.get (n := i) (P := KeyAt k1) (by rw [List.getElem?_map, hk1]; rfl)
        rw [ex] at ex'
        cases ex'
        obtain ⟨p5, rfl, hp5⟩ := px
        refine ⟨p5, _, rfl, .inl (.inl (s5 _ _ hp5)), rfl, .str k1.1, _, rfl, .str k1.2, _, rfl, rfl, ?_⟩
        have Sr5 := Sr.trans s5
        have hw1 : isWordS k1.1 = true ∧ isWordS k1.2 = true := by
          rcases List.mem_append.mp (List.mem_of_getElem? hk1) with h | h
          · obtain ⟨r1, hr1, e1⟩ := List.mem_map.mp h
            rw [← e1]
            exact key_words (List.all_eq_true.mp hrs r1 hr1)
          · exact more_words k1 h
        dsimp only
        show tSeq _ _ _ _ _
        refine g_asg (P := Is (foundV xs rs k1)) (g_due rfl (lH Sr5) (atl_kn (Kn.same Sr5) _ ax) hrs (by omega) (fun _ => rfl) (fun _ => rfl) (fun _ => rfl) hw1) fun v7 H7 s7 e7 => ?_
        have e7' : v7 = foundV xs rs k1 := e7
        subst e7'
        have Sr7 := Sr5.trans s7
        have at7 : AtL K N rs xs H7 := atl_kn (Kn.same Sr7) _ ax
        dsimp only
        refine s_no (fun H8 e8 Q' q' => ⟨_, rfl, _, rfl, _, rfl, N, .tup rs, .ref t, k1.1, k1.2, rfl, ⟨t, xs, rfl, .inl (.inl (e8 _ _ (s7 _ _ (s5 _ _ htr)))), atl_kn (Kn.same e8) _ at7, by omega⟩, ho, (fun z => by rw [hs] at z; cases z), fun _ => ⟨rs, xs, t, rfl, rfl, .inl (.inl (e8 _ _ (s7 _ _ (s5 _ _ htr)))), atl_kn (Kn.same e8) _ at7, fun H9 s9 => ⟨_, rfl, ?_⟩⟩⟩) fun H9 s9 => ⟨(s5.trans s7).trans s9, _, _, _, _, _, rfl⟩
        rcases found_some (k := k1) (atl_kn (Kn.same (e8.trans s9)) _ at7) hrs with h | ⟨a9, ys, h, hq9⟩
        · rw [h]
          exact .inr ⟨rfl, _, rfl, q' H9 s9⟩
        · rw [h]
          exact .inl ⟨a9, ys, rfl, rfl, hq9, _, rfl, q' H9 s9⟩
      · obtain ⟨s5, a3, a4, a5, a6, a7, rfl⟩ := p
        have Sr5 := Sr.trans s5
        dsimp only
        show tSeq _ _ _ _ _
        refine s_no (fun H8 e8 Q' q' => ⟨_, rfl, N, .tup rs, .ref t, rfl, ⟨t, xs, rfl, .inl (.inl (e8 _ _ (s5 _ _ htr))), atl_kn (Kn.same (Sr5.trans e8)) _ ax, by omega⟩, ho, (fun z => by rw [hs] at z; cases z), fun rs' e' _ v' H10 s10 hw10 => ?_⟩) fun H9 s9 => ?_
        · cases e'
          obtain ⟨q10, ys, rfl, h10, hso, hnd, hme, hlen⟩ := hw10
          have S10 := (Sr5.trans e8).trans s10
          refine tcb3 ?_
          refine (g_rows (K := K) (N := N) (n := 1) (v := 5) (tt := tYes) (p := fun _ => true) (f := fun a => V.str (wordOf a.1)) (σ := [some mv, some (V.ref l), some (V.ref t), a3, a4, a5, a6, a7]) rfl (lH S10) (atl_kn (Kn.same S10) _ ax) (by omega) (fun r x H1 hm px s Q q => q H1 (Same.refl _)) (fun r x H1 hm hp px s Q q => ?_)).ev H10 (Same.refl _) _ fun v11 H11 s11 p11 => ?_
          · obtain ⟨ka, kb, c, ds, rfl⟩ := isRow_of (List.all_eq_true.mp hrs r hm)
            obtain ⟨rq, rx, rfl, hrq, hra, _⟩ := px
            obtain ⟨y1, hy1, p1⟩ := hra.get (i := 1) rfl
            obtain ⟨rfl, _⟩ := p1
            exact ev_ixT rfl hrq (at3 hy1) _ (q H1 (Same.refl _))
          · obtain ⟨D, zs, rfl, hd, fz⟩ := p11
            obtain rfl := fz.is
            rw [zip_words hlx] at hd
            refine ⟨D, rs.map wordOf, rfl, .of hd, by rw [List.length_map]; omega, fun p3 hp3 => ?_⟩
            have s3' := same_new (o := WTs.SetSO w p3 (rs.map wordOf)) hp3
            refine ⟨p3, rs.map wordOf, rfl, upd_same, by rw [List.length_map]; omega, fun ys' p4 hs4 hnd' hme' hlen' hp4 => ?_⟩
            have s4' := same_new (o := .lst (ys'.map V.str)) hp4
            refine ⟨p4, ys'.map V.str, rfl, .inl ⟨.of upd_same, fun l5 hl5 => ?_⟩⟩
            have s5' := same_new (o := .tup (ys'.map V.str)) hl5
            have ey : ys = ys' := WTs.sorted_unique hso hs4 hnd hnd' fun z => (hme z).trans (hme' z).symm
            subst ey
            have hwd : ∀ z ∈ ys, PyData.strOk z = true := fun z hz => by
              obtain ⟨r, hr, e⟩ := List.mem_map.mp ((hme z).mp hz)
              rw [← e]
              exact cps_ok (key_words (List.all_eq_true.mp hrs r hr)).2
            have hsh := sh_words hwd
            refine ⟨.tuple (ys.map PyData.str), .tuple (ys.map PyData.str), .tup (.inl (.inl (s5' _ _ (s4' _ _ (s3' _ _ (s11 _ _ h10)))))) (dp_words _), .tup (.inl (.inl upd_same)) (dp_words _), hsh, hsh, _, rfl, ?_⟩
            rw [SeqAt.eqv_refl _ (SeqAt.canLay_of_shaped hsh)]
            exact q' _ ((((s10.trans s11).trans s3').trans s4').trans s5')
        · have S9 := Sr5.trans s9
          dsimp only
          refine g_ret (P := Is (.bl true)) (WCf.g_eqN (K := K) (xs := []) ?_) fun v H11 s11 e11 => by
            have e : v = .bl true := e11
            subst e
            exact k H11 (S9.trans s11)
          have gg := g_rows (K := K) (N := N) (n := 1) (v := 5) (te := tC (.int 1)) (tt := tTest (tOp (rNeN K) (tLc (iTup K (tOp (rIxT K) (tVar 5) (tC (.int 3)))) (gName 7) (tNot (tB (tCallK 1 (spBo K okDeed isDeed) E0 (tCons (tVar 7) tNil)))) (tC (.int 1)) [7]) (tLst tNil))) (p := fun _ => false) (f := fun _ => V.int 1) (σ := [some mv, some (V.ref l), some (V.ref t), a3, a4, a5, a6, a7]) rfl (lH S9) (atl_kn (Kn.same S9) _ ax) (by omega) (fun r x H1 hm px s Q q => ?_) (fun r x H1 hm hp px s Q q => by cases hp)
          · rw [List.filter_eq_nil_iff.mpr (fun a _ => Bool.false_ne_true)] at gg
            exact gg
          · obtain ⟨ka, kb, c, ds, rfl⟩ := isRow_of (List.all_eq_true.mp hrs r hm)
            have hds : ds.all isDeed = true := by
              have h := List.all_eq_true.mp hrs _ hm
              rw [isRow_eq] at h
              have h2 := (He.ba (He.ba (He.ba h).2).2).2
              exact (He.ba h2).2
            have hok : ds.all okDeed = true := by
              have h := List.all_eq_true.mp (show rs.all okRow = true from ho) _ hm
              exact (He.ba (show (decide (ds.length ≤ 100) && ds.all okDeed) = true from h)).2
            obtain ⟨rq, rx, rfl, hrq, hra, _⟩ := px
            obtain ⟨d, hd, dq, dxs, rfl, hdq, hda, hdz⟩ := hra.get (i := 3) rfl
            have gi := WCf.g_lcGt (σ := ([some mv, some (V.ref l), some (V.ref t), a3, a4, a5, a6, a7] : L2.St).set 5 none |>.set 5 (some (V.ref rq))) (H := H1) (te := tC (.int 1)) (tt := tNot (tB (tCallK 1 (spBo K okDeed isDeed) E0 (tCons (tVar 7) tNil)))) (wi := iTup K (tOp (rIxT K) (tVar 5) (tC (.int 3)))) (v := 7) (Pa := RowAt K N) (rs := ds.zip dxs) (p := fun _ => false) (f := fun _ => V.int 1)
              (fun H2 s2 R r => ev_ixT rfl (sqt_same s2 hrq) (at3 hd) _ ⟨dq, rfl, ⟨dxs, sqt_same s2 hdq⟩, r (Itt K dq) (fun H => SqT K H dq dxs) dxs H2 (Same.refl _) walk_tup (fun H3 s3 => sqt_same (s2.trans s3) hdq) (rows_fa (atl_kn (Kn.same s2) _ hda))⟩)
              mn_rows (by rw [List.length_zip, hda.len]; omega)
              (fun a x H2 hm2 px2 s2 Q q => by
                obtain ⟨e, px2⟩ := px2
                subst e
                have hd2 := List.all_eq_true.mp hds a.1 (List.of_mem_zip hm2).1
                have ho2 := List.all_eq_true.mp hok a.1 (List.of_mem_zip hm2).1
                exact ⟨_, rfl, rfl, N, a.1, a.2, rfl, px2, ho2, fun H3 s3 => ⟨isDeed a.1, rfl, by rw [hd2]; exact q H3 s3⟩⟩)
              (fun a x H2 hm2 hp2 => by cases hp2) (fun a => mn_row)
            rw [List.filter_eq_nil_iff.mpr (fun a _ => Bool.false_ne_true)] at gi
            exact WCf.et_neN (K := K) (xs := []) gi H1 (Same.refl _) Q q
end
end W53

set_option Elab.async false
set_option linter.all false
set_option maxRecDepth 100000
set_option maxHeartbeats 4000000
/-! a clause of several classes: except (A, B) as n: q = n -/
namespace WKt
open PySem PySem.Spec PyProof.Rows L2 WKp
open PySem.W (Looks exmAny exmOne)
theorem fly_mono {base : Heap} {l : List PySem.Env} {e : Addr} {Z : Obj → Prop} {h h' : Heap} (x : HandSPX.FlyingZ base l e Z h) (k : ∀ b o, h.get? b = some o → h'.get? b = some o) : HandSPX.FlyingZ base l e Z h' := by
  obtain ⟨k1, k2, k3, oe, vs, T, oT, ts, he, hz, hd, h1, h2, h3, h4, h5, h6⟩ := x
  exact ⟨fun b o z => k _ _ (k1 b o z), k2, Heap.FunFrames.of_keeps (fun b o z _ => ⟨o, k _ _ z, rfl⟩) k3, oe, vs, T, oT, ts, k _ _ he, hz, hd, h1, h2, h3, k _ _ h4, h5, h6⟩
theorem up_mono {h h' : Heap} (k : ∀ b o, h.get? b = some o → h'.get? b = some o) : h.UpToSlots h' := fun b o e _ => ⟨o.slots, by rw [k _ _ e]⟩
/-- the test of a clause: what it looks at, and how it answers for a class -/
def TestT (X : Cx) (t : Expr) (m : Value → Option Bool) : Prop :=
  ∀ {a : Addr} {oe : Obj} {pn : List (Addr × Obj)} {σ : L2.St} {H : Hp} {s : Shared} {Q : Value → Shared → Prop} {E : Value → Shared → Prop}, Inv (X.suite a ((a, oe) :: pn)) [] σ H s →
    (∀ c h', (∀ b o, s.heap.get? b = some o → h'.get? b = some o) → (∀ cls b e, m cls = some b → Looks (model X.prog X.w) s.heap (typeOf (.ref e)) cls → Looks (model X.prog X.w) h' (excMatches (.ref e) c) b) → Q c { s with heap := h' }) →
    wpAny (model X.prog X.w) (X.A.mark (some (.ref a))) (eval t X.env) Q E s
theorem ld_names {X : Cx} {x : Str} {c : Value} {np : Pos} (hc : Names X x c) {a : Addr} {oe : Obj} {pn : List (Addr × Obj)} {σ : L2.St} {H : Hp} {s : Shared} {Q : Value → Shared → Prop} {E : Value → Shared → Prop} (I : Inv (X.suite a ((a, oe) :: pn)) [] σ H s) (q : Q c s) :
    wpAny (model X.prog X.w) (X.A.mark (some (.ref a))) (eval (.Name x np) X.env) Q E s := by
  obtain ⟨hg, hdbg, hm | ⟨hm, hv, hnn⟩⟩ := hc
  · exact ld_glob (X := X.suite a ((a, oe) :: pn)) I hg hm q hdbg
  · exact ld_blt (X := X.suite a ((a, oe) :: pn)) I hg hm hv q hnn hdbg
theorem test2 {X : Cx} {x1 x2 : Str} {c1 c2 : Value} {p1 p2 tp : Pos} {kk : Nat} (n1 : Names X x1 c1) (n2 : Names X x2 c2) : TestT X (.Tuple [.Name x1 p1, .Name x2 p2] kk tp) (fun cls => exmAny X.K cls [c1, c2]) := fun {a oe pn σ H s Q E} I q => by
  refine wpAny_Tuple ?_
  refine wpAny_items_cons (ld_names n1 I ?_)
  refine wpAny_items_cons (ld_names n2 I ?_)
  refine wpAny_items_nil ⟨by size_fits, ?_⟩
  have kp : ∀ q o, s.heap.get? q = some o → (s.heap.push { cls := .type "tuple", data := .seq [c1, c2].toArray }).get? q = some o := fun _ _ z => Heap.get?_push_of_some _ z
  exact q _ _ kp fun cls b e hm LT => PySem.W.exm_tup2 (I.kIn.keeps kp) (LT.keeps kp) (Heap.get?_push_size s.heap rfl) hm
theorem test3 {X : Cx} {x1 x2 x3 : Str} {c1 c2 c3 : Value} {p1 p2 p3 tp : Pos} {kk : Nat} (n1 : Names X x1 c1) (n2 : Names X x2 c2) (n3 : Names X x3 c3) : TestT X (.Tuple [.Name x1 p1, .Name x2 p2, .Name x3 p3] kk tp) (fun cls => exmAny X.K cls [c1, c2, c3]) := fun {a oe pn σ H s Q E} I q => by
  refine wpAny_Tuple ?_
  refine wpAny_items_cons (ld_names n1 I ?_)
  refine wpAny_items_cons (ld_names n2 I ?_)
  refine wpAny_items_cons (ld_names n3 I ?_)
  refine wpAny_items_nil ⟨by size_fits, ?_⟩
  have kp : ∀ q o, s.heap.get? q = some o → (s.heap.push { cls := .type "tuple", data := .seq [c1, c2, c3].toArray }).get? q = some o := fun _ _ z => Heap.get?_push_of_some _ z
  exact q _ _ kp fun cls b e hm LT => PySem.W.exm_tup3 (I.kIn.keeps kp) (LT.keeps kp) (Heap.get?_push_size s.heap rfl) hm
/-- what the clause 'except (A, B) as n: q = n' wishes: slot i is n's, slot j is q's -/
def wKeepT (m : Value → Option Bool) (i j : Nat) (Wout : WX) (D : Ends) : WX := fun cls d σ H =>
  ∃ b, m cls = some b ∧ (b = true → ∃ C, cls = .ref C ∧ ∀ a, H a = none → D.nx (((σ.set i (some (.ref a))).set j (some (.ref a))).set i none) (upd H a (exK a C d))) ∧ (b = false → Wout cls d σ H)
section
variable {X : Cx} {pins : List (Addr × Obj)} {σ : L2.St} {H : Hp} {s : Shared}
theorem ps_try_keepT {n q : Str} {texpr : Expr} {m : Value → Option Bool} {i j : Nat} {body : List Stmt} {pos pos' p1 p2 p3 : Pos} {tb : WX → TS} {Wout : WX} (hs : X.stack = X.env :: X.outer) (hf : X.env.frame = some X.env.locals) (hx : X.ex = []) (hN : X.N.Nodup) (hi : X.N[i]? = some n) (hj : X.N[j]? = some q)
    (hln : X.env.kindOf n = some .local) (hlq : X.env.kindOf q = some .local) (hc : TestT X texpr m) (tk : Takes X Wout)
    (hb : ∀ (W : WX) (pn : List (Addr × Obj)) (xe : Value → Shared → Prop), Takes (X.tr pn xe) W → PassesOwn (model X.prog X.w) X.A X.env xe → PSs (X.tr pn xe) body (tb W))
    (hsu : ∀ (a : Addr) (oe : Obj) (pn : List (Addr × Obj)), PSs (X.suite a ((a, oe) :: pn)) [.Assign [.Name q p1] (.Name n p2) p3] (tAsg (tVar i) (gName j))) :
    PS X (.Try body [.ExceptHandler (some texpr) (some n) [.Assign [.Name q p1] (.Name n p2) p3] pos'] [] [] pos) (fun D σ H => tb (wKeepT m i j Wout D) D σ H) := by
  refine ⟨fun pins s σ H D I h => ?_⟩
  have ok := I.ok
  have hfr : X.A.frames = some (X.env :: X.outer) := by rw [ok.frames, hs]
  have hloc : Loc X.env.scope n := .inl hln
  refine wpAny_Try_except ?_
  refine wpAny_mono ((hb (wKeepT m i j Wout D) (X.pn ++ pins) (fun e s₁ => wpAny (model X.prog X.w) X.A (noteFrame e X.env) (fun _ s₂ => wpAny (model X.prog X.w) X.A (setFlight e none) (fun _ s₃ =>
    wpAny (model X.prog X.w) X.A (handleBy e X.env [.ExceptHandler (some texpr) (some n) [.Assign [.Name q p1] (.Name n p2) p3] pos']) (SP X pins D) X.xe s₃) X.xe s₂) X.xe s₁) (fun u s' xx => ?_) PassesOwn.looking).run [] s σ H D (I.toTry _) h) (fun f s1 hsp => ?_) (fun _ _ z => z)
  · obtain ⟨a, B, sI, pins', σ', H', cls, d, rfl, J', nb, up, sky, na, os, ag, b, hb1, hyes, hno⟩ := xx
    have J : Inv X pins σ' H' sI := J'.ofTry ok
    have sky' : Sky B (X.env :: X.outer) a (Zc cls d) X.env.locals s'.heap := by rw [← hs]; exact sky
    show wpAny (model X.prog X.w) X.A (noteFrame (.ref a) X.env) _ _ _
    refine Sky.land Zc.steady hfr hf sky' fun h3 fl3 up3 => ?_
    have J3 : Inv X pins σ' H' { s' with heap := h3 } := J.landed nb fl3.1 (up.trans up3) os ag
    obtain ⟨oe3, vs3, he3, hz3, hd3⟩ := fl3.there
    have nfr : a ∉ frs (X.env :: X.outer) := fun hm => by
      obtain ⟨_, o', e', hnf⟩ := fl3.2.2.1.mem hm
      rw [he3] at e'; cases e'
      exact hnf _ hd3
    have nL : a ≠ X.env.locals := fun z => nfr (List.mem_filterMap.mpr ⟨X.env, List.mem_cons_self, by rw [hf, z]⟩)
    have nF : a ∉ X.fs := fun hm => by
      obtain ⟨e, he, q⟩ := List.mem_filterMap.mp hm
      exact nfr (List.mem_filterMap.mpr ⟨e, List.mem_cons_of_mem _ he, q⟩)
    have nI : ∀ o, sI.heap.get? a ≠ some o := fun o e => by
      have := nb a o e (by rw [hs]; exact nfr)
      rw [fl3.2.1] at this
      cases this
    have n0 : X.s_0.heap.get? a = none := by
      cases e : X.s_0.heap.get? a with
      | none => rfl
      | some o =>
        obtain ⟨o', e'⟩ := J.base.there a o e (by rw [hx]; simp)
        exact absurd e' (nI o')
    have npn : ∀ p ∈ X.pn ++ pins, p.1 ≠ a := fun p hp z => by
      have := (J.pin p hp).1
      rw [z] at this
      exact nI _ this
    have S3 := J3.suite he3 hd3 na nL nF
    refine wpAny_handleBy_cons (codeAny_handlers_test ?_) (by intro q; cases q)
    have LT : PySem.W.Looks (model X.prog X.w) h3 (typeOf (.ref a)) cls := fun A Q E s k q => wpAny_typeOf_ref (k _ _ he3) (by rw [hz3.1]; exact q)
    refine hc (oe := oe3) (pn := X.pn ++ pins) S3 fun c h3' kp LMk => ?_
    have LM := LMk _ _ a hb1 LT
    have fl3' : HandSPX.FlyingZ B (X.env :: X.outer) a (Zc cls d) h3' := fly_mono fl3 kp
    have upT : h3.UpToSlots h3' := up_mono kp
    refine LM.here ?_
    cases b with
    | true =>
      obtain ⟨C, rfl, hyes2⟩ := hyes rfl
      refine codeAny_handlers_suite_as ?_
      refine HandSPX.lands_againZ fl3' fun h4 fl4 up4 => ?_
      have J4 : Inv X pins σ' H' { s' with heap := h4 } := J.landed nb fl4.1 (((up.trans up3).trans upT).trans up4) os ag
      obtain ⟨oe4, vs4, he4, hz4, hd4⟩ := fl4.there
      have S4 := J4.suite he4 hd4 na nL nF
      refine store_ok (X := X.suite a ((a, oe4) :: (X.pn ++ pins))) (v := .ref a) S4 hN hi hloc rfl (fun s5 S5 => ?_) (.inr hln)
      have hil : i < σ'.length := by
        rw [J.len]
        exact (List.getElem?_eq_some_iff.mp hi).1
      refine wpAny_mono ((hsu a oe4 (X.pn ++ pins)).run [] s5 _ H' { nx := fun σ6 H6 => σ6 = (σ'.set i (some (.ref a))).set j (some (.ref a)) ∧ H6 = H', rt := fun _ _ => False, bk := fun _ _ => False, ct := fun _ _ => False } S5 ⟨.ref a, by rw [List.getElem?_set_self hil], rfl, rfl⟩) (fun f s6 hsp => ?_) (fun _ _ z => False.elim z)
      have end_ : ∀ {σ6 : L2.St} {H6 : Hp} {Q : Shared → Prop}, Inv (X.suite a ((a, oe4) :: (X.pn ++ pins))) [] σ6 H6 s6 → (∀ s7, Inv X ((a, oe4) :: pins) (σ6.set i none) H6 s7 → Q s7) →
          wpAny (model X.prog X.w) X.A (do bindName X.env n .none; unbindBehindTheSuite X.env n pos') (fun _ s7 => Q s7) X.xe s6 := fun {σ6 H6 Q} S6 hq => gone_ok (keep_pin S6 ok) hN hi hln hq
      cases f with
      | next =>
        obtain ⟨σ6, H6, S6, rfl, rfl⟩ := hsp
        refine end_ S6 fun s7 J7 => ⟨_, _, track J7 n0 npn ?_, hyes2 a na⟩
        exact exK_ok (J7.pin (a, oe4) (List.mem_append_right _ List.mem_cons_self)).1 hz4 hd4
      | brk =>
        obtain ⟨σ6, H6, S6, q6⟩ := hsp
        exact q6.elim
      | cont =>
        obtain ⟨σ6, H6, S6, q6⟩ := hsp
        exact q6.elim
      | ret u =>
        obtain ⟨v6, σ6, H6, S6, r6, q6⟩ := hsp
        exact q6.elim
    | false =>
      show wpAny _ X.A (handleBy (.ref a) X.env []) _ _ _
      refine wpAny_handleBy_nil ?_
      obtain ⟨k1, k2, k3, oe, vs, T, oT, ts', he, hz, hd, h1, hr⟩ := id fl3'
      unfold PySem.passOn
      refine wpAny_bind (wpAny_field he hd h1 ?_)
      rw [if_neg (show ¬ ((Value.ref T == Value.none) = true) from by simp)]
      have fin : wpAny (model X.prog X.w) X.A (setFlight (.ref a) X.env.frame) (fun _ s4 => wpAny (model X.prog X.w) X.A (throw (.ref a) : Sem Flow) (SP X pins D) X.xe s4) X.xe { s' with heap := h3' } := by
        rw [hf]
        refine HandSPX.setFlight_upZ fl3' fun h4 hh4 up4 => wpAny_throw (tk _ _ ?_)
        exact ⟨a, B, sI, pins, σ', H', cls, d, rfl, J, nb, ((up.trans up3).trans upT).trans up4, .inr (.inr (by rw [hs]; exact hh4)), na, os, ag, hno rfl⟩
      first
        | exact wpAny_bind (wpAny_pure (wpAny_bind fin))
        | exact wpAny_bind fin
  · cases f with
    | next =>
      obtain ⟨σ', H', J', q⟩ := hsp
      exact wpAny_execs_nil ⟨σ', H', J'.ofTry ok, q⟩
    | brk =>
      obtain ⟨σ', H', J', q⟩ := hsp
      exact ⟨σ', H', J'.ofTry ok, q⟩
    | cont =>
      obtain ⟨σ', H', J', q⟩ := hsp
      exact ⟨σ', H', J'.ofTry ok, q⟩
    | ret u =>
      obtain ⟨v, σ', H', J', r, q⟩ := hsp
      exact ⟨v, σ', H', J'.ofTry ok, r, q⟩
end
end WKt

set_option Elab.async false
set_option linter.all false
set_option maxRecDepth 100000
set_option maxHeartbeats 4000000
namespace W53
open PySem PySem.Spec PyProof.Rows L2 WXG WEv WRd WLf WEn WZs WRu WSt StX WDc WPv WEb WXO WXE WKd WGp WKn LamX
/-! ### what a call tells: its value, or the field of its error -/
theorem takes_len {X : Cx} {W : WX} (tk : Takes X W) : Takes X (fun cls d σ H => σ.length = X.N.length → W cls d σ H) := fun u s' x => by
  obtain ⟨a, B, sI, pins, σ', H', cls, d, rfl, J, nb, up, sky, na, os, ag, w⟩ := x
  exact tk _ _ ⟨a, B, sI, pins, σ', H', cls, d, rfl, J, nb, up, sky, na, os, ag, w J.len⟩
/-- an error that is told -/
def FldErr (K : PySem.W.Frag) (cls : Value) (d : Option Addr) (H : Hp) (Q : VK) : Prop :=
  (cls = .ref (BX K) ∧ ∃ dx v, d = some dx ∧ H dx = some (.xd [("index", v)]) ∧ ∀ H2 l, Same H H2 → H2 l = some (.lst [v, .bl true]) → Q (.ref l) H2) ∨
  (cls = .ref (BS K) ∧ ∃ dx v, d = some dx ∧ H dx = some (.xd [("setting", v)]) ∧ ∀ H2 t, Same H H2 → H2 t = some (.tup [.str "setting", v]) → Q (.ref t) H2)
def TField (K : PySem.W.Frag) : (XK → Hp → VK → Prop) → Hp → VK → Prop := fun tl H Q => ∀ H1, Same H H1 → ∀ R : VK, (∀ v H2, (∀ H3, Same H2 H3 → Q v H3) → R v H2) → tl (fun cls d H' => FldErr K cls d H' Q) H1 R
theorem mn_kxt {H H' : Hp} {a C : Addr} {f : Str} {y : V} (s : Same H H') (h : KXt H a C f y) : KXt H' a C f y := by
  obtain ⟨dx, h1, h2⟩ := h
  exact ⟨dx, s _ _ h1, s _ _ h2⟩
theorem exm2 {K : PySem.W.Frag} {c a b : Value} {x y : Bool} (h1 : PySem.W.exmOne K c a = some x) (h2 : PySem.W.exmOne K c b = some y) : PySem.W.exmAny K c [a, b] = some (x || y) := by
  unfold PySem.W.exmAny
  simp only [h1, h2, PySem.W.exmAny]
  cases x <;> cases y <;> rfl
theorem field_gives {X : Cx} (T : Env X.K X.mg) {q : Str} {cdg : Value} : GivesTo X ["act", "found", "e", "error"] "_law_field" d_L_field.scope (d_L_field.loc X.K) cdg d_L_field.body "act" q (TField X.K) := by
  intro f c' s H Q tl act hc h
  have nd : (["act", "found", "e", "error"] : List Str).Nodup := sc_L_field.nd
  refine ⟨_, pss_cons (ps_asg (pe_tup (pa_cons pe_non (pa_cons pe_non pa_nil))) (pg_tup rfl (pgs_cons (pg_name (i := 1) nd rfl (Or.inl rfl)) (pgs_cons (pg_name (i := 2) nd rfl (Or.inl rfl)) pgs_nil))))
    (pss_cons (WKt.ps_try_keepT (i := 3) (j := 2) (tb := fun W D σ H => ∃ Ech : XK, (∀ cls d σ' H', Ech cls d H' → σ'.length = 4 → W cls d σ' H') ∧ σ[0]? = some (some (.ref f)) ∧ H c' = some (CodeO c' q) ∧ tl Ech H fun v H1 => D.nx (σ.set 1 (some v)) H1)
      rfl rfl rfl nd rfl rfl rfl rfl (@WKt.test2 _ _ _ _ _ _ _ _ _ ⟨by rfl, by decide, .inl T.g_BadScript⟩ ⟨by rfl, by decide, .inl T.g_BadSetting⟩) L2.takes0 (fun W pn xe tk po => ?_) (fun a oe pn => pss_one (ps_set nd rfl (Or.inl rfl) (pv 3))))
    (pss_cons (ps_if (pt_val (pe_callB (CallR.or call_ki call_isi) (by rfl) T.b_isinstance (by decide +kernel) (pa_cons (pv 2) (pa_cons (pe_globR (by rfl) T.g_BadScript) pa_nil))))
        (pss_one (ps_ret (pe_lst (pa_cons (pe_kf (pv 2)) (pa_cons (pe_callB (CallR.or call_ki call_isi) (by rfl) T.b_isinstance (by decide +kernel) (pa_cons (pv 2) (pa_cons (pe_globR (by rfl) T.g_PlanError) pa_nil))) pa_nil)))))
        pss_nil)
    (pss_one (ps_ret (pe_ifExp (pt_cmpR op_isN (pv 2) pe_non (nomark _)) (pv 1) (pe_tup (pa_cons pe_str (pa_cons (pe_kf (pv 2)) pa_nil)))))))), ?_⟩
  · refine ⟨fun pins s' σ H' D I h' => ?_⟩
    obtain ⟨Ech, hW, h1, h2, h3⟩ := h'
    exact (pss_one (ps_set (i := 1) nd rfl (Or.inl rfl) (act _ pn xe Ech _ _ (takes_len tk) (fun cls d σ' H' h l => hW cls d σ' H' h l)))).run pins s' σ H' D I ⟨h1, h2, h3⟩
  · have h0 : TField X.K tl H Q := h
    refine ⟨(by decide : 2 ≤ sizeLine), fun tp htp => ?_⟩
    have s1 : Same H (upd H tp (.tup [.non, .non])) := same_new htp
    refine ⟨tp, _, rfl, .inl (.inl upd_same), rfl, .non, _, rfl, .non, _, rfl, rfl, ?_⟩
    refine ⟨fun cls d H' => FldErr X.K cls d H' Q, fun cls d σ' H' he hl => ?_, rfl, s1 _ _ hc, ?_⟩
    · match σ', hl with
      | [x0, x1, x2, x3], _ =>
        rcases he with ⟨rfl, dx, v, rfl, hd, k⟩ | ⟨rfl, dx, v, rfl, hd, k⟩
        · refine ⟨true, exm2 T.es_BadScript T.ef_BadScript_BadSetting, fun _ => ⟨_, rfl, fun a ha => ?_⟩, fun z => nomatch z⟩
          have hk0 : KXt (upd H' a (WKp.exK a (BX X.K) (some dx))) a (BX X.K) "index" v := ⟨dx, upd_same, by rw [upd_ne (fun z => by rw [z, ha] at hd; cases hd)]; exact hd⟩
          have s2 : Same H' (upd H' a (WKp.exK a (BX X.K) (some dx))) := same_new ha
          generalize upd H' a (WKp.exK a (BX X.K) (some dx)) = H2 at *
          dsimp only
          show tSeq _ _ _ _ _
          refine s_yes (fun H3 s3 Q' q' => ⟨_, rfl, .inl ⟨a, BX X.K, "index", v, .ref (BX X.K), _, _, _, _, true, rfl, mn_kxt s3 hk0, T.x_BadScript, .inl ⟨.ref (BX X.K), fun u r => r, T.vx_BadScript_BadScript⟩, _, rfl, q' _ (Same.refl _)⟩⟩) fun H3 s3 => ?_
          refine ⟨_, rfl, a, BX X.K, v, _, _, _, _, rfl, mn_kxt s3 hk0, T.x_BadScript, T.n_BadScript, _, rfl, .inl ⟨a, BX X.K, "index", v, .ref (He.ga X.K "PlanError"), _, _, _, _, true, rfl, mn_kxt s3 hk0, T.x_BadScript, .inl ⟨.ref (He.ga X.K "PlanError"), fun u r => r, T.vx_BadScript_PlanError⟩, (by decide : 2 ≤ sizeLine), fun l hl => ?_⟩⟩
          exact k _ _ ((s2.trans s3).trans (same_new hl)) upd_same
        · refine ⟨true, exm2 T.ef_BadSetting_BadScript T.es_BadSetting, fun _ => ⟨_, rfl, fun a ha => ?_⟩, fun z => nomatch z⟩
          have hk0 : KXt (upd H' a (WKp.exK a (BS X.K) (some dx))) a (BS X.K) "setting" v := ⟨dx, upd_same, by rw [upd_ne (fun z => by rw [z, ha] at hd; cases hd)]; exact hd⟩
          have s2 : Same H' (upd H' a (WKp.exK a (BS X.K) (some dx))) := same_new ha
          generalize upd H' a (WKp.exK a (BS X.K) (some dx)) = H2 at *
          dsimp only
          show tSeq _ _ _ _ _
          refine s_no (fun H3 s3 Q' q' => ⟨_, rfl, .inl ⟨a, BS X.K, "setting", v, .ref (BX X.K), _, _, _, _, false, rfl, mn_kxt s3 hk0, T.x_BadSetting, .inl ⟨.ref (BX X.K), fun u r => r, T.vx_BadSetting_BadScript⟩, _, rfl, q' _ (Same.refl _)⟩⟩) fun H3 s3 => ?_
          unfold tNext
          dsimp only
          refine ⟨_, rfl, rfl, false, rfl, iteF ⟨_, rfl, a, BS X.K, v, _, _, _, _, rfl, mn_kxt s3 hk0, T.x_BadSetting, T.n_BadSetting, (by decide : 2 ≤ sizeLine), fun t ht => ?_⟩⟩
          exact k _ _ ((s2.trans s3).trans (same_new ht)) upd_same
    · refine h0 _ s1 _ fun v H2 q => ?_
      dsimp only
      show tSeq _ _ _ _ _
      refine s_no (fun H3 s3 Q' q' => ⟨_, rfl, .inr ⟨.non, .ref (BX X.K), .type "NoneType", .ref (BX X.K), false, rfl, .own _, .base .non, T.kn_BadScript, _, rfl, q' _ (Same.refl _)⟩⟩) fun H3 s3 => ?_
      unfold tNext
      dsimp only
      refine ⟨_, rfl, rfl, true, rfl, iteT ⟨_, rfl, q _ s3⟩⟩
end W53

set_option Elab.async false
set_option linter.all false
set_option maxRecDepth 100000
set_option maxHeartbeats 4000000
namespace W53
open PySem PySem.Spec PyProof.Rows L2 WXG WEv WRd WLf WEn WZs WRu WSt StX WDc WPv WEb WXO WXE WKd WGp WKn LamX
/-! ### a wrong script is told -/
abbrev pR (K : PySem.W.Frag) : Addr × Addr := He.cT K ("_law_refused", none)
abbrev pL (K : PySem.W.Frag) : Addr × Addr := He.cT K ("law", none)
def TT (K : PySem.W.Frag) : List (Addr × Str) := [((pR K).2, "_law_refused.<locals>.<lambda>"), ((pL K).2, "law.<locals>.<lambda>")]
section
variable {K : PySem.W.Frag} {L : List (Addr × Str)} {t : XK → TE} {σ : L2.St} {H : Hp} {Q : VK} {y : V}
theorem lam_index (hT : Tabs L H) (hr : ∀ E R H2, ExtN H H2 → Err H2 (BX K) "index" y E → t E σ H2 R) (q : ∀ H3 l, ExtN H H3 → Tabs L H3 → H3 l = some (.lst [y, .bl true]) → Q (.ref l) H3) : tLam L (TField K) t σ H Q :=
  ⟨hT, fun H1 e1 t1 H2 s2 R hR => hr _ _ H2 (e1.trans (ExtN.of s2)) fun d H3 s3 hd hx => Or.inl ⟨rfl, d, y, rfl, hx, fun H4 l s4 hl => q H4 l (e1.trans (ExtN.of (s2.trans (s3.trans s4)))) (t1.ext (s2.trans (s3.trans s4))) hl⟩⟩
theorem lam_setting (hT : Tabs L H) (hr : ∀ E R H2, ExtN H H2 → Err H2 (BS K) "setting" y E → t E σ H2 R) (q : ∀ H3 l, ExtN H H3 → Tabs L H3 → H3 l = some (.tup [.str "setting", y]) → Q (.ref l) H3) : tLam L (TField K) t σ H Q :=
  ⟨hT, fun H1 e1 t1 H2 s2 R hR => hr _ _ H2 (e1.trans (ExtN.of s2)) fun d H3 s3 hd hx => Or.inr ⟨rfl, d, y, rfl, hx, fun H4 l s4 hl => q H4 l (e1.trans (ExtN.of (s2.trans (s3.trans s4)))) (t1.ext (s2.trans (s3.trans s4))) hl⟩⟩
end
theorem shIB (n : Int) : SeqAt.shaped (.list [.int n, .bool true]) = true := by
  simp [SeqAt.shaped, PyData.canLay0, PyData.canLayAll0, PyData.depth, PyData.depthAll]
def spRefused (K : PySem.W.Frag) : Sp := fun vs H Q _ => ∃ (N : Addr → Prop) (mv tv : V) (rs : List Pv) (n : Nat), vs = [mv, tv, .int (n : Int)] ∧ At K N (.tup rs) tv H ∧ okScr (.tup rs) = true ∧ wrongGo 0 [] rs = some n ∧ Tabs (TT K) H ∧ ∀ H', ExtN H H' → Tabs (TT K) H' → Q (.bl true) H'
theorem mem_TT (K : PySem.W.Frag) : ((pR K).2, ("_law_refused.<locals>.<lambda>" : Str)) ∈ TT K := List.mem_cons_self
theorem mem_TT2 (K : PySem.W.Frag) : ((pL K).2, ("law.<locals>.<lambda>" : Str)) ∈ TT K := List.mem_cons_of_mem _ List.mem_cons_self
theorem one_TT {K : PySem.W.Frag} (h : (pR K).2 ≠ (pL K).2) : ∀ p ∈ TT K, p.1 = (pR K).2 → p.2 = ("_law_refused.<locals>.<lambda>" : Str) := fun p hp e => by
  simp only [TT, List.mem_cons, List.not_mem_nil, or_false] at hp
  rcases hp with rfl | rfl
  · rfl
  · exact absurd e.symm h
theorem one_TT2 {K : PySem.W.Frag} (h : (pR K).2 ≠ (pL K).2) : ∀ p ∈ TT K, p.1 = (pL K).2 → p.2 = ("law.<locals>.<lambda>" : Str) := fun p hp e => by
  simp only [TT, List.mem_cons, List.not_mem_nil, or_false] at hp
  rcases hp with rfl | rfl
  · exact absurd e h
  · rfl
section
variable {P : Program} {w : World} {K : PySem.W.Frag} {mg : Str → Option Value} {base : Heap}
theorem ok_refused (T : Env K mg) (B : TabB base mg (pR K).1 (pR K).2) : FnOk P w K mg base CX0 14 (d_L_refused.loc K) T.fd_L_refused ["m", "told", "due"] (spRefused K) := by
  have G_is_script : FnOk P w K mg base CX0 8 _ _ _ _ := ok_is_script T
  have G_wrong_row : FnOk P w K mg base (L2.CX P w) 7 _ _ _ _ := ok_wrong_row T
  have G_mkS_WorkerPlan : FnK P w K mg base (L2.CX P w) 9 _ _ _ := fk_workerS T
  have G_row_for : FnOk P w K mg base (L2.CX P w) 9 _ _ _ _ := ok_row_for T
  have G_words_of : FnOk P w K mg base (L2.CX P w) 9 _ _ _ _ := ok_words_of T
  obtain ⟨oc, od, dV, kV, doc, pm, an, cdv, ct, osl, efd, lk, hcd, _, _⟩ := T.F_L_field.ex
  have hb := T.bi_L_field
  rw [efd] at hb lk
  refine WLm.okC (p := ("_law_refused", none)) T.F_L_refused sc_L_refused (fun vs H Q E h => ?_) (fun A outer s H vs Q E hr h => ?_)
  · obtain ⟨N, mv, tv, rs, n, rfl, _⟩ := h
    rfl
  · have nd := sc_L_refused.nd
    have hu := hu_of hr
    obtain ⟨N, mv, tv, rs, n, rfl, ha, ho, hw, hT, k⟩ := h
    refine ⟨_, PSs.nox (pss_cons (ps_if (PW.pt (pw_or (pt_val (pe_call G_is_script (hr.mono (by decide)) (by rfl) T.g_is_script T.F_is_script.kp T.bi_is_script .nil pass0 (pa_cons (pv 1) pa_nil))) (pw_or1 (pt_cmpR op_ne (pe_call G_wrong_row (hr.mono (by decide)) (by rfl) T.g_wrong_row T.F_wrong_row.kp T.bi_wrong_row .nil passL (pa_cons (pv 1) pa_nil)) (pv 2) (nomark _)))))
        (pss_one (ps_ret pe_bl)) pss_nil)
      (pss_cons (ps_if (pt_cmpR (op_neD hr.units) (pe_lamcall (T := TT K) (k := 10) (by rfl) T.g__law_field T.F_L_field.kp lk hcd hb sc_L_field rfl (Or.inl rfl) (field_gives T) B rfl (mem_TT K) (one_TT T.tabs_ne) (hr.mono (by decide)) (lamS_by (by kernel_rfl)) rfl (fun _ _ _ _ _ => rfl)
            (fun A outer s H E f c' hr2 => pe_mkKF T.mk_WorkerPlan G_mkS_WorkerPlan (hr2.mono (by decide)) (by rfl) T.g_WorkerPlan (WXO.takes_e (E := E) rfl rfl rfl rfl) (pa_cons pe_str pa_nil) (pk_cons (pv 1) pk_nil)))
          (pe_tup (pa_cons pe_str (pa_cons pe_str pa_nil))) (nomark _)) (pss_one (ps_ret pe_bl)) pss_nil)
      (pss_cons (ps_if (pt_cmpR (op_neD hr.units) (pe_lamcall (T := TT K) (k := 10) (by rfl) T.g__law_field T.F_L_field.kp lk hcd hb sc_L_field rfl (Or.inl rfl) (field_gives T) B rfl (mem_TT K) (one_TT T.tabs_ne) (hr.mono (by decide)) (lamS_by (by kernel_rfl)) rfl (fun _ _ _ _ _ => rfl)
            (fun A outer s H E f c' hr2 => pe_call G_words_of (hr2.mono (by decide)) (by rfl) T.g_words_of T.F_words_of.kp T.bi_words_of .nil (WXO.takes_e (E := E) rfl rfl rfl rfl) (pa_cons (pv 1) pa_nil)))
          (pe_lst (pa_cons (pv 2) (pa_cons pe_bl pa_nil))) (nomark _)) (pss_one (ps_ret pe_bl)) pss_nil)
      (pss_one (ps_ret (pe_cmpR (op_eqD hr.units) (pe_lamcall (T := TT K) (k := 10) (by rfl) T.g__law_field T.F_L_field.kp lk hcd hb sc_L_field rfl (Or.inl rfl) (field_gives T) B rfl (mem_TT K) (one_TT T.tabs_ne) (hr.mono (by decide)) (lamS_by (by kernel_rfl)) rfl (fun _ _ _ _ _ => rfl)
            (fun A outer s H E f c' hr2 => pe_call G_row_for (hr2.mono (by decide)) (by rfl) T.g_row_for T.F_row_for.kp T.bi_row_for .nil (WXO.takes_e (E := E) rfl rfl rfl rfl) (pa_cons (pv 1) (pa_cons pe_str (pa_cons pe_str pa_nil)))))
          (pe_lst (pa_cons (pv 2) (pa_cons pe_bl pa_nil))) (nomark _))))))), ?_⟩
    have hns : isScript (.tup rs) = false := by show (wrongGo 0 [] rs).isNone = false; rw [hw]; rfl
    have hdue : dueOf (.tup rs) = .int (n : Int) := by show wrV (wrongGo 0 [] rs) = _; rw [hw]; rfl
    have hfb : firstBad (wRows (.str "w") (.str "permanent") (.int 0) (.int 0) .non (.int 0) (.tup rs)) = some ("script" : Str) := by
      simp only [wRows, firstBad, w_name.1, hns, if_true]
      decide
    dsimp only
    show tSeq _ _ _ _ _
    refine s_no (et_or (a := false) (b := false) (et_val ⟨fun H2 e Q q => ⟨_, rfl, N, .tup rs, _, rfl, at_kn (Kn.same e) _ ha, ho, fun H' s' => q _ H' s' (by rw [hns]; rfl)⟩, mn_i⟩) fun _ => (fun H2 e Q q => ⟨_, rfl, N, .tup rs, _, rfl, at_kn (Kn.same e) _ ha, ho, (fun z => by cases z), fun rs' e' H' s' => by
      cases e'
      rw [hw]
      exact ⟨_, rfl, rfl, _, rfl, by
        rw [decide_eq_true (show wrV (some n) = V.int (n : Int) from rfl)]
        exact q H' s'⟩⟩)) fun H1 s1 => ?_
    unfold tNext
    dsimp only
    have a1 := at_kn (Kn.same s1) _ ha
    show tLam _ _ _ _ _ _
    refine lam_setting (y := .str "script") (hT.ext s1) (fun E R H2 e2 er => ?_) fun H3 l e3 t3 hl => ?_
    · refine ⟨tv, rfl, rfl, fun x dx hx hdx ne => ⟨rfl, ?_⟩⟩
      have sp := same_two (o := .own x) (o' := .ins (CW K) dx []) hx hdx ne
      refine ⟨N, x, dx, .str "w", .str "permanent", .int 0, .int 0, .non, .int 0, .tup rs, _, _, _, _, _, _, tv, rfl, mn_atl _ _ _ sp ⟨_, _, rfl, ⟨rfl, w_name.2⟩, _, _, rfl, ⟨rfl, Nat.le_of_ble_eq_true rfl⟩, _, _, rfl, rfl, _, _, rfl, rfl, _, _, rfl, rfl, _, _, rfl, rfl, _, _, rfl, WLm.at_en e2 _ a1, rfl⟩, ho, upd_same, (fun h => by rw [hfb] at h; cases h), fun f hf => ?_⟩
      rw [hfb] at hf
      cases hf
      exact er.mono sp
    · refine ⟨(by decide : 2 ≤ sizeLine), fun t ht => ?_⟩
      have s4 : Same H3 (upd H3 t (.tup [.str "setting", .str "script"])) := same_new ht
      have hsh := sh2 (a := "setting") (b := "script") (by decide +kernel) (by decide +kernel)
      refine ⟨_, _, .tup (.inl (.inl (s4 _ _ hl))) (.cons (.str _) (.cons (.str _) .nil)), .tup (.inl (.inl upd_same)) (.cons (.str _) (.cons (.str _) .nil)), hsh, hsh, _, rfl, ?_⟩
      rw [SeqAt.eqv_refl _ (SeqAt.canLay_of_shaped hsh)]
      refine iteF ?_
      dsimp only
      have E4 : ExtN H (upd H3 t (.tup [.str "setting", .str "script"])) := (ExtN.of s1).trans (e3.trans (ExtN.of s4))
      have T4 := t3.ext s4
      have shl := shIB n
      generalize upd H3 t (.tup [.str "setting", .str "script"]) = H4 at *
      show tLam _ _ _ _ _ _
      refine lam_index (y := .int (n : Int)) T4 (fun E R H2 e2 er => ?_) fun H5 l5 e5 t5 hl5 => ?_
      · exact ⟨_, rfl, N, .tup rs, _, rfl, WLm.at_en (E4.trans e2) _ ha, ho, (fun _ => by rw [hdue]; exact er), fun rs' e' z => by rw [hns] at z; cases z⟩
      · refine ⟨_, rfl, (by decide : 2 ≤ sizeLine), fun t6 ht6 => ?_⟩
        have s6 := same_new (o := .lst [.int (n : Int), .bl true]) ht6
        refine ⟨_, _, .lst (.of (s6 _ _ hl5)) (.cons (.int _) (.cons (.bl _) .nil)), .lst (.of upd_same) (.cons (.int _) (.cons (.bl _) .nil)), shl, shl, _, rfl, ?_⟩
        rw [SeqAt.eqv_refl _ (SeqAt.canLay_of_shaped shl)]
        refine iteF ?_
        dsimp only
        have E6 := E4.trans (e5.trans (ExtN.of s6))
        have T6 := t5.ext s6
        generalize upd H5 t6 (.lst [.int (n : Int), .bl true]) = H6 at *
        show tLam _ _ _ _ _ _
        refine lam_index (y := .int (n : Int)) T6 (fun E R H2 e2 er => ?_) fun H7 l7 e7 t7 hl7 => ?_
        · exact ⟨_, rfl, N, .tup rs, _, _, _, rfl, WLm.at_en (E6.trans e2) _ ha, ho, (fun _ => by rw [hdue]; exact er), fun z => by rw [hns] at z; cases z⟩
        · refine ⟨_, rfl, (by decide : 2 ≤ sizeLine), fun t8 ht8 => ?_⟩
          have s8 := same_new (o := .lst [.int (n : Int), .bl true]) ht8
          refine ⟨_, _, .lst (.of (s8 _ _ hl7)) (.cons (.int _) (.cons (.bl _) .nil)), .lst (.of upd_same) (.cons (.int _) (.cons (.bl _) .nil)), shl, shl, ?_⟩
          rw [SeqAt.eqv_refl _ (SeqAt.canLay_of_shaped shl)]
          exact k _ (E6.trans (e7.trans (ExtN.of s8))) (t7.ext s8)
end
end W53

set_option Elab.async false
set_option linter.all false
set_option maxRecDepth 100000
set_option maxHeartbeats 1000000
namespace W53
open PySem PySem.Spec PyProof.Rows L2 WXG WEv WRd WLf WEn WZs WRu WSt StX WDc WPv WEb
/-! ### rows: right ones, one wrong, one twice -/
theorem mode_word (i : Nat) : isWord (.str (modeAt i)) = true := by
  unfold modeAt
  split <;> decide +kernel
theorem word_word (i : Nat) : isWord (.str (wordAt i)) = true := by
  unfold wordAt
  split
  · decide +kernel
  · split
    · decide +kernel
    · split <;> decide +kernel
theorem deeds_of {d : Pv} (h : cDeeds d = true) : ∃ ds, d = .tup ds ∧ ds.length ≤ 8 ∧ ds.all cDeed = true := by
  cases d <;> first | cases h | skip
  rename_i ds
  obtain ⟨h1, h2⟩ := He.ba (show (decide (ds.length ≤ 8) && ds.all cDeed) = true from h)
  exact ⟨ds, rfl, of_decide_eq_true h1, h2⟩
theorem row_at {i : Nat} {p : Pv} (h : okRowAt i p = true) : isRow p = true ∧ okRow p = true ∧ keyOf p = (modeAt i, wordAt i) ∧ ∃ wa wb wc ds, p = .tup [wa, wb, wc, .tup ds] ∧ ds.length ≤ 8 ∧ ds.all cDeed = true := by
  unfold okRowAt at h
  split at h
  · rename_i a b w ds
    obtain ⟨h1, h⟩ := He.ba h
    obtain ⟨h2, h⟩ := He.ba h
    obtain ⟨h3, h4⟩ := He.ba h
    obtain rfl := eqS_of h1
    obtain rfl := eqS_of h2
    obtain ⟨ds, rfl, h5, h6⟩ := deeds_of h4
    have h7 : ds.all isDeed = true := List.all_eq_true.mpr fun d hd => (He.ba (show (isDeed d && okDeed d) = true from List.all_eq_true.mp h6 d hd)).1
    have h8 : ds.all okDeed = true := List.all_eq_true.mpr fun d hd => (He.ba (show (isDeed d && okDeed d) = true from List.all_eq_true.mp h6 d hd)).2
    refine ⟨?_, ?_, rfl, _, _, _, ds, rfl, h5, h6⟩
    · rw [isRow_eq, mode_word, word_word, show isBetween 1 1000 w = true from h3]
      show (decide (ds.length ≤ 8) && ds.all isDeed) = true
      rw [h7, decide_eq_true h5]
      rfl
    · show (decide (ds.length ≤ 100) && ds.all okDeed) = true
      rw [h8, decide_eq_true (by omega)]
      rfl
  · cases h
theorem good_keys {rs : List Pv} (h : Good rs) : rs.map WPv.keyOf = (List.range rs.length).map fun i => (modeAt i, wordAt i) := by
  refine List.ext_getElem? fun i => ?_
  rw [List.getElem?_map, List.getElem?_map]
  by_cases hi : i < rs.length
  · rw [List.getElem?_range hi, List.getElem?_eq_getElem hi]
    exact congrArg some (row_at (h.2 i _ (List.getElem?_eq_getElem hi))).2.2.1
  · rw [List.getElem?_eq_none (by omega), List.getElem?_eq_none (by rw [List.length_range]; omega)]
    rfl
theorem nodup6 : ∀ n : Fin 7, ((List.range n.val).map fun i => (modeAt i, wordAt i)).Nodup := by decide +kernel
theorem good_nodup {rs : List Pv} (h : Good rs) : (rs.map WPv.keyOf).Nodup := by
  rw [good_keys h]
  exact nodup6 ⟨rs.length, by have := h.1; omega⟩
theorem good_row {rs : List Pv} (h : Good rs) : rs.all isRow = true ∧ rs.all okRow = true := by
  refine ⟨List.all_eq_true.mpr fun r hr => ?_, List.all_eq_true.mpr fun r hr => ?_⟩
  · obtain ⟨i, hi⟩ := List.mem_iff_getElem?.mp hr
    exact (row_at (h.2 i r hi)).1
  · obtain ⟨i, hi⟩ := List.mem_iff_getElem?.mp hr
    exact (row_at (h.2 i r hi)).2.1
theorem wrongGo_app : ∀ (rs : List Pv) (i : Nat) (kn : List (Str × Str)) (rest : List Pv), i + rs.length ≤ 30 → rs.all isRow = true → (kn ++ rs.map WPv.keyOf).Nodup → wrongGo i kn (rs ++ rest) = wrongGo (i + rs.length) (kn ++ rs.map WPv.keyOf) rest
  | [], i, kn, rest, _, _, _ => by simp
  | r :: rs, i, kn, rest, hl, hr, hn => by
    rw [List.length_cons] at hl
    rw [List.all_cons] at hr
    obtain ⟨h1, h2⟩ := He.ba hr
    have hk : WPv.keyOf r ∉ kn := fun z => by
      rw [List.map_cons] at hn
      exact (List.nodup_append.mp hn).2.2 _ z _ List.mem_cons_self rfl
    show wrongGo i kn (r :: (rs ++ rest)) = _
    rw [wrongGo, if_neg (by rw [h1, decide_eq_false (show ¬ 30 ≤ i by omega), decide_eq_false hk]; simp)]
    rw [wrongGo_app rs (i + 1) (kn ++ [WPv.keyOf r]) rest (by omega) h2 (by rw [List.append_assoc]; exact hn), List.length_cons, List.map_cons, List.append_assoc]
    rw [show i + 1 + rs.length = i + (rs.length + 1) by omega]
    rfl
theorem good_script {rs : List Pv} (h : Good rs) : isScript (.tup rs) = true ∧ okScr (.tup rs) = true := by
  refine ⟨?_, (good_row h).2⟩
  show (wrongGo 0 [] rs).isNone = true
  have h6 := h.1
  have e := wrongGo_app rs 0 [] [] (by omega) (good_row h).1 (good_nodup h)
  rw [List.append_nil] at e
  rw [e]
  rfl
theorem wrong_at {rs : List Pv} {at_ : Nat} {q : Pv} (h : Good rs) (ha : at_ < rs.length) (hq : isRow q = false) (ho : okRow q = true) : wrongGo 0 [] (rs.take at_ ++ [q] ++ rs.drop (at_ + 1)) = some at_ ∧ okScr (.tup (rs.take at_ ++ [q] ++ rs.drop (at_ + 1))) = true := by
  have h6 := h.1
  have hlt : (rs.take at_).length = at_ := by rw [List.length_take]; omega
  constructor
  · rw [List.append_assoc, wrongGo_app (rs.take at_) 0 [] _ (by omega) (List.all_eq_true.mpr fun r hr => List.all_eq_true.mp (good_row h).1 r (List.mem_of_mem_take hr)) (by
      rw [List.nil_append, List.map_take]
      exact (List.take_sublist _ _).nodup (good_nodup h)), hlt, Nat.zero_add]
    show wrongGo at_ _ (q :: _) = _
    rw [wrongGo, if_pos (by rw [hq]; simp)]
  · show (rs.take at_ ++ [q] ++ rs.drop (at_ + 1)).all okRow = true
    rw [List.all_append, List.all_append]
    rw [List.all_eq_true.mpr fun r hr => List.all_eq_true.mp (good_row h).2 r (List.mem_of_mem_take hr), List.all_eq_true.mpr fun r hr => List.all_eq_true.mp (good_row h).2 r (List.mem_of_mem_drop hr)]
    simp [ho]
theorem late_at {rs : List Pv} {at_ : Nat} {q : Pv} (h : Good rs) (hq : rs[at_]? = some q) : wrongGo 0 [] (rs ++ [q]) = some rs.length ∧ okScr (.tup (rs ++ [q])) = true := by
  have h6 := h.1
  have hm := List.mem_of_getElem? hq
  constructor
  · rw [wrongGo_app rs 0 [] _ (by omega) (good_row h).1 (good_nodup h), Nat.zero_add, List.nil_append, wrongGo, if_pos (by
      rw [decide_eq_true (show WPv.keyOf q ∈ rs.map WPv.keyOf from List.mem_map_of_mem hm)]
      simp)]
  · show (rs ++ [q]).all okRow = true
    rw [List.all_append, (good_row h).2]
    simp [List.all_eq_true.mp (good_row h).2 q hm]
def fullRow (k : Nat) : Pv := .tup [.str "first", .str ("w" ++ (toString ((0 : Int) + (k : Nat)) : Str)), .int 1, .tup []]
def fullRows : List Pv := (List.range 31).map fullRow
theorem full_ok : isScript (.tup (fullRows.take 30)) = true ∧ okScr (.tup (fullRows.take 30)) = true ∧ wrongGo 0 [] fullRows = some 30 ∧ okScr (.tup fullRows) = true ∧ wrongGo 0 [] (.int 7 :: fullRows) = some 0 ∧ okScr (.tup (.int 7 :: fullRows)) = true := by decide +kernel
theorem cut_take (xs : List V) (k : Nat) : cutV xs none (some (k : Int)) = xs.take k := by
  unfold cutV
  rw [HT.sIx_none, HT.sIx_nat, List.drop_zero, Nat.sub_zero]
  rcases Nat.le_total k xs.length with h | h
  · rw [Nat.min_eq_left h]
  · rw [Nat.min_eq_right h, List.take_length, List.take_of_length_le h]
theorem cut_drop (xs : List V) (k : Nat) : cutV xs (some (k : Int)) none = xs.drop k := by
  unfold cutV
  rw [HT.sIx_none, HT.sIx_nat]
  rcases Nat.le_total k xs.length with h | h
  · rw [Nat.min_eq_left h, List.take_of_length_le (by rw [List.length_drop]; exact Nat.le_refl _)]
  · rw [Nat.min_eq_right h, List.drop_eq_nil_of_le (Nat.le_refl _), List.drop_eq_nil_of_le h, List.take_nil]
theorem atl_take {K : PySem.W.Frag} {N : Addr → Prop} {H : Hp} : ∀ {l : List Pv} {xs : List V} (k : Nat), AtL K N l xs H → AtL K N (l.take k) (xs.take k) H
  | _, _, 0, _ => by rw [List.take_zero, List.take_zero]; exact rfl
  | [], xs, k + 1, h => by
    have e : xs = [] := h
    rw [e]
    exact rfl
  | p :: l, _, k + 1, ⟨y, ys, e, h, h2⟩ => by
    rw [e]
    exact ⟨y, ys.take k, rfl, h, atl_take k h2⟩
theorem atl_drop {K : PySem.W.Frag} {N : Addr → Prop} {H : Hp} : ∀ {l : List Pv} {xs : List V} (k : Nat), AtL K N l xs H → AtL K N (l.drop k) (xs.drop k) H
  | _, _, 0, h => by rw [List.drop_zero, List.drop_zero]; exact h
  | [], xs, k + 1, h => by
    have e : xs = [] := h
    rw [e]
    exact rfl
  | p :: l, _, k + 1, ⟨y, ys, e, h, h2⟩ => by
    rw [e]
    exact atl_drop k h2
end W53

set_option Elab.async false
set_option linter.all false
set_option maxRecDepth 100000
set_option maxHeartbeats 4000000
namespace W53
open PySem PySem.Spec PyProof.Rows L2 WXG WEv WRd WLf WEn WZs WRu WSt StX WDc WPv WEb WXO WXE WKd WGp WKn LamX
/-! ### the law -/
theorem st_tSeq {A B : TS} {D : Ends} {σ : L2.St} {H : Hp} (h : A { D with nx := B D } σ H) : tSeq A B D σ H := h
theorem src_en {K : PySem.W.Frag} {S : Addr × List Int} {m : Addr} {a c : Nat} {H H' : Hp} (h : SrcAt K S H m a c) (e : ExtN H H') : SrcAt K S H' m a c := by
  obtain ⟨s, cs, k, l, hm, hs, r⟩ := h
  exact ⟨s, cs, k, l, e _ _ hm (fun _ z => nomatch z), WLm.sql_en e hs, r⟩
theorem tabs_but {K : PySem.W.Frag} {S : Addr × List Int} {m : Addr} {a c : Nat} {L : List (Addr × Str)} {H H' : Hp} (h : SrcAt K S H m a c) (t : Tabs L H) (b : But m H H') : Tabs L H' := WLm.tabs_kp t fun x o e hb => b x o e fun z => by
  obtain ⟨s, cs, k, l, hm, _⟩ := h
  rw [z, hm] at e
  cases e
  rcases hb with ⟨_, z⟩ | ⟨_, z⟩ <;> cases z
/-- the rows of this turn -/
structure LSt (K : PySem.W.Frag) (S : Addr × List Int) (m l : Addr) (rs : List Pv) (xs : List V) (a : Nat) (H : Hp) : Prop where
  src : SrcAt K S H m a 0
  tabs : Tabs (TT K) H
  lst : H l = some (.lst xs)
  ne : l ≠ m
  at_ : AtL K (NM m) rs xs H
theorem LSt.but {K : PySem.W.Frag} {S : Addr × List Int} {m l : Addr} {rs : List Pv} {xs : List V} {a a' : Nat} {H H' : Hp} (h : LSt K S m l rs xs a H) (b : But m H H') (s : SrcAt K S H' m a' 0) : LSt K S m l rs xs a' H' :=
  ⟨s, tabs_but h.src h.tabs b, b _ _ h.lst h.ne, h.ne, atl_kn (kn_but h.src b) _ h.at_⟩
theorem LSt.en {K : PySem.W.Frag} {S : Addr × List Int} {m l : Addr} {rs : List Pv} {xs : List V} {a : Nat} {H H' : Hp} (h : LSt K S m l rs xs a H) (e : ExtN H H') (t : Tabs (TT K) H') : LSt K S m l rs xs a H' :=
  ⟨src_en h.src e, t, e _ _ h.lst (fun _ z => nomatch z), h.ne, WLm.atl_en e _ h.at_⟩
theorem LSt.same {K : PySem.W.Frag} {S : Addr × List Int} {m l : Addr} {rs : List Pv} {xs : List V} {a : Nat} {H H' : Hp} (h : LSt K S m l rs xs a H) (s : Same H H') : LSt K S m l rs xs a H' := h.en (ExtN.of s) (h.tabs.ext s)
theorem fa_is {H : Hp} : ∀ ys : List V, Fa (ys.map Is) ys H
  | [] => trivial
  | y :: ys => ⟨rfl, fa_is ys⟩
theorem et_cast {tt : L2.TT} {σ : L2.St} {H : Hp} {b c : Bool} (h : EvT tt σ H b) (e : b = c) : EvT tt σ H c := e ▸ h
theorem full_len : ∀ k : Fin 31, (("w" ++ (toString ((0 : Int) + (k.val : Nat)) : Str) : Str)).length ≤ 20 := by decide +kernel
theorem full_len1 : ∀ k : Fin 31, Str.length "w" + Str.length (toString ((0 : Int) + (k.val : Nat)) : Str) ≤ 20 := by decide +kernel
theorem full_log : ∀ k : Fin 31, ((0 : Int) + (k.val : Nat)).natAbs.log2 < 1920 := by decide +kernel
def spLaw (K : PySem.W.Frag) : Sp := fun vs H Q _ => ∃ (a : Addr) (ns : List Int), vs = [.ref a] ∧ SqL K H a (ns.map V.int) ∧ ns.length ≤ 63 ∧ H (pR K).2 = some (.tbl #[]) ∧ H (pL K).2 = some (.tbl #[]) ∧ ∀ H', Q (.bl true) H'
section
variable {P : Program} {w : World} {K : PySem.W.Frag} {mg : Str → Option Value} {base : Heap}
theorem ok_law (T : Env K mg) (B : TabB base mg (pR K).1 (pR K).2) (B2 : TabB base mg (pL K).1 (pL K).2) : FnOk P w K mg base CX0 17 (d_law.loc K) T.fd_law ["cells"] (spLaw K) := by
  obtain ⟨oc, od, dV, kV, doc, pm, an, cdv, ct, osl, efd, lk, hcd, _, _⟩ := T.F_L_field.ex
  have hb := T.bi_L_field
  rw [efd] at hb lk
  refine WLm.okC (p := ("law", none)) T.F_law sc_law (fun vs H Q E h => ?_) (fun A outer s H vs Q E hr h => ?_)
  · obtain ⟨a, ns, rfl, _⟩ := h
    rfl
  · have nd := sc_law.nd
    have hu := hu_of hr
    obtain ⟨a, ns, rfl, hS, hl, t1, t2, k⟩ := h
    have G_L_begun : FnOk P w K mg base CX0 1 _ _ _ _ := ok_begun (S := (a, ns)) T
    have G_L_next : FnOk P w K mg base CX0 1 _ _ _ _ := ok_next (S := (a, ns)) T
    have G_L_of : FnOk P w K mg base CX0 2 _ _ _ _ := ok_of (S := (a, ns)) T
    have G_L_good_rows : FnOk P w K mg base CX0 13 _ _ _ _ := ok_good_rows (S := (a, ns)) T
    have G_L_right : FnOk P w K mg base CX0 12 _ _ _ _ := ok_right T
    have G_L_wrong_deed : FnOk P w K mg base CX0 12 _ _ _ _ := ok_wrong_deed (S := (a, ns)) T
    have G_L_wrong_row : FnOk P w K mg base CX0 13 _ _ _ _ := ok_wrong_row_drawn (S := (a, ns)) T
    have G_L_refused : FnOk P w K mg base CX0 14 _ _ _ _ := ok_refused T B
    have G_is_deed : FnOk P w K mg base CX0 5 _ _ _ _ := ok_is_deed T
    have G_is_script : FnOk P w K mg base CX0 8 _ _ _ _ := ok_is_script T
    have G_wrong_row : FnOk P w K mg base (L2.CX P w) 7 _ _ _ _ := ok_wrong_row T
    have G_words_of : FnOk P w K mg base (L2.CX P w) 9 _ _ _ _ := ok_words_of T
    refine ⟨_, PSs.nox (pss_cons (ps_set (i := 1) nd rfl (Or.inl rfl) (pe_call G_L_begun (hr.mono (by decide)) (by rfl) T.g__law_begun T.F_L_begun.kp T.bi_L_begun .nil pass0 (pa_cons (pv 0) pa_nil)))
 (pss_cons (ps_for PassesOwn.never rfl (pi_range1 (by rfl) T.b_range (pa_cons (pe_op op_add pe_int (pe_callB (call_min2 rfl) (by rfl) T.b_min (by decide +kernel) (pa_cons pe_int (pa_cons (pe_callB call_len_seq (by rfl) T.b_len (by decide +kernel) (pa_cons (pv 0) pa_nil)) pa_nil)))) pa_nil)) (pg_name (i := 2) nd rfl (Or.inl rfl))
  (pss_cons (ps_set (i := 3) nd rfl (Or.inl rfl) (pe_call G_L_good_rows (hr.mono (by decide)) (by rfl) T.g__law_good_rows T.F_L_good_rows.kp T.bi_L_good_rows .nil pass0 (pa_cons (pv 1) (pa_cons (pe_lst (pa_cons pe_str (pa_cons pe_str (pa_cons pe_str (pa_cons pe_str (pa_cons pe_str (pa_cons (pe_op op_mulS pe_str pe_int) pa_nil))))))) pa_nil))))
 (pss_cons (ps_if (PW.pt (pw_or (pt_not (pt_val (pe_call G_L_right (hr.mono (by decide)) (by rfl) T.g__law_right T.F_L_right.kp T.bi_L_right .nil pass0 (pa_cons (pv 1) (pa_cons (pv 3) pa_nil))))) (pw_or1 (pt_val (pe_call G_is_deed (hr.mono (by decide)) (by rfl) T.g_is_deed T.F_is_deed.kp T.bi_is_deed .nil pass0 (pa_cons (pe_call G_L_wrong_deed (hr.mono (by decide)) (by rfl) T.g__law_wrong_deed T.F_L_wrong_deed.kp T.bi_L_wrong_deed .nil pass0 (pa_cons (pv 1) pa_nil)) pa_nil))))))
  (pss_one (ps_ret pe_bl))
  pss_nil)
 (pss_one (ps_if (pt_cmpR (op_neN hr.units) (pv 3) (pe_lst pa_nil) (nomark _))
  (pss_cons (ps_set (i := 4) nd rfl (Or.inl rfl) (pe_call G_L_next (hr.mono (by decide)) (by rfl) T.g__law_next T.F_L_next.kp T.bi_L_next .nil pass0 (pa_cons (pv 1) (pa_cons (pe_callB call_len_seq (by rfl) T.b_len (by decide +kernel) (pa_cons (pv 3) pa_nil)) pa_nil))))
 (pss_cons (ps_set (i := 5) nd rfl (Or.inl rfl) (pe_op op_cat (pe_op op_cat (pe_slice sl_list (pv 3) po_none (po_some (pv 4))) (pe_lst (pa_cons (pe_call G_L_wrong_row (hr.mono (by decide)) (by rfl) T.g__law_wrong_row T.F_L_wrong_row.kp T.bi_L_wrong_row .nil pass0 (pa_cons (pv 1) (pa_cons (pe_ix (ixlK (K := K)) (pv 3) (pv 4) (fun _ _ => rfl)) pa_nil))) pa_nil))) (pe_slice sl_list (pv 3) (po_some (pe_op op_add (pv 4) pe_int)) po_none)))
 (pss_cons (ps_set (i := 6) nd rfl (Or.inl rfl) (pe_op op_cat (pv 3) (pe_lst (pa_cons (pe_ix (ixlK (K := K)) (pv 3) (pv 4) (fun _ _ => rfl)) pa_nil))))
 (pss_one (ps_if (PW.pt (pw_or (pt_not (pt_val (pe_call G_L_refused (hr.mono (by decide)) (by rfl) T.g__law_refused T.F_L_refused.kp T.bi_L_refused .nil pass0 (pa_cons (pv 1) (pa_cons (pe_callTy call_tuple_of (by rfl) T.b_tuple (by decide +kernel) (pa_cons (pv 5) pa_nil)) (pa_cons (pv 4) pa_nil)))))) (pw_or1 (pt_not (pt_val (pe_call G_L_refused (hr.mono (by decide)) (by rfl) T.g__law_refused T.F_L_refused.kp T.bi_L_refused .nil pass0 (pa_cons (pv 1) (pa_cons (pe_callTy call_tuple_of (by rfl) T.b_tuple (by decide +kernel) (pa_cons (pv 6) pa_nil)) (pa_cons (pe_callB call_len_seq (by rfl) T.b_len (by decide +kernel) (pa_cons (pv 3) pa_nil)) pa_nil)))))))))
  (pss_one (ps_ret pe_bl))
  pss_nil)))))
  pss_nil)))))
 (pss_cons (ps_setLc (i := 7) (own := [("k", 8)]) (by rfl) nd rfl rfl (sw_true rfl rfl rfl (by decide +kernel)) (pi_range1 (by rfl) T.b_range (pa_cons pe_int pa_nil)) (blkOk_by (N := ["cells", "m", "turn", "rows", "at", "wrong", "late", "full", "k", "odd"]) (sc := defScope s_law) (by decide +kernel)) (fun _ _ _ _ _ => (pg_name (i := 8) nd rfl (Or.inl rfl))) (fun _ _ _ _ _ => pts_nil) (fun _ _ _ _ _ => (pe_tup (pa_cons pe_str (pa_cons (pe_op op_add_str pe_str (pe_callTy call_str_int (by rfl) T.b_str (by decide +kernel) (pa_cons (pv 8) pa_nil))) (pa_cons pe_int (pa_cons (pe_tup pa_nil) pa_nil)))))))
 (pss_cons (ps_if (PW.pt (pw_or (pt_not (pt_val (pe_call G_L_right (hr.mono (by decide)) (by rfl) T.g__law_right T.F_L_right.kp T.bi_L_right .nil pass0 (pa_cons (pv 1) (pa_cons (pe_slice sl_list (pv 7) po_none (po_some pe_int)) pa_nil))))) (pw_or1 (pt_not (pt_val (pe_call G_L_refused (hr.mono (by decide)) (by rfl) T.g__law_refused T.F_L_refused.kp T.bi_L_refused .nil pass0 (pa_cons (pv 1) (pa_cons (pe_callTy call_tuple_of (by rfl) T.b_tuple (by decide +kernel) (pa_cons (pv 7) pa_nil)) (pa_cons pe_int pa_nil)))))))))
  (pss_one (ps_ret pe_bl))
  pss_nil)
 (pss_cons (ps_if (pt_not (pt_val (pe_call G_L_refused (hr.mono (by decide)) (by rfl) T.g__law_refused T.F_L_refused.kp T.bi_L_refused .nil pass0 (pa_cons (pv 1) (pa_cons (pe_op op_catA (pe_tup (pa_cons pe_int pa_nil)) (pe_callTy call_tuple_of (by rfl) T.b_tuple (by decide +kernel) (pa_cons (pv 7) pa_nil))) (pa_cons pe_int pa_nil))))))
  (pss_one (ps_ret pe_bl))
  pss_nil)
 (pss_cons (ps_set (i := 9) nd rfl (Or.inr rfl) (pe_call G_L_of (hr.mono (by decide)) (by rfl) T.g__law_of T.F_L_of.kp T.bi_L_of .nil pass0 (pa_cons (pv 1) (pa_cons (pe_lst (pa_cons pe_non (pa_cons (pe_lst pa_nil) (pa_cons pe_str (pa_cons pe_int (pa_cons pe_dnewK pa_nil)))))) pa_nil))))
 (pss_cons (ps_if (PW.pt (pw_or (pt_val (pe_call G_is_script (hr.mono (by decide)) (by rfl) T.g_is_script T.F_is_script.kp T.bi_is_script .nil pass0 (pa_cons (pv 9) pa_nil))) (pw_or1 (pt_cmpR (op_neD hr.units) (pe_lamcall (T := TT K) (k := 10) (by rfl) T.g__law_field T.F_L_field.kp lk hcd hb sc_L_field rfl (Or.inl rfl) (field_gives T) B2 rfl (mem_TT2 K) (one_TT2 T.tabs_ne) (hr.mono (by decide)) (lamS_by (by kernel_rfl)) rfl (fun _ _ _ _ _ => rfl)
   (fun A outer s H E f c' hr2 => (pe_call G_wrong_row (hr2.mono (by decide)) (by rfl) T.g_wrong_row T.F_wrong_row.kp T.bi_wrong_row .nil (WXO.takes_e (E := E) rfl rfl rfl rfl) (pa_cons (pv 9) pa_nil)))) (pe_lst (pa_cons pe_non (pa_cons pe_bl pa_nil))) (nomark _)))))
  (pss_one (ps_ret pe_bl))
  pss_nil)
 (pss_cons (ps_if (pt_cmpR (op_neD hr.units) (pe_lamcall (T := TT K) (k := 10) (by rfl) T.g__law_field T.F_L_field.kp lk hcd hb sc_L_field rfl (Or.inl rfl) (field_gives T) B2 rfl (mem_TT2 K) (one_TT2 T.tabs_ne) (hr.mono (by decide)) (lamS_by (by kernel_rfl)) rfl (fun _ _ _ _ _ => rfl)
   (fun A outer s H E f c' hr2 => (pe_call G_words_of (hr2.mono (by decide)) (by rfl) T.g_words_of T.F_words_of.kp T.bi_words_of .nil (WXO.takes_e (E := E) rfl rfl rfl rfl) (pa_cons (pv 9) pa_nil)))) (pe_lst (pa_cons pe_non (pa_cons pe_bl pa_nil))) (nomark _))
  (pss_one (ps_ret pe_bl))
  pss_nil)
 (pss_one (ps_ret (pe_and (pe_cmpR (op_eqD hr.units) (pe_tup (pa_cons (C8.pe_gc (by rfl) T.c_MOST_ROWS) (pa_cons (C8.pe_gc (by rfl) T.c_MOST_DEEDS) (pa_cons (C8.pe_gc (by rfl) T.c_MOST_WAITING) pa_nil)))) (pe_tup (pa_cons pe_int (pa_cons pe_int (pa_cons pe_int pa_nil)))) (nomark _)) (pe_and (pe_call G_is_script (hr.mono (by decide)) (by rfl) T.g_is_script T.F_is_script.kp T.bi_is_script .nil pass0 (pa_cons (pe_tup pa_nil) pa_nil)) (pe_one (pe_cmpR (op_eqD hr.units) (pe_call G_words_of (hr.mono (by decide)) (by rfl) T.g_words_of T.F_words_of.kp T.bi_words_of .nil passL (pa_cons (pe_tup pa_nil) pa_nil)) (pe_tup pa_nil) (nomark _))))))))))))))), ?_⟩
    have T0 : Tabs (TT K) H := fun p hp => by
      simp only [TT, List.mem_cons, List.not_mem_nil, or_false] at hp
      rcases hp with rfl | rfl
      · exact TabS.nil t1
      · exact TabS.nil t2
    -- m = _law_begun(cells)
    refine st_tSeq ⟨_, rfl, rfl, hS, by show ns.length ≤ 1000; omega, fun m H1 hm0 s1 hsrc => ?_⟩
    dsimp only
    show tSeq _ _ _ _ _
    refine st_tSeq ?_
    have hlen : ((ns.map V.int).length : Int) = (ns.length : Int) := by rw [List.length_map]
    have hb7 : (3 : Int) + (if ((ns.map V.int).length : Int) < 7 then ((ns.map V.int).length : Int) else 7) ≤ 10 := by split <;> omega
    have hb0 : (0 : Int) ≤ 3 + (if ((ns.map V.int).length : Int) < 7 then ((ns.map V.int).length : Int) else 7) := by split <;> omega
    refine ⟨_, rfl, a, _, rfl, .inl (hS.ext s1), _, _, rfl, _, _, rfl, rfl, _, rfl, by omega, by omega, ?_⟩
    generalize (3 : Int) + (if ((ns.map V.int).length : Int) < 7 then ((ns.map V.int).length : Int) else 7) = many at hb7 hb0 ⊢
    refine for_range (fun i σ H' => ∃ x2 x3 x4 x5 x6 x7 x8 x9 : Option V, σ = [some (.ref a), some (.ref m), x2, x3, x4, x5, x6, x7, x8, x9] ∧ SrcAt K (a, ns) H' m (500 * i) 0 ∧ Tabs (TT K) H')
      ⟨none, none, none, none, none, none, none, none, rfl, hsrc, T0.ext s1⟩ (fun i σ H2 hi ⟨x2, x3, x4, x5, x6, x7, x8, x9, hσ, s2, T2⟩ => ?_) (fun σ H2 ⟨x2, x3, x4, x5, x6, x7, x8, x9, hσ, s2, T2⟩ => ?_)
    · subst hσ
      have hi16 : i < 10 := by omega
      -- rows = ..
      refine st_tSeq ⟨_, rfl, "x", 20, rfl, rfl, by decide, by decide, (by decide : 6 ≤ sizeLine), fun lt hlt => ?_⟩
      have s2' := s2.new (x := .lst [.str "a", .str "own", .str "sender", .str "about", .str "r", .str (repS "x" 20)]) hlt
      have T2' := T2.ext (same_new (o := .lst [.str "a", .str "own", .str "sender", .str "about", .str "r", .str (repS "x" 20)]) hlt)
      refine ⟨m, lt, 500 * i, 0, rfl, ⟨lt, _, rfl, upd_same, s2.ne hlt, rfl, fun x hx => ?_⟩, s2', by omega, fun l H3 hl3 b3 s3 hrows => ?_⟩
      · simp only [List.mem_cons, List.not_mem_nil, or_false] at hx
        rcases hx with rfl | rfl | rfl | rfl | rfl | rfl
        · exact ⟨.str _, ⟨rfl, Nat.le_of_ble_eq_true rfl⟩, by decide +kernel⟩
        · exact ⟨.str _, ⟨rfl, Nat.le_of_ble_eq_true rfl⟩, by decide +kernel⟩
        · exact ⟨.str _, ⟨rfl, Nat.le_of_ble_eq_true rfl⟩, by decide +kernel⟩
        · exact ⟨.str _, ⟨rfl, Nat.le_of_ble_eq_true rfl⟩, by decide +kernel⟩
        · exact ⟨.str _, ⟨rfl, Nat.le_of_ble_eq_true rfl⟩, by decide +kernel⟩
        · exact ⟨.str _, ⟨rfl, Nat.le_of_ble_eq_true rfl⟩, by decide +kernel⟩
      obtain ⟨rs, xs, hlx, hlm, hax, hg⟩ := hrows
      have L3 : LSt K (a, ns) m l rs xs (500 * i + 400) H3 := ⟨s3, tabs_but s2' T2' b3, hlx, hlm, hax⟩
      clear b3 s3 hlx hax
      have h6 := hg.1
      have hxl := L3.at_.len
      -- right, a wrong deed
      dsimp only
      show tSeq _ _ _ _ _
      refine st_tSeq ⟨_, rfl, _, rfl, NM m, .ref m, l, rs, xs, rfl, L3.lst, L3.at_, (good_script hg).1, (good_script hg).2, fun H4 s4 => ⟨true, rfl, iteF ?_⟩⟩
      have L4 := L3.same s4
      refine ⟨_, rfl, m, 500 * i + 400, 0, rfl, L4.src, by omega, fun v H5 p b5 s5 hp hnd hok => ⟨N0 H4, p, v, rfl, hp, hok, fun H6 s6 => ⟨isDeed p, rfl, ?_⟩⟩⟩
      rw [hnd]
      refine iteF ?_
      have L6 := (L4.but b5 s5).same s6
      clear L3 L4 hp b5 s5 s6 s4
      try unfold tNext
      dsimp only
      -- if rows != []
      have en : ∀ σ : L2.St, σ[3]? = some (some (.ref l)) → EvT (tTest (tOp (rNeN K) (tVar 3) (tLst tNil))) σ H6 (!decide (xs = [])) := fun σ h => WCf.et_neN (xs := xs) (g_varP h ⟨l, xs, rfl, L6.lst, fa_is xs⟩ (mn_lf mn_is))
      by_cases he : xs = []
      · refine s_no (et_cast (en _ rfl) (by rw [decide_eq_true he]; rfl)) fun H7 s7 => ?_
        have L7 := L6.same s7
        exact ⟨_, _, _, _, _, _, _, _, rfl, L7.src.mono (by omega), L7.tabs⟩
      · refine s_yes (et_cast (en _ rfl) (by rw [decide_eq_false he]; rfl)) fun H7 s7 => ?_
        have L7 := L6.same s7
        clear L6 en s7
        have hpos : 0 < xs.length := List.length_pos_iff.mpr he
        -- at = ..
        refine st_tSeq ⟨_, rfl, _, rfl, l, _, rfl, .inl (.of L7.lst), m, _, 500 * i + 401, 0, rfl, by omega, by omega, L7.src, by omega, fun r H8 r0 r1 b8 s8 => ?_⟩
        obtain ⟨at_, rfl⟩ := Int.eq_ofNat_of_zero_le r0
        have ha : at_ < xs.length := by omega
        have L8 := L7.but b8 s8
        clear L7 b8 s8
        obtain ⟨r, hr, px⟩ := L8.at_.get2 (List.getElem?_eq_getElem ha)
        obtain ⟨hr1, hr2, _, wa, wb, wc, ds, rfl, hd8, hdc⟩ := row_at (hg.2 _ _ hr)
        -- wrong = ..
        dsimp only
        show tSeq _ _ _ _ _
        refine st_tSeq (st_any (i := 5) (R := fun v H9 => ∃ t zs q, v = .ref t ∧ H9 t = some (.lst zs) ∧ AtL K (N0 H8) (rs.take at_ ++ [q] ++ rs.drop (at_ + 1)) zs H9 ∧ isRow q = false ∧ okRow q = true ∧ LSt K (a, ns) m l rs xs (500 * i + 404) H9) (fun Q' q' => ?_) fun v H9 ⟨t, zs, q, ev, ht, hz, hq1, hq2, L9⟩ => ?_)
        · refine ⟨_, rfl, _, rfl, _, rfl, l, xs, rfl, .of L8.lst, fun p1 hp1 => ?_⟩
          rw [cut_take]
          have e1 : upd H8 p1 (.lst (xs.take at_)) p1 = some (.lst (xs.take at_)) := upd_same
          have n1 := L8.src.ne hp1
          have L9 := L8.same (same_new (o := .lst (xs.take at_)) hp1)
          have px9 := at_kn (Kn.same (N := NM m) (same_new (o := .lst (xs.take at_)) hp1)) _ px
          have N9 : ∀ b, N0 (upd H8 p1 (.lst (xs.take at_))) b → N0 H8 b := fun b z => Same.free (same_new (o := .lst (xs.take at_)) hp1) z
          generalize upd H8 p1 (.lst (xs.take at_)) = H9 at *
          refine ⟨_, rfl, _, rfl, _, rfl, l, xs, _, _, rfl, rfl, .inl (.of L9.lst), atI_nat (List.getElem?_eq_getElem ha), m, 500 * i + 402, 0, _, wa, wb, wc, ds, rfl, px9, hd8, hdc, L9.src, by omega, fun v' H10 q b10 s10 hq hq1 hq2 => ?_⟩
          have L10 := L9.but b10 s10
          have e10 := b10 _ _ e1 n1
          have hq := at_imp N9 _ hq
          refine ⟨(by decide : 1 ≤ sizeLine), fun p2 hp2 => ?_⟩
          have S2 := same_new (o := .lst [v']) hp2
          refine ⟨p1, p2, _, _, rfl, rfl, S2 _ _ e10, upd_same, by rw [List.length_take]; exact Nat.le_trans (show min at_ xs.length + 1 ≤ 1000 by omega) (by decide), fun p3 hp3 => ?_⟩
          have S3 := same_new (o := .lst (xs.take at_ ++ [v'])) hp3
          have L12 := (L10.same S2).same S3
          have e3 : upd (upd H10 p2 (.lst [v'])) p3 (.lst (xs.take at_ ++ [v'])) p3 = some (.lst (xs.take at_ ++ [v'])) := upd_same
          have hq12 := mn_at _ _ _ (S2.trans S3) hq
          generalize upd (upd H10 p2 (.lst [v'])) p3 (.lst (xs.take at_ ++ [v'])) = H12 at *
          refine ⟨_, rfl, _, rfl, _, _, rfl, rfl, _, rfl, l, xs, rfl, .of L12.lst, fun p4 hp4 => ?_⟩
          have ei : ((at_ : Int) + 1) = ((at_ + 1 : Nat) : Int) := by omega
          rw [ei, cut_drop]
          have S4 := same_new (o := .lst (xs.drop (at_ + 1))) hp4
          have ln : (xs.take at_ ++ [v']).length + (xs.drop (at_ + 1)).length ≤ 1000 := by
            rw [List.length_append, List.length_take, List.length_drop, List.length_singleton]
            omega
          refine ⟨p3, p4, _, _, rfl, rfl, S4 _ _ e3, upd_same, Nat.le_trans ln (by decide), fun p5 hp5 => ?_⟩
          have S5 := same_new (o := .lst (xs.take at_ ++ [v'] ++ xs.drop (at_ + 1))) hp5
          have L14 := (L12.same S4).same S5
          have hq14 := mn_at _ _ _ (S4.trans S5) hq12
          have aL : AtL K (N0 H8) rs xs (upd (upd H12 p4 (.lst (xs.drop (at_ + 1)))) p5 (.lst (xs.take at_ ++ [v'] ++ xs.drop (at_ + 1)))) := atl_imp (fun _ z => z.elim) _ L14.at_
          exact q' _ _ ⟨p5, _, q, rfl, upd_same, ((atl_take at_ aL).app (AtL.one hq14)).app (atl_drop (at_ + 1) aL), hq1, hq2, L14⟩
        subst ev
        have hwr := wrong_at (at_ := at_) hg (by rw [← hxl]; exact ha) hq1 hq2
        have hlz := hz.len
        have hlz2 : (rs.take at_ ++ [q] ++ rs.drop (at_ + 1)).length ≤ 1000 := by
          rw [List.length_append, List.length_append, List.length_take, List.length_drop, List.length_singleton]
          omega
        -- late = ..
        dsimp only
        show tSeq _ _ _ _ _
        refine st_tSeq (st_any (i := 6) (R := fun v H10 => ∃ t2, v = .ref t2 ∧ H10 t2 = some (.lst (xs ++ [xs[at_]])) ∧ Same H9 H10) (fun Q' q' => ?_) fun v H10 ⟨t2, ev, ht2, s10⟩ => ?_)
        · refine ⟨_, rfl, _, rfl, _, rfl, l, xs, _, _, rfl, rfl, .inl (.of L9.lst), atI_nat (List.getElem?_eq_getElem ha), (by decide : 1 ≤ sizeLine), fun p2 hp2 => ?_⟩
          have S2 := same_new (o := .lst [xs[at_]]) hp2
          refine ⟨l, p2, _, _, rfl, rfl, S2 _ _ L9.lst, upd_same, Nat.le_trans (show xs.length + 1 ≤ 1000 by omega) (by decide), fun p3 hp3 => ?_⟩
          exact q' _ _ ⟨p3, rfl, upd_same, S2.trans (same_new hp3)⟩
        subst ev
        have L10 := L9.same s10
        have hz10 := mn_atl _ _ _ s10 hz
        have ht10 := s10 _ _ ht
        clear L9 L8 hz ht s10 px
        -- both are refused
        dsimp only
        show tIfS _ _ _ _ _ _
        refine ⟨_, rfl, _, rfl, t, zs, rfl, .inl ⟨.of ht10, fun q1 hq1' => ?_⟩⟩
        have S1 := same_new (o := .tup zs) hq1'
        have L11 := L10.same S1
        refine ⟨_, rfl, N0 H8, .ref m, .ref q1, _, at_, rfl, ⟨q1, zs, rfl, .inl (.inl upd_same), mn_atl _ _ _ S1 hz10, hlz2⟩, hwr.2, hwr.1, L11.tabs, fun H12 e12 T12 => ⟨true, rfl, iteF ?_⟩⟩
        have L12 := L11.en e12 T12
        have ht12 : H12 t2 = some (.lst (xs ++ [xs[at_]])) := e12 _ _ (S1 _ _ ht2) (fun _ z => nomatch z)
        refine ⟨_, rfl, _, rfl, t2, _, rfl, .inl ⟨.of ht12, fun q2 hq2' => ?_⟩⟩
        have S2 := same_new (o := .tup (xs ++ [xs[at_]])) hq2'
        have L13 := L12.same S2
        have hla := late_at hg hr
        have ra : AtL K (NM m) (rs ++ [.tup [wa, wb, wc, .tup ds]]) (xs ++ [xs[at_]]) (upd H12 q2 (.tup (xs ++ [xs[at_]]))) := by
          obtain ⟨r', hr', px'⟩ := L13.at_.get2 (List.getElem?_eq_getElem ha)
          rw [hr] at hr'
          cases hr'
          exact L13.at_.app (AtL.one px')
        refine ⟨_, rfl, l, xs, rfl, .inl (.of L13.lst), NM m, .ref m, .ref q2, rs ++ [.tup [wa, wb, wc, .tup ds]], rs.length, congrArg (fun n : Nat => [V.ref m, V.ref q2, V.int (n : Int)]) hxl, ⟨q2, _, rfl, .inl (.inl upd_same), ra, by rw [List.length_append, List.length_singleton]; omega⟩, hla.2, hla.1, L13.tabs, fun H14 e14 T14 => ⟨true, rfl, iteF ?_⟩⟩
        have L14 := L13.en e14 T14
        exact ⟨_, _, _, _, _, _, _, _, rfl, L14.src.mono (by omega), L14.tabs⟩
    · subst hσ
      have hm10 : many.toNat ≤ 10 := by omega
      -- full = ..
      dsimp only
      show tSeq _ _ _ _ _
      refine st_tSeq (st_any (i := 7) (R := fun v H3 => ∃ l zs, v = .ref l ∧ H3 l = some (.lst zs) ∧ AtL K (NM m) fullRows zs H3 ∧ Same H2 H3) (fun Q' q' => ?_) fun v H3 ⟨l, zs, ev, hlz, hz, s3⟩ => ?_)
      · refine ⟨31, rfl, by decide, by decide, fun D hD => ?_⟩
        show ∃ W, _
        refine lc_it (walk_range (lo := 0) (n := 31)) (fun i H' => Same H2 H' ∧ ∃ acc, H' D = some (.lst acc) ∧ AtL K (NM m) ((List.range i).map fullRow) acc H') ⟨same_new hD, [], upd_same, rfl⟩ (fun _ _ _ _ => trivial) (fun i x H4 H5 hi p y => ?_) (fun H4 p => ?_)
        · obtain ⟨s4, acc, hd, ha⟩ := p
          obtain ⟨rfl, rfl⟩ := y
          refine ⟨(List.set_set ..).trans (List.set_set ..), ?_⟩
          have hw := full_len ⟨i, hi⟩
          unfold tYes
          dsimp only
          rw [if_pos rfl]
          refine ⟨_, rfl, _, rfl, full_log ⟨i, hi⟩, _, _, rfl, rfl, Nat.le_trans (full_len1 ⟨i, hi⟩) (by decide), Nat.zero_le _, fun p0 hp0 => ⟨(by decide : 4 ≤ sizeLine), fun t ht => ?_⟩⟩
          have S0 := same_new (o := .tup []) hp0
          have S1 := same_new (o := .tup [.str "first", .str ("w" ++ (toString ((0 : Int) + (i : Nat)) : Str)), .int 1, .ref p0]) ht
          have hd2 := S1 _ _ (S0 _ _ hd)
          have kn : Kn (NM m) (upd (upd H5 p0 (.tup [])) t (.tup [.str "first", .str ("w" ++ (toString ((0 : Int) + (i : Nat)) : Str)), .int 1, .ref p0])) (upd (upd (upd H5 p0 (.tup [])) t (.tup [.str "first", .str ("w" ++ (toString ((0 : Int) + (i : Nat)) : Str)), .int 1, .ref p0])) D (.lst (acc ++ [.ref t]))) := Kn.lst hd2 id
          refine ⟨acc, hd2, ?_, same_put ((s4.trans S0).trans S1) hD, _, upd_same, ?_⟩
          · rw [ha.len, List.length_map, List.length_range]
            exact Nat.lt_of_lt_of_le hi (by decide)
          · rw [List.range_succ, List.map_append]
            refine (atl_kn ((Kn.same (S0.trans S1)).trans kn) _ ha).app (AtL.one (at_kn kn _ ?_))
            exact ⟨t, _, rfl, .inl (.inl upd_same), ⟨_, _, rfl, ⟨rfl, Nat.le_of_ble_eq_true rfl⟩, _, _, rfl, ⟨rfl, Nat.le_trans hw (by decide)⟩, _, _, rfl, rfl, _, _, rfl, ⟨p0, [], rfl, .inl (.inl (S1 _ _ upd_same)), rfl, Nat.zero_le _⟩, rfl⟩, (by decide : 4 ≤ 1000)⟩
        · obtain ⟨s4, acc, hd, ha⟩ := p
          exact q' _ _ ⟨D, acc, rfl, hd, ha, s4⟩
      subst ev
      have hlm : l ≠ m := fun z => by
        obtain ⟨s0, cs, kk, ll, hm, _⟩ := s2.same s3
        rw [z, hm] at hlz
        cases hlz
      have L3 : LSt K (a, ns) m l fullRows zs 5000 H3 := ⟨(s2.mono (by omega)).same s3, T2.ext s3, hlz, hlm, hz⟩
      clear hlz hz s3 s2 T2
      obtain ⟨f1, f2, f3, f4, f5, f6⟩ := full_ok
      have hzl : zs.length = 31 := L3.at_.len
      -- full[:30], full
      dsimp only
      show tSeq _ _ _ _ _
      refine st_tSeq ⟨_, rfl, _, rfl, _, rfl, l, zs, rfl, .of L3.lst, fun p1 hp1 => ?_⟩
      have ec := cut_take zs 30
      rw [show ((30 : Nat) : Int) = (30 : Int) from rfl] at ec
      rw [ec]
      have S1 := same_new (o := .lst (zs.take 30)) hp1
      have L4 := L3.same S1
      refine ⟨NM m, .ref m, p1, _, _, rfl, upd_same, atl_take 30 L4.at_, f1, f2, fun H5 s5 => ⟨true, rfl, iteF ?_⟩⟩
      have L5 := L4.same s5
      refine ⟨_, rfl, _, rfl, l, zs, rfl, .inl ⟨.of L5.lst, fun q1 hq1 => ?_⟩⟩
      have L6 := L5.same (same_new (o := .tup zs) hq1)
      refine ⟨NM m, .ref m, .ref q1, fullRows, 30, rfl, ⟨q1, zs, rfl, .inl (.inl upd_same), L6.at_, by show fullRows.length ≤ 1000; decide⟩, f4, f3, L6.tabs, fun H7 e7 T7 => ⟨true, rfl, iteF ?_⟩⟩
      have L7 := L6.en e7 T7
      clear L3 L4 L5 L6
      try unfold tNext
      dsimp only
      -- (7,) + full
      show tSeq _ _ _ _ _
      refine st_tSeq ⟨_, rfl, (by decide : 1 ≤ sizeLine), fun t7 ht7 => ?_⟩
      have S7 := same_new (o := .tup [.int 7]) ht7
      have L8 := L7.same S7
      have h7 : upd H7 t7 (.tup [.int 7]) t7 = some (.tup [.int 7]) := upd_same
      generalize upd H7 t7 (.tup [.int 7]) = H8 at *
      refine ⟨_, rfl, l, zs, rfl, .inl ⟨.of L8.lst, fun q2 hq2 => ?_⟩⟩
      have S8 := same_new (o := .tup zs) hq2
      have L9 := L8.same S8
      have h7' := S8 _ _ h7
      have h8 : upd H8 q2 (.tup zs) q2 = some (.tup zs) := upd_same
      generalize upd H8 q2 (.tup zs) = H9 at *
      refine ⟨t7, q2, _, _, rfl, rfl, .inl (.inl h7'), .inl (.inl h8), Nat.le_trans (show 1 + zs.length ≤ 1000 by omega) (by decide), (fun z => by cases z), (fun _ z => by rw [z] at hzl; cases hzl), fun _ _ q3 hq3 => ?_⟩
      have S9 := same_new (o := .tup ([.int 7] ++ zs)) hq3
      have L10 := L9.same S9
      refine ⟨NM m, .ref m, .ref q3, .int 7 :: fullRows, 0, rfl, ⟨q3, _, rfl, .inl (.inl upd_same), ⟨_, _, rfl, rfl, L10.at_⟩, by show (Pv.int 7 :: fullRows).length ≤ 1000; decide⟩, f6, f5, L10.tabs, fun H11 e11 T11 => ⟨true, rfl, iteF ?_⟩⟩
      have L11 := L10.en e11 T11
      clear L7 L8 L9 L10 h7 h7' h8
      have s11 := L11.src
      have T11' := L11.tabs
      clear L11
      try unfold tNext
      dsimp only
      -- odd
      show tSeq _ _ _ _ _
      refine st_tSeq (st_any (i := 9) (R := fun v H12 => ∃ op, At K (fun _ => True) op v H12 ∧ isTup op = false ∧ okScr op = true ∧ Tabs (TT K) H12) (fun Q' q' => ?_) fun v H12 ⟨op, hop, hno, hoo, T12⟩ => ?_)
      · refine ⟨_, rfl, Nat.zero_le _, fun p1 hp1 d hd => ⟨(by decide : 5 ≤ sizeLine), fun lo hlo => ?_⟩⟩
        have S1 := same_new (o := .lst []) hp1
        have S2 := same_new (o := .dK []) hd
        have S3 := same_new (o := .lst [.non, .ref p1, .str "x", .int 5, .ref d]) hlo
        have Sd := (S1.trans S2).trans S3
        have s12 := s11.same Sd
        have hp : upd (upd (upd H11 p1 (.lst [])) d (.dK [])) lo (.lst [.non, .ref p1, .str "x", .int 5, .ref d]) p1 = some (.lst []) := S3 _ _ (S2 _ _ upd_same)
        have hd' : upd (upd (upd H11 p1 (.lst [])) d (.dK [])) lo (.lst [.non, .ref p1, .str "x", .int 5, .ref d]) d = some (.dK []) := S3 _ _ upd_same
        have T12 := T11'.ext Sd
        have np := s11.ne hp1
        have nd' : d ≠ m := (s11.same S1).ne hd
        have nl := (s11.same (S1.trans S2)).ne hlo
        refine ⟨m, lo, _, 5000, 0, rfl, upd_same, (fun z => by cases z), (by decide : 5 ≤ 1000), s12, by omega, nl, fun v H13 hv b13 s13 => ?_⟩
        have T13 := tabs_but s12 T12 b13
        simp only [List.mem_cons, List.not_mem_nil, or_false] at hv
        rcases hv with rfl | rfl | rfl | rfl | rfl
        · exact q' _ _ ⟨.non, rfl, rfl, rfl, T13⟩
        · exact q' _ _ ⟨.lst [], ⟨p1, [], rfl, trivial, b13 _ _ hp np, rfl, Nat.zero_le _⟩, rfl, rfl, T13⟩
        · exact q' _ _ ⟨.str "x", ⟨rfl, Nat.le_of_ble_eq_true rfl⟩, rfl, rfl, T13⟩
        · exact q' _ _ ⟨.int 5, rfl, rfl, rfl, T13⟩
        · exact q' _ _ ⟨.dic, ⟨d, rfl, trivial, b13 _ _ hd' nd'⟩, rfl, rfl, T13⟩
      have hns := (notTup hno).2.2
      have hdue : dueOf op = .non := by cases op <;> first | rfl | cases hno
      dsimp only
      show tSeq _ _ _ _ _
      refine st_tSeq ⟨_, rfl, fun _ => True, op, v, rfl, hop, hoo, fun H13 s13 => ⟨isScript op, rfl, ?_⟩⟩
      rw [hns]
      refine iteF ?_
      show tLam _ _ _ _ _ _
      have shn : SeqAt.shaped (.list [.none, .bool true]) = true := by decide +kernel
      refine lam_index (y := .non) (T12.ext s13) (fun E R H2 e2 er => ?_) fun H14 l14 e14 T14 hl14 => ?_
      · exact ⟨_, rfl, fun _ => True, op, v, rfl, WLm.at_en ((ExtN.of s13).trans e2) _ hop, hoo, fun _ => er, fun rs e => by rw [e] at hno; cases hno⟩
      refine ⟨(by decide : 2 ≤ sizeLine), fun t15 ht15 => ?_⟩
      have S15 := same_new (o := .lst [.non, .bl true]) ht15
      refine ⟨_, _, .lst (.of (S15 _ _ hl14)) (.cons .non (.cons (.bl _) .nil)), .lst (.of upd_same) (.cons .non (.cons (.bl _) .nil)), shn, shn, _, rfl, ?_⟩
      rw [SeqAt.eqv_refl _ (SeqAt.canLay_of_shaped shn)]
      refine iteF ?_
      have hop15 := WLm.at_en (((ExtN.of s13).trans e14).trans (ExtN.of S15)) _ hop
      have T15 := T14.ext S15
      generalize upd H14 t15 (.lst [.non, .bl true]) = H15 at *
      dsimp only
      show tLam _ _ _ _ _ _
      refine lam_index (y := .non) T15 (fun E R H2 e2 er => ?_) fun H16 l16 e16 T16 hl16 => ?_
      · exact ⟨_, rfl, fun _ => True, op, v, rfl, WLm.at_en e2 _ hop15, hoo, (fun _ => by rw [hdue]; exact er), fun rs e => by rw [e] at hno; cases hno⟩
      refine ⟨(by decide : 2 ≤ sizeLine), fun t17 ht17 => ?_⟩
      have S17 := same_new (o := .lst [.non, .bl true]) ht17
      refine ⟨_, _, .lst (.of (S17 _ _ hl16)) (.cons .non (.cons (.bl _) .nil)), .lst (.of upd_same) (.cons .non (.cons (.bl _) .nil)), shn, shn, _, rfl, ?_⟩
      rw [SeqAt.eqv_refl _ (SeqAt.canLay_of_shaped shn)]
      refine iteF ?_
      generalize upd H16 t17 (.lst [.non, .bl true]) = H17 at *
      dsimp only
      -- the constants
      have sh3 : SeqAt.shaped (.tuple [.int 30, .int 8, .int 200]) = true := by decide +kernel
      have sh0 : SeqAt.shaped (.tuple []) = true := by decide +kernel
      refine ⟨(by decide : 3 ≤ sizeLine), fun c1 hc1 => ⟨(by decide : 3 ≤ sizeLine), fun c2 hc2 => ?_⟩⟩
      have C2 := same_new (o := .tup [.int 30, .int 8, .int 200]) hc2
      refine ⟨_, _, .tup (.inl (.inl (C2 _ _ upd_same))) (.cons (.int _) (.cons (.int _) (.cons (.int _) .nil))), .tup (.inl (.inl upd_same)) (.cons (.int _) (.cons (.int _) (.cons (.int _) .nil))), sh3, sh3, _, rfl, ?_⟩
      rw [SeqAt.eqv_refl _ (SeqAt.canLay_of_shaped sh3)]
      refine iteT ⟨Nat.zero_le _, fun c3 hc3 => ⟨NM m, .tup [], _, rfl, ⟨c3, [], rfl, .inl (.inl upd_same), rfl, Nat.zero_le _⟩, rfl, fun H18 s18 => ⟨true, rfl, iteT ?_⟩⟩⟩
      refine ⟨Nat.zero_le _, fun c4 hc4 => ⟨NM m, .tup [], _, rfl, ⟨c4, [], rfl, .inl (.inl upd_same), rfl, Nat.zero_le _⟩, rfl, (fun z => by cases z), fun rs e hs v' H19 s19 hw => ?_⟩⟩
      cases e
      obtain ⟨q, ys, rfl, hq, _, _, hme, hle⟩ := hw
      have ey : ys = [] := List.length_eq_zero_iff.mp (Nat.le_zero.mp hle)
      subst ey
      refine ⟨Nat.zero_le _, fun c5 hc5 => ?_⟩
      have C5 := same_new (o := .tup []) hc5
      refine ⟨_, _, .tup (.inl (.inl (C5 _ _ hq))) .nil, .tup (.inl (.inl upd_same)) .nil, sh0, sh0, ?_⟩
      rw [SeqAt.eqv_refl _ (SeqAt.canLay_of_shaped sh0)]
      exact k _
end
end W53

set_option Elab.async false
set_option linter.all false
set_option maxRecDepth 100000
set_option maxHeartbeats 0
namespace W53
open PySem PySem.Spec PyProof.Rows L2 WXG WEv WRd WLf LamX
def csK (K : PySem.W.Frag) : List (Addr × Addr) := tf.map fun p => He.cT K p
theorem csR (K : PySem.W.Frag) : pR K ∈ csK K := List.mem_cons_self
theorem csL (K : PySem.W.Frag) : pL K ∈ csK K := List.mem_cons_of_mem _ List.mem_cons_self
theorem mem_cs {K : PySem.W.Frag} {p : Addr × Addr} (h : p ∈ csK K) : ∃ q ∈ tf, He.cT K q = p := List.mem_map.mp h
theorem facts {P : Program} {w : World} {K : PySem.W.Frag} {h : Heap} {mg : Str → Option Value} {f : Addr} (X : K.In h) (G : h.Ns mainGlobals mg) (hfa : mg ("law" : Str) = some (.ref f)) (c : WLm.SaysL chk fns tf h K) :
    ∃ fd : FuncData, (∀ p ∈ csK K, h.get? p.2 = some { cls := .none, data := .fields #[] }) ∧ (∀ p ∈ csK K, K.lookup p.2 = none) ∧ (∀ p ∈ csK K, PySem.W.CodeHd h p.1 p.2) ∧ (∀ (s : Shared) (v : Value), BindsTo s fd ⟨[v], []⟩ [("cells", v)]) ∧
      ∀ base : Heap, K.In base → base.Ns mainGlobals mg → (∀ p ∈ csK K, TabB base mg p.1 p.2) → FnOk P w K mg base CX0 17 f fd ["cells"] (spLaw K) := by
  obtain ⟨T⟩ := env_of X G c.t
  have e := hfa.symm.trans T.g_law
  have ef : f = d_law.loc K := by
    injection e with e
    injection e
  subst ef
  have b := FunD.bindsA (ps := ["cells"]) T.F_law fun _ _ _ _ _ _ us hl => match us, hl with | [_], _ => rfl
  refine ⟨T.fd_law, fun p hp => ?_, fun p hp => ?_, fun p hp => ?_, fun s v => b s [v] rfl, fun base _ _ hB => ok_law T (hB _ (csR K)) (hB _ (csL K))⟩
  · obtain ⟨q, hq, rfl⟩ := mem_cs hp
    exact c.empty q hq
  · obtain ⟨q, hq, rfl⟩ := mem_cs hp
    exact c.out q hq
  · obtain ⟨q, hq, rfl⟩ := mem_cs hp
    exact PySem.W.codeHd_of_K X (c.hd q hq)
end W53
open PySem PySem.W PySem.Calls PyProof.Rows
theorem PySem.Challenge.cw_watchtree_k53_scripts_told_apart_holds : PySem.Challenge.rw_watchtree_k53_scripts_told_apart.Holds := by
  w_on; o_law
  refine HandSHeadRun.head_any (r := OpenLaw.row PySem.Challenge.rw_watchtree_k53_scripts_told_apart) (q := view (OpenLaw.row PySem.Challenge.rw_watchtree_k53_scripts_told_apart).prog [63]) (H := W53.hk) (ob := W53.ob) (M := 9000) (loose := W53.loose) (d := HandSHeadRun.topDef (OpenLaw.row PySem.Challenge.rw_watchtree_k53_scripts_told_apart).prog 63) (kwd := []) W53.ob_eq
    (by kernel_rfl) (fun s => by kernel_rfl) W53.run (by kernel_rfl) (by kernel_rfl) (by kernel_rfl) (by rfl) (by first | assumption | decide +kernel) (by decide +kernel) ⟨rfl, rfl, rfl, rfl, rfl, by decide +kernel⟩ ?hw ?hc
  case hw => w_witness2
  case hc =>
    refine WLm.walk_T (l := PySem.Challenge.rw_watchtree_k53_scripts_told_apart) (n := 63) (k := 17) (x := "cells") (CX := L2.CX0) rfl (by decide) (by kernel_rfl) ⟨rfl, by decide, by decide⟩ ?F (fun _ _ _ _ z => z)
    intro w mg fa h Y G hmg0
    obtain ⟨K, KX, c⟩ := Y
    have hmg : mg ("law" : PySem.Str) = some (.ref fa) := by
      have e : (HandSHeadRun.topDef (OpenLaw.row PySem.Challenge.rw_watchtree_k53_scripts_told_apart).prog 63).name = ("law" : PySem.Str) := by kernel_rfl
      rw [← e]
      exact hmg0
    obtain ⟨fd, hT, nT, C, hb, hF⟩ := W53.facts (P := (PySem.Challenge.rw_watchtree_k53_scripts_told_apart).prog) (w := w) KX G hmg c
    exact ⟨K, fd, W53.spLaw K, W53.csK K, KX, hT, nT, C, hb, fun H a ns hl ht hS => ⟨a, ns, rfl, hS, hl, ht _ (W53.csR K), ht _ (W53.csL K), fun _ => rfl⟩, hF⟩
