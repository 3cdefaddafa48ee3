import PyProof.Rows.All
import Wide.All
import OpenK.AllK
import Wide.FinOn
import HandS.Base
import HandS.Call
import HandS.Ends
import HandS.Words
import HandS.WordsExc
import HandS.Defaults
import HandS.Head0
import HandS.Head1
import HandS.Head2
import HandS.HeadEnd
import HandS.HeadHook1
import HandS.HeadHook2
import HandS.Property
import PyProof.ReprRoads
import HandS.List
import HandS.Exc
import KE.KExcInit
import KE.KExcIs
import HandS.ExcInit
import HandS.Dict
import HandS.Comp
import HandS.WordsList
import HandS.WordsDict
import KE.KStar
import HandS.DictComp
import HandS.MakeKwOnly
import HandS.Star
import HandS.Sort
import HandS.IsInst
import HandS.ExcOwn
import HandS.Walk
import HandS.Steps
import HandS.OwnEq
import PySem.Challenge.RW_watchtree_k02_plans_refused
import PyProof.ExcBaseAll.ValueError
import KE.GoesEnum
import KE.GoesEnumKw
import KE.KTurns
import HandS.Iter
import PyProof.Rows.CallKw2
import KE.GoesZip
import PyProof.NeKinds
import PyProof.StrOps2
import HandS.Style
import HandS.Text
import HandS.StrMore
import HandS.NoneIn
import PyProof.RulesMatch
import HandS.DictTup
import HandS.Codes
import KE.KDictZip
import KE.KDictOf
import HandS.TryOnly
import HandS.RaiseMore
import HandS.TupMul
import HandS.SetFor
import PyProof.EqKinds
set_option Elab.async false
set_option linter.all false
set_option maxRecDepth 100000
set_option maxHeartbeats 0
/-! the head's facts by a Bool of one's own -/
namespace WHd
open PySem PySem.Spec PyProof.Rows L2
def obsW (chk : PySem.W.Frag → Bool) (fn : List He.DefD) (K : PySem.W.Frag) : He.AlD := (chk K && fn.all fun d => d.ok K, fn.map fun d => He.fnW K d.at_)
def SaysW (chk : PySem.W.Frag → Bool) (fn : List He.DefD) (K : PySem.W.Frag) : Prop := obsW chk fn K = He.valD fn
def obsWG (n : Nat) (chk : PySem.W.Frag → Bool) (fn : List He.DefD) (g : Addr → Option Obj) : He.AlD := obsW chk fn (He.frG g (sysModules :: cStatics :: He.asD g n))
def hookW (n : Nat) (chk : PySem.W.Frag → Bool) (fn : List He.DefD) : PySem.W.Hook where
  α := He.AlD
  obs := fun s => obsWG n chk fn s.heap.get?
  val := fun _ => He.valD fn
  says := fun _ h => ∃ K : PySem.W.Frag, K.In h ∧ SaysW chk fn K
  of := fun _ _ e => ⟨_, He.frG_in, e⟩
  keeps := fun _ _ _ ⟨K, hK, c⟩ k => ⟨K, PySem.W.Frag.In.keeps hK k, c⟩
theorem obsWG_eq {n : Nat} {chk : PySem.W.Frag → Bool} {fn : List He.DefD} {g : Addr → Option Obj} {s : Shared} (h : ∀ a, g a = s.heap.get? a) : obsWG n chk fn g = (hookW n chk fn).obs s := by
  have e : g = s.heap.get? := funext h
  rw [e] <;> rfl
section
variable {chk : PySem.W.Frag → Bool} {fn : List He.DefD} {K : PySem.W.Frag}
theorem SaysW.chk_ (c : SaysW chk fn K) : chk K = true :=
  (He.ba (show (chk K && fn.all fun d => d.ok K) = true from congrArg (fun z : He.AlD => z.1) c)).1
theorem SaysW.def_ (c : SaysW chk fn K) (i : Nat) {d : He.DefD} (h : fn[i]? = some d := by rfl) : ∃ fd, FunD K d.name d.qual d.params d.body d.scope (d.dvs K) (d.kws K) (He.fAd K d.at_) fd := by
  have c2 := (He.ba (show (chk K && fn.all fun d => d.ok K) = true from congrArg (fun z : He.AlD => z.1) c)).2
  have e : fn.map (fun d => He.fnW K d.at_) = fn.map He.DefD.val := congrArg (fun z : He.AlD => z.2) c
  have e2 : (fn.map fun d => He.fnW K d.at_)[i]? = (fn.map He.DefD.val)[i]? := by rw [e]
  rw [List.getElem?_map, List.getElem?_map, h] at e2
  exact He.DefD.funD (Option.some.inj e2) (List.all_eq_true.mp c2 d (List.mem_of_getElem? h))
end
end WHd

set_option Elab.async false
set_option linter.all false
set_option maxRecDepth 100000
set_option maxHeartbeats 0
/-! the head's facts, defs found by any path (getters too) -/
namespace WHe
open PySem PySem.Spec PyProof.Rows L2
structure DefP where
  loc : PySem.W.Frag → Addr
  name : Str
  qual : Str
  params : Arguments
  body : List Stmt
  scope : Scope
def DefP.val (d : DefP) : He.FnW := some (d.name, d.qual, d.params, .stmts d.body, d.scope, mainGlobals, [], builtinsNs)
def obsP (K : PySem.W.Frag) (a : Addr) : He.FnW := match K.lookup a with
  | some ⟨_, _, .func fd, _⟩ => some (fd.name, fd.qualname, fd.params, fd.body, fd.scope, fd.globals, fd.closure, fd.builtins)
  | _ => none
def DefP.ok (K : PySem.W.Frag) (d : DefP) : Bool := PySem.W.keepIn K (.ref (d.loc K)) && (match K.lookup (d.loc K) with
  | some ⟨_, _, .func fd, _⟩ => PySem.W.codeIn K fd.code d.qual && He.dflB K fd.defaults []
  | _ => false)
theorem DefP.funD {K : PySem.W.Frag} {d : DefP} (e : obsP K (d.loc K) = d.val) (c : d.ok K = true) : ∃ fd, FunD K d.name d.qual d.params d.body d.scope [] [] (d.loc K) fd := by
  obtain ⟨kp, c2⟩ := He.ba c
  unfold obsP at e
  generalize hl : K.lookup (d.loc K) = lo at c2 e
  match lo with
  | none => cases c2
  | some ⟨oc, od, dt, osl⟩ =>
    cases dt with
    | func fd =>
      cases fd
      rename_i n1 n2 n3 n4 n5 n6 n7 n8 n9 n10 n11 n12 n13 n14 n15
      simp only [DefP.val, Option.some.injEq, Prod.mk.injEq] at e
      obtain ⟨rfl, rfl, rfl, rfl, rfl, rfl, rfl, rfl⟩ := e
      obtain ⟨k1, k2⟩ := He.ba c2
      exact ⟨_, ⟨oc, od, n8, n9, n10, n11, n12, n13, n14, osl, rfl, hl, k1, He.dflB_ok k2, .inl rfl⟩, kp⟩
    | _ => cases c2
def obsK (chk : PySem.W.Frag → Bool) (fn : List DefP) (K : PySem.W.Frag) : He.AlD := (chk K && fn.all fun d => d.ok K, fn.map fun d => obsP K (d.loc K))
def valK (fn : List DefP) : He.AlD := (true, fn.map DefP.val)
def SaysK (chk : PySem.W.Frag → Bool) (fn : List DefP) (K : PySem.W.Frag) : Prop := obsK chk fn K = valK fn
def obsKG (n : Nat) (chk : PySem.W.Frag → Bool) (fn : List DefP) (g : Addr → Option Obj) : He.AlD := obsK chk fn (He.frG g (sysModules :: cStatics :: He.asD g n))
def hookK (n : Nat) (chk : PySem.W.Frag → Bool) (fn : List DefP) : PySem.W.Hook where
  α := He.AlD
  obs := fun s => obsKG n chk fn s.heap.get?
  val := fun _ => valK fn
  says := fun _ h => ∃ K : PySem.W.Frag, K.In h ∧ SaysK chk fn K
  of := fun _ _ e => ⟨_, He.frG_in, e⟩
  keeps := fun _ _ _ ⟨K, hK, c⟩ k => ⟨K, PySem.W.Frag.In.keeps hK k, c⟩
theorem obsKG_eq {n : Nat} {chk : PySem.W.Frag → Bool} {fn : List DefP} {g : Addr → Option Obj} {s : Shared} (h : ∀ a, g a = s.heap.get? a) : obsKG n chk fn g = (hookK n chk fn).obs s := by
  have e : g = s.heap.get? := funext h
  rw [e] <;> rfl
section
variable {chk : PySem.W.Frag → Bool} {fn : List DefP} {K : PySem.W.Frag}
theorem SaysK.chk_ (c : SaysK chk fn K) : chk K = true := (He.ba (show (chk K && fn.all fun d => d.ok K) = true from congrArg (fun z : He.AlD => z.1) c)).1
theorem SaysK.def_ (c : SaysK chk fn K) (i : Nat) {d : DefP} (h : fn[i]? = some d := by rfl) : ∃ fd, FunD K d.name d.qual d.params d.body d.scope [] [] (d.loc K) fd := by
  have c2 := (He.ba (show (chk K && fn.all fun d => d.ok K) = true from congrArg (fun z : He.AlD => z.1) c)).2
  have e : fn.map (fun d => obsP K (d.loc K)) = fn.map DefP.val := congrArg (fun z : He.AlD => z.2) c
  have e2 : (fn.map fun d => obsP K (d.loc K))[i]? = (fn.map DefP.val)[i]? := by rw [e]
  rw [List.getElem?_map, List.getElem?_map, h] at e2
  exact DefP.funD (Option.some.inj e2) (List.all_eq_true.mp c2 d (List.mem_of_getElem? h))
end
/-! ### classes of data -/
/-- the getter of a property -/
def pgAd (K : PySem.W.Frag) (C f : Str) : Addr := match PySem.W.recIn K (He.ma K (He.ga K C) f) "property" with
  | some (.ref g :: _) => g
  | _ => 0
def propB (K : PySem.W.Frag) (C f : Str) : Bool := decide (PySem.W.findIn K (.ref (He.ga K C)) f = some (some (.ref (He.ma K (He.ga K C) f)))) && (decide (PySem.W.specialIn K (.ref (He.ma K (He.ga K C) f)) "__get__" = some (some (.builtin "property.__get__"))) &&
  (decide (PySem.W.takesIn K (.ref (He.ma K (He.ga K C) f)) = some true) && (match PySem.W.recIn K (He.ma K (He.ga K C) f) "property" with
    | some (.ref _ :: _) => true
    | _ => false)))
theorem propB_ok {K : PySem.W.Frag} {C f : Str} (h : propB K C f = true) : PropOf K (He.ga K C) f (He.ma K (He.ga K C) f) (pgAd K C f) := by
  obtain ⟨h1, h⟩ := He.ba h
  obtain ⟨h2, h⟩ := He.ba h
  obtain ⟨h3, h4⟩ := He.ba h
  refine ⟨of_decide_eq_true h1, of_decide_eq_true h2, of_decide_eq_true h3, ?_⟩
  unfold pgAd
  split at h4
  · rename_i g r e
    exact ⟨r, by rw [e]⟩
  · cases h4
/-- the method m of C stands at D's -/
def methB (K : PySem.W.Frag) (C m D : Str) : Bool := decide (PySem.W.findIn K (.ref (He.ga K C)) m = some (some (.ref (He.fAd K (D, some m))))) && (PySem.W.isFn K (.ref (He.fAd K (D, some m))) && PySem.W.keepIn K (.ref (He.fAd K (D, some m))))
theorem methB_ok {K : PySem.W.Frag} {C m D : Str} (h : methB K C m D = true) : Meth K (He.ga K C) m (He.fAd K (D, some m)) := by
  obtain ⟨h1, h⟩ := He.ba h
  obtain ⟨h2, h3⟩ := He.ba h
  exact ⟨of_decide_eq_true h1, h2, h3⟩
/-- what isinstance, ==, != ask of a class of data -/
structure DatC (K : PySem.W.Frag) (C : Addr) (e : Addr) : Prop where
  cls : Cls K C
  ca : PySem.W.findIn K (.ref C) "__class__" = some (some (.builtin "object.__class__"))
  cn : PySem.W.specialIn K (.builtin "object.__class__") "__get__" = some (some (.builtin "getset_descriptor.__get__"))
  ct : PySem.W.takesIn K (.builtin "object.__class__") = some true
  ob : PySem.W.mroIn K C (.type "object") = some true
  ne : PySem.W.findIn K (.ref C) "__ne__" = some (some (.builtin "object.__ne__"))
  eq : PySem.W.findIn K (.ref C) "__eq__" = some (some (.ref e))
  fn : PySem.W.isFn K (.ref e) = true
def datB (K : PySem.W.Frag) (C : Str) : Bool := (He.Fa.cls C).ok K && (decide (PySem.W.findIn K (.ref (He.ga K C)) "__class__" = some (some (.builtin "object.__class__"))) && (decide (PySem.W.specialIn K (.builtin "object.__class__") "__get__" = some (some (.builtin "getset_descriptor.__get__"))) &&
  (decide (PySem.W.takesIn K (.builtin "object.__class__") = some true) && (decide (PySem.W.mroIn K (He.ga K C) (.type "object") = some true) && (decide (PySem.W.findIn K (.ref (He.ga K C)) "__ne__" = some (some (.builtin "object.__ne__"))) &&
  (decide (PySem.W.findIn K (.ref (He.ga K C)) "__eq__" = some (some (.ref (He.fAd K (C, some "__eq__"))))) && PySem.W.isFn K (.ref (He.fAd K (C, some "__eq__")))))))))
theorem datB_ok {K : PySem.W.Frag} {C : Str} (h : datB K C = true) : DatC K (He.ga K C) (He.fAd K (C, some "__eq__")) := by
  obtain ⟨h1, h⟩ := He.ba h
  obtain ⟨h2, h⟩ := He.ba h
  obtain ⟨h3, h⟩ := He.ba h
  obtain ⟨h4, h⟩ := He.ba h
  obtain ⟨h5, h⟩ := He.ba h
  obtain ⟨h6, h⟩ := He.ba h
  obtain ⟨h7, h8⟩ := He.ba h
  exact ⟨He.cls_ok h1, of_decide_eq_true h2, of_decide_eq_true h3, of_decide_eq_true h4, of_decide_eq_true h5, of_decide_eq_true h6, of_decide_eq_true h7, h8⟩
def kitB (K : PySem.W.Frag) (q : Str × Str × Bool) : Bool := decide (PySem.W.kitOne K (.ref (He.ga K q.1)) (.ref (He.ga K q.2.1)) = some q.2.2)
def sysB (K : PySem.W.Frag) : Bool := match K.lookup sysModules with
  | some o => decide (o.cls = .type "dict")
  | none => false
theorem sysB_ok {K : PySem.W.Frag} (h : sysB K = true) : ∃ o, K.lookup sysModules = some o ∧ o.cls = .type "dict" := by
  unfold sysB at h
  split at h
  · rename_i o e
    exact ⟨o, e, of_decide_eq_true h⟩
  · cases h
end WHe

set_option Elab.async false
set_option linter.all false
set_option maxRecDepth 100000
set_option maxHeartbeats 4000000
/-! defs that are called where no repr is under way (the law's own def): repr of lists, tuples and empty dicts -/
namespace WXG
open PySem PySem.Spec PyProof.Rows L2
/-- a def's promise, where no repr is under way -/
structure FnG (P : Program) (w : World) (K : PySem.W.Frag) (mg : Str → Option Value) (base : Heap) (CX : CXT) (k : Nat) (f : Addr) (fd : FuncData) (ps : List Str) (sp : Sp) : Prop where
  len : ∀ vs H Q E, sp vs H Q E → vs.length = ps.length
  run : ∀ (A : Around) (outer : List Env) (s : Shared) (H : Hp) (args : Args) (us : List Value) (vs : List V) (Q : VK) (E : XK), Room k A → A.guards = some [] → Env0 P w K mg base A outer s H →
    BindsTo s fd args (ps.zip us) → Vals vs us → sp vs H Q E → codeAny (model P w) A (.call (.ref f) args) (CR CX outer P w H s Q E) s
section
variable {CX : CXT} {P : Program} {w : World} {K : PySem.W.Frag} {mg : Str → Option Value} {base : Heap} {k : Nat} {f : Addr} {x qual : Str} {params : Arguments} {body : List Stmt} {scope : Scope} {dvs : List V} {kws : List (Str × V)} {fd : FuncData} {N ps : List Str} {sp : Sp}
theorem FnG.of (F : FunD K x qual params body scope dvs kws f fd) (S : FnScope N ps scope) (len : ∀ vs H Q E, sp vs H Q E → vs.length = ps.length)
    (hbody : ∀ (cdv : Value) (A : Around) (outer : List Env) (s : Shared) (H : Hp) (vs : List V) (Q : VK) (E : XK), Room k (A.deeper (envOfC qual scope s.heap.objs.size f cdv)) → (A.deeper (envOfC qual scope s.heap.objs.size f cdv)).guards = some [] → sp vs H Q E →
      ∃ t, PSs (cxOf CX P w K mg base N qual scope f cdv A outer s H E) body t ∧ t { nx := fun _ H' => Q .non H', rt := Q } (start N vs) H) : FnG P w K mg base CX (k + 1) f fd ps sp := by
  obtain ⟨oc, od, dV, kV, doc, pm, an, cdv, ct, osl, rfl, lk, hcd, _, _⟩ := F.ex
  refine ⟨len, fun A outer s H args us vs Q E hr hg e0 hb r hsp => ?_⟩
  have KX : K.In s.heap := e0.mod.kin.keeps fun b o e => (e0.bs b o e).1
  have lim : s.heap.NoLimit := e0.mod.nolimit.keeps fun b o e => (e0.bs b o e).1
  refine codeAny_call_function hr.depth (KX _ _ lk) rfl S.co S.gen rfl (PySem.W.codeRec_of KX hcd) (hb _ _ _ _ (wpAny_newFunctionEnv_cells S.kind (fun y hy => ?_) fun env he s1 x => ?_))
  · rcases S.par y.1 (List.of_mem_zip hy).1 with q | q
    · exact .inl q
    · exact .inr ⟨q, PySem.W.cellsFrom_some _ _ _ (.inl q)⟩
  subst he
  obtain ⟨t, ht, hq⟩ := hbody cdv A outer s H vs Q E (hr.deeper _) hg hsp
  refine ⟨lim.keeps x.toInCall.keep, codeAny_func (wpAny_mono (ht.run [] s1 (start N vs) H _ (inv_start S hr.hd e0 (len _ _ _ _ hsp) r x) hq) (fun fl s' hs => ?_) fun _ _ z => z)⟩
  cases fl with
  | ret u =>
    obtain ⟨v, σ', H', J, rv, q⟩ := hs
    exact ⟨v, H', J.os, J.bare, J.base, J.hok, rv, q⟩
  | next =>
    obtain ⟨σ', H', J, q⟩ := hs
    exact ⟨.non, H', J.os, J.bare, J.base, J.hok, rfl, q⟩
  | brk =>
    obtain ⟨_, _, _, q⟩ := hs
    exact q.elim
  | cont =>
    obtain ⟨_, _, _, q⟩ := hs
    exact q.elim
theorem FnOk.toG {fd : FuncData} (F : FnOk P w K mg base CX k f fd ps sp) : FnG P w K mg base CX k f fd ps sp := ⟨F.len, fun A outer s H args us vs Q E hr _ e0 hb r h => F.run A outer s H args us vs Q E hr e0 hb r h⟩
end

/-! ### the end of a law's row -/
theorem hid_ns {h : Heap} {H : Hp} {b : Addr} {m : Str → Option Value} (n : H b = none) (z : h.Ns b m) : (hidT h H).Ns b m := by
  obtain ⟨o, es, ep, e, d, r⟩ := z
  exact ⟨o, es, ep, hidT_get e n, d, r⟩
theorem law_callG {P : Program} {w : World} {K : PySem.W.Frag} {mg mb : Str → Option Value} {CX : CXT} {k : Nat} {fa a : Addr} {fd : FuncData} {x : Str} {sp : Sp} {s₁ : Shared} {vs : List Value} {ns : List Int}
    (KX : K.In s₁.heap) (hns : s₁.heap.Ns mainGlobals mg) (hb : s₁.heap.Ns builtinsNs mb) (hbb : ∀ x : Str, x ≠ "__name__" → mb x = bootBuiltins x) (hlim : s₁.heap.NoLimit) (hg : s₁.gens = #[])
    (ha : s₁.heap.get? a = some { cls := .type "list", data := .seq vs.toArray }) (hi : IntsAre vs ns) (hl : ns.length ≤ sizeLine) (hr : Room k callerA)
    (F : ∀ base : Heap, K.In base → base.Ns mainGlobals mg → FnG P w K mg base CX k fa fd [x] sp) (hbind : ∀ (s : Shared) (u : Value), BindsTo s fd ⟨[u], []⟩ [(x, u)])
    (hsp : ∀ H : Hp, Only H → SqL K H a (ns.map V.int) → sp [.ref a] H (fun v _ => v = .bl true) fun _ _ _ => False)
    (hCX : ∀ H e s', CX [] H s₁ (fun _ _ _ => False) e s' → False) :
    codeAny (model P w) callerA (.call (.ref fa) ⟨[.ref a], []⟩) (fun r s' => r = .ok (.ret (.bool true)) ∧ OldK s₁.heap s'.heap ∧ s'.os = s₁.os ∧ AllBare s'.gens) s₁ := by
  have lenV := hi.length
  have rv : Vals (ns.map V.int) vs := vals_ints hi
  have go : ∀ H : Hp, Only H → SqL K H a (ns.map V.int) → HOk P w H s₁.heap → (∀ b, H b ≠ none → b = a) → (H a ≠ none → K.lookup a = none) →
      codeAny (model P w) callerA (.call (.ref fa) ⟨[.ref a], []⟩) (fun r s' => r = .ok (.ret (.bool true)) ∧ OldK s₁.heap s'.heap ∧ s'.os = s₁.os ∧ AllBare s'.gens) s₁ := by
    intro H hO hS hok hA hK
    have isA : ∀ {b : Addr} {u : HO}, H b = some u → b = a := fun {b u} q => hA b (by rw [q]; exact fun z => nomatch z)
    have nsN : ∀ {b : Addr} {m : Str → Option Value}, s₁.heap.Ns b m → H b = none := fun {b m} z => by
      obtain ⟨o, es, ep, e, d, _⟩ := z
      cases q : H b with
      | none => rfl
      | some u =>
        rw [isA q, ha] at e
        cases e
        cases d
    have hKb : K.In (hidT s₁.heap H) := fun b o e => hidT_get (KX b o e) (by
      cases q : H b with
      | none => rfl
      | some u =>
        have eb := isA q
        subst eb
        rw [hK (by rw [q]; exact fun z => nomatch z)] at e
        cases e)
    have nsB : (hidT s₁.heap H).Ns mainGlobals mg := hid_ns (nsN hns) hns
    obtain ⟨mc, hm1, hm2⟩ := hlim
    have e0 : Env0 P w K mg (hidT s₁.heap H) callerA [] s₁ H := ⟨rfl, ⟨hKb, nsB, ⟨mb, hid_ns (nsN hb) hb, hbb⟩, ⟨mc, hid_ns (nsN hm1) hm1, hm2⟩⟩, fun b o e => of_hidT e, Nat.le_of_eq (hidT_size _ _), trivial, fun b z => (nomatch (show b ∈ ([] : List Addr) from z)), hok, .of_eq hg⟩
    refine codeAny_mono ((F _ hKb nsB).run callerA [] s₁ H ⟨[.ref a], []⟩ [.ref a] [.ref a] _ _ hr rfl e0 (hbind s₁ (.ref a)) (.cons rfl .nil) (hsp H hO hS)) fun r s' h => ?_
    cases r with
    | error e => exact (hCX H e s' h).elim
    | ok fl =>
      cases fl with
      | next => exact h.elim
      | brk => exact h.elim
      | cont => exact h.elim
      | ret u =>
        obtain ⟨v, H', os, bare, un, hok', r', q⟩ := h
        obtain rfl : v = .bl true := q
        obtain rfl : u = Value.bool true := r'
        refine ⟨rfl, OldK.of_keep fun b o e => ?_, os, bare⟩
        cases q : H b with
        | none => exact un.keep b o e q (fun z => nomatch (show b ∈ ([] : List Addr) from z)) (fun z => nomatch z)
        | some u =>
          rcases hO b with z | ⟨ob, xs, z⟩
          · rw [q] at z
            cases z
          · obtain ⟨e1, _⟩ := hok b _ z
            obtain ⟨e2, _⟩ := hok' b _ (un.frzs b ob _ z)
            rw [e] at e1
            cases e1
            exact e2
  cases hk : K.lookup a with
  | some o =>
    have e := KX a o hk
    rw [ha] at e
    cases e
    exact go (fun _ => none) (fun _ => .inl rfl) (.inr ⟨_, vs.toArray, _, hk, rfl, rfl, rfl, by rw [List.size_toArray, lenV]; exact hl, by simpa using rv⟩) (fun b u z => nomatch (show (none : Option HO) = some u from z)) (fun b z => absurd rfl z) fun z => absurd rfl z
  | none =>
    refine go (fun b => if b = a then some (.frz { cls := .type "list", data := .seq vs.toArray } (.lst (ns.map V.int))) else none) (fun b => ?_) (.inl (.inr ⟨_, if_pos rfl⟩)) (fun b u z => ?_) (fun b z => ?_) fun _ => hk
    · by_cases hb : b = a
      · exact .inr ⟨_, _, if_pos hb⟩
      · exact .inl (if_neg hb)
    · by_cases hb : b = a
      · have z' := (if_pos hb).symm.trans z
        cases z'
        subst hb
        exact ⟨ha, by rw [List.length_map]; exact hl, vs, _, rv, ha⟩
      · exact nomatch (if_neg hb).symm.trans z
    · by_cases hb : b = a
      · exact hb
      · exact absurd (if_neg hb) z
theorem walk_G {l : PySem.W.OpenLaw} {n k : Nat} {q : Program} {loose : List Str} {XP : (Str → Option Value) → Heap → Prop} {YP : World → Heap → Prop} {d : DefRec} {CX : CXT} {x : Str}
    (hn : l.most = some n) (hn2 : n ≤ sizeLine) (hdf : d.params.defaults = []) (hr : Room k callerA)
    (F : ∀ (w : World) (mg : Str → Option Value) (fa : Addr) (h : Heap), YP w h → h.Ns mainGlobals mg → mg d.name = some (.ref fa) →
      ∃ (K : PySem.W.Frag) (fd : FuncData) (sp : Sp), K.In h ∧ (∀ (s : Shared) (u : Value), BindsTo s fd ⟨[u], []⟩ [(x, u)]) ∧
        (∀ (H : Hp) (a : Addr) (ns : List Int), ns.length ≤ n → Only H → SqL K H a (ns.map V.int) → sp [.ref a] H (fun v _ => v = .bl true) fun _ _ _ => False) ∧
        ∀ base : Heap, K.In base → base.Ns mainGlobals mg → FnG l.prog w K mg base CX k fa fd [x] sp)
    (hCX : ∀ (H : Hp) (s : Shared) (e : Value) (s' : Shared), CX [] H s (fun _ _ _ => False) e s' → False) :
    PySem.W.WalkO q loose XP YP l.row.toRowW d [] (fun f vs => PySem.call f vs) := by
  refine Att.attach_call hn hdf fun w s₀ s₁ mg mb fa o pm cd doc a vs ns G Y ho hd hcd hmg hobj hints hlen hg => ?_
  obtain ⟨K, fd, sp, KX, hb, hsp, hF⟩ := F w mg fa _ Y G.T.g hmg
  exact law_callG KX G.T.g G.T.b G.T.builtins G.T.nolimit hg hobj hints (Nat.le_trans hlen hn2) hr hF hb (fun H hO hS => hsp H a ns hlen hO hS) fun H e s' => hCX H s₁ e s'

/-! ### repr -/
mutual
/-- data: lists, tuples, empty dicts, flat ones -/
inductive Dq (K : PySem.W.Frag) (H : Hp) : V → PyData → Prop
  | non : Dq K H .non .none
  | bl (b : Bool) : Dq K H (.bl b) (.bool b)
  | int (i : Int) : Dq K H (.int i) (.int i)
  | str (x : Str) : Dq K H (.str x) (.str x)
  | lst {a : Addr} {xs : List V} {ds : List PyData} : SqL K H a xs → DqAll K H xs ds → Dq K H (.ref a) (.list ds)
  | tup {a : Addr} {xs : List V} {ds : List PyData} : SqT K H a xs → DqAll K H xs ds → Dq K H (.ref a) (.tuple ds)
  | emp {a : Addr} : H a = some (.dK []) → Dq K H (.ref a) (.dict [])
inductive DqAll (K : PySem.W.Frag) (H : Hp) : List V → List PyData → Prop
  | nil : DqAll K H [] []
  | cons {v : V} {vs : List V} {d : PyData} {ds : List PyData} : Dq K H v d → DqAll K H vs ds → DqAll K H (v :: vs) (d :: ds)
end
section
variable {X : Cx} {pins : List (Addr × Obj)} {σ : L2.St} {H : Hp} {s : Shared}
/-- the table of modules is the head's -/
def SysK (K : PySem.W.Frag) : Prop := ∃ o, K.lookup sysModules = some o ∧ o.cls = .type "dict"
theorem ne_sys (I : Inv X pins σ H s) (S : SysK X.K) {a : Addr} {o : Obj} (ho : s.heap.get? a = some o) (hc : o.cls = .type "list") : a ≠ sysModules := fun e => by
  obtain ⟨o', h1, h2⟩ := S
  have q := I.kIn _ _ h1
  rw [← e, ho] at q
  cases q
  rw [hc] at h2
  exact absurd h2 (by decide)
mutual
theorem Dq.reads (I : Inv X pins σ H s) (S : SysK X.K) : ∀ (d : PyData) (v : V) (u : Value), Dq X.K H v d → RelV v u → ∃ as, Reads s.heap u d as ∧ sysModules ∉ as
  | .none, _, _, h, r => by
    cases h; cases r
    exact ⟨_, Reads.none, fun z => nomatch z⟩
  | .bool b, _, _, h, r => by
    cases h; cases r
    exact ⟨_, Reads.bool b, fun z => nomatch z⟩
  | .int i, _, _, h, r => by
    cases h
    obtain ⟨t, rfl⟩ := r
    exact ⟨_, Reads.int i t, fun z => nomatch z⟩
  | .str x, _, _, h, r => by
    cases h
    obtain ⟨t, rfl⟩ := r
    exact ⟨_, Reads.str x t, fun z => nomatch z⟩
  | .list ds, _, _, h, r => by
    cases h with
    | lst hs ha =>
      cases r
      obtain ⟨its, rv, ⟨o, n, ho, hc, _, hd⟩, _⟩ := I.list hs
      obtain ⟨as, hr, hn⟩ := DqAll.reads I S ds _ its ha rv
      refine ⟨_, Reads.list ho hc hd hr, fun z => ?_⟩
      rcases List.mem_cons.mp z with z | z
      · exact ne_sys I S ho hc z.symm
      · exact hn z
  | .tuple ds, _, _, h, r => by
    cases h with
    | tup hs ha =>
      cases r
      obtain ⟨its, rv, ⟨o, ho, hc, n, hd⟩, _⟩ := I.tuple hs
      obtain ⟨as, hr, hn⟩ := DqAll.reads I S ds _ its ha rv
      exact ⟨_, Reads.tuple ho hc hd hr, hn⟩
  | .dict kvs, _, _, h, r => by
    cases h with
    | emp ha =>
      cases r
      obtain ⟨_, hsy, vs, rv, o, es, ep, ho, hx, hd, _, he, _⟩ := I.hok _ _ ha
      cases rv
      have e0 : es.toList = [] := List.length_eq_zero_iff.mp he.length
      refine ⟨_, Reads.dict ho hx.1 hd (as := []) (bs := []) (by rw [e0]; exact ReadsAll.nil) (by rw [e0]; exact ReadsAll.nil), fun z => ?_⟩
      rcases List.mem_cons.mp z with z | z
      · rw [← z] at hsy
        exact absurd hsy (by decide)
      · exact nomatch z
theorem DqAll.reads (I : Inv X pins σ H s) (S : SysK X.K) : ∀ (ds : List PyData) (vs : List V) (us : List Value), DqAll X.K H vs ds → Vals vs us → ∃ as, ReadsAll s.heap us ds as ∧ sysModules ∉ as
  | [], _, _, h, r => by
    cases h; cases r
    exact ⟨_, ReadsAll.nil, fun z => nomatch z⟩
  | d :: ds, _, _, h, r => by
    cases h with
    | cons h1 h2 =>
      cases r with
      | cons r1 r2 =>
        obtain ⟨as, q1, n1⟩ := Dq.reads I S d _ _ h1 r1
        obtain ⟨bs, q2, n2⟩ := DqAll.reads I S ds _ _ h2 r2
        refine ⟨_, ReadsAll.cons q1 q2, fun z => ?_⟩
        rcases List.mem_append.mp z with z | z
        · exact n1 z
        · exact n2 z
end
/-- repr(v), v an object -/
def rRepr (K : PySem.W.Frag) : List V → Hp → VK → Prop := fun xs H Q => ∃ (a : Addr) (d : PyData), xs = [.ref a] ∧ Dq K H (.ref a) d ∧ d.showable = true ∧ d.depth ≤ 60 ∧ d.shown.length ≤ sizeLine ∧ Q (.str d.shown) H
theorem call_reprQ (S : SysK X.K) (hg : X.A.guards = some []) (hu : X.A.units + 64 < cLine) : CallR X (.builtin "repr") (rRepr X.K) := by
  intro pins s σ H xs us Q I r h
  obtain ⟨a, d, rfl, hd, hs, hdp, hz, q⟩ := h
  cases r with
  | cons rx rr =>
    cases rr
    cases rx
    obtain ⟨as, hr, hn⟩ := Dq.reads I S d _ _ hd rfl
    exact repr_of_reads' hr hs (fun _ => hn) hg (by omega) (fun _ _ z => z) (fun h' u tk kk => ⟨.str d.shown, H, I.kept kk, ⟨u, rfl⟩, q⟩) hz
end
end WXG

set_option Elab.async false
set_option linter.all false
set_option maxRecDepth 100000
set_option maxHeartbeats 2000000
/-! a caught error that stays known behind its try -/
namespace WKp
open PySem PySem.Spec PyProof.Rows L2
/-- the object of an own exception, made long ago: its class, its dict -/
def exK (a C : Addr) (d : Option Addr) : HO := .ext fun h => ∃ (oe : Obj) (vs : Array Value), h.get? a = some oe ∧ oe.cls = .ref C ∧ oe.dict = d ∧ oe.data = .fields vs
theorem exK_ok {P : Program} {w : World} {H : Hp} {h : Heap} {a C : Addr} {d : Option Addr} {oe : Obj} {vs : Array Value} (e : h.get? a = some oe) (z : Zc (.ref C) d oe) (hd : oe.data = .fields vs) : ObjOk P w H h a (exK a C d) :=
  ⟨⟨oe, vs, e, z.1, z.2, hd⟩, ⟨oe, e⟩, fun h1 h2 ⟨o, ws, p, q⟩ k => ⟨o, ws, k o p, q⟩⟩
theorem exK_at {P : Program} {w : World} {H : Hp} {h : Heap} {a C : Addr} {d : Option Addr} (x : HOk P w H h) (e : H a = some (exK a C d)) : ∃ (oe : Obj) (vs : Array Value), h.get? a = some oe ∧ oe.cls = .ref C ∧ oe.dict = d ∧ oe.data = .fields vs := (x a _ e).1
section
variable {X : Cx} {pins : List (Addr × Obj)} {σ : L2.St} {H : Hp} {s : Shared}
/-- a pinned object that is new since the def's entry is known from now on -/
theorem track {a : Addr} {oe : Obj} {o : HO} (I : Inv X ((a, oe) :: pins) σ H s) (n0 : X.s_0.heap.get? a = none) (np : ∀ p ∈ X.pn ++ pins, p.1 ≠ a) (new : ObjOk X.prog X.w (upd H a o) s.heap a o) : Inv X pins σ (upd H a o) s := by
  obtain ⟨ha, na, nL, nF, nC⟩ := I.pin (a, oe) (List.mem_append_right _ List.mem_cons_self)
  have ne : ∀ {b : Addr} {u : HO}, H b = some u → b ≠ a := fun {b u} e z => by
    rw [z] at e
    exact absurd (na.symm.trans e) (by simp)
  refine ⟨I.ok, I.os, I.bare, ⟨I.base.keep, I.base.slot, fun b u e n hx => ?_, I.base.there, fun b xs e => ?_, fun b u v e => ?_, fun b ps e => ?_⟩, I.loc, I.cell, ?_, fun x c hc => ?_, fun p hp => ?_, fun b u e => ?_, I.len⟩
  · rw [upd_ne (fun z => by rw [z, n0] at e; cases e)]
    exact I.base.free b u e n hx
  · have := I.base.tups b xs e
    rw [upd_ne (ne this)]
    exact this
  · have := I.base.frzs b u v e
    rw [upd_ne (ne this)]
    exact this
  · obtain ⟨more, this⟩ := I.base.tbls b ps e
    exact ⟨more, by rw [upd_ne (ne this)]; exact this⟩
  · rw [upd_ne (Ne.symm nL)]
    exact I.free
  · have hca : c ≠ a := fun z => by
      obtain ⟨v, hv⟩ := I.cell x c hc
      obtain ⟨ob, h1, h2⟩ := hv
      rw [z] at h1
      have e := ha.symm.trans h1
      cases e
      exact nC v (by first | exact h2 | exact h2.2)
    rw [upd_ne hca]
    exact I.freeC x c hc
  · obtain ⟨h1, h2, h3⟩ := I.pin p (by
      rcases List.mem_append.mp hp with h | h
      · exact List.mem_append_left _ h
      · exact List.mem_append_right _ (List.mem_cons_of_mem _ h))
    exact ⟨h1, by rw [upd_ne (np p hp)]; exact h2, h3⟩
  · by_cases hb : b = a
    · subst hb
      rw [upd_same] at e
      cases e
      exact new
    · rw [upd_ne hb] at e
      exact (I.hok b u e).stay (fun c v _ q => q) (fun c q => by rw [upd_ne (ne q)]; exact q) (fun c xs q => by rw [upd_ne (ne q)]; exact q)
/-- what the clause 'except x as n: q = n' wishes: slot i is n's, slot j is q's -/
def wKeep (K : PySem.W.Frag) (c : Value) (i j : Nat) (Wout : WX) (D : Ends) : WX := fun cls d σ H =>
  ∃ b, PySem.W.exmOne K cls c = some b ∧ (b = true → ∃ C, cls = .ref C ∧ ∀ a, H a = none → D.nx (((σ.set i (some (.ref a))).set j (some (.ref a))).set i none) (upd H a (exK a C d))) ∧ (b = false → Wout cls d σ H)
theorem keep_pin {a : Addr} {oe : Obj} (I : Inv (X.suite a ((a, oe) :: (X.pn ++ pins))) [] σ H s) (ok : X.Ok) : Inv X ((a, oe) :: pins) σ H s :=
  ⟨ok, I.os, I.bare, I.base, I.loc, I.cell, I.free, I.freeC, fun p hp => I.pin p (List.mem_append_left _ (by
    rcases List.mem_append.mp hp with h | h
    · exact List.mem_cons_of_mem _ (List.mem_append_left _ h)
    · rcases List.mem_cons.mp h with h | h
      · rw [h]; exact List.mem_cons_self
      · exact List.mem_cons_of_mem _ (List.mem_append_right _ h))), I.hok, I.len⟩
theorem ps_try_keep {x n q : Str} {c : Value} {i j : Nat} {body : List Stmt} {np pos pos' p1 p2 p3 : Pos} {tb : WX → TS} {Wout : WX} (hs : X.stack = X.env :: X.outer) (hf : X.env.frame = some X.env.locals) (hx : X.ex = []) (hN : X.N.Nodup) (hi : X.N[i]? = some n) (hj : X.N[j]? = some q)
    (hln : X.env.kindOf n = some .local) (hlq : X.env.kindOf q = some .local) (hc : Names X x c) (tk : Takes X Wout)
    (hb : ∀ (W : WX) (pn : List (Addr × Obj)) (xe : Value → Shared → Prop), Takes (X.tr pn xe) W → PassesOwn (model X.prog X.w) X.A X.env xe → PSs (X.tr pn xe) body (tb W))
    (hsu : ∀ (a : Addr) (oe : Obj) (pn : List (Addr × Obj)), PSs (X.suite a ((a, oe) :: pn)) [.Assign [.Name q p1] (.Name n p2) p3] (tAsg (tVar i) (gName j))) :
    PS X (.Try body [.ExceptHandler (some (.Name x np)) (some n) [.Assign [.Name q p1] (.Name n p2) p3] pos'] [] [] pos) (fun D σ H => tb (wKeep X.K c i j Wout D) D σ H) := by
  refine ⟨fun pins s σ H D I h => ?_⟩
  have ok := I.ok
  have hfr : X.A.frames = some (X.env :: X.outer) := by rw [ok.frames, hs]
  have hloc : Loc X.env.scope n := .inl hln
  refine wpAny_Try_except ?_
  refine wpAny_mono ((hb (wKeep X.K c i j Wout D) (X.pn ++ pins) (fun e s₁ => wpAny (model X.prog X.w) X.A (noteFrame e X.env) (fun _ s₂ => wpAny (model X.prog X.w) X.A (setFlight e none) (fun _ s₃ =>
    wpAny (model X.prog X.w) X.A (handleBy e X.env [.ExceptHandler (some (.Name x np)) (some n) [.Assign [.Name q p1] (.Name n p2) p3] pos']) (SP X pins D) X.xe s₃) X.xe s₂) X.xe s₁) (fun u s' xx => ?_) PassesOwn.looking).run [] s σ H D (I.toTry _) h) (fun f s1 hsp => ?_) (fun _ _ z => z)
  · obtain ⟨a, B, sI, pins', σ', H', cls, d, rfl, J', nb, up, sky, na, os, ag, b, hb1, hyes, hno⟩ := xx
    have J : Inv X pins σ' H' sI := J'.ofTry ok
    have sky' : Sky B (X.env :: X.outer) a (Zc cls d) X.env.locals s'.heap := by rw [← hs]; exact sky
    show wpAny (model X.prog X.w) X.A (noteFrame (.ref a) X.env) _ _ _
    refine Sky.land Zc.steady hfr hf sky' fun h3 fl3 up3 => ?_
    have J3 : Inv X pins σ' H' { s' with heap := h3 } := J.landed nb fl3.1 (up.trans up3) os ag
    obtain ⟨oe3, vs3, he3, hz3, hd3⟩ := fl3.there
    have nfr : a ∉ frs (X.env :: X.outer) := fun hm => by
      obtain ⟨_, o', e', hnf⟩ := fl3.2.2.1.mem hm
      rw [he3] at e'; cases e'
      exact hnf _ hd3
    have nL : a ≠ X.env.locals := fun z => nfr (List.mem_filterMap.mpr ⟨X.env, List.mem_cons_self, by rw [hf, z]⟩)
    have nF : a ∉ X.fs := fun hm => by
      obtain ⟨e, he, q⟩ := List.mem_filterMap.mp hm
      exact nfr (List.mem_filterMap.mpr ⟨e, List.mem_cons_of_mem _ he, q⟩)
    have nI : ∀ o, sI.heap.get? a ≠ some o := fun o e => by
      have := nb a o e (by rw [hs]; exact nfr)
      rw [fl3.2.1] at this
      cases this
    have n0 : X.s_0.heap.get? a = none := by
      cases e : X.s_0.heap.get? a with
      | none => rfl
      | some o =>
        obtain ⟨o', e'⟩ := J.base.there a o e (by rw [hx]; simp)
        exact absurd e' (nI o')
    have npn : ∀ p ∈ X.pn ++ pins, p.1 ≠ a := fun p hp z => by
      have := (J.pin p hp).1
      rw [z] at this
      exact nI _ this
    have S3 := J3.suite he3 hd3 na nL nF
    refine wpAny_handleBy_cons (codeAny_handlers_test ?_) (by intro q; cases q)
    have LT : PySem.W.Looks (model X.prog X.w) h3 (typeOf (.ref a)) cls := fun A Q E s k q => wpAny_typeOf_ref (k _ _ he3) (by rw [hz3.1]; exact q)
    have LM := PySem.W.exm_one (M := model X.prog X.w) (J3.kIn) LT hb1
    have test : ∀ {Q : Value → Shared → Prop} {E : Value → Shared → Prop}, Q c { s' with heap := h3 } → wpAny (model X.prog X.w) (X.A.mark (some (.ref a))) (eval (.Name x np) X.env) Q E { s' with heap := h3 } := fun {Q E} q => by
      obtain ⟨hg, hdbg, hm | ⟨hm, hv, hnn⟩⟩ := hc
      · exact ld_glob (X := X.suite a ((a, oe3) :: (X.pn ++ pins))) S3 hg hm q hdbg
      · exact ld_blt (X := X.suite a ((a, oe3) :: (X.pn ++ pins))) S3 hg hm hv q hnn hdbg
    refine test (LM.here ?_)
    cases b with
    | true =>
      obtain ⟨C, rfl, hyes2⟩ := hyes rfl
      refine codeAny_handlers_suite_as ?_
      refine HandSPX.lands_againZ fl3 fun h4 fl4 up4 => ?_
      have J4 : Inv X pins σ' H' { s' with heap := h4 } := J.landed nb fl4.1 ((up.trans up3).trans up4) os ag
      obtain ⟨oe4, vs4, he4, hz4, hd4⟩ := fl4.there
      have S4 := J4.suite he4 hd4 na nL nF
      refine store_ok (X := X.suite a ((a, oe4) :: (X.pn ++ pins))) (v := .ref a) S4 hN hi hloc rfl (fun s5 S5 => ?_) (.inr hln)
      have hil : i < σ'.length := by
        rw [J.len]
        exact (List.getElem?_eq_some_iff.mp hi).1
      refine wpAny_mono ((hsu a oe4 (X.pn ++ pins)).run [] s5 _ H' { nx := fun σ6 H6 => σ6 = (σ'.set i (some (.ref a))).set j (some (.ref a)) ∧ H6 = H', rt := fun _ _ => False, bk := fun _ _ => False, ct := fun _ _ => False } S5 ⟨.ref a, by rw [List.getElem?_set_self hil], rfl, rfl⟩) (fun f s6 hsp => ?_) (fun _ _ z => False.elim z)
      have end_ : ∀ {σ6 : L2.St} {H6 : Hp} {Q : Shared → Prop}, Inv (X.suite a ((a, oe4) :: (X.pn ++ pins))) [] σ6 H6 s6 → (∀ s7, Inv X ((a, oe4) :: pins) (σ6.set i none) H6 s7 → Q s7) →
          wpAny (model X.prog X.w) X.A (do bindName X.env n .none; unbindBehindTheSuite X.env n pos') (fun _ s7 => Q s7) X.xe s6 := fun {σ6 H6 Q} S6 hq => gone_ok (keep_pin S6 ok) hN hi hln hq
      cases f with
      | next =>
        obtain ⟨σ6, H6, S6, rfl, rfl⟩ := hsp
        refine end_ S6 fun s7 J7 => ⟨_, _, track J7 n0 npn ?_, hyes2 a na⟩
        exact exK_ok (J7.pin (a, oe4) (List.mem_append_right _ List.mem_cons_self)).1 hz4 hd4
      | brk =>
        obtain ⟨σ6, H6, S6, q6⟩ := hsp
        exact q6.elim
      | cont =>
        obtain ⟨σ6, H6, S6, q6⟩ := hsp
        exact q6.elim
      | ret u =>
        obtain ⟨v6, σ6, H6, S6, r6, q6⟩ := hsp
        exact q6.elim
    | false =>
      show wpAny _ X.A (handleBy (.ref a) X.env []) _ _ _
      refine wpAny_handleBy_nil ?_
      obtain ⟨k1, k2, k3, oe, vs, T, oT, ts', he, hz, hd, h1, hr⟩ := id fl3
      unfold PySem.passOn
      refine wpAny_bind (wpAny_field he hd h1 ?_)
      rw [if_neg (show ¬ ((Value.ref T == Value.none) = true) from by simp)]
      have fin : wpAny (model X.prog X.w) X.A (setFlight (.ref a) X.env.frame) (fun _ s4 => wpAny (model X.prog X.w) X.A (throw (.ref a) : Sem Flow) (SP X pins D) X.xe s4) X.xe { s' with heap := h3 } := by
        rw [hf]
        refine HandSPX.setFlight_upZ fl3 fun h4 hh4 up4 => wpAny_throw (tk _ _ ?_)
        exact ⟨a, B, sI, pins, σ', H', cls, d, rfl, J, nb, (up.trans up3).trans up4, .inr (.inr (by rw [hs]; exact hh4)), na, os, ag, hno rfl⟩
      first
        | exact wpAny_bind (wpAny_pure (wpAny_bind fin))
        | exact wpAny_bind fin
  · cases f with
    | next =>
      obtain ⟨σ', H', J', q⟩ := hsp
      exact wpAny_execs_nil ⟨σ', H', J'.ofTry ok, q⟩
    | brk =>
      obtain ⟨σ', H', J', q⟩ := hsp
      exact ⟨σ', H', J'.ofTry ok, q⟩
    | cont =>
      obtain ⟨σ', H', J', q⟩ := hsp
      exact ⟨σ', H', J'.ofTry ok, q⟩
    | ret u =>
      obtain ⟨v, σ', H', J', r, q⟩ := hsp
      exact ⟨v, σ', H', J'.ofTry ok, r, q⟩
end
end WKp

set_option Elab.async false
set_option linter.all false
set_option maxRecDepth 100000
set_option maxHeartbeats 4000000
/-! exceptions of the program's own classes as values: made, with a field stored by their __init__, read, asked by isinstance -/
namespace WXE
open PySem PySem.Spec PyProof.Rows L2 Builtin.ObjectAttr

/-- what the written part says of an exception class of the program -/
structure XC (K : PySem.W.Frag) (C : Addr) (B newId initId : String) (bmB : List Value) : Prop where
  fb : ExcBaseFacts B newId initId bmB
  sf : StoreFacts B bmB "object.__setattr__" "object"
  ini : PySem.W.excInitIn K C bmB newId = true
  ovr : PySem.W.excOver K C bmB = true
  hd : PySem.W.hasDictIn K C = true
  sa : PySem.W.findIn K (.ref C) "__setattr__" = some (some (.builtin "object.__setattr__"))
  ga : PySem.W.findIn K (.ref C) "__getattribute__" = some (some (.builtin "BaseException.__getattribute__"))
  gg : PySem.W.findIn K (.ref C) "__getattr__" = some none
  ex : PySem.W.subIn K (.ref C) (.type "BaseException") = some true
  cc : PySem.W.findIn K (.ref C) "__class__" = some (some (.builtin "object.__class__"))
  mo : PySem.W.mroIn K C (.type "object") = some true
  kp : PySem.W.keepIn K (.ref C) = true
  gs : PySem.W.specialIn K (.builtin "object.__class__") "__get__" = some (some (.builtin "getset_descriptor.__get__"))
  tk : PySem.W.takesIn K (.builtin "object.__class__") = some true

section
variable {prog : Program} {w : World} {A : Around} {E : Value → Shared → Prop} {hp : Heap} {g : Array GenState} {d : Drawn} {t : Nat} {os : OsState}
theorem set_first {K : PySem.W.Frag} {B : String} {bmB : List Value} {x C t0 : Addr} {name : Str} {v : Value} {Q : Unit → Shared → Prop}
    (SF : StoreFacts B bmB "object.__setattr__" "object") (X : K.In hp) (hx : hp.get? x = some (PySem.W.excObj C t0 none .none))
    (hov : PySem.W.excOver K C bmB = true) (hh : PySem.W.hasDictIn K C = true)
    (hs : PySem.W.findIn K (.ref C) "__setattr__" = some (some (.builtin "object.__setattr__"))) (ha : PySem.W.findIn K (.ref C) name = some none)
    (hq : ∀ h' tk' dx, (∀ b o, b ≠ x → hp.get? b = some o → h'.get? b = some o) → hp.objs.size ≤ dx → dx ≠ x →
      h'.get? x = some (PySem.W.excObj C t0 (some dx) .none) → h'.Ns1 dx (fun y => if y = name then some v else none) → Q () ⟨h', g, d, tk', os⟩) :
    wpAny (model prog w) A (setAttr (.ref x) name v) Q E ⟨hp, g, d, t, os⟩ := by
  obtain ⟨cd, hc, hd'⟩ := PySem.W.any_some hh
  have hxs : x ≠ hp.objs.size := Nat.ne_of_lt (Heap.lt_size hx)
  refine PySem.W.set_plain X (od := none) ⟨hx, rfl, rfl, trivial⟩ hs ?_
  refine PySem.W.osa_openX (s := ⟨hp, g, d, t + 1, os⟩) (od := none) SF X ⟨hx, rfl, rfl, trivial⟩ hov (by unfold PySem.W.takerIn; rw [ha]; rfl) fun b => ?_
  refine wpAny_bind (wpAny_pure (wpAny_bind (PySem.W.instanceDict_exc (s := ⟨hp, g, d, t + 1, os⟩) hx (PySem.W.looks_clsIn X hc) hd' ?_)))
  show wpAny _ _ (storeInDict hp.objs.size (.str name _) name v) _ _ _
  have hx1 : (hp.push (PySem.W.dictOf [] 0)).get? x = some (PySem.W.excObj C t0 none .none) := Heap.get?_push_of_some _ hx
  refine PySem.HandSPX.store_in_new ⟨_, #[], _, (Heap.get?_update_ne _ _ _ _ hxs.symm).trans (Heap.get?_push_at rfl rfl), rfl, fun e he => absurd he (by simp), fun _ => rfl⟩ fun h' tk' hn' hs' => ?_
  refine hq h' tk' hp.objs.size (fun b o hb ho => ?_) (Nat.le_refl _) hxs.symm ?_ hn'
  · exact (hs'.2 b (Nat.ne_of_lt (Heap.lt_size ho))).trans ((Heap.get?_update_ne _ _ _ _ hb).trans (Heap.get?_push_of_some _ ho))
  · exact (hs'.2 x hxs).trans (Heap.get?_update_self _ hx1 rfl)
end

section
variable {X : Cx} {pins : List (Addr × Obj)} {σ : L2.St} {H : Hp} {s : Shared} {a C dx : Addr} {f : Str} {y : V} {u : Value} {fs : List (Str × V)} {B newId initId : String} {bmB : List Value} {A : Around} {E : Value → Shared → Prop}
/-- one object changed in its place, one new beside it -/
theorem inv_pair {h' : Heap} {tk' : Nat} {o o1 o2 : HO} (I : Inv X pins σ H s) (e : H a = some o) (hno : ∀ z, o ≠ .own z) (hnt : ∀ xs, o ≠ .tup xs) (hnf : ∀ ob v, o ≠ .frz ob v) (hnb : ∀ ps, o ≠ .tbl ps)
    (k : ∀ b ob, b ≠ a → s.heap.get? b = some ob → h'.get? b = some ob) (dn : s.heap.objs.size ≤ dx) (hx : ∃ ob, h'.get? a = some ob)
    (w1 : ∀ H', ObjOk X.prog X.w H' h' dx o1) (w2 : ∀ H', ObjOk X.prog X.w H' h' a o2) : Inv X pins σ (upd (upd H dx o1) a o2) { s with heap := h', toks := tk' } := by
  have hnd : H dx = none := I.hok.fresh dn
  have nd : ∀ {b : Addr} {ob : Obj}, s.heap.get? b = some ob → b ≠ dx := fun {b ob} q => Nat.ne_of_lt (Nat.lt_of_lt_of_le (Heap.lt_size q) dn)
  have na : ∀ {b : Addr}, H b = none → b ≠ a := fun {b} n z => by
    rw [z, e] at n
    cases n
  have apart : ∀ {b : Addr} {u : HO}, H b = some u → o ≠ u → b ≠ a := fun {b u} q n z => by
    rw [z, e] at q
    exact n (Option.some.inj q)
  refine I.un (t' := tk') ⟨fun b ob q n _ _ => k b ob (na n) q, fun b ob q n _ _ => ⟨ob.slots, k b ob (na n) q⟩, fun b ob q n _ => ?_, fun b ob q _ => ?_, fun b xs q => ?_, fun b ob v q => ?_, fun b ps q => ⟨#[], ?_⟩⟩ fun b ob q => ?_
  · rw [upd_ne (na n), upd_ne (nd q)]
    exact n
  · by_cases hb : b = a
    · rw [hb]
      exact hx
    · exact ⟨ob, k b ob hb q⟩
  · rw [upd_ne (apart q (hnt _)), upd_ne (ne_of_none q hnd)]
    exact q
  · rw [upd_ne (apart q (hnf _ _)), upd_ne (ne_of_none q hnd)]
    exact q
  · rw [upd_ne (apart q (hnb _)), upd_ne (ne_of_none q hnd), q]
    simp
  · by_cases hb : b = a
    · subst hb
      rw [upd_same] at q
      cases q
      exact w2 _
    · rw [upd_ne hb] at q
      by_cases hd : b = dx
      · subst hd
        rw [upd_same] at q
        cases q
        exact w1 _
      · rw [upd_ne hd] at q
        refine (I.hok b ob q).stay (fun c v hc z => k c v ?_ z) (fun c hc => ?_) fun c xs hc => ?_
        · rcases hc with hc | hc
          · rw [hc]
            exact hb
          · exact apart hc (hno _)
        · rw [upd_ne (apart hc (hno _)), upd_ne (ne_of_none hc hnd)]
          exact hc
        · rw [upd_ne (apart hc (hnt _)), upd_ne (ne_of_none hc hnd)]
          exact hc
/-- self.f = y, its first field -/
theorem xset_ok {Q : Unit → Shared → Prop} (T : XC X.K C B newId initId bmB) (I : Inv X pins σ H s) (e : H a = some (exo a C none)) (hno : PySem.W.findIn X.K (.ref C) f = some none) (ry : RelV y u)
    (h : ∀ dx s', H dx = none → dx ≠ a → Inv X pins σ (upd (upd H dx (exd dx [(f, y)])) a (exo a C (some dx))) s' → Q () s') : wpAny (model X.prog X.w) A (setAttr (.ref a) f u) Q E s := by
  obtain ⟨t1, ho⟩ := exo_at I.hok e
  obtain ⟨hp, g, d, t, os⟩ := s
  refine set_first T.sf I.kIn ho T.ovr T.hd T.sa hno fun h' tk' dx k dn dne hx hn => ?_
  exact h dx _ (I.hok.fresh dn) dne (inv_pair I e (fun _ => exo_own) (fun _ => exo_tup) (fun _ _ => exo_frz) (fun _ => exo_tbl) k dn ⟨_, hx⟩ (fun _ => exd_ok hn (relO_put (fs := []) ry fun _ => True.intro)) fun _ => exo_ok hx)
/-- B.__init__(self, ..) -/
theorem xinit_ok {us : List Value} {Q : Value → Shared → Prop} (T : XC X.K C B newId initId bmB) (I : Inv X pins σ H s) (e : H a = some (exo a C none)) (hl : us.length ≤ sizeLine) (h : ∀ s', Inv X pins σ H s' → Q .none s') :
    wpAny (model X.prog X.w) A (call (.builtin initId) (.ref a :: us)) Q E s := by
  obtain ⟨t1, ho⟩ := exo_at I.hok e
  obtain ⟨nm, N, qn, bs, bm, hdct, sn, sub, ab, col, dd, k0, k1, k2, k3, k5, hC, hT⟩ := PySem.W.excInit_of I.kIn T.ini
  obtain ⟨hp, g, d, t, os⟩ := s
  refine wpAny_call (PySem.HandSPX.init_base T.fb hT hC ho hl fun h' t2 k hx => ?_)
  have J := I.write (t' := t) (x := a) (e := a) (o := exo a C none) (by rw [e]; exact True.intro) (.inl rfl) k ⟨_, hx⟩ (exo_ok hx)
  have eu : upd H a (exo a C none) = H := funext fun b => by
    by_cases hb : b = a
    · rw [hb, upd_same, e]
    · rw [upd_ne hb]
  rw [eu] at J
  exact h _ J
end

/-! ### readings and rules -/
/-- B.__init__(self, ..), read off an own class above -/
def tXini (K : PySem.W.Frag) (initId : String) (ta : TA) : TE := fun σ H Q => ta σ H fun vs H1 => ∃ (a C : Addr) (ws : List V) (B newId : String) (bmB : List Value),
  vs = .ref a :: ws ∧ ws.length ≤ 1000 ∧ XC K C B newId initId bmB ∧ H1 a = some (exo a C none) ∧ Q .non H1
/-- self.f = e on an exception without a field -/
def tXst (K : PySem.W.Frag) (f : Str) (to te : TE) : TS := fun D σ H => te σ H fun y H1 => to σ H1 fun x H2 => ∃ (a C : Addr) (B newId initId : String) (bmB : List Value),
  x = .ref a ∧ XC K C B newId initId bmB ∧ PySem.W.findIn K (.ref C) f = some none ∧ H2 a = some (exo a C none) ∧
    ∀ dx, H2 dx = none → dx ≠ a → D.nx σ (upd (upd H2 dx (exd dx [(f, y)])) a (exo a C (some dx)))
/-- C(..), C's own __init__ keeping sp: the exception stays as a value -/
def tXmk (C : Addr) (n m : Nat) (sp : Sp) (E : XK) (gV : List V → List V → List V) (ta tk : TA) : TE := fun σ H Q => ta σ H fun vs H1 => tk σ H1 fun zs H2 => vs.length = n ∧ zs.length = m ∧ n ≤ 1000 ∧
  ∀ a, H2 a = none → sp (gV (.ref a :: vs) zs) (upd H2 a (exo a C none)) (fun v H3 => v = .non ∧ Q (.ref a) H3) E
/-- e.f of an exception -/
def tXfld (K : PySem.W.Frag) (f : Str) (te : TE) : TE := fun σ H Q => te σ H fun x H1 => ∃ (a C dx : Addr) (fs : List (Str × V)) (v : V) (B newId initId : String) (bmB : List Value),
  x = .ref a ∧ H1 a = some (exo a C (some dx)) ∧ H1 dx = some (exd dx fs) ∧ XC K C B newId initId bmB ∧ PySem.W.findIn K (.ref C) f = some none ∧ fs.lookup f = some v ∧ Q v H1
/-- a whole exception at a -/
def XAt (H : Hp) (a C : Addr) : Prop := H a = some (exo a C none) ∨ ∃ dx fs, H a = some (exo a C (some dx)) ∧ H dx = some (exd dx fs)
/-- isinstance(e, c) | isinstance(e, (c, ..)) -/
def rXis (K : PySem.W.Frag) : List V → Hp → VK → Prop := fun xs H Q => ∃ (a C : Addr) (c : V) (B newId initId : String) (bmB : List Value) (b : Bool),
  xs = [.ref a, c] ∧ XAt H a C ∧ XC K C B newId initId bmB ∧ ((∃ cv, (∀ u, RelV c u → u = cv) ∧ PySem.W.kitOne K (.ref C) cv = some b) ∨
    ∃ p cs, c = .ref p ∧ H p = some (.tup cs) ∧ ∀ us, Vals cs us → PySem.W.kitAny K (.ref C) us = some b) ∧ Q (.bl b) H

section
variable {X : Cx} {o e : Expr} {es : List Expr} {to te : TE} {ta tk : TA} {f x : Str} {p p' p1 p2 pos : Pos} {initId : String}
theorem pe_xini {C0 : Addr} {pl : Sem Bool} (hg : Gl X x) (hm : X.mg x = some (.ref C0)) (hr : PySem.W.readsIn X.K C0 (.type "type") = true)
    (hs : PySem.W.specialIn X.K (.ref C0) "__getattribute__" = some (some (.builtin "type.__getattribute__"))) (hf : PySem.W.findCls X.K (.ref C0) (.type "type") "__init__" = some (.val (.builtin initId)))
    (hh : PySem.W.handedIn (.builtin initId) = true) (ha : PA X (e :: es) ta) (hdb : (x == ("__debug__" : Str)) = false := by decide)
    (hc : eval (.Call (.Attribute (.Name x p1) "__init__" p2) (e :: es) [] pos) X.env = (do
      let ov ← eval (.Name x p1) X.env
      standAt p2.atName
      let (f, first) ← holding [ov] (getMethod ov "__init__" pl)
      callWith pos f first (backTo pos (starEach (e :: es) X.env)) (backToKw pos (keywordEach [] X.env))) := by rfl)
    (he : starEach (e :: es) X.env = (false, eval e X.env) :: starEach es X.env := by rfl) (hpl : (backTo pos (starEach es X.env)).any (·.1) = false := by rfl) :
    PE X (.Call (.Attribute (.Name x p1) "__init__" p2) (e :: es) [] pos) (tXini X.K initId ta) := by
  refine ⟨fun pins s σ H Q I h => ?_⟩
  refine PySem.W.methodCall_KW (ld_glob I hg hm ?_ hdb) hc
  refine PySem.W.method_cls I.kIn hs (PySem.W.cls_value I.kIn hr hf hh ?_)
  show wpAny _ _ (callWith pos (Value.builtin initId) [] (backTo pos (starEach (e :: es) X.env)) []) _ _ _
  refine PyProof.Rows.callWith_method1 (thn (ha.run pos pins _ σ H _ (I.tok _) h) fun us s1 ⟨vs, H1, I1, r1, a, C, ws, B, newId, bmB, ev, hl, T, ea, q⟩ => ?_) he hpl
  subst ev
  cases r1 with
  | @cons _ u0 _ ur ra rw' =>
    obtain rfl : u0 = Value.ref a := ra
    exact xinit_ok T I1 ea (by rw [← Paired.length rw', sizeLine_eq]; omega) fun s' J => ⟨.non, H1, J, rfl, q⟩
theorem ps_xst (ho : PE X o to) (he : PE X e te) (hs : swapsWith e (some (.Attribute o f p')) pos.line X.env = pure false := by rfl) : PS X (.Assign [.Attribute o f p'] e pos) (tXst X.K f to te) := by
  refine ⟨fun pins s σ H D I h => ?_⟩
  refine plainObj_wpAny_Assign_Attribute (thn (he.run pins s σ H _ I h) fun v s1 ⟨y, H1, I1, r1, q1⟩ => thn (ho.run pins s1 σ H1 _ I1 q1) fun u s2 ⟨x, H2, I2, r2, a, C, B, n, i, bm, ex, T, hno, ea, q⟩ => ?_) hs
  subst ex
  obtain rfl : u = Value.ref a := r2
  exact xset_ok T I2 ea hno r1 fun dx s' nx ne J => ⟨σ, _, J, q dx nx ne⟩
theorem pe_xfld (he : PE X e te) (hb : attributeBase e f X.env (eval e X.env) = eval e X.env := by rfl) : PE X (.Attribute e f pos) (tXfld X.K f te) := by
  refine ⟨fun pins s σ H Q I h => ?_⟩
  refine attr_of hb (thn (he.run pins s σ H _ I h) fun u s1 hh => ?_)
  obtain ⟨x, H1, I1, rx, a, C, dx, fs, v, B, n, i, bm, ex, ea, ed, T, hno, l, q⟩ := hh
  subst ex
  obtain rfl : u = Value.ref a := rx
  obtain ⟨t1, ho⟩ := exo_at I1.hok ea
  obtain ⟨mA, hns, rel⟩ := exd_at I1.hok ed
  obtain ⟨od, hod, hl⟩ := lookIn_ns hns
  obtain ⟨u, hu, ru⟩ := RelO.some_of (v := v) (o := mA f) (by rw [← l]; exact rel f)
  refine HandSPX.exc_get I1.kIn (od := some od) ⟨ho, rfl, rfl, hod⟩ T.ga T.gg T.ex (PySem.W.findObj_own T.hd hno rfl (by rw [hl, hu])) (handed_of ru) ⟨v, H1, I1.tok _, ru, q⟩
theorem x_inst {pins : List (Addr × Obj)} {σ : L2.St} {H : Hp} {s : Shared} {a C : Addr} (I : Inv X pins σ H s) (h : XAt H a C) : ∃ ox od, PySem.W.InstAt s.heap a ox C od := by
  rcases h with ea | ⟨dx, fs, ea, ed⟩
  · obtain ⟨t1, ho⟩ := exo_at I.hok ea
    exact ⟨_, none, ho, rfl, rfl, trivial⟩
  · obtain ⟨t1, ho⟩ := exo_at I.hok ea
    obtain ⟨mA, hns, rel⟩ := exd_at I.hok ed
    obtain ⟨od, hod, hl⟩ := lookIn_ns hns
    exact ⟨_, some od, ho, rfl, rfl, hod⟩
theorem call_xis : CallR X (.builtin "isinstance") (rXis X.K) := by
  intro pins s σ H xs us Q I r h
  obtain ⟨a, C, c, B, n, i, bm, b, rfl, xa, T, hk, q⟩ := h
  cases r with
  | cons rx rr =>
    cases rr with
    | cons rt rr =>
      cases rr
      cases rx
      obtain ⟨ox, od, J⟩ := x_inst I xa
      have hcl : (PySem.W.clsIn X.K C).isSome = true := by
        obtain ⟨cd, hc, _⟩ := PySem.W.any_some T.hd
        rw [hc] <;> rfl
      have Z := PySem.W.kitx_exc (x := a) (ox := ox) (od := od) hcl T.ga T.gg T.ex T.cc T.gs T.tk T.mo
      rcases hk with ⟨cv, hcv, e⟩ | ⟨p, cs, rfl, hp, e⟩
      · have ec := hcv _ rt
        subst ec
        exact PySem.W.kia_one Z I.kIn J e (fun z => nomatch z) fun tk => ⟨.bl b, H, I.kept (t' := tk) fun _ _ z => z, rfl, q⟩
      · cases rt
        obtain ⟨_, its, rv, ⟨⟨oc, odd, odt, osl⟩, ho, hc, m, hd⟩⟩ := I.hok p _ hp
        dsimp only at hc hd
        subst hc hd
        exact PySem.W.kia_tup Z I.kIn J ho (e its rv) (fun z => nomatch z) fun tk => ⟨.bl b, H, I.kept (t' := tk) fun _ _ z => z, rfl, q⟩
end

/-- the same by a Bool -/
def xcB (K : PySem.W.Frag) (C : Addr) (newId : String) (bmB : List Value) : Bool :=
  PySem.W.excInitIn K C bmB newId && (PySem.W.excOver K C bmB && (PySem.W.hasDictIn K C && (decide (PySem.W.findIn K (.ref C) "__setattr__" = some (some (.builtin "object.__setattr__"))) &&
  (decide (PySem.W.findIn K (.ref C) "__getattribute__" = some (some (.builtin "BaseException.__getattribute__"))) && (decide (PySem.W.findIn K (.ref C) "__getattr__" = some none) &&
  (decide (PySem.W.subIn K (.ref C) (.type "BaseException") = some true) && (decide (PySem.W.findIn K (.ref C) "__class__" = some (some (.builtin "object.__class__"))) &&
  (decide (PySem.W.mroIn K C (.type "object") = some true) && (PySem.W.keepIn K (.ref C) && (decide (PySem.W.specialIn K (.builtin "object.__class__") "__get__" = some (some (.builtin "getset_descriptor.__get__"))) &&
  decide (PySem.W.takesIn K (.builtin "object.__class__") = some true)))))))))))
theorem xcB_ok {K : PySem.W.Frag} {C : Addr} {B newId initId : String} {bmB : List Value} (fb : ExcBaseFacts B newId initId bmB) (sf : StoreFacts B bmB "object.__setattr__" "object") (h : xcB K C newId bmB = true) : XC K C B newId initId bmB := by
  unfold xcB at h
  simp only [Bool.and_eq_true, decide_eq_true_eq] at h
  obtain ⟨h1, h2, h3, h4, h5, h6, h7, h8, h9, h10, h11, h12⟩ := h
  exact ⟨fb, sf, h1, h2, h3, h4, h5, h6, h7, h8, h9, h10, h11, h12⟩
end WXE

set_option Elab.async false
set_option linter.all false
set_option maxRecDepth 100000
set_option maxHeartbeats 2000000
/-! a kept error: its field, isinstance -/
namespace WKp
open PySem PySem.Spec PyProof.Rows L2 WXE
def KAt (H : Hp) (a C : Addr) : Prop := ∃ dx fs, H a = some (exK a C (some dx)) ∧ H dx = some (exd dx fs)
def tKfld (K : PySem.W.Frag) (f : Str) (te : TE) : TE := fun σ H Q => te σ H fun x H1 => ∃ (a C dx : Addr) (fs : List (Str × V)) (v : V) (B newId initId : String) (bmB : List Value),
  x = .ref a ∧ H1 a = some (exK a C (some dx)) ∧ H1 dx = some (exd dx fs) ∧ XC K C B newId initId bmB ∧ PySem.W.findIn K (.ref C) f = some none ∧ fs.lookup f = some v ∧ Q v H1
def rKis (K : PySem.W.Frag) : List V → Hp → VK → Prop := fun xs H Q => ∃ (a C : Addr) (c : V) (B newId initId : String) (bmB : List Value) (b : Bool),
  xs = [.ref a, c] ∧ KAt H a C ∧ XC K C B newId initId bmB ∧ ((∃ cv, (∀ u, RelV c u → u = cv) ∧ PySem.W.kitOne K (.ref C) cv = some b) ∨
    ∃ p cs, c = .ref p ∧ H p = some (.tup cs) ∧ ∀ us, Vals cs us → PySem.W.kitAny K (.ref C) us = some b) ∧ Q (.bl b) H
section
variable {X : Cx} {e : Expr} {te : TE} {f : Str} {pos : Pos}
theorem k_inst {pins : List (Addr × Obj)} {σ : L2.St} {H : Hp} {s : Shared} {a C dx : Addr} {fs : List (Str × V)} (I : Inv X pins σ H s) (ea : H a = some (exK a C (some dx))) (ed : H dx = some (exd dx fs)) :
    ∃ (ox od : Obj) (mA : Str → Option Value), PySem.W.InstAt s.heap a ox C (some od) ∧ (∀ f, RelO (fs.lookup f) (mA f)) ∧ ∀ y, PySem.W.lookIn y od = some (mA y) := by
  obtain ⟨oe, vs, ha, hc, hd, hv⟩ := exK_at I.hok ea
  obtain ⟨mA, hns, rel⟩ := exd_at I.hok ed
  obtain ⟨od, hod, hl⟩ := lookIn_ns hns
  exact ⟨oe, od, mA, ⟨ha, hc, by unfold PySem.W.notCls; rw [hv] <;> rfl, by rw [hd]; exact hod⟩, rel, hl⟩
theorem pe_kfld (he : PE X e te) (hb : attributeBase e f X.env (eval e X.env) = eval e X.env := by rfl) : PE X (.Attribute e f pos) (tKfld X.K f te) := by
  refine ⟨fun pins s σ H Q I h => ?_⟩
  refine attr_of hb (thn (he.run pins s σ H _ I h) fun u s1 hh => ?_)
  obtain ⟨x, H1, I1, rx, a, C, dx, fs, v, B, n, i, bm, ex, ea, ed, T, hno, l, q⟩ := hh
  subst ex
  obtain rfl : u = Value.ref a := rx
  obtain ⟨ox, od, mA, J, rel, hl⟩ := k_inst I1 ea ed
  obtain ⟨u, hu, ru⟩ := RelO.some_of (v := v) (o := mA f) (by rw [← l]; exact rel f)
  refine HandSPX.exc_get I1.kIn J T.ga T.gg T.ex (PySem.W.findObj_own T.hd hno rfl (by rw [hl, hu])) (handed_of ru) ⟨v, H1, I1.tok _, ru, q⟩
theorem call_kis : CallR X (.builtin "isinstance") (rKis X.K) := by
  intro pins s σ H xs us Q I r h
  obtain ⟨a, C, c, B, n, i, bm, b, rfl, ⟨dx, fs, ea, ed⟩, T, hk, q⟩ := h
  cases r with
  | cons rx rr =>
    cases rr with
    | cons rt rr =>
      cases rr
      cases rx
      obtain ⟨ox, od, mA, J, _, _⟩ := k_inst I ea ed
      have hcl : (PySem.W.clsIn X.K C).isSome = true := by
        obtain ⟨cd, hc, _⟩ := PySem.W.any_some T.hd
        rw [hc] <;> rfl
      have Z := PySem.W.kitx_exc (x := a) (ox := ox) (od := some od) hcl T.ga T.gg T.ex T.cc T.gs T.tk T.mo
      rcases hk with ⟨cv, hcv, e⟩ | ⟨p, cs, rfl, hp, e⟩
      · have ec := hcv _ rt
        subst ec
        exact PySem.W.kia_one Z I.kIn J e (fun z => nomatch z) fun tk => ⟨.bl b, H, I.kept (t' := tk) fun _ _ z => z, rfl, q⟩
      · cases rt
        obtain ⟨_, its, rv, ⟨⟨oc, odd, odt, osl⟩, ho, hc, m, hd⟩⟩ := I.hok p _ hp
        dsimp only at hc hd
        subst hc hd
        exact PySem.W.kia_tup Z I.kIn J ho (e its rv) (fun z => nomatch z) fun tk => ⟨.bl b, H, I.kept (t' := tk) fun _ _ z => z, rfl, q⟩
end
end WKp

set_option Elab.async false
set_option linter.all false
set_option maxRecDepth 100000
set_option maxHeartbeats 2000000
/-! readings that only add objects: what holds of the value and the heap behind, whatever was added before -/
namespace WEv
open PySem PySem.Spec L2
abbrev HP (α : Type) := α → Hp → Prop
/-- what stays true when objects are added -/
def Mn {α : Type} (P : HP α) : Prop := ∀ x H H', Same H H' → P x H → P x H'
def EvP (te : TE) (σ : L2.St) (H : Hp) (P : HP V) : Prop := ∀ H1, Same H H1 → ∀ Q : VK, (∀ v H2, Same H1 H2 → P v H2 → Q v H2) → te σ H1 Q
def EvA (ta : TA) (σ : L2.St) (H : Hp) (P : HP (List V)) : Prop := ∀ H1, Same H H1 → ∀ Q : List V → Hp → Prop, (∀ v H2, Same H1 H2 → P v H2 → Q v H2) → ta σ H1 Q
def EvT (tt : TT) (σ : L2.St) (H : Hp) (b : Bool) : Prop := ∀ H1, Same H H1 → ∀ Q : Bool → Hp → Prop, (∀ H2, Same H1 H2 → Q b H2) → tt σ H1 Q
/-- a list object whose items are told -/
def LstP (n : Nat) (P : HP (List V)) : HP V := fun v H => ∃ p xs, v = .ref p ∧ H p = some (.lst xs) ∧ xs.length = n ∧ P xs H
theorem same_new {H : Hp} {p : Addr} {o : HO} (h : H p = none) : Same H (upd H p o) := fun a u e => by
  rw [upd_ne (ne_of_none e h)]
  exact e
theorem same_put {H H' : Hp} {p : Addr} {o : HO} (e : Same H H') (h : H p = none) : Same H (upd H' p o) := fun a u ha => by
  rw [upd_ne (ne_of_none ha h)]
  exact e a u ha
theorem mn_lst {n : Nat} {P : HP (List V)} (m : Mn P) : Mn (LstP n P) := fun _ _ _ s ⟨p, xs, e, h, l, q⟩ => ⟨p, xs, e, s _ _ h, l, m _ _ _ s q⟩
theorem mn_is {α : Type} {x : α} : Mn (fun y _ => y = x) := fun _ _ _ _ e => e
theorem mn_pure {α : Type} {p : α → Prop} : Mn (fun y _ => p y) := fun _ _ _ _ e => e
section
variable {σ : L2.St} {H H' : Hp} {te ta tb : TE} {tr : TA} {P P' Pa Pb : HP V} {Ps : HP (List V)} {v : V} {D : Ends} {n m : Nat}
theorem EvP.mono (s : Same H H') (h : EvP te σ H P) : EvP te σ H' P := fun H1 e => h H1 (s.trans e)
theorem EvP.imp (h : EvP te σ H P) (k : ∀ v H, P v H → P' v H) : EvP te σ H P' := fun H1 e Q q => h H1 e Q fun v H2 s p => q v H2 s (k v H2 p)
theorem EvP.keep {R : Hp → Prop} (h : EvP te σ H P) (hR : R H) (mR : ∀ H H', Same H H' → R H → R H') : EvP te σ H (fun v H => P v H ∧ R H) := fun H1 e Q q => h H1 e Q fun v H2 s p => q v H2 s ⟨p, mR _ _ (e.trans s) hR⟩
theorem p_var {i : Nat} (h : σ[i]? = some (some v)) : EvP (tVar i) σ H (fun x _ => x = v) := fun H1 _ _ q => ⟨v, h, q _ H1 (Same.refl H1) rfl⟩
theorem p_c : EvP (tC v) σ H (fun x _ => x = v) := fun H1 _ _ q => q _ H1 (Same.refl H1) rfl
theorem a_nil : EvA tNil σ H (fun vs _ => vs = []) := fun H1 _ _ q => q _ H1 (Same.refl H1) rfl
theorem a_cons (m : Mn P) (h : EvP te σ H P) (hr : EvA tr σ H Ps) : EvA (tCons te tr) σ H (fun vs H => ∃ x xs, vs = x :: xs ∧ P x H ∧ Ps xs H) := fun H1 e Q q =>
  h H1 e _ fun x H2 s2 p2 => hr H2 (e.trans s2) _ fun xs H3 s3 p3 => q _ H3 (s2.trans s3) ⟨x, xs, rfl, m _ _ _ s3 p2, p3⟩
theorem p_lst (h : EvA tr σ H Ps) (m : Mn Ps) (hl : ∀ xs H, Ps xs H → xs.length = n) (hn : n ≤ 100000 := by decide) : EvP (tLst tr) σ H (LstP n Ps) := fun H1 e _ q =>
  h H1 e _ fun xs H2 s2 p2 => ⟨Nat.le_trans (Nat.le_of_eq (hl _ _ p2)) (Nat.le_trans hn (by decide)), fun p hp => q _ _ (s2.trans (same_new hp)) ⟨p, xs, rfl, upd_same, hl _ _ p2, m _ _ _ (same_new hp) p2⟩⟩
theorem s_asg {i : Nat} (h : EvP te σ H P) (k : ∀ v H1, Same H H1 → P v H1 → D.nx (σ.set i (some v)) H1) : tAsg te (gName i) D σ H := h H (Same.refl H) _ k
theorem s_ret (h : EvP te σ H P) (k : ∀ v H1, Same H H1 → P v H1 → D.rt v H1) : tRet te D σ H := h H (Same.refl H) _ k
theorem EvA.imp {Ps' : HP (List V)} (h : EvA tr σ H Ps) (k : ∀ v H, Ps v H → Ps' v H) : EvA tr σ H Ps' := fun H1 e Q q => h H1 e Q fun v H2 s p => q v H2 s (k v H2 p)
end
end WEv

set_option Elab.async false
set_option linter.all false
set_option maxRecDepth 100000
set_option maxHeartbeats 2000000
/-! readings that leave the heap: one value -/
namespace WRd
open PySem PySem.Spec L2
def Ev (te : TE) (σ : L2.St) (H : Hp) (v : V) : Prop := ∀ Q : VK, Q v H → te σ H Q
def EvL (ta : TA) (σ : L2.St) (H : Hp) (vs : List V) : Prop := ∀ Q : List V → Hp → Prop, Q vs H → ta σ H Q
def EvB (tt : TT) (σ : L2.St) (H : Hp) (b : Bool) : Prop := ∀ Q : Bool → Hp → Prop, Q b H → tt σ H Q
section
variable {K : PySem.W.Frag} {σ : L2.St} {H : Hp} {te ta tb td ty tv : TE} {tr : TA} {tt tu : TT} {v x y : V} {vs : List V} {i j : Int} {n : Nat} {m : Addr} {kvs : List (Key × V)} {k : Key} {D : Ends} {a b c : Bool}
theorem ev_var (h : σ[n]? = some (some v)) : Ev (tVar n) σ H v := fun _ q => ⟨v, h, q⟩
theorem ev_c : Ev (tC v) σ H v := fun _ q => q
theorem evl_nil : EvL tNil σ H [] := fun _ q => q
theorem evl_cons (h : Ev ta σ H x) (g : EvL tr σ H vs) : EvL (tCons ta tr) σ H (x :: vs) := fun _ q => h _ (g _ q)
theorem ev_opI {C : Int → Int → Prop} {g : Int → Int → V} (ha : Ev ta σ H (.int i)) (hb : Ev tb σ H (.int j)) (hc : C i j) : Ev (tOp (rI C g) ta tb) σ H (g i j) := fun _ q => ha _ (hb _ ⟨i, j, rfl, rfl, hc, q⟩)
theorem ev_op0 {g : Int → Int → V} (ha : Ev ta σ H (.int i)) (hb : Ev tb σ H (.int j)) : Ev (tOp (rI0 g) ta tb) σ H (g i j) := fun _ q => ha _ (hb _ ⟨i, j, rfl, rfl, q⟩)
theorem ev_iI {C : Int → Int → Prop} {g : Int → Int → Int} (ha : Ev ta σ H (.int i)) (hb : Ev tb σ H (.int j)) (hc : C i j) : Ev (tOp (rI C fun i j => .int (g i j)) ta tb) σ H (.int (g i j)) := fun _ q => ha _ (hb _ ⟨i, j, rfl, rfl, hc, q⟩)
theorem ev_i0 {g : Int → Int → Int} (ha : Ev ta σ H (.int i)) (hb : Ev tb σ H (.int j)) : Ev (tOp (rI0 fun i j => .int (g i j)) ta tb) σ H (.int (g i j)) := fun _ q => ha _ (hb _ ⟨i, j, rfl, rfl, q⟩)
theorem ev_op {r : R2} (ha : Ev ta σ H x) (hb : Ev tb σ H y) (hr : ∀ Q : VK, Q v H → r x y H Q) : Ev (tOp r ta tb) σ H v := fun _ q => ha _ (hb _ (hr _ q))
theorem ev_cb {r : List V → Hp → VK → Prop} (ha : EvL tr σ H vs) (hr : ∀ Q : VK, Q v H → r vs H Q) : Ev (tCB r tr) σ H v := fun _ q => ha _ (hr _ q)
theorem ev_int1 (ha : EvL tr σ H [.int i]) : Ev (tCB (fun xs H Q => (∃ i, xs = [.int i] ∧ Q (.int i) H) ∨ ∃ k, xs = [.bl k] ∧ Q (.int (if k then 1 else 0)) H) tr) σ H (.int i) := ev_cb ha fun _ q => .inl ⟨i, rfl, q⟩
theorem ev_dget (hd : Ev td σ H (.ref m)) (hy : Ev ty σ H (kV k)) (hm : H m = some (.dK kvs)) (hv : valV kvs k = some v) : Ev (tDGet td ty) σ H v := fun _ q => hd _ (hy _ ⟨m, v, rfl, .inl ⟨kvs, k, .inl hm, rfl, hv.symm⟩, q⟩)
theorem st_dput (hv : Ev tv σ H v) (hd : Ev td σ H (.ref m)) (hy : Ev ty σ H (kV k)) (hm : H m = some (.dK kvs)) (hl : kvs.length < sizeLine) (q : D.nx σ (upd H m (.dK (putK kvs k v)))) : sDPut td ty tv D σ H :=
  hv _ (hd _ (hy _ ⟨m, _, rfl, .inl ⟨kvs, k, hm, rfl, hl, rfl⟩, q⟩))
theorem st_asg (h : Ev te σ H v) (q : D.nx (σ.set n (some v)) H) : tAsg te (gName n) D σ H := h _ q
theorem st_ret (h : Ev te σ H v) (q : D.rt v H) : tRet te D σ H := h _ q
theorem st_if {t u : TS} (h : EvB tt σ H b) (q : if b = true then t D σ H else u D σ H) : tIfS tt t u D σ H := h _ q
theorem evb_test (h : Ev te σ H (.bl b)) : EvB (tTest te) σ H b := fun _ q => h _ ⟨b, rfl, q⟩
theorem evb_cmp {g : Int → Int → Bool} (ha : Ev ta σ H (.int i)) (hb : Ev tb σ H (.int j)) : EvB (tTest (tOp (rI0 fun i j => .bl (g i j)) ta tb)) σ H (g i j) := fun _ q => ha _ (hb _ ⟨i, j, rfl, rfl, _, rfl, q⟩)
theorem evb_and (h : EvB tt σ H a) (g : a = true → EvB tu σ H b) : EvB (tAnd tt tu) σ H (a && b) := fun Q q => h _ (by
  cases a with
  | true => exact g rfl _ q
  | false => exact q)
end
end WRd

set_option Elab.async false
set_option linter.all false
set_option maxRecDepth 100000
set_option maxHeartbeats 4000000
/-! an exception of the program made by a call with keywords -/
namespace WXE
open PySem PySem.Spec PyProof.Rows L2 Builtin.ObjectAttr
section
variable {prog : Program} {w : World} {M : Model} {A : Around} {E : Value → Shared → Prop} {R : Result → Shared → Prop} {h : Heap} {g : Array GenState} {d : Drawn} {t : Nat} {os : OsState}
variable {nm q : Str} {C N : Addr} {bs bm bmB : List Value} {hdct : Bool} {sn : List Str} {sub : List Value} {ab : Bool} {col : Option Bool} {dd : Option Addr} {k0 k1 k2 k3 k5 : Option Value} {B newId initId : String}
theorem ck_new (FB : ExcBaseFacts B newId initId bmB) (hT : ∀ Y : String, bm.contains (.type Y) = bmB.contains (.type Y)) {args : List Value} {kw : List (Str × Value)} {Q : Unit → Shared → Prop}
    (hC : h.get? C = some (excClassObj nm q C N bs bm hdct sn sub ab col dd k0 k1 k2 k3 k5 newId)) (hq : Q () ⟨h, g, d, t, os⟩) :
    wpAny M A (checkBuiltinCall newId ⟨.ref C :: args, kw⟩) Q E ⟨h, g, d, t, os⟩ := by
  have z1 : (Value.ref C :: bm).contains (.type B) = true := by rw [List.contains_cons, hT, FB.hasB, Bool.or_true]
  have z2 := FB.noStar
  simp only [checkBuiltinCall, FB.newKind, FB.newSplit, FB.newRow]
  repeat (first
    | refine wpAny_loadPart_at hC ?_
    | (refine wpAny_isSubtype_exc hC ?_; rw [z1])
    | refine wpAny_staticBase_exc hC ?_
    | refine wpAny_madeBy_exc hC ?_
    | simp only [bne_self_eq_false, Bool.false_eq_true, if_false]
    | wp_step)
  exact hq
theorem ck_made (FB : ExcBaseFacts B newId initId bmB) (hT : ∀ Y : String, bm.contains (.type Y) = bmB.contains (.type Y)) {args : List Value} {kw : List (Str × Value)}
    (hC : h.get? C = some (excClassObj nm q C N bs bm hdct sn sub ab col dd k0 k1 k2 k3 k5 newId))
    (hq : R (.ok (.ret (.ref (h.objs.size + 1)))) ⟨(h.push (PySem.W.kdv_tup args)).push (PySem.HandSPX.excO C h.objs.size), g, d, t, os⟩) (hz : args.length ≤ sizeLine) :
    codeAny (model prog w) A (.builtin newId ⟨.ref C :: args, kw⟩) R ⟨h, g, d, t, os⟩ := by
  have z0 := FB.ends
  have z1 : (Value.ref C :: bm).contains (.type B) = true := by rw [List.contains_cons, hT, FB.hasB, Bool.or_true]
  have z2 : (Value.ref C :: bm).contains (.type "AttributeError") = false := by rw [List.contains_cons, hT, FB.noAttr]; rfl
  have z3 : (Value.ref C :: bm).contains (.type "NameError") = false := by rw [List.contains_cons, hT, FB.noName]; rfl
  refine codeAny_builtinAt FB.entry ?_
  unfold Builtin.«BaseException.__new__»
  refine PySem.wpAt_bind ?_
  show PySem.wpAt _ _ _ (stack >>= _) _ _ _
  refine PySem.wpAt_bind (PySem.wpAt_stack fun p below => PySem.wpAt_of_wpAny ?_)
  wp_walk
  refine PySem.wpAt_of_wpAny ?_
  rw [FB.owner]
  repeat (first
    | with_reducible refine wpAny_madeHere_exc FB.canon hC ?_
    | with_reducible refine wpAny_loadPart_at hC ?_
    | (with_reducible refine wpAny_isSubtype_exc hC ?_; first | rw [z1] | rw [z2] | rw [z3])
    | wp_step)
  show R _ _
  rw [Heap.size_push]
  exact hq
theorem ck_type (FB : ExcBaseFacts B newId initId bmB) (hT : ∀ Y : String, bm.contains (.type Y) = bmB.contains (.type Y)) {args : List Value} {kw : List (Str × Value)} {fI : Addr} {Q : Fin → Shared → Prop}
    (hC : h.get? C = some (excClassObj nm q C N bs bm hdct sn sub ab col dd k0 k1 k2 k3 k5 newId))
    (hi : PySem.W.Looks (model prog w) h (typeLookup (.ref C) "__init__") (some (.ref fI))) (hb : ∀ self, PySem.W.Looks (model prog w) h (bindSpecial (.ref fI) self) (.ref fI, [self])) (hz : args.length ≤ sizeLine)
    (hq : codeAny (model prog w) A (.call (.ref fI) ⟨.ref (h.objs.size + 1) :: args, kw⟩)
      (fun r s' => match r with
        | .ok (.ret v) => v = .none ∧ Q (.done (.ret (.ref (h.objs.size + 1)))) s'
        | .ok _ => False
        | .error e => E e s')
      ⟨(h.push (PySem.W.kdv_tup args)).push (PySem.HandSPX.excO C h.objs.size), g, d, t, os⟩) :
    wpAny (model prog w) A (Builtin.«type.__call__» ⟨.ref C :: args, kw⟩) Q E ⟨h, g, d, t, os⟩ := by
  repeat (first | with_reducible refine wpAny_loadPart_at hC ?_ | with_reducible refine wpAny_madeBy_exc hC ?_ | wp_step)
  refine codeAny_call_builtin_code (Code.quiet_builtin _ FB.quiet) (ck_new FB hT hC ?_)
  refine ck_made FB hT hC ?_ hz
  show wpAny _ _ _ _ _ _
  have kk : ∀ b o, h.get? b = some o → ((h.push (PySem.W.kdv_tup args)).push (PySem.HandSPX.excO C h.objs.size)).get? b = some o := fun b o z => Heap.get?_push_of_some _ (Heap.get?_push_of_some _ z)
  have hC1 := kk _ _ hC
  have hnew : ((h.push (PySem.W.kdv_tup args)).push (PySem.HandSPX.excO C h.objs.size)).get? (h.objs.size + 1) = some (PySem.HandSPX.excO C h.objs.size) := by heap_get
  have hself : (Value.ref C :: bm).contains (.ref C) = true := by simp
  have look1 := hi.keeps kk
  have bind1 := (hb (.ref (h.objs.size + 1))).keeps kk
  unfold isInstance
  repeat (first
    | with_reducible refine wpAny_loadPart_at hnew ?_
    | (with_reducible refine wpAny_isSubtype_exc hC1 ?_; rw [hself])
    | wp_step)
  show wpAny _ _ (typeLookup (.ref C) _) _ _ _
  refine look1.at ?_
  refine wpAny_holding (wpAny_bind (bind1.at ?_))
  refine wpAny_bind (wpAny_call (codeAny_mono hq fun r s' z => ?_))
  rcases r with e | (v | _ | _ | _) <;> first | exact z | exact z.elim | skip
  obtain ⟨rfl, z⟩ := z
  first
    | exact wpAny_pure (wpAny_pure z)
    | (wp_walk; exact z)
theorem ck_tc {args : List Value} {kw : List (Str × Value)} {Q : Unit → Shared → Prop} (hC : h.get? C = some (excClassObj nm q C N bs bm hdct sn sub ab col dd k0 k1 k2 k3 k5 newId))
    (hq : Q () ⟨h, g, d, t, os⟩) : wpAny M A (checkBuiltinCall "type.__call__" ⟨.ref C :: args, kw⟩) Q E ⟨h, g, d, t, os⟩ := by
  have z1 := tc_sub
  have z2 : (⟨h, g, d, t, os⟩ : Shared).TypeIs (.ref C) "type" := ⟨_, hC, rfl⟩
  simp only [checkBuiltinCall, tc_kind, tc_split]
  repeat (any_goals (first
    | assumption
    | with_reducible refine wpAny_loadPart_at hC ?_
    | with_reducible refine wpAny_onRaise ?_
    | with_reducible refine wpAny_map ?_
    | wp_step))
theorem ck_call (FB : ExcBaseFacts B newId initId bmB) (hT : ∀ Y : String, bm.contains (.type Y) = bmB.contains (.type Y)) {args : List Value} {kw : List (Str × Value)} {fI : Addr}
    (hC : h.get? C = some (excClassObj nm q C N bs bm hdct sn sub ab col dd k0 k1 k2 k3 k5 newId))
    (hi : PySem.W.Looks (model prog w) h (typeLookup (.ref C) "__init__") (some (.ref fI))) (hb : ∀ self, PySem.W.Looks (model prog w) h (bindSpecial (.ref fI) self) (.ref fI, [self])) (hz : args.length ≤ sizeLine)
    (hq : codeAny (model prog w) (A.under (.builtin "type.__call__" ⟨.ref C :: args, kw⟩)) (.call (.ref fI) ⟨.ref (h.objs.size + 1) :: args, kw⟩) (PySem.W.InitBack (h.objs.size + 1) R)
      ⟨(h.push (PySem.W.kdv_tup args)).push (PySem.HandSPX.excO C h.objs.size), g, d, t, os⟩) :
    codeAny (model prog w) A (.call (.ref C) ⟨args, kw⟩) R ⟨h, g, d, t, os⟩ := by
  have z1 := tc_lookup
  have z2 := tc_bind (.ref C)
  have z3 : (⟨h, g, d, t, os⟩ : Shared).TypeIs (.ref C) "type" := ⟨_, hC, rfl⟩
  refine codeAny_of_tree ?_
  show wpAny _ _ (callAny (.ref C) _) _ _ _
  repeat (any_goals (first | assumption | with_reducible refine wpAny_loadPart_at hC ?_ | wp_step))
  refine ⟨rfl, ?_⟩
  refine codeAny_call_builtin_at (Code.quiet_builtin _ (by decide +kernel)) entry_typeCall (ck_tc hC (ck_type FB hT hC hi hb hz ?_))
  refine codeAny_mono hq fun r s' z => ?_
  rcases r with e | (v | _ | _ | _) <;> exact z
end

section
variable {X : Cx} {CX : CXT} {k n : Nat} {C fI : Addr} {fd : FuncData} {ps ks : List Str} {sp : Sp} {E : XK} {x : Str} {p pos : Pos} {e : Expr} {es : List Expr} {kws : List Keyword} {ta tk : TA} {g : List Value → List Value → List Value} {gV : List V → List V → List V}
  {B newId initId : String} {bmB : List Value}
theorem run_xmk {pins : List (Addr × Obj)} {σ : L2.St} {H : Hp} {s : Shared} {Q : VK} {us ws : List Value} {vs zs : List V} (T : XC X.K C B newId initId bmB) (iC : PySem.W.findIn X.K (.ref C) "__init__" = some (some (.ref fI)))
    (tI : PySem.W.typeIn X.K (.ref fI) = some (.type "function")) (F : FnOk X.prog X.w X.K X.mg X.base CX k fI fd ps sp) (hr : Room (k + 1) X.A) (hb : KBn X.K fd ps (n + 1) ks g gV) (hx : Passes CX X E)
    (I : Inv X pins σ H s) (r : Vals vs us) (rz : Vals zs ws) (l1 : vs.length = n) (l2 : zs.length = ks.length) (hn : n ≤ 1000)
    (h : ∀ a, H a = none → sp (gV (.ref a :: vs) zs) (upd H a (exo a C none)) (fun v H2 => v = .non ∧ Q (.ref a) H2) E) :
    wpAny (model X.prog X.w) X.A (call (.ref C) us (ks.zip ws)) (EP X pins σ Q) X.xe s := by
  obtain ⟨nm, N, qn, bs, bm, hdct, sn, sub, ab, col, dd, k0, k1, k2, k3, k5, hC, hT⟩ := PySem.W.excInit_of I.kIn T.ini
  obtain ⟨hp, gg, dr, tk, os⟩ := s
  have hsz : hp.objs.size ≤ hp.objs.size + 1 := Nat.le_succ _
  have hq := h (hp.objs.size + 1) (I.hok.fresh hsz)
  have kk : ∀ b o, hp.get? b = some o → ((hp.push (PySem.W.kdv_tup us)).push (PySem.HandSPX.excO C hp.objs.size)).get? b = some o := fun b o z => Heap.get?_push_of_some _ (Heap.get?_push_of_some _ z)
  have hnew : ((hp.push (PySem.W.kdv_tup us)).push (PySem.HandSPX.excO C hp.objs.size)).get? (hp.objs.size + 1) = some (PySem.HandSPX.excO C hp.objs.size) := by heap_get
  have I2 : Inv X pins σ (upd H (hp.objs.size + 1) (exo (hp.objs.size + 1) C none)) ⟨(hp.push (PySem.W.kdv_tup us)).push (PySem.HandSPX.excO C hp.objs.size), gg, dr, tk, os⟩ :=
    I.laid (t' := tk) (o := exo (hp.objs.size + 1) C none) kk hsz (exo_ok hnew)
  have r2 : Vals (V.ref (hp.objs.size + 1) :: vs) (Value.ref (hp.objs.size + 1) :: us) := .cons rfl r
  have r3 := hb.rel r2 rz
  have hus : us.length ≤ sizeLine := by
    rw [← Paired.length r, sizeLine_eq]
    omega
  refine wpAny_call (ck_call T.fb hT hC (PySem.W.looks_findIn I.kIn iC) (fun self => PySem.W.bind_fn I.kIn self tI) hus
    (codeAny_mono (F.run _ X.stack _ _ ⟨Value.ref (hp.objs.size + 1) :: us, ks.zip ws⟩ (g (Value.ref (hp.objs.size + 1) :: us) ws) _ _ E (hr.make C us (ks.zip ws)) (I2.env0.make C us (ks.zip ws))
      (hb.to _ (Value.ref (hp.objs.size + 1) :: us) ws I2.kIn (r2.length.symm.trans (congrArg Nat.succ l1)) (rz.length.symm.trans l2)) r3 hq) fun r s' hq' => ?_))
  cases r with
  | error er => exact hx pins σ _ _ er s' I2 hq'
  | ok fl =>
    cases fl with
    | ret u =>
      obtain ⟨v, H', I3, rv, ev, q3⟩ := I2.after hq'
      subst ev
      exact ⟨rv, V.ref (hp.objs.size + 1), H', I3, rfl, q3⟩
    | next => exact False.elim hq'
    | brk => exact False.elim hq'
    | cont => exact False.elim hq'
/-- C(e, ..) -/
theorem pe_xmk (T : XC X.K C B newId initId bmB) (iC : PySem.W.findIn X.K (.ref C) "__init__" = some (some (.ref fI))) (tI : PySem.W.typeIn X.K (.ref fI) = some (.type "function"))
    (F : FnOk X.prog X.w X.K X.mg X.base CX k fI fd ps sp) (hr : Room (k + 1) X.A) (hg : Gl X x) (hm : X.mg x = some (.ref C)) (hb : KBn X.K fd ps (n + 1) [] g gV) (hx : Passes CX X E) (ha : PA X (e :: es) ta)
    (hdb : (x == ("__debug__" : Str)) = false := by decide) (he : starEach (e :: es) X.env = (false, eval e X.env) :: starEach es X.env := by rfl) (hpl : (backTo pos (starEach es X.env)).any (·.1) = false := by rfl) :
    PE X (.Call (.Name x p) (e :: es) [] pos) (tXmk C n 0 sp E gV ta tNil) := by
  refine ⟨fun pins s σ H Q I h => ?_⟩
  refine wpAny_Call_Name_kw (ld_glob I hg hm ?_ hdb)
  exact PySem.W.callWith_K (h₀ := X.base) I.ok.mod.kin T.kp (thn (ha.run pos pins s σ H _ I h) fun us s1 ⟨vs, H1, I1, r, l1, l2, hn, q⟩ => ⟨I1.kIn, run_xmk (ws := []) (zs := []) T iC tI F hr hb hx I1 r .nil l1 l2 hn q⟩) he hpl
/-- C() -/
theorem pe_xmk0 (T : XC X.K C B newId initId bmB) (iC : PySem.W.findIn X.K (.ref C) "__init__" = some (some (.ref fI))) (tI : PySem.W.typeIn X.K (.ref fI) = some (.type "function"))
    (F : FnOk X.prog X.w X.K X.mg X.base CX k fI fd ps sp) (hr : Room (k + 1) X.A) (hg : Gl X x) (hm : X.mg x = some (.ref C)) (hb : KBn X.K fd ps (0 + 1) [] g gV) (hx : Passes CX X E)
    (hdb : (x == ("__debug__" : Str)) = false := by decide) : PE X (.Call (.Name x p) [] [] pos) (tXmk C 0 0 sp E gV tNil tNil) := by
  refine ⟨fun pins s σ H Q I h => ?_⟩
  refine wpAny_Call_Name_kw (ld_glob I hg hm ?_ hdb)
  obtain ⟨l1, l2, hn, q⟩ := h
  exact PySem.W.callWith_K0 I.kIn T.kp (run_xmk (us := []) (vs := []) (ws := []) (zs := []) T iC tI F hr hb hx I .nil .nil l1 l2 hn q)
/-- C(k = v, ..) -/
theorem pe_xmkK (T : XC X.K C B newId initId bmB) (iC : PySem.W.findIn X.K (.ref C) "__init__" = some (some (.ref fI))) (tI : PySem.W.typeIn X.K (.ref fI) = some (.type "function"))
    (F : FnOk X.prog X.w X.K X.mg X.base CX k fI fd ps sp) (hr : Room (k + 1) X.A) (hg : Gl X x) (hm : X.mg x = some (.ref C)) (hb : KBn X.K fd ps (0 + 1) ks g gV) (hx : Passes CX X E) (hkw : PK X kws tk)
    (hall : (backToKw pos (keywordEach kws X.env)).all (·.1.isSome) = true := by rfl) (hks : (backToKw pos (keywordEach kws X.env)).filterMap (·.1) = ks := by rfl)
    (hdb : (x == ("__debug__" : Str)) = false := by decide) (hpl : ((backTo pos (starEach [] X.env)).any (·.1) || (backToKw pos (keywordEach kws X.env)).any (·.1.isNone)) = false := by rfl) :
    PE X (.Call (.Name x p) [] kws pos) (tXmk C 0 ks.length sp E gV tNil tk) := by
  refine ⟨fun pins s σ H Q I h => ?_⟩
  refine wpAny_Call_Name_kw (ld_glob I hg hm ?_ hdb)
  refine PySem.W.callWith_KW0 (h₀ := X.base) I.ok.mod.kin T.kp hall (thn (hkw.run pos pins s σ H _ I h) fun ws s1 ⟨zs, H1, I1, rz, l1, l2, hn, q⟩ => ⟨I1.kIn, ?_⟩) hpl
  rw [hks]
  exact run_xmk (us := []) (vs := []) T iC tI F hr hb hx I1 .nil rz l1 l2 hn q
end
end WXE

set_option Elab.async false
set_option linter.all false
set_option maxRecDepth 100000
set_option maxHeartbeats 2000000
/-! readings that only add objects: predicates of values, lists of them -/
namespace WLf
open PySem PySem.Spec L2 WEv WRd WXE
def Is (x : V) : HP V := fun v _ => v = x
def Fa : List (HP V) → List V → Hp → Prop
  | [], [], _ => True
  | P :: Ps, v :: vs, H => P v H ∧ Fa Ps vs H
  | _, _, _ => False
/-- a list object whose items are told -/
def LF (Ps : List (HP V)) : HP V := fun v H => ∃ p xs, v = .ref p ∧ H p = some (.lst xs) ∧ Fa Ps xs H
theorem Fa.len : ∀ {Ps : List (HP V)} {vs : List V} {H : Hp}, Fa Ps vs H → vs.length = Ps.length
  | [], [], _, _ => rfl
  | _ :: _, _ :: _, _, h => congrArg (· + 1) (Fa.len h.2)
  | [], _ :: _, _, h => h.elim
  | _ :: _, [], _, h => h.elim
theorem Fa.app : ∀ {Ps Qs : List (HP V)} {vs us : List V} {H : Hp}, Fa Ps vs H → Fa Qs us H → Fa (Ps ++ Qs) (vs ++ us) H
  | [], _, [], _, _, _, g => g
  | _ :: _, _, _ :: _, _, _, h, g => ⟨h.1, Fa.app h.2 g⟩
  | [], _, _ :: _, _, _, h, _ => h.elim
  | _ :: _, _, [], _, _, h, _ => h.elim
theorem Fa.get : ∀ {Ps : List (HP V)} {vs : List V} {H : Hp} {n : Nat} {P : HP V}, Fa Ps vs H → Ps[n]? = some P → ∃ v, vs[n]? = some v ∧ P v H
  | _ :: _, _ :: _, _, 0, _, h, e => ⟨_, rfl, by cases e; exact h.1⟩
  | _ :: _, _ :: _, _, n + 1, _, h, e => Fa.get (n := n) h.2 e
  | [], _ :: _, _, _, _, h, _ => h.elim
  | _ :: _, [], _, _, _, h, _ => h.elim
theorem Fa.is : ∀ {ys : List V} {vs : List V} {H : Hp}, Fa (ys.map Is) vs H → vs = ys
  | [], [], _, _ => rfl
  | _ :: _, _ :: _, _, h => by rw [show _ = _ from h.1, Fa.is h.2]
  | [], _ :: _, _, h => h.elim
  | _ :: _, [], _, h => h.elim
theorem mn_nil : Mn (Fa []) := fun vs H H' _ h => by
  cases vs with
  | nil => exact h
  | cons _ _ => exact h
theorem mn_cons {P : HP V} {Ps : List (HP V)} (m : Mn P) (ms : Mn (Fa Ps)) : Mn (Fa (P :: Ps)) := fun vs H H' s h => by
  cases vs with
  | nil => exact h
  | cons v vs => exact ⟨m _ _ _ s h.1, ms _ _ _ s h.2⟩
theorem Fa.cut : ∀ {Ps Qs : List (HP V)} {vs : List V} {H : Hp}, Fa (Ps ++ Qs) vs H → ∃ us ws, vs = us ++ ws ∧ Fa Ps us H ∧ Fa Qs ws H
  | [], _, vs, _, h => ⟨[], vs, rfl, trivial, h⟩
  | _ :: _, _, v :: vs, _, h => by
    obtain ⟨us, ws, e, h1, h2⟩ := Fa.cut h.2
    exact ⟨v :: us, ws, by rw [e]; rfl, ⟨h.1, h1⟩, h2⟩
  | _ :: _, _, [], _, h => h.elim
theorem mn_app {Ps Qs : List (HP V)} (ms : Mn (Fa Ps)) (mt : Mn (Fa Qs)) : Mn (Fa (Ps ++ Qs)) := fun vs H H' s h => by
  obtain ⟨us, ws, rfl, h1, h2⟩ := h.cut
  exact (ms _ _ _ s h1).app (mt _ _ _ s h2)
theorem mn_lf {Ps : List (HP V)} (m : Mn (Fa Ps)) : Mn (LF Ps) := fun _ _ _ s ⟨p, xs, e, h, q⟩ => ⟨p, xs, e, s _ _ h, m _ _ _ s q⟩
theorem mn_i {x : V} : Mn (Is x) := fun _ _ _ _ e => e
structure G (te : TE) (σ : L2.St) (H : Hp) (P : HP V) : Prop where
  ev : EvP te σ H P
  mn : Mn P
structure GA (ta : TA) (σ : L2.St) (H : Hp) (Ps : List (HP V)) : Prop where
  ev : EvA ta σ H (Fa Ps)
  mn : Mn (Fa Ps)
section
variable {K : PySem.W.Frag} {σ : L2.St} {H H' : Hp} {te ta tb td ty tv : TE} {tr : TA} {v x y : V} {vs : List V} {P Pa Pb : HP V} {Ps Qs : List (HP V)} {D : Ends} {n : Nat} {C : Addr} {f : Str} {B newId initId : String} {bmB : List Value}
theorem g_var {i : Nat} (h : σ[i]? = some (some v)) : G (tVar i) σ H (Is v) := ⟨p_var h, mn_i⟩
theorem g_varP {i : Nat} (h : σ[i]? = some (some v)) (p : P v H) (m : Mn P) : G (tVar i) σ H P := ⟨fun H1 s _ q => ⟨v, h, q _ H1 (Same.refl H1) (m _ _ _ s p)⟩, m⟩
theorem g_c : G (tC v) σ H (Is v) := ⟨p_c, mn_i⟩
theorem ga_nil : GA tNil σ H [] := ⟨fun H1 _ _ q => q _ H1 (Same.refl H1) trivial, mn_nil⟩
theorem ga_cons (h : G te σ H P) (g : GA tr σ H Ps) : GA (tCons te tr) σ H (P :: Ps) := ⟨fun H1 e Q q => h.ev H1 e _ fun x H2 s2 p2 => g.ev H2 (e.trans s2) _ fun xs H3 s3 p3 => q _ H3 (s2.trans s3) ⟨h.mn _ _ _ s3 p2, p3⟩, mn_cons h.mn g.mn⟩
theorem g_lst (h : GA tr σ H Ps) (hn : Ps.length ≤ 100000 := by exact Nat.le_of_ble_eq_true rfl) : G (tLst tr) σ H (LF Ps) := ⟨fun H1 e _ q =>
  h.ev H1 e _ fun xs H2 s2 p2 => ⟨by rw [p2.len]; exact Nat.le_trans hn (by decide), fun p hp => q _ _ (s2.trans (same_new hp)) ⟨p, xs, rfl, upd_same, h.mn _ _ _ (same_new hp) p2⟩⟩, mn_lf h.mn⟩
theorem g_cat (ha : G ta σ H (LF Ps)) (hb : G tb σ H (LF Qs)) (ma : Mn (Fa Ps)) (mb : Mn (Fa Qs)) (hn : Ps.length + Qs.length ≤ 100000 := by exact Nat.le_of_ble_eq_true rfl) : G (tOp rCat ta tb) σ H (LF (Ps ++ Qs)) := ⟨fun H1 e _ q =>
  ha.ev H1 e _ fun a H2 s2 pa => hb.ev H2 (e.trans s2) _ fun b H3 s3 pb => by
    obtain ⟨p, xs, rfl, hp, fa⟩ := ha.mn _ _ _ s3 pa
    obtain ⟨p', zs, rfl, hp', fb⟩ := pb
    refine ⟨p, p', xs, zs, rfl, rfl, hp, hp', by rw [fa.len, fb.len]; exact Nat.le_trans hn (by decide), fun r hr => q _ _ ((s2.trans s3).trans (same_new hr)) ⟨r, _, rfl, upd_same, (ma _ _ _ (same_new hr) fa).app (mb _ _ _ (same_new hr) fb)⟩⟩, mn_lf (mn_app ma mb)⟩
theorem g_asg {i : Nat} (h : G te σ H P) (k : ∀ v H1, Same H H1 → P v H1 → D.nx (σ.set i (some v)) H1) : tAsg te (gName i) D σ H := h.ev H (Same.refl H) _ k
theorem g_ret (h : G te σ H P) (k : ∀ v H1, Same H H1 → P v H1 → D.rt v H1) : tRet te D σ H := h.ev H (Same.refl H) _ k
/-- the n-th of a list -/
theorem g_ix {i : Nat} (h : σ[i]? = some (some v)) (p : LF Ps v H) (hn : Ps[n]? = some P) (m : Mn P) : G (tOp (rIxL K) (tVar i) (tC (.int (n : Int)))) σ H P := ⟨fun H1 e _ q => by
  obtain ⟨l, xs, rfl, hl, fa⟩ := p
  obtain ⟨x, hx, px⟩ := fa.get hn
  exact ⟨_, h, l, xs, n, x, rfl, rfl, .of (e _ _ hl), atI_nat hx, q _ H1 (Same.refl H1) (m _ _ _ e px)⟩, m⟩
/-! exceptions -/
def XN (C : Addr) : HP V := fun v H => ∃ e, v = .ref e ∧ H e = some (exo e C none)
def XF (C : Addr) (f : Str) (y : V) : HP V := fun v H => ∃ e dx, v = .ref e ∧ H e = some (exo e C (some dx)) ∧ H dx = some (exd dx [(f, y)])
theorem mn_xn : Mn (XN C) := fun _ _ _ s ⟨e, q, h⟩ => ⟨e, q, s _ _ h⟩
theorem mn_xf : Mn (XF C f y) := fun _ _ _ s ⟨e, dx, q, h, g⟩ => ⟨e, dx, q, s _ _ h, s _ _ g⟩
def spI0 (C : Addr) : Sp := fun vs H Q _ => ∃ a, vs = [.ref a] ∧ H a = some (exo a C none) ∧ Q .non H
def spI1 (C : Addr) (f : Str) : Sp := fun vs H Q _ => ∃ a y, vs = [.ref a, y] ∧ H a = some (exo a C none) ∧ ∀ dx, H dx = none → dx ≠ a → Q .non (upd (upd H dx (exd dx [(f, y)])) a (exo a C (some dx)))
theorem spI1_of {H : Hp} {a : Addr} {E : XK} {Q : VK} (ha : H a = none) (q : ∀ H2, Same H H2 → XF C f y (.ref a) H2 → Q (.ref a) H2) : spI1 C f [.ref a, y] (upd H a (exo a C none)) (fun v H3 => v = .non ∧ Q (.ref a) H3) E := by
  refine ⟨a, y, rfl, upd_same, fun dx hdx hne => ⟨rfl, q _ (fun b o e => ?_) ⟨a, dx, rfl, upd_same, ?_⟩⟩⟩
  · have h1 : b ≠ a := ne_of_none e ha
    have h2 : H dx = none := by rwa [upd_ne hne] at hdx
    rw [upd_ne h1, upd_ne (ne_of_none e h2), upd_ne h1]
    exact e
  · rw [upd_ne hne]
    exact upd_same
theorem g_mk1 {E : XK} (h : G te σ H (Is y)) : G (tXmk C 1 0 (spI1 C f) E (fun us _ => us) (tCons te tNil) tNil) σ H (XF C f y) := ⟨fun H1 e _ q =>
  h.ev H1 e _ fun x H2 s2 px => by
    obtain rfl : x = y := px
    exact ⟨rfl, rfl, by decide, fun a ha => spI1_of ha fun H3 s3 p3 => q _ _ (s2.trans s3) p3⟩, mn_xf⟩
theorem g_mkK {E : XK} (h : G te σ H (Is y)) : G (tXmk C 0 1 (spI1 C f) E (fun vs zs => vs ++ zs) tNil (tCons te tNil)) σ H (XF C f y) := ⟨fun H1 e _ q =>
  h.ev H1 e _ fun x H2 s2 px => by
    obtain rfl : x = y := px
    exact ⟨rfl, rfl, by decide, fun a ha => spI1_of ha fun H3 s3 p3 => q _ _ (s2.trans s3) p3⟩, mn_xf⟩
theorem g_mk0 {E : XK} : G (tXmk C 0 0 (spI0 C) E (fun us _ => us) tNil tNil) σ H (XN C) := ⟨fun H1 e _ q =>
  ⟨rfl, rfl, by decide, fun a ha => ⟨a, rfl, upd_same, rfl, q _ _ (same_new ha) ⟨a, rfl, upd_same⟩⟩⟩, mn_xn⟩
theorem g_fld (T : XC K C B newId initId bmB) (hn : PySem.W.findIn K (.ref C) f = some none) (h : G te σ H (XF C f y)) : G (tXfld K f te) σ H (Is y) := ⟨fun H1 e _ q =>
  h.ev H1 e _ fun x H2 s2 px => by
    obtain ⟨a, dx, rfl, h1, h2⟩ := px
    exact ⟨a, C, dx, [(f, y)], y, B, newId, initId, bmB, rfl, h1, h2, T, hn, by simp [List.lookup], q _ _ s2 rfl⟩, mn_i⟩
/-- isinstance(e, c), c a class or a type -/
theorem g_xis {a : Addr} {c : V} {cv : Value} {b : Bool} {i : Nat} (h : σ[i]? = some (some (.ref a))) (hx : XAt H a C) (T : XC K C B newId initId bmB) (hc : ∀ u, RelV c u → u = cv) (hk : PySem.W.kitOne K (.ref C) cv = some b) :
    G (tCB (rXis K) (tCons (tVar i) (tCons (tC c) tNil))) σ H (Is (.bl b)) := ⟨fun H1 e Q q => ⟨_, h, a, C, c, B, newId, initId, bmB, b, rfl, by
      rcases hx with hx | ⟨dx, fs, h1, h2⟩
      · exact .inl (e _ _ hx)
      · exact .inr ⟨dx, fs, e _ _ h1, e _ _ h2⟩, T, .inl ⟨cv, hc, hk⟩, q _ H1 (Same.refl H1) rfl⟩, mn_i⟩
theorem mv_xat (a : Addr) (H H' : Hp) (s : Same H H') (h : XAt H a C) : XAt H' a C := by
  rcases h with h | ⟨dx, fs, h1, h2⟩
  · exact .inl (s _ _ h)
  · exact .inr ⟨dx, fs, s _ _ h1, s _ _ h2⟩
theorem pe_globR {X : Cx} {x : Str} {a : Addr} {pos : Pos} (hg : Gl X x) (hm : X.mg x = some (.ref a)) (hd : (x == ("__debug__" : Str)) = false := by decide) : PE X (.Name x pos) (tC (.ref a)) := pe_glob hg hm rfl hd
theorem pe_bltnT {X : Cx} {x : Str} {n : String} {pos : Pos} (hg : Gl X x) (hm : X.mg x = none) (hv : bootBuiltins x = some (.type n)) (hn : x ≠ "__name__" := by decide) (hd : (x == ("__debug__" : Str)) = false := by decide) : PE X (.Name x pos) (tC (.ty n)) := pe_bltn (v := .ty n) hg hm hv rfl hn hd
theorem ref_cls {a : Addr} : ∀ u, RelV (.ref a) u → u = .ref a := fun _ h => h
theorem ty_cls {n : String} : ∀ u, RelV (.ty n) u → u = .type n := fun _ h => h
end
end WLf

set_option Elab.async false
set_option linter.all false
set_option maxRecDepth 100000
set_option maxHeartbeats 2000000
/-! calls by a mapping behind two stars: C(e, .., *xs, **d) -/
namespace WSt
open PySem PySem.Spec PyProof.Rows L2 StX
section
variable {prog : Program} {w : World} {K : Type} [DecidableEq K] {knd : KeyKind prog w K} {A : Around} {E : Value → Shared → Prop} {s : Shared}
theorem find_new {d : Addr} {vs : List (K × Value)} {k : K} {key : Value} {Q : Option Nat → Shared → Prop} (hm : s.heap.DictOf knd d vs) (hkey : knd.is k key = true) (hn : k ∉ vs.map (·.1)) (h : Q none s) : wpAny (model prog w) A (dictFind d key (knd.hash k)) Q E s := by
  obtain ⟨o, es, ep, ho, hc, hd, hk, hp, _⟩ := hm
  refine wpAny_dictFind_of hkey ho hd hk ?_
  have e1 : (es.findIdx? fun e => knd.is k e.key) = vs.findIdx? fun kv => decide (kv.1 = k) := by
    rw [← hp.findIdx k]
    obtain ⟨l⟩ := es
    simp
  have e2 : (vs.findIdx? fun kv => decide (kv.1 = k)) = none := by
    rw [List.findIdx?_eq_none_iff]
    intro x hx
    exact decide_eq_false fun e => hn (List.mem_map.mpr ⟨x, hx, e⟩)
  rw [e1, e2]
  exact h
theorem put_new {d : Addr} {vs : List (K × Value)} {k : K} {key v : Value} {Q : Unit → Shared → Prop} (hm : s.heap.DictOf knd d vs) (hkey : knd.is k key = true) (hn : k ∉ vs.map (·.1)) (hz : vs.length ≤ sizeLine)
    (h : ∀ h', h'.DictOf knd d (vs ++ [(k, v)]) → Heap.SameBut d s.heap h' → Q () { s with heap := h' }) : wpAny (model prog w) A (dictPut d (knd.hash k) key v) Q E s := by
  obtain ⟨o, es, ep, ho, hc, hd, hk, hp, hnd⟩ := id hm
  have hes : es.size ≤ sizeLine := by
    have e1 := hp.length
    have e2 : es.toList.length = es.size := by simp
    omega
  unfold dictPut
  refine wpAny_bind (find_new hm hkey hn ?_)
  dsimp only
  refine wpAny_updateDictKeys (hz := hes) ho hd (h _ ⟨_, _, ep + 1, Heap.get?_update_self _ ho (Obj.isFreed_of_dict (Obj.data_mapDictKeys hd _)), hc.mapDictKeys _, Obj.data_mapDictKeys hd _, hk.push hkey _, ?_, ?_⟩ (Heap.SameBut.update ..))
  · have := hp.append hkey (knd.hash k) v
    obtain ⟨l⟩ := es
    simpa using this
  · rw [List.map_append, List.nodup_append]
    refine ⟨hnd, by simp, ?_⟩
    intro a ha b hb
    simp only [List.map_cons, List.map_nil, List.mem_singleton] at hb
    subst hb
    exact fun e => hn (e ▸ ha)
end
def StrK (kvs : List (Key × V)) : Prop := ∀ kv ∈ kvs, ∃ z : Str, kv.1 = Sum.inr z
section
variable {X : Cx} {pins : List (Addr × Obj)} {σ : L2.St} {H : Hp} {s : Shared} {A : Around} {E : Value → Shared → Prop} {a d : Addr} {kvs : List (Key × V)}
theorem merge_run {Q : Unit → Shared → Prop} (I : Inv X pins σ H s) (ha : H a = some (.dK kvs)) (hd : H d = some (.dK [])) (hne : a ≠ d) (hs : StrK kvs) (h : ∀ s', Inv X pins σ (upd H d (.dK kvs)) s' → Q () s') :
    wpAny (model X.prog X.w) A (mergeMapping d (.ref a) true) Q E s := by
  obtain ⟨z, hsy, vs, rel, dd⟩ := dk_of I.hok ha
  obtain ⟨_, _, vd, rd, ddd⟩ := dk_of I.hok hd
  cases rd
  unfold mergeMapping
  refine wpAny_bind (wpAny_isInstance dd.typeIs PySem.F.sub_dict_dict ?_)
  rw [if_pos rfl]
  refine wpAny_bind (wpAny_specialOf dd.typeIs PySem.F.slot_dict_iter.lookup ?_)
  refine wpAny_bind (wpAny_pure ?_)
  show wpAny _ _ (if (a == sysModules) = true then _ else _) _ _ _
  rw [if_neg (by rw [hsy]; exact Bool.false_ne_true)]
  obtain ⟨od, esd, epd, hod, hcd, hdd, hkd, hpd, _⟩ := id ddd
  obtain ⟨oa, esa, epa, hoa, hca, hda, hka, hpa, hna⟩ := id dd
  refine wpAny_bind (wpAny_dictEntries hod hdd ?_)
  have hed : esd.isEmpty = true := by
    have := hpd.length
    simpa [Array.isEmpty] using this
  rw [if_pos hed]
  refine wpAny_bind (wpAny_dictEntries hoa hda ?_)
  refine wpAny_bind ?_
  refine MeetsSeq2.wpAny_forIn_array _ (fun rest _ s' => s' = s ∧ ∀ e ∈ rest, e ∈ esa) _ ?_ ?_ esa _ ⟨rfl, fun e he => by simpa using he⟩
  · rintro e rest b s' ⟨rfl, hr⟩
    obtain ⟨k, hk, _⟩ := hka e (hr e List.mem_cons_self)
    rcases keyIs_shape hk with ⟨i, t, _, ek⟩ | ⟨x, t, _, ek⟩
    · rw [ek]
      exact wpAny_pure ⟨rfl, fun e he => hr e (List.mem_cons_of_mem _ he)⟩
    · rw [ek]
      exact wpAny_pure ⟨rfl, fun e he => hr e (List.mem_cons_of_mem _ he)⟩
  · rintro b s' ⟨rfl, _⟩
    refine wpAny_bind (wpAny_dictEntries hoa hda ?_)
    refine wpAny_bind (wpAny_dictEpoch hoa hda ?_)
    have hsz : esa.size = kvs.length := by
      rw [rel.length, ← hpa.length]
      simp
    have hkv := rel.keys
    refine wpAny_bind (wpAny_forIn_list _ (fun rest _ s2 => ∃ i, rest = List.range' i (esa.size - i) ∧ i ≤ esa.size ∧ s2.heap.get? a = some oa ∧ Inv X pins σ (upd H d (.dK (kvs.take i))) s2) _ ?_ ?_ _ _ ⟨0, by rw [List.range_eq_range', Nat.sub_zero], Nat.zero_le _, hoa, ?_⟩)
    · rintro i rest b s2 ⟨j, hr, hj, ho2, I2⟩
      have hlt : j < esa.size := by
        rcases Nat.lt_or_ge j esa.size with q | q
        · exact q
        · rw [show esa.size - j = 0 by omega] at hr
          cases hr
      rw [show esa.size - j = (esa.size - (j + 1)) + 1 by omega, List.range'_succ] at hr
      obtain ⟨rfl, rfl⟩ := List.cons.inj hr
      refine wpAny_bind (wpAny_dictEntries ho2 hda ?_)
      have hltv : i < vs.length := by rw [← hpa.length]; simpa using hlt
      obtain ⟨hk, hv⟩ := hpa.get? (i := i) (e := esa[i]) (k := (vs[i]).1) (v := (vs[i]).2) (by simp) (by simp [hltv])
      rw [Array.getElem?_eq_getElem hlt]
      dsimp only
      have hltk : i < kvs.length := by rw [rel.length]; exact hltv
      have ek : kvs[i].1 = vs[i].1 := by
        have : (kvs.map (·.1))[i]? = (vs.map (·.1))[i]? := by rw [hkv]
        simpa [hltk, hltv] using this
      obtain ⟨x, hx, rx⟩ := KV.at' rel (i := i) (k := (vs[i]).1) (v := (vs[i]).2) (by simp [hltv])
      have ex : kvs[i] = (vs[i].1, x) := by
        rw [List.getElem?_eq_getElem hltk] at hx
        exact Option.some.inj hx
      obtain ⟨k', hk', hh⟩ := hka esa[i] (Array.getElem_mem hlt)
      obtain rfl : k' = vs[i].1 := (mixKind X.prog X.w).inj _ _ _ hk' hk
      obtain ⟨zd, hsd, vd, rd, dd2⟩ := dk_of I2.hok (upd_same (a := d))
      have hnot : vs[i].1 ∉ vd.map (·.1) := by
        rw [← rd.keys, List.map_take, hkv]
        intro hm
        obtain ⟨j, hj1, hj2⟩ := List.mem_iff_getElem.mp hm
        rw [List.length_take, List.length_map] at hj1
        rw [List.getElem_take, List.getElem_map] at hj2
        have := List.pairwise_iff_getElem.mp hna j i (by rw [List.length_map]; omega) (by rw [List.length_map]; exact hltv) (by omega)
        rw [List.getElem_map, List.getElem_map] at this
        exact this hj2
      have hzd : vd.length ≤ sizeLine := by rw [← rd.length]; exact zd
      rw [hh]
      refine wpAny_bind (wpAny_holding ?_)
      rw [if_pos rfl]
      refine wpAny_bind (find_new dd2 hk hnot ?_)
      rw [if_neg (by simp)]
      refine put_new dd2 hk hnot hzd fun h' dd3 hsb => ?_
      have ho3 : h'.get? a = some oa := (hsb.2 a hne).trans ho2
      have et : kvs.take (i + 1) = kvs.take i ++ [(vs[i].1, x)] := by rw [List.take_succ, List.getElem?_eq_getElem hltk, ex]; rfl
      have he : ∃ q, h'.get? d = some q := let ⟨q, _, _, hq, _⟩ := dd3; ⟨q, hq⟩
      have I3 : Inv X pins σ (upd H d (.dK (kvs.take (i + 1)))) { s2 with heap := h' } := by
        rw [← upd_upd (o := .dK (kvs.take i))]
        refine d_write (t' := s2.toks) I2 (by rw [upd_same]; exact True.intro) hsb he (dk_new (by rw [List.length_take]; omega) hsd ?_ dd3)
        rw [et, hv]
        exact Paired.snoc rd ⟨rfl, rx⟩
      refine wpAny_bind (wpAny_dictEpoch ho3 hda ?_)
      rw [if_neg (by simp)]
      exact wpAny_pure ⟨i + 1, rfl, hlt, ho3, I3⟩
    · rintro b s2 ⟨j, hr, hj, ho2, I2⟩
      have e : j = esa.size := by
        rcases Nat.lt_or_ge j esa.size with q | q
        · rw [show esa.size - j = (esa.size - (j + 1)) + 1 by omega, List.range'_succ] at hr
          cases hr
        · omega
      subst e
      rw [hsz, List.take_length] at I2
      exact wpAny_pure (h _ I2)
    · rw [List.take_zero, show upd H d (.dK []) = H from by
        funext b
        unfold upd
        split
        · rename_i q
          rw [q]
          exact hd.symm
        · rfl]
      exact I
theorem kv_vals : ∀ {kvs : List (Key × V)} {vs : List (Key × Value)}, KV kvs vs → Vals (kvs.map (·.2)) (vs.map (·.2))
  | _, _, .nil => .nil
  | _, _, .cons r t => .cons r.2 (kv_vals t)
theorem kwin_run {f : Value} {zs : List Str} {Q : List (Str × Value) → Shared → Prop} (I : Inv X pins σ H s) (hd : H d = some (.dK kvs)) (hz : kvs.map (·.1) = zs.map Sum.inr) (h : ∀ ws, Vals (kvs.map (·.2)) ws → Q (zs.zip ws) s) :
    wpAny (model X.prog X.w) A (keywordsIn f d) Q E s := by
  obtain ⟨z, hsy, vs, rel, dd⟩ := dk_of I.hok hd
  obtain ⟨o, es, ep, ho, hc, hda, hk, hp, hn⟩ := dd
  have hkv := rel.keys
  have hl : es.toList.length = vs.length := hp.length
  have hlz : vs.length = zs.length := by
    have := congrArg List.length (hkv.symm.trans hz)
    simpa using this
  have hv : Vals (kvs.map (·.2)) (vs.map (·.2)) := by
    exact kv_vals rel
  unfold keywordsIn
  refine wpAny_bind (wpAny_dictEntries ho hda ?_)
  refine wpAny_bind (MeetsSeq2.wpAny_forIn_array _ (fun rest b s' => s' = s ∧ ∃ i, rest = es.toList.drop i ∧ i ≤ es.toList.length ∧ b = (zs.zip (vs.map (·.2))).take i) _ ?_ ?_ es _ ⟨rfl, 0, by simp, by simp, by simp⟩)
  · rintro e rest b s' ⟨rfl, i, hr, hi, hb⟩
    have hlt : i < es.toList.length := by
      rcases Nat.lt_or_ge i es.toList.length with q | q
      · exact q
      · rw [List.drop_eq_nil_of_le q] at hr
        cases hr
    rw [List.drop_eq_getElem_cons hlt] at hr
    obtain ⟨rfl, rfl⟩ := List.cons.inj hr
    have hltv : i < vs.length := by omega
    have hltz : i < zs.length := by omega
    obtain ⟨hk1, hv1⟩ := hp.get? (i := i) (e := es.toList[i]) (k := (vs[i]).1) (v := (vs[i]).2) (by simp [hlt]) (by simp [hltv])
    have ek : vs[i].1 = Sum.inr zs[i] := by
      have : (vs.map (·.1))[i]? = (zs.map (Sum.inr : Str → Key))[i]? := by rw [← hkv, hz]
      simpa [hltv, hltz] using this
    rw [ek] at hk1
    rcases keyIs_shape (k := Sum.inr zs[i]) hk1 with ⟨j, t, q, _⟩ | ⟨x, t, q, ex⟩
    · exact nomatch q
    · have q' := Sum.inr.inj q
      rw [ex, ← q']
      refine wpAny_pure ⟨rfl, i + 1, rfl, hlt, ?_⟩
      rw [List.take_succ, hb, hv1]
      congr 1
      have hz1 : i < (zs.zip (vs.map (·.2))).length := by rw [List.length_zip, List.length_map]; omega
      rw [List.getElem?_eq_getElem hz1]
      simp
  · rintro b s' ⟨rfl, i, hr, hi, hb⟩
    have e : i = es.toList.length := by
      rcases Nat.lt_or_ge i es.toList.length with q | q
      · rw [List.drop_eq_getElem_cons q] at hr
        cases hr
      · omega
    subst e
    rw [List.take_of_length_le (by rw [List.length_zip, List.length_map]; omega)] at hb
    rw [hb]
    exact wpAny_pure (h _ hv)
/-- the dict of the keywords: a new one -/
theorem merged_run {f : Value} {x : Sem Value} {Q : Addr → Shared → Prop} (I : Inv X pins σ H s)
    (h : ∀ d, H d = none → ∀ s', Inv X pins σ (upd H d (.dK [])) s' → wpAny (model X.prog X.w) A x (fun v s1 => ∃ a H1 kvs, v = .ref a ∧ Inv X pins σ H1 s1 ∧ H1 a = some (.dK kvs) ∧ H1 d = some (.dK []) ∧ a ≠ d ∧ StrK kvs ∧ ∀ s2, Inv X pins σ (upd H1 d (.dK kvs)) s2 → Q d s2) E s') :
    wpAny (model X.prog X.w) A (mergedKeywords f [(none, x)]) Q E s := by
  unfold mergedKeywords
  refine wpAny_bind (wpAny_alloc ?_)
  have I1 := I.laid (a := s.heap.objs.size) (o := .dK []) (t' := s.toks) (fun _ _ q => Heap.get?_push_of_some _ q) (Nat.le_refl _) (dk_empty s.heap I.big)
  refine wpAny_bind (wpAny_holding ?_)
  refine wpAny_bind ?_
  rw [List.forIn_cons]
  refine wpAny_bind (wpAny_bind (wpAny_pure ?_))
  refine wpAny_bind (wpAny_mono (h _ (I.hok.fresh (Nat.le_refl _)) _ I1) (fun v s1 hv => ?_) fun _ _ q => q)
  obtain ⟨a, H1, kvs, rfl, I2, ha, hd, hne, hs, k⟩ := hv
  refine wpAny_bind (wpAny_onRaise (wpAny_holding (wpAny_tryCatch (wpAny_onRaise (merge_run I2 ha hd hne hs fun s2 I3 => ?_)))))
  refine wpAny_pure ?_
  dsimp only
  rw [List.forIn_nil]
  exact wpAny_pure (wpAny_pure (wpAny_pure (k s2 I3)))
end
section
variable {M : Model} {A : Around} {E : Value → Shared → Prop} {s : Shared} {K : PySem.W.Frag} {pos : Pos} {f : Value} {first : List Value} {a0 x : Sem Value} {rest : List (Bool × Sem Value)}
theorem evalArgs_ss {Q : Args → Shared → Prop} (h : wpAny M A (spliced ((false, a0) :: rest)) (fun us s1 => wpAny M A (mergedKeywords f [(none, x)]) (fun d s2 => wpAny M A (keywordsIn f d) (fun kw s3 => Q ⟨us, kw⟩ s3) E s2) E s1) E s) :
    wpAny M A (evalArgs f true ((false, a0) :: rest) [(none, x)]) Q E s := by
  unfold evalArgs
  refine wpAny_bind (wpAny_mono h (fun us s1 h1 => wpAny_bind (wpAny_pure ?_)) fun _ _ q => q)
  refine wpAny_holding ?_
  rw [if_neg (by simp)]
  refine wpAny_bind (wpAny_mono h1 (fun d s2 h2 => ?_) fun _ _ q => q)
  refine wpAny_bind (wpAny_pure ?_)
  refine wpAny_bind (wpAny_holding (wpAny_mono h2 (fun kw s3 h3 => wpAny_pure h3) fun _ _ q => q))
theorem callWith_ss {Q : Value → Shared → Prop} (hk : PySem.W.keepIn K f = true) (h : wpAny M A (evalArgs f true ((false, a0) :: rest) [(none, x)]) (fun a s1 => K.In s1.heap ∧ wpAny M A (call f (first ++ a.pos) a.kw) Q E s1) E s) :
    wpAny M A (callWith pos f first ((false, a0) :: rest) [(none, x)]) Q E s := by
  unfold callWith
  refine wpAny_bind (wpAny_holding (wpAny_mono h (fun a s1 h1 => wpAny_bind (wpAny_standAt ?_)) fun _ _ q => q))
  obtain ⟨k, hk', L⟩ := PySem.W.keeps_K (M := M) hk _ h1.1
  refine wpAny_bind (L.here ?_)
  have tail : ∀ {t : Sem Value}, wpAny M A t Q E s1 → wpAny M A (t >>= fun r => holding [r] point >>= fun _ => pure r) Q E s1 :=
    fun ht => wpAny_bind (wpAny_mono ht (fun r s2 hr => wpAny_bind (wpAny_holding (wpAny_point (wpAny_pure hr)))) fun _ _ q => q)
  have marked (mk : Value) : wpAny M A (callMarked mk f (first ++ a.pos) a.kw) Q E s1 := by
    unfold callMarked
    exact Calls.wpAny_keep h1.2
  have hst : (((false, a0) :: rest).any (·.1) || [((none : Option Str), x)].any (·.1.isNone)) = true := by simp
  simp only [hst]
  rcases hk' with rfl | rfl | rfl <;> dsimp only <;> first | exact tail (marked _) | exact tail (wpAny_operating h1.2)
end
/-! ### an __init__ called with keywords -/
abbrev SpK := List V → List V → Hp → VK → XK → Prop
def FnK (P : Program) (w : World) (K : PySem.W.Frag) (mg : Str → Option Value) (base : Heap) (CX : CXT) (k : Nat) (f : Addr) (ks : List Str) (sp : SpK) : Prop :=
  ∀ (A : Around) (outer : List Env) (s : Shared) (H : Hp) (us ws : List Value) (vs zs : List V) (Q : VK) (E : XK), Room k A → Env0 P w K mg base A outer s H → Vals vs us → Vals zs ws → zs.length = ks.length → sp vs zs H Q E →
    codeAny (model P w) A (.call (.ref f) ⟨us, ks.zip ws⟩) (CR CX outer P w H s Q E) s
section
variable {CX : CXT} {P : Program} {w : World} {K : PySem.W.Frag} {mg : Str → Option Value} {base : Heap} {k n : Nat} {f : Addr} {name qual : Str} {params : Arguments} {body : List Stmt} {scope : Scope} {dV kV doc pm cdv ct oc : Value} {an od : Option Addr}
  {osl : Array (Option Value)} {N ps ks : List Str} {sp : Sp} {fd : FuncData} {g : List Value → List Value → List Value} {gV : List V → List V → List V}
theorem FnK.of_ok (F : FnOk P w K mg base CX k f fd ps sp) (hb : KBn K fd ps n ks g gV) (X : ∀ {A outer s H}, Env0 P w K mg base A outer s H → K.In s.heap) : FnK P w K mg base CX k f ks (fun vs zs H Q E => vs.length = n ∧ sp (gV vs zs) H Q E) := by
  intro A outer s H us ws vs zs Q E hr e0 r rz hl h
  exact F.run A outer s H ⟨us, ks.zip ws⟩ _ _ Q E hr e0 (hb.to s us ws (X e0) (r.length.symm.trans h.1) (rz.length.symm.trans hl)) (hb.rel r rz) h.2
/-- def f(a, .., *v, k = .., ..) with all keywords given -/
theorem fn_starK {pv : Str} (lk : K.lookup f = some ⟨oc, od, .func (PySem.W.fnOf name qual params body scope dV kV doc pm an cdv ct), osl⟩) (hcd : PySem.W.codeIn K cdv qual = true) (S : FnScope N (ps ++ ks ++ [pv]) scope) (hCX : CXUp CX)
    (hb : ∀ us rest ws : List Value, us.length = ps.length → ws.length = ks.length → bindArgs (PySem.W.fnOf name qual params body scope dV kV doc pm an cdv ct) ⟨us ++ rest, ks.zip ws⟩ = (newTuple rest >>= fun t => pure ((ps ++ ks).zip (us ++ ws) ++ [(pv, t)])))
    (hbody : ∀ (A : Around) (outer : List Env) (s : Shared) (H : Hp) (vs : List V) (Q : VK) (E : XK), Room k (A.deeper (envOfC qual scope s.heap.objs.size f cdv)) → sp vs H Q E →
      ∃ t, PSs (cxOf CX P w K mg base N qual scope f cdv A outer s H E) body t ∧ t { nx := fun _ H' => Q .non H', rt := Q } (start N vs) H) :
    FnK P w K mg base CX (k + 1) f ks (fun vs zs H Q E => ∃ as rest, vs = as ++ rest ∧ as.length = ps.length ∧ rest.length ≤ sizeLine ∧ ∀ p, H p = Option.none → sp (as ++ zs ++ [V.ref p]) (upd H p (.tup rest)) Q E) := by
  intro A outer s H us ws vs zs Q E hr e0 r rz hlz hsp
  obtain ⟨as, rest, rfl, hl, hz, hq⟩ := hsp
  obtain ⟨u1, u2, rfl, r1, r2⟩ := vals_split r
  have hn : H s.heap.objs.size = Option.none := e0.hok.fresh (Nat.le_refl _)
  have hl1 : u1.length = ps.length := by rw [← r1.length]; exact hl
  have hl2 : u2.length ≤ sizeLine := by rw [← r2.length]; exact hz
  have hl3 : ws.length = ks.length := by rw [← rz.length]; exact hlz
  refine run_bnd (ps := ps ++ ks ++ [pv]) lk hcd S hr e0 (G := fun xs H2 => ∃ p, H p = Option.none ∧ xs = as ++ zs ++ [V.ref p] ∧ H2 = upd H p (.tup rest)) (fun A' Ex Q' h => ?_) fun s2 H2 xs ⟨p, hp, ex, eH⟩ hr' => ?_
  · rw [hb u1 u2 ws hl1 hl3]
    refine wpAny_bind (wpAny_newTuple (wpAny_pure ?_) hl2)
    have new : ObjOk P w (upd H s.heap.objs.size (.tup rest)) (s.heap.push ({ cls := .type "tuple", data := .seq u2.toArray } : Obj)) s.heap.objs.size (.tup rest) := ⟨hz, u2, r2, ⟨_, Heap.get?_push_size _ rfl, rfl, _, rfl⟩⟩
    have un := un_laid (fs := frs outer) (s := s) (o := ({ cls := .type "tuple", data := .seq u2.toArray } : Obj)) (u := .tup rest) hn
    have z := h _ _ (as ++ zs ++ [V.ref s.heap.objs.size]) (u1 ++ ws ++ [Value.ref s.heap.objs.size]) (env0_laid e0 new) un rfl (fun e s' => hCX outer s H _ _ E e s' un (fun b o q => Heap.get?_push_of_some _ q) rfl) ((r1.append rz).append (.cons rfl .nil))
      (by simp only [List.length_append, List.length_cons, List.length_nil, hl, hlz]) ⟨_, hn, rfl, rfl⟩
    rw [List.zip_append (by rw [List.length_append, List.length_append, hl1, hl3])] at z
    exact z
  · subst ex eH
    exact hbody A outer s2 _ _ Q E hr' (hq p hp)
end
section
variable {X : Cx} {CX : CXT} {k : Nat} {f C : Addr} {ks : List Str} {sp : SpK} {E : XK} {x : Str} {p pos : Pos} {e em : Expr} {es : List Expr} {kws : List Keyword} {t tk : TA} {tm : TE}
theorem run_makeF {pins : List (Addr × Obj)} {σ : L2.St} {H : Hp} {s : Shared} {Q : VK} {us ws : List Value} {vs zs : List V} (M : Mk X.K C f) (F : FnK X.prog X.w X.K X.mg X.base CX k f ks sp) (hr : Room (k + 1) X.A) (hx : Passes CX X E)
    (I : Inv X pins σ H s) (r : Vals vs us) (rz : Vals zs ws) (l2 : zs.length = ks.length)
    (h : ∀ x dx, H x = none → H dx = none → dx ≠ x → sp (.ref x :: vs) zs (upd (upd H dx (.own x)) x (.ins C dx [])) (fun v H2 => v = .non ∧ Q (.ref x) H2) E) :
    wpAny (model X.prog X.w) X.A (call (.ref C) us (ks.zip ws)) (EP X pins σ Q) X.xe s := by
  have hq := h (s.heap.objs.size + 1) s.heap.objs.size (I.hok.fresh (Nat.le_succ _)) (I.hok.fresh (Nat.le_refl _)) (Nat.ne_of_lt (Nat.lt_succ_self _))
  have I2 := Inv.made (C := C) I
  have r1 : Vals (V.ref (s.heap.objs.size + 1) :: vs) (Value.ref (s.heap.objs.size + 1) :: us) := .cons rfl r
  refine wpAny_call (make_map (f := f) I.kIn M.makes M.init (beq_iff_eq.mp M.fn) (codeAny_mono (F _ X.stack _ _ (Value.ref (s.heap.objs.size + 1) :: us) ws _ zs _ E (hr.make C us (ks.zip ws)) (I2.env0.make C us (ks.zip ws)) r1 rz l2 hq) fun r s' hq' => ?_))
  cases r with
  | error e => exact hx pins σ _ _ e s' I2 hq'
  | ok fl =>
    cases fl with
    | ret u =>
      obtain ⟨v, H', I3, rv, ev, q3⟩ := I2.after hq'
      subst ev
      exact ⟨rv, ⟨V.ref (s.heap.objs.size + 1), H', I3, rfl, q3⟩⟩
    | next => exact False.elim hq'
    | brk => exact False.elim hq'
    | cont => exact False.elim hq'
/-- C(e, .., **d) -/
def tMkSS (C : Addr) (ks : List Str) (sp : SpK) (E : XK) (t : TA) (tm : TE) : TE := fun σ H Q => t σ H fun vs H1 => ∀ d, H1 d = none → tm σ (upd H1 d (.dK [])) fun y H2 => ∃ a kvs, y = .ref a ∧ H2 a = some (.dK kvs) ∧ H2 d = some (.dK []) ∧ a ≠ d ∧ kvs.map (·.1) = ks.map Sum.inr ∧
  ∀ x dx, upd H2 d (.dK kvs) x = none → upd H2 d (.dK kvs) dx = none → dx ≠ x → sp (.ref x :: vs) (kvs.map (·.2)) (upd (upd (upd H2 d (.dK kvs)) dx (.own x)) x (.ins C dx [])) (fun v H3 => v = .non ∧ Q (.ref x) H3) E
theorem pe_mkSS (M : Mk X.K C f) (F : FnK X.prog X.w X.K X.mg X.base CX k f ks sp) (hr : Room (k + 1) X.A) (hg : Gl X x) (hm : X.mg x = some (.ref C)) (hx : Passes CX X E) (ha : PA X (e :: es) t) (he : PE X em tm)
    (hkw : keywordEach kws X.env = [(none, eval em X.env)] := by rfl) (hdb : (x == ("__debug__" : Str)) = false := by decide) (hst : starEach (e :: es) X.env = (false, eval e X.env) :: starEach es X.env := by rfl) :
    PE X (.Call (.Name x p) (e :: es) kws pos) (tMkSS C ks sp E t tm) := by
  refine ⟨fun pins s σ H Q I h => ?_⟩
  refine wpAny_Call_Name_kw (ld_glob I hg hm ?_ hdb)
  rw [hkw, hst]
  have ha' := ha.run pos pins s σ H _ I h
  rw [hst] at ha'
  refine callWith_ss M.kp (evalArgs_ss (thn ha' fun us s1 hv => ?_))
  obtain ⟨vs, H1, I1, r, q⟩ := hv
  refine merged_run I1 fun d hd s2 I2 => ?_
  refine wpAny_bind (thn (he.run pins s2 σ _ _ I2 (q d hd)) fun v s3 ⟨y, H2, I3, ry, a, kvs, ey, h1, h2, hne, hks, q2⟩ => wpAny_bind (wpAny_standAt (wpAny_pure ?_)))
  subst ey
  refine ⟨a, H2, kvs, ry, I3, h1, h2, hne, fun kv hkv => ?_, fun s4 I4 => ?_⟩
  · have : kv.1 ∈ kvs.map (·.1) := List.mem_map.mpr ⟨kv, hkv, rfl⟩
    rw [hks] at this
    obtain ⟨z, _, ez⟩ := List.mem_map.mp this
    exact ⟨z, ez.symm⟩
  · refine kwin_run I4 upd_same hks fun ws rw_ => ⟨I4.kIn, ?_⟩
    exact run_makeF M F hr hx I4 r rw_ (by rw [List.length_map]; have := congrArg List.length hks; simpa using this) q2
end
end WSt

set_option Elab.async false
set_option linter.all false
set_option maxRecDepth 100000
set_option maxHeartbeats 2000000
/-! name = {k: v for ..}; C(.., k=..) by a promise of keywords -/
namespace WDc
open PySem PySem.Spec PyProof.Rows L2 StX WSt
section
variable {X : Cx}
theorem ps_setDc {i : Nat} {y : Str} {py : Pos} {kx vx tg iter : Expr} {ifs : List Expr} {scope : Scope} {own : List (Str × Nat)} {pos spos : Pos} {wi : TI} {g : TG} {tt : TT} {tk tv : TE} (hc : X.calm = true) (hN : X.N.Nodup) (hy : X.N[i]? = some y) (hyl : X.env.scope.names.lookup y = some .local)
    (hsw : swapsWith (.DictComp kx vx [⟨tg, iter, ifs, 0⟩] scope pos) (some (.Name y py)) spos.line X.env = pure true) (hi : PI X tg iter wi) (ok : BlkOk X.N X.env.scope scope own)
    (hg : ∀ (s : Shared) (H : Hp) (C : Addr) (cl : List (Str × Addr)) (fp : List Addr), PG (X.blk s H scope (compEnvC scope cl C X.env) fp) tg g) (ht : ∀ (s : Shared) (H : Hp) (C : Addr) (cl : List (Str × Addr)) (fp : List Addr), PTs (X.blk s H scope (compEnvC scope cl C X.env) fp) ifs tt)
    (hk : ∀ (s : Shared) (H : Hp) (C : Addr) (cl : List (Str × Addr)) (fp : List Addr), PE (X.blk s H scope (compEnvC scope cl C X.env) fp) kx tk)
    (he : ∀ (s : Shared) (H : Hp) (C : Addr) (cl : List (Str × Addr)) (fp : List Addr), PE (X.blk s H scope (compEnvC scope cl C X.env) fp) vx tv) (hs : ∀ x, foldedSetIterable iter X.env x = pure x := by intro _; rfl) :
    PS X (.Assign [.Name y py] (.DictComp kx vx [⟨tg, iter, ifs, 0⟩] scope pos) spos) (tAsg (tDc wi g tt tk tv (own.map (·.2))) (gName i)) := by
  refine ⟨fun pins s σ H D I h => ?_⟩
  rw [exec_Assign_Name_used _ _ _ _ hsw]
  refine wpAny_bind (wpAny_standAt (wpAny_bind ?_))
  show wpAny _ X.A (do let _ ← comprehension (.DictComp kx vx [⟨tg, iter, ifs, 0⟩] scope pos) scope X.env (firstIterPos [⟨tg, iter, ifs, 0⟩] pos) newDict false (eval iter X.env) (some (assign (.Name y py) X.env))) _ _ s
  have h : tDc wi g tt tk tv (own.map (·.2)) σ H (fun x H1 => gName i x σ H1 D.nx) := h
  refine wpAny_bind (thn (dc_core (Qf := fun _ s' => SP X pins D .next s') hc hN I hi ok hg ht hk he hs h fun L C s' m H' I' q hn f => ?_) fun _ s' hq => wpAny_pure (wpAny_pure hq))
  show wpAny _ _ (assign (.Name y py) X.env (.ref L)) _ _ _
  refine wpAny_assign_Name (store_ok2 (v := V.ref L) I' hN hy (.inl hyl) rfl (fun s2 I2 ⟨a, sb, ha⟩ => ?_) (.inr hyl))
  obtain ⟨f0, f1, f2, f3, f4, f5⟩ := f
  have haC : C ≠ a := by
    rcases ha with z | z
    · rw [z]; exact f1
    · exact fun e => f4 y a z e.symm
  refine ⟨m, hn.sameBut sb haC, fun h3 sb3 => ?_⟩
  exact ⟨_, H', I2.turned (t' := s2.toks) (fun b o hb e => (sb3.2 b hb).trans e) f0 f1 f3 f4 f5, q⟩
theorem sw_trueD {kx vx : Expr} {gs : List Comprehension} {scope : Scope} {pos py : Pos} {y : Str} {l : Nat} {env : Env} (hk : env.scope.kind = .function) (hy : env.scope.names.lookup y = some .local) (hl : (py.line == pos.line) = true)
    (ha : (scope.names.any fun (n, k) => n == y && (k == .local || k == .cell)) = false) : swapsWith (.DictComp kx vx gs scope pos) (some (.Name y py)) l env = pure true := by
  have ky : env.kindOf y = some .local := hy
  have hb : env.blockKind = .function := by unfold Env.blockKind; rw [hk]; rfl
  unfold swapsWith
  simp only [hb, ky, ha, Expr.pos, hl]
  rfl
end
section
variable {X : Cx} {CX : CXT} {k : Nat} {f C : Addr} {ks : List Str} {sp : SpK} {E : XK} {x : Str} {p pos : Pos} {e : Expr} {es : List Expr} {kws : List Keyword} {t tk : TA}
/-- C(e, .., k=.., ..) -/
def tMkKF (C : Addr) (sp : SpK) (n : Nat) (E : XK) (t tk : TA) : TE := fun σ H Q => t σ H fun vs H1 => tk σ H1 fun zs H2 => zs.length = n ∧
  ∀ x dx, H2 x = none → H2 dx = none → dx ≠ x → sp (.ref x :: vs) zs (upd (upd H2 dx (.own x)) x (.ins C dx [])) (fun v H3 => v = .non ∧ Q (.ref x) H3) E
theorem pe_mkKF (M : Mk X.K C f) (F : FnK X.prog X.w X.K X.mg X.base CX k f ks sp) (hr : Room (k + 1) X.A) (hg : Gl X x) (hm : X.mg x = some (.ref C)) (hx : Passes CX X E) (ha : PA X (e :: es) t) (hkw : PK X kws tk)
    (hall : (backToKw pos (keywordEach kws X.env)).all (·.1.isSome) = true := by rfl) (hks : (backToKw pos (keywordEach kws X.env)).filterMap (·.1) = ks := by rfl) (hdb : (x == ("__debug__" : Str)) = false := by decide)
    (he : starEach (e :: es) X.env = (false, eval e X.env) :: starEach es X.env := by rfl) (hpl : ((backTo pos (starEach (e :: es) X.env)).any (·.1) || (backToKw pos (keywordEach kws X.env)).any (·.1.isNone)) = false := by rfl) :
    PE X (.Call (.Name x p) (e :: es) kws pos) (tMkKF C sp ks.length E t tk) := by
  refine ⟨fun pins s σ H Q I h => ?_⟩
  refine wpAny_Call_Name_kw (ld_glob I hg hm ?_ hdb)
  refine PySem.W.callWith_KW (h₀ := X.base) I.ok.mod.kin M.kp hall (thn (ha.run pos pins s σ H _ I h) fun us s1 ⟨vs, H1, I1, r, q⟩ => ?_) hpl he
  refine thn (hkw.run pos pins s1 σ H1 _ I1 q) fun ws s2 ⟨zs, H2, I2, rz, l2, q2⟩ => ⟨I2.kIn, ?_⟩
  rw [hks]
  exact run_makeF M F hr hx I2 r rz l2 q2
end
/-! readings that name the fragment, for blocks -/
theorem ixlK {X : Cx} {K : PySem.W.Frag} (h : X.K = K := by rfl) : IxR X (rIxL K) := h ▸ ix_list
theorem ixtK {X : Cx} {K : PySem.W.Frag} (h : X.K = K := by rfl) : IxR X (rIxT K) := h ▸ ix_tup
theorem isiK {X : Cx} {K : PySem.W.Frag} (h : X.K = K := by rfl) : CallR X (.builtin "isinstance") (rIsi K) := h ▸ call_isi
end WDc

set_option Elab.async false
set_option linter.all false
set_option maxRecDepth 100000
set_option maxHeartbeats 2000000
/-! raising own exceptions with their own __init__: the class's facts by a Bool; calls that may raise, in a try -/
namespace WXO
open PySem PySem.Spec PyProof.Rows L2 WXE WLf
def oexB (K : PySem.W.Frag) (C : Addr) : Bool := (match K.lookup C with
  | some ⟨.type "type", _, .cls cd, sl⟩ => (match cd.mro, sl.toList with
    | .ref C' :: bm, [_, _, _, _, some (.builtin n), _] => C' == C && n == "ValueError.__new__" && !cd.hasDel && cd.hasDict && PySem.HandSPX.refsVE bm
    | _, _ => false)
  | _ => false) && (decide (PySem.W.typeIn K (.ref C) = some (.type "type")))
theorem oexB_ok {K : PySem.W.Frag} {C : Addr} {B newId initId : String} {bmB : List Value} (T : XC K C B newId initId bmB) (h : oexB K C = true) : OexC K C := by
  obtain ⟨q, ty⟩ := He.ba h
  refine ⟨?_, T.sa, T.ex, of_decide_eq_true ty, T.kp⟩
  split at q
  · rename_i dd cd sl ho
    split at q
    · rename_i C' bm k0 k1 k2 k3 n k5 hm hs
      simp only [Bool.and_eq_true, beq_iff_eq, Bool.not_eq_true'] at q
      obtain ⟨⟨⟨⟨rfl, rfl⟩, hdel⟩, hdc⟩, ht⟩ := q
      obtain ⟨nm, bs, mro, ns, qn, hd, sn, sub, ab, col, del⟩ := cd
      dsimp only at hm hdel hdc
      subst hm hdel hdc
      have hsl : sl = #[k0, k1, k2, k3, some (.builtin "ValueError.__new__"), k5] := by
        obtain ⟨l⟩ := sl
        simp only at hs
        rw [hs]
      subst hsl
      exact ⟨nm, qn, ns, bs, bm, sn, sub, ab, col, dd, k0, k1, k2, k3, k5, ho, ht⟩
    · cases q
  · cases q
/-- a raised error of the class at C with its one field -/
def Err (H : Hp) (C : Addr) (f : Str) (y : V) (E : XK) : Prop := ∀ d H', Same H H' → H d = none → H' d = some (.xd [(f, y)]) → E (.ref C) (some d) H'
theorem Err.mono {H H' : Hp} {C : Addr} {f : Str} {y : V} {E : XK} (h : Err H C f y E) (s : Same H H') : Err H' C f y E := fun d H2 s2 hd hx => h d H2 (s.trans s2) (Same.free s hd) hx
/-- raise C(e): what follows -/
theorem raise_of {C : Addr} {f : Str} {y : V} {E : XK} {te : TE} {σ : L2.St} {H : Hp} {cls : Value → Option Addr → Hp → Prop} (h : WEv.EvP te σ H (Is y)) (k : Err H C f y cls) : tMkO C (spI1 C f) [] (tCons te tNil) σ H cls :=
  h H (Same.refl H) _ fun x H1 s1 e => by
    obtain rfl : x = y := e
    refine ⟨Nat.le_of_ble_eq_true rfl, fun a ha => ⟨a, x, rfl, upd_same, fun d hd hne => ⟨rfl, d, [(f, x)], upd_same, ?_, ?_, ?_⟩⟩⟩
    · rw [upd_ne hne]; exact upd_same
    · rwa [upd_ne hne] at hd
    · have h1 : H1 d = none := by rwa [upd_ne hne] at hd
      refine k d _ (fun b o hb => ?_) (Same.free s1 h1) upd_same
      have hb1 := s1 _ _ hb
      have ba : b ≠ a := ne_of_none hb1 ha
      have bd : b ≠ d := ne_of_none hb1 h1
      rw [upd_ne bd, del_ne ba, upd_ne ba, upd_ne bd, upd_ne ba]
      exact hb1
theorem takes_e {X : Cx} {E : XK} (hs : X.stack = X.env :: X.outer) (hf : X.env.frame = some X.env.locals) (hex : X.ex = []) {E₁ : Value → Shared → Prop}
    (hx : X.xe = fun e s' => wpAny (model X.prog X.w) X.A (leaving X.env e) (fun _ s'' => L2.CX X.prog X.w X.outer X.H_0 X.s_0 E e s'') E₁ s') : Passes (L2.CX X.prog X.w) X E :=
  passes_call (W := fun cls d _ H => E cls d H) (takes_of hs hf hex hx) fun _ _ _ _ h => h
/-! a kept error whose dict is L2's .xd -/
def KXt (H : Hp) (a C : Addr) (f : Str) (y : V) : Prop := ∃ dx, H a = some (WKp.exK a C (some dx)) ∧ H dx = some (.xd [(f, y)])
theorem xd_at {P : Program} {w : World} {H : Hp} {h : Heap} {dx : Addr} {fs : List (Str × V)} (hok : HOk P w H h) (he : H dx = some (.xd fs)) : ∃ mA, h.Ns1 dx mA ∧ ∀ f, RelO (fs.lookup f) (mA f) := hok dx _ he
theorem kx_inst {X : Cx} {pins : List (Addr × Obj)} {σ : L2.St} {H : Hp} {s : Shared} {a C : Addr} {f : Str} {y : V} (I : Inv X pins σ H s) (k : KXt H a C f y) :
    ∃ (ox od : Obj) (mA : Str → Option Value), PySem.W.InstAt s.heap a ox C (some od) ∧ (∀ g, RelO (([(f, y)] : List (Str × V)).lookup g) (mA g)) ∧ ∀ y, PySem.W.lookIn y od = some (mA y) := by
  obtain ⟨dx, ea, ed⟩ := k
  obtain ⟨oe, vs, ha, hc, hd, hv⟩ := WKp.exK_at I.hok ea
  obtain ⟨mA, hns, rel⟩ := xd_at I.hok ed
  obtain ⟨od, hod, hl⟩ := lookIn_ns hns
  exact ⟨oe, od, mA, ⟨ha, hc, by unfold PySem.W.notCls; rw [hv] <;> rfl, by rw [hd]; exact hod⟩, rel, hl⟩
def tKf (K : PySem.W.Frag) (f : Str) (te : TE) : TE := fun σ H Q => te σ H fun x H1 => ∃ (a C : Addr) (y : V) (B newId initId : String) (bmB : List Value),
  x = .ref a ∧ KXt H1 a C f y ∧ XC K C B newId initId bmB ∧ PySem.W.findIn K (.ref C) f = some none ∧ Q y H1
def rKi (K : PySem.W.Frag) : List V → Hp → VK → Prop := fun xs H Q => ∃ (a C : Addr) (f : Str) (y c : V) (B newId initId : String) (bmB : List Value) (b : Bool),
  xs = [.ref a, c] ∧ KXt H a C f y ∧ XC K C B newId initId bmB ∧ ((∃ cv, (∀ u, RelV c u → u = cv) ∧ PySem.W.kitOne K (.ref C) cv = some b) ∨
    ∃ p cs, c = .ref p ∧ H p = some (.tup cs) ∧ ∀ us, Vals cs us → PySem.W.kitAny K (.ref C) us = some b) ∧ Q (.bl b) H
section
variable {X : Cx} {e : Expr} {te : TE} {f : Str} {pos : Pos}
theorem pe_kf (he : PE X e te) (hb : attributeBase e f X.env (eval e X.env) = eval e X.env := by rfl) : PE X (.Attribute e f pos) (tKf X.K f te) := by
  refine ⟨fun pins s σ H Q I h => ?_⟩
  refine attr_of hb (thn (he.run pins s σ H _ I h) fun u s1 hh => ?_)
  obtain ⟨x, H1, I1, rx, a, C, v, B, n, i, bm, ex, ka, T, hno, q⟩ := hh
  subst ex
  obtain rfl : u = Value.ref a := rx
  obtain ⟨ox, od, mA, J, rel, hl⟩ := kx_inst I1 ka
  obtain ⟨u, hu, ru⟩ := RelO.some_of (v := v) (o := mA f) (by have := rel f; simpa [List.lookup] using this)
  refine HandSPX.exc_get I1.kIn J T.ga T.gg T.ex (PySem.W.findObj_own T.hd hno rfl (by rw [hl, hu])) (handed_of ru) ⟨v, H1, I1.tok _, ru, q⟩
theorem call_ki : CallR X (.builtin "isinstance") (rKi X.K) := by
  intro pins s σ H xs us Q I r h
  obtain ⟨a, C, f, y, c, B, n, i, bm, b, rfl, ka, T, hk, q⟩ := h
  cases r with
  | cons rx rr =>
    cases rr with
    | cons rt rr =>
      cases rr
      cases rx
      obtain ⟨ox, od, mA, J, _, _⟩ := kx_inst I ka
      have hcl : (PySem.W.clsIn X.K C).isSome = true := by
        obtain ⟨cd, hc, _⟩ := PySem.W.any_some T.hd
        rw [hc] <;> rfl
      have Z := PySem.W.kitx_exc (x := a) (ox := ox) (od := some od) hcl T.ga T.gg T.ex T.cc T.gs T.tk T.mo
      rcases hk with ⟨cv, hcv, e⟩ | ⟨p, cs, rfl, hp, e⟩
      · have ec := hcv _ rt
        subst ec
        exact PySem.W.kia_one Z I.kIn J e (fun z => nomatch z) fun tk => ⟨.bl b, H, I.kept (t' := tk) fun _ _ z => z, rfl, q⟩
      · cases rt
        obtain ⟨_, its, rv, ⟨⟨oc, odd, odt, osl⟩, ho, hc, m, hd⟩⟩ := I.hok p _ hp
        dsimp only at hc hd
        subst hc hd
        exact PySem.W.kia_tup Z I.kIn J ho (e its rv) (fun z => nomatch z) fun tk => ⟨.bl b, H, I.kept (t' := tk) fun _ _ z => z, rfl, q⟩
end
end WXO

set_option Elab.async false
set_option linter.all false
set_option maxRecDepth 100000
set_option maxHeartbeats 2000000
namespace WLf
open PySem PySem.Spec L2 WEv WRd WXE
theorem dpall_bls {K : PySem.W.Frag} {H : Hp} : ∀ bs : List Bool, DpAll K H (bs.map V.bl) (bs.map PyData.bool)
  | [] => .nil
  | b :: bs => .cons (.bl b) (dpall_bls bs)
theorem is_list {ys xs : List V} {H : Hp} (h : Fa (ys.map Is) xs H) : xs = ys := h.is
section
variable {K : PySem.W.Frag} {σ : L2.St} {H H' : Hp} {te ta tb td ty tv : TE} {tr : TA} {tt tu : TT} {v x y : V} {vs : List V} {P Pa Pb : HP V} {Ps Qs : List (HP V)} {D : Ends} {n : Nat} {b c : Bool}
theorem lf_dp {bs : List Bool} (h : LF ((bs.map V.bl).map Is) v H) : Dp K H v (.list (bs.map PyData.bool)) := by
  obtain ⟨p, xs, rfl, hp, fa⟩ := h
  obtain rfl := fa.is
  exact .lst (.of hp) (dpall_bls bs)
theorem mn_is {ys : List V} : Mn (Fa (ys.map Is)) := by
  induction ys with
  | nil => exact mn_nil
  | cons y ys ih => exact mn_cons mn_i ih
theorem et_ne {bs : List Bool} (ha : G ta σ H (LF ((bs.map V.bl).map Is))) (hb : G tb σ H (LF ((bs.map V.bl).map Is))) (hs : SeqAt.shaped (.list (bs.map PyData.bool)) = true) : EvT (tTest (tOp (rNeD K) ta tb)) σ H false := fun H1 e _ q =>
  ha.ev H1 e _ fun a H2 s2 pa => hb.ev H2 (e.trans s2) _ fun c H3 s3 pc => by
    refine ⟨_, _, lf_dp (ha.mn _ _ _ s3 pa), lf_dp pc, hs, hs, ?_⟩
    rw [SeqAt.eqv_refl _ (SeqAt.canLay_of_shaped hs)]
    exact ⟨false, rfl, q _ (s2.trans s3)⟩
theorem et_or0 (h : EvT tt σ H false) (g : EvT tu σ H b) : EvT (tOr tt tu) σ H b := fun H1 e Q q => h H1 e _ fun H2 s2 => g H2 (e.trans s2) _ fun H3 s3 => q _ (s2.trans s3)
theorem et_val (h : G te σ H (Is (.bl b))) : EvT (tB te) σ H b := fun H1 e Q q => h.ev H1 e _ fun x H2 s2 p => ⟨b, p, q _ s2⟩
theorem s_no {t u : TS} (h : EvT tt σ H false) (q : ∀ H1, Same H H1 → u D σ H1) : tIfS tt t u D σ H := h H (Same.refl H) _ fun H1 s => q H1 s
theorem s_yes {t u : TS} (h : EvT tt σ H true) (q : ∀ H1, Same H H1 → t D σ H1) : tIfS tt t u D σ H := h H (Same.refl H) _ fun H1 s => q H1 s
/-- [e for v in range(n)], e only read -/
theorem g_lcr {v : Nat} {m : Nat} (f : Nat → V) (hm : m ≤ 1000) (h : ∀ i H1, i < m → Same H H1 → Ev te ((σ.set v none).set v (some (.int ((0 : Int) + (i : Nat))))) H1 (f i)) :
    G (tLc (iRng1 (tCons (tC (.int (m : Int))) tNil)) (gName v) tYes te [v]) σ H (LF (((List.range m).map f).map Is)) := by
  refine ⟨fun H1 e Q q => ?_, mn_lf mn_is⟩
  refine ⟨m, rfl, by omega, by omega, fun D hD => ?_⟩
  show ∃ W, _
  refine lc_it (walk_range (lo := 0) (n := m)) (fun i H' => Same H1 H' ∧ H' D = some (.lst ((List.range i).map f))) ⟨same_new hD, upd_same⟩ (fun _ _ _ _ => trivial) (fun i x H2 H3 hi p y => ?_) (fun H2 p => ?_)
  · obtain ⟨s2, hd⟩ := p
    obtain ⟨rfl, rfl⟩ := y
    refine ⟨(List.set_set ..).trans (List.set_set ..), ?_⟩
    refine h i _ hi (e.trans s2) _ ⟨_, hd, ?_, same_put s2 hD, ?_⟩
    · rw [List.length_map, List.length_range]
      exact Nat.lt_of_lt_of_le hi (Nat.le_trans hm (by decide))
    · rw [upd_same, List.range_succ, List.map_append]
      rfl
  · exact q _ _ p.1 ⟨D, _, rfl, p.2, by
      have : ∀ ys : List V, Fa (ys.map Is) ys H2 := fun ys => by
        induction ys with
        | nil => trivial
        | cons y ys ih => exact ⟨rfl, ih⟩
      exact this _⟩
theorem g_eq {xs ys : List V} (h : G te σ H (LF (xs.map Is))) (e : xs = ys) : G te σ H (LF (ys.map Is)) := e ▸ h
theorem ty2 {n1 n2 : String} : ∀ us, Vals [V.ty n1, V.ty n2] us → us = [.type n1, .type n2] := fun us r => by
  cases r with
  | cons r1 r =>
    cases r with
    | cons r2 r =>
      cases r
      cases r1
      cases r2
      rfl
/-- isinstance(e, (T1, T2)) -/
theorem g_xis2 {a C : Addr} {n1 n2 B newId initId : String} {bmB : List Value} {b : Bool} {i : Nat} (h : σ[i]? = some (some (.ref a))) (hx : XAt H a C) (T : XC K C B newId initId bmB) (hk : PySem.W.kitAny K (.ref C) [.type n1, .type n2] = some b) :
    G (tCB (rXis K) (tCons (tVar i) (tCons (tTup (tCons (tC (.ty n1)) (tCons (tC (.ty n2)) tNil))) tNil))) σ H (Is (.bl b)) := ⟨fun H1 e Q q => ⟨_, h, (by decide : 2 ≤ sizeLine), fun p hp => ⟨a, C, .ref p, B, newId, initId, bmB, b, rfl, mv_xat a _ _ (same_new hp) (mv_xat a _ _ e hx), T, .inr ⟨p, _, rfl, upd_same, fun us r => by rw [ty2 us r]; exact hk⟩, q _ _ (same_new hp) rfl⟩⟩, mn_i⟩
theorem g_imp (h : G te σ H P) (k : ∀ v H, P v H → Pa v H) (m : Mn Pa) : G te σ H Pa := ⟨h.ev.imp k, m⟩
theorem ev_g (h : ∀ H1, Same H H1 → Ev te σ H1 v) : G te σ H (Is v) := ⟨fun H1 e Q q => h H1 e _ (q _ H1 (Same.refl H1) rfl), mn_i⟩
/-- a call that only adds objects -/
theorem g_call1 {sp : Sp} {E : XK} (ha : G ta σ H (Is x)) (hs : ∀ H1, Same H H1 → ∀ Q : VK, (∀ v H2, Same H1 H2 → P v H2 → Q v H2) → sp [x] H1 Q E) (m : Mn P) : G (tCall sp [] E (tCons ta tNil)) σ H P := ⟨fun H1 e Q q =>
  ha.ev H1 e _ fun a H2 s2 pa => by
    obtain rfl : a = x := pa
    exact hs H2 (e.trans s2) _ fun v H3 s3 p3 => q _ _ (s2.trans s3) p3, m⟩
end
end WLf

set_option Elab.async false
set_option linter.all false
set_option maxRecDepth 100000
set_option maxHeartbeats 2000000
/-! values of any kind that are given to plans, and what stands for them in the heap -/
namespace WPv
open PySem PySem.Spec PyProof.Rows L2 WEv WRd WLf
abbrev CW (K : PySem.W.Frag) : Addr := He.ga K "WorkerPlan"
abbrev CS (K : PySem.W.Frag) : Addr := He.ga K "SupervisorPlan"
inductive Pv where
  | non | bl (b : Bool) | int (i : Int) | str (s : Str) | dic | tup (l : List Pv) | lst (l : List Pv) | wrk (l : List Pv) | sup (n d : Nat)
def WIns (K : PySem.W.Frag) (dx q : Addr) : HO := .ins (CW K) dx [("own_settings", .ref q), ("own_count", .int 1), ("own_depth", .int 1)]
def SIns (K : PySem.W.Frag) (dx q c : Addr) (n k : Nat) : HO := .ins (CS K) dx [("own_settings", .ref q), ("own_children", .ref c), ("own_count", .int n), ("own_depth", .int k)]
/-- a script whose rows and deeds have the form that is asked for a look for 'add' -/
def rowForm : Pv → Bool
  | .tup [_, _, _, .tup ds] => ds.all fun d => match d with
    | .tup (.str _ :: _) => true
    | _ => false
  | _ => false
def scrForm : Pv → Bool
  | .tup rs => rs.all rowForm
  | _ => false
mutual
/-- N: where its lists and dicts may stand -/
def At (K : PySem.W.Frag) (N : Addr → Prop) : Pv → HP V
  | .non => fun v _ => v = .non
  | .bl b => fun v _ => v = .bl b
  | .int i => fun v _ => v = .int i
  | .str s => fun v _ => v = .str s ∧ s.length ≤ 1000
  | .dic => fun v H => ∃ p, v = .ref p ∧ N p ∧ H p = some (.dK [])
  | .tup l => fun v H => ∃ p xs, v = .ref p ∧ SqT K H p xs ∧ AtL K N l xs H ∧ l.length ≤ 1000
  | .lst l => fun v H => ∃ p xs, v = .ref p ∧ N p ∧ H p = some (.lst xs) ∧ AtL K N l xs H ∧ l.length ≤ 1000
  | .wrk l => fun v H => ∃ a dx q xs, v = .ref a ∧ H a = some (WIns K dx q) ∧ SqT K H q xs ∧ (∃ a1 a2 a3 a4 a5 a6 s, l = [a1, a2, a3, a4, a5, a6, s] ∧ scrForm s = true) ∧ AtL K N l xs H
  | .sup n d => fun v H => ∃ a dx q c, v = .ref a ∧ H a = some (SIns K dx q c n d)
def AtL (K : PySem.W.Frag) (N : Addr → Prop) : List Pv → HP (List V)
  | [] => fun xs _ => xs = []
  | p :: l => fun xs H => ∃ y ys, xs = y :: ys ∧ At K N p y H ∧ AtL K N l ys H
end
/-- all but lists and dicts that do not stand in N -/
def Kn (N : Addr → Prop) (H H' : Hp) : Prop := ∀ b o, H b = some o → (∀ xs, o = .lst xs → N b) → (∀ kvs, o = .dK kvs → N b) → H' b = some o
theorem Kn.same {N : Addr → Prop} {H H' : Hp} (s : Same H H') : Kn N H H' := fun b o h _ _ => s b o h
theorem Kn.trans {N : Addr → Prop} {H H1 H2 : Hp} (a : Kn N H H1) (b : Kn N H1 H2) : Kn N H H2 := fun c o h h1 h2 => b c o (a c o h h1 h2) h1 h2
theorem Kn.lst {N : Addr → Prop} {H : Hp} {l : Addr} {xs : List V} {x : HO} (hl : H l = some (.lst xs)) (hn : ¬ N l) : Kn N H (upd H l x) := fun b o h h1 _ => by
  rw [upd_ne (fun z => by rw [z, hl] at h; cases h; exact hn (z ▸ h1 _ rfl))]
  exact h
theorem Kn.dK {N : Addr → Prop} {H : Hp} {l : Addr} {xs : List (Key × V)} {x : HO} (hl : H l = some (.dK xs)) (hn : ¬ N l) : Kn N H (upd H l x) := fun b o h _ h1 => by
  rw [upd_ne (fun z => by rw [z, hl] at h; cases h; exact hn (z ▸ h1 _ rfl))]
  exact h
theorem sqt_kn {K : PySem.W.Frag} {N : Addr → Prop} {H H' : Hp} {a : Addr} {xs : List V} (e : Kn N H H') (h : SqT K H a xs) : SqT K H' a xs := by
  rcases h with (h | ⟨o, h⟩) | h
  · exact .inl (.inl (e _ _ h (fun _ z => nomatch z) (fun _ z => nomatch z)))
  · exact .inl (.inr ⟨o, e _ _ h (fun _ z => nomatch z) (fun _ z => nomatch z)⟩)
  · exact .inr h
theorem sqt_same {K : PySem.W.Frag} {H H' : Hp} {a : Addr} {xs : List V} (e : Same H H') (h : SqT K H a xs) : SqT K H' a xs := sqt_kn (N := fun _ => True) (Kn.same e) h
mutual
theorem at_kn {K : PySem.W.Frag} {N : Addr → Prop} {H H' : Hp} (e : Kn N H H') : ∀ (p : Pv) {v : V}, At K N p v H → At K N p v H'
  | .non, _, h => h
  | .bl _, _, h => h
  | .int _, _, h => h
  | .str _, _, h => h
  | .dic, _, ⟨p, e1, hn, h⟩ => ⟨p, e1, hn, e _ _ h (fun _ z => nomatch z) (fun _ _ => hn)⟩
  | .tup l, _, ⟨p, xs, e1, h, a, z⟩ => ⟨p, xs, e1, sqt_kn e h, atl_kn e l a, z⟩
  | .lst l, _, ⟨p, xs, e1, hn, h, a, z⟩ => ⟨p, xs, e1, hn, e _ _ h (fun _ _ => hn) (fun _ z => nomatch z), atl_kn e l a, z⟩
  | .wrk l, _, ⟨a, dx, q, xs, e1, h, h1, h2, h3⟩ => ⟨a, dx, q, xs, e1, e _ _ h (fun _ z => nomatch z) (fun _ z => nomatch z), sqt_kn e h1, h2, atl_kn e l h3⟩
  | .sup n d, _, ⟨a, dx, q, c, e1, h⟩ => ⟨a, dx, q, c, e1, e _ _ h (fun _ z => nomatch z) (fun _ z => nomatch z)⟩
theorem atl_kn {K : PySem.W.Frag} {N : Addr → Prop} {H H' : Hp} (e : Kn N H H') : ∀ (l : List Pv) {xs : List V}, AtL K N l xs H → AtL K N l xs H'
  | [], _, h => h
  | p :: l, _, ⟨y, ys, e1, h, h2⟩ => ⟨y, ys, e1, at_kn e p h, atl_kn e l h2⟩
end
mutual
theorem at_imp {K : PySem.W.Frag} {N N' : Addr → Prop} {H : Hp} (e : ∀ a, N a → N' a) : ∀ (p : Pv) {v : V}, At K N p v H → At K N' p v H
  | .non, _, h => h
  | .bl _, _, h => h
  | .int _, _, h => h
  | .str _, _, h => h
  | .dic, _, ⟨p, e1, hn, h⟩ => ⟨p, e1, e _ hn, h⟩
  | .tup l, _, ⟨p, xs, e1, h, a, z⟩ => ⟨p, xs, e1, h, atl_imp e l a, z⟩
  | .lst l, _, ⟨p, xs, e1, hn, h, a, z⟩ => ⟨p, xs, e1, e _ hn, h, atl_imp e l a, z⟩
  | .wrk l, _, ⟨a, dx, q, xs, e1, h, h1, h2, h3⟩ => ⟨a, dx, q, xs, e1, h, h1, h2, atl_imp e l h3⟩
  | .sup n d, _, ⟨a, dx, q, c, e1, h⟩ => ⟨a, dx, q, c, e1, h⟩
theorem atl_imp {K : PySem.W.Frag} {N N' : Addr → Prop} {H : Hp} (e : ∀ a, N a → N' a) : ∀ (l : List Pv) {xs : List V}, AtL K N l xs H → AtL K N' l xs H
  | [], _, h => h
  | p :: l, _, ⟨y, ys, e1, h, h2⟩ => ⟨y, ys, e1, at_imp e p h, atl_imp e l h2⟩
end
theorem mn_at {K : PySem.W.Frag} {N : Addr → Prop} {p : Pv} : Mn (At K N p) := fun _ _ _ s h => at_kn (Kn.same s) p h
theorem mn_atl {K : PySem.W.Frag} {N : Addr → Prop} {l : List Pv} : Mn (AtL K N l) := fun _ _ _ s h => atl_kn (Kn.same s) l h
theorem AtL.len {K : PySem.W.Frag} {N : Addr → Prop} {H : Hp} : ∀ {l : List Pv} {xs : List V}, AtL K N l xs H → xs.length = l.length
  | [], _, h => by
    have : _ = [] := h
    rw [this]; rfl
  | p :: l, _, ⟨y, ys, e, h, h2⟩ => by rw [e, List.length_cons, List.length_cons, AtL.len h2]
theorem AtL.get {K : PySem.W.Frag} {N : Addr → Prop} {H : Hp} : ∀ {l : List Pv} {xs : List V} {i : Nat} {p : Pv}, AtL K N l xs H → l[i]? = some p → ∃ x, xs[i]? = some x ∧ At K N p x H
  | [], _, _, _, _, hp => nomatch hp
  | q :: l, _, 0, p, ⟨y, ys, e, h, h2⟩, hp => by cases hp; exact ⟨y, by rw [e]; rfl, h⟩
  | q :: l, _, i + 1, p, ⟨y, ys, e, h, h2⟩, hp => by
    obtain ⟨x, hx, px⟩ := AtL.get (i := i) h2 hp
    exact ⟨x, by rw [e]; exact hx, px⟩
theorem AtL.get2 {K : PySem.W.Frag} {N : Addr → Prop} {H : Hp} {l : List Pv} {xs : List V} {i : Nat} {x : V} (h : AtL K N l xs H) (hx : xs[i]? = some x) : ∃ p, l[i]? = some p ∧ At K N p x H := by
  have hi := (List.getElem?_eq_some_iff.mp hx).1
  rw [h.len] at hi
  obtain ⟨x', e, px⟩ := h.get (List.getElem?_eq_getElem hi)
  rw [hx] at e
  cases e
  exact ⟨_, List.getElem?_eq_getElem hi, px⟩
theorem AtL.app {K : PySem.W.Frag} {N : Addr → Prop} {H : Hp} : ∀ {l m : List Pv} {xs ys : List V}, AtL K N l xs H → AtL K N m ys H → AtL K N (l ++ m) (xs ++ ys) H
  | [], _, _, _, h, g => by
    have : _ = [] := h
    rw [this]; exact g
  | p :: l, _, _, _, ⟨y, ys, e, h, h2⟩, g => by rw [e]; exact ⟨y, _, rfl, h, AtL.app h2 g⟩
theorem AtL.drop {K : PySem.W.Frag} {N : Addr → Prop} {H : Hp} : ∀ (n : Nat) {l : List Pv} {xs : List V}, AtL K N l xs H → AtL K N (l.drop n) (xs.drop n) H
  | 0, _, _, h => h
  | n + 1, [], _, h => by
    have : _ = [] := h
    rw [this]; exact rfl
  | n + 1, p :: l, _, ⟨y, ys, e, h, h2⟩ => by rw [e]; exact AtL.drop n h2
theorem AtL.one {K : PySem.W.Frag} {N : Addr → Prop} {H : Hp} {p : Pv} {x : V} (h : At K N p x H) : AtL K N [p] [x] H := ⟨x, [], rfl, h, rfl⟩
/-! ### types -/
def tyV (K : PySem.W.Frag) : Pv → Value
  | .non => .type "NoneType"
  | .bl _ => .type "bool"
  | .int _ => .type "int"
  | .str _ => .type "str"
  | .dic => .type "dict"
  | .tup _ => .type "tuple"
  | .lst _ => .type "list"
  | .wrk _ => .ref (CW K)
  | .sup _ _ => .ref (CS K)
/-- what isinstance asks of the classes of plans -/
structure Kt (K : PySem.W.Frag) : Prop where
  dw : ∃ e, WHe.DatC K (CW K) e
  ds : ∃ e, WHe.DatC K (CS K) e
  wb : ∀ n ∈ (["str", "int", "bool", "tuple"] : List String), PySem.W.kitOne K (.ref (CW K)) (.type n) = some false
  sb : ∀ n ∈ (["str", "int", "bool", "tuple"] : List String), PySem.W.kitOne K (.ref (CS K)) (.type n) = some false
  bc : ∀ n ∈ (["NoneType", "bool", "int", "str", "dict", "tuple", "list"] : List String), ∀ c ∈ (["Plan", "BaseWorker", "WorkerPlan", "SupervisorPlan"] : List Str), PySem.W.kitOne K (.type n) (.ref (He.ga K c)) = some false
  wc : PySem.W.kitOne K (.ref (CW K)) (.ref (He.ga K "Plan")) = some true ∧ PySem.W.kitOne K (.ref (CW K)) (.ref (He.ga K "BaseWorker")) = some true ∧ PySem.W.kitOne K (.ref (CW K)) (.ref (CW K)) = some true ∧ PySem.W.kitOne K (.ref (CW K)) (.ref (CS K)) = some false
  sc : PySem.W.kitOne K (.ref (CS K)) (.ref (He.ga K "Plan")) = some true ∧ PySem.W.kitOne K (.ref (CS K)) (.ref (He.ga K "BaseWorker")) = some false ∧ PySem.W.kitOne K (.ref (CS K)) (.ref (CW K)) = some false ∧ PySem.W.kitOne K (.ref (CS K)) (.ref (CS K)) = some true
def ktB (K : PySem.W.Frag) : Bool :=
  (["str", "int", "bool", "tuple"] : List String).all (fun n => decide (PySem.W.kitOne K (.ref (CW K)) (.type n) = some false) && decide (PySem.W.kitOne K (.ref (CS K)) (.type n) = some false)) &&
  ((["NoneType", "bool", "int", "str", "dict", "tuple", "list"] : List String).all fun n => (["Plan", "BaseWorker", "WorkerPlan", "SupervisorPlan"] : List Str).all fun c => decide (PySem.W.kitOne K (.type n) (.ref (He.ga K c)) = some false))
theorem ktB_ok {K : PySem.W.Frag} (h : ktB K = true) {e1 e2 : Addr} (dw : WHe.DatC K (CW K) e1) (ds : WHe.DatC K (CS K) e2)
    (wc : PySem.W.kitOne K (.ref (CW K)) (.ref (He.ga K "Plan")) = some true ∧ PySem.W.kitOne K (.ref (CW K)) (.ref (He.ga K "BaseWorker")) = some true ∧ PySem.W.kitOne K (.ref (CW K)) (.ref (CW K)) = some true ∧ PySem.W.kitOne K (.ref (CW K)) (.ref (CS K)) = some false)
    (sc : PySem.W.kitOne K (.ref (CS K)) (.ref (He.ga K "Plan")) = some true ∧ PySem.W.kitOne K (.ref (CS K)) (.ref (He.ga K "BaseWorker")) = some false ∧ PySem.W.kitOne K (.ref (CS K)) (.ref (CW K)) = some false ∧ PySem.W.kitOne K (.ref (CS K)) (.ref (CS K)) = some true) : Kt K := by
  obtain ⟨h1, h2⟩ := He.ba h
  exact ⟨⟨_, dw⟩, ⟨_, ds⟩, fun n hn => of_decide_eq_true (He.ba (List.all_eq_true.mp h1 n hn)).1, fun n hn => of_decide_eq_true (He.ba (List.all_eq_true.mp h1 n hn)).2,
    fun n hn c hc => of_decide_eq_true (List.all_eq_true.mp (List.all_eq_true.mp h2 n hn) c hc), wc, sc⟩
theorem tyx_tup {K : PySem.W.Frag} {H : Hp} {a : Addr} {xs : List V} (h : SqT K H a xs) : TyX K H (.ref a) (.type "tuple") := by
  rcases h with (h | ⟨o, h⟩) | ⟨o, its, n, h, hc, _⟩
  · exact .base (.tup h)
  · exact .fTuple h
  · exact .kTuple h hc
theorem tyx_ins {K : PySem.W.Frag} {H : Hp} {a C dx e : Addr} {fs : List (Str × V)} (D : WHe.DatC K C e) (h : H a = some (.ins C dx fs)) : TyX K H (.ref a) (.ref C) := .base (.ins h D.cls D.ca D.cn D.ct D.ob)
theorem at_ty {K : PySem.W.Frag} (kt : Kt K) {N : Addr → Prop} {H : Hp} : ∀ (p : Pv) {v : V}, At K N p v H → TyX K H v (tyV K p)
  | .non, _, h => by cases (show _ = V.non from h); exact .base .non
  | .bl b, _, h => by cases (show _ = V.bl b from h); exact .base (.bl b)
  | .int i, _, h => by cases (show _ = V.int i from h); exact .base (.int i)
  | .str s, _, h => by cases (show _ = V.str s from h.1); exact .base (.str s)
  | .dic, _, ⟨p, e1, hn, h⟩ => by rw [e1]; exact .base (.dK h)
  | .tup l, _, ⟨p, xs, e1, h, a⟩ => by rw [e1]; exact tyx_tup h
  | .lst l, _, ⟨p, xs, e1, hn, h, a⟩ => by rw [e1]; exact .base (.lst h)
  | .wrk l, _, ⟨a, dx, q, xs, e1, h, h1, h2, h3⟩ => by
    obtain ⟨e, D⟩ := kt.dw
    rw [e1]; exact tyx_ins D h
  | .sup n d, _, ⟨a, dx, q, c, e1, h⟩ => by
    obtain ⟨e, D⟩ := kt.ds
    rw [e1]; exact tyx_ins D h
def isStr : Pv → Bool
  | .str _ => true
  | _ => false
def isInt : Pv → Bool
  | .int _ => true
  | .bl _ => true
  | _ => false
def isBl : Pv → Bool
  | .bl _ => true
  | _ => false
def isTup : Pv → Bool
  | .tup _ => true
  | _ => false
def isWrk : Pv → Bool
  | .wrk _ => true
  | _ => false
def isSup : Pv → Bool
  | .sup _ _ => true
  | _ => false
theorem kit_f {K : PySem.W.Frag} {n m : String} (h : kitB n m = some false := by decide +kernel) : PySem.W.kitOne K (.type n) (.type m) = some false := kit_ty h
theorem kit_t {K : PySem.W.Frag} {n m : String} (h : kitB n m = some true := by decide +kernel) : PySem.W.kitOne K (.type n) (.type m) = some true := kit_ty h
theorem kit_str {K : PySem.W.Frag} (kt : Kt K) : ∀ p : Pv, PySem.W.kitOne K (tyV K p) (.type "str") = some (isStr p)
  | .non => kit_f | .bl _ => kit_f | .int _ => kit_f | .str _ => kit_t | .dic => kit_f | .tup _ => kit_f | .lst _ => kit_f
  | .wrk _ => kt.wb _ (by decide) | .sup _ _ => kt.sb _ (by decide)
theorem kit_int {K : PySem.W.Frag} (kt : Kt K) : ∀ p : Pv, PySem.W.kitOne K (tyV K p) (.type "int") = some (isInt p)
  | .non => kit_f | .bl _ => kit_t | .int _ => kit_t | .str _ => kit_f | .dic => kit_f | .tup _ => kit_f | .lst _ => kit_f
  | .wrk _ => kt.wb _ (by decide) | .sup _ _ => kt.sb _ (by decide)
theorem kit_bool {K : PySem.W.Frag} (kt : Kt K) : ∀ p : Pv, PySem.W.kitOne K (tyV K p) (.type "bool") = some (isBl p)
  | .non => kit_f | .bl _ => kit_t | .int _ => kit_f | .str _ => kit_f | .dic => kit_f | .tup _ => kit_f | .lst _ => kit_f
  | .wrk _ => kt.wb _ (by decide) | .sup _ _ => kt.sb _ (by decide)
theorem kit_tup {K : PySem.W.Frag} (kt : Kt K) : ∀ p : Pv, PySem.W.kitOne K (tyV K p) (.type "tuple") = some (isTup p)
  | .non => kit_f | .bl _ => kit_f | .int _ => kit_f | .str _ => kit_f | .dic => kit_f | .tup _ => kit_t | .lst _ => kit_f
  | .wrk _ => kt.wb _ (by decide) | .sup _ _ => kt.sb _ (by decide)
theorem kit_bw {K : PySem.W.Frag} (kt : Kt K) : ∀ p : Pv, PySem.W.kitOne K (tyV K p) (.ref (He.ga K "BaseWorker")) = some (isWrk p)
  | .non => kt.bc _ (by decide) _ (by decide +kernel) | .bl _ => kt.bc _ (by decide) _ (by decide +kernel) | .int _ => kt.bc _ (by decide) _ (by decide +kernel) | .str _ => kt.bc _ (by decide) _ (by decide +kernel)
  | .dic => kt.bc _ (by decide) _ (by decide +kernel) | .tup _ => kt.bc _ (by decide) _ (by decide +kernel) | .lst _ => kt.bc _ (by decide) _ (by decide +kernel)
  | .wrk _ => kt.wc.2.1 | .sup _ _ => kt.sc.2.1
theorem kit_plan {K : PySem.W.Frag} (kt : Kt K) : ∀ p : Pv, PySem.W.kitOne K (tyV K p) (.ref (He.ga K "Plan")) = some (isWrk p || isSup p)
  | .non => kt.bc _ (by decide) _ (by decide +kernel) | .bl _ => kt.bc _ (by decide) _ (by decide +kernel) | .int _ => kt.bc _ (by decide) _ (by decide +kernel) | .str _ => kt.bc _ (by decide) _ (by decide +kernel)
  | .dic => kt.bc _ (by decide) _ (by decide +kernel) | .tup _ => kt.bc _ (by decide) _ (by decide +kernel) | .lst _ => kt.bc _ (by decide) _ (by decide +kernel)
  | .wrk _ => kt.wc.1 | .sup _ _ => kt.sc.1
theorem kit_wrk {K : PySem.W.Frag} (kt : Kt K) : ∀ p : Pv, PySem.W.kitOne K (tyV K p) (.ref (CW K)) = some (isWrk p)
  | .non => kt.bc _ (by decide) _ (by decide +kernel) | .bl _ => kt.bc _ (by decide) _ (by decide +kernel) | .int _ => kt.bc _ (by decide) _ (by decide +kernel) | .str _ => kt.bc _ (by decide) _ (by decide +kernel)
  | .dic => kt.bc _ (by decide) _ (by decide +kernel) | .tup _ => kt.bc _ (by decide) _ (by decide +kernel) | .lst _ => kt.bc _ (by decide) _ (by decide +kernel)
  | .wrk _ => kt.wc.2.2.1 | .sup _ _ => kt.sc.2.2.1
theorem kit_sup {K : PySem.W.Frag} (kt : Kt K) : ∀ p : Pv, PySem.W.kitOne K (tyV K p) (.ref (CS K)) = some (isSup p)
  | .non => kt.bc _ (by decide) _ (by decide +kernel) | .bl _ => kt.bc _ (by decide) _ (by decide +kernel) | .int _ => kt.bc _ (by decide) _ (by decide +kernel) | .str _ => kt.bc _ (by decide) _ (by decide +kernel)
  | .dic => kt.bc _ (by decide) _ (by decide +kernel) | .tup _ => kt.bc _ (by decide) _ (by decide +kernel) | .lst _ => kt.bc _ (by decide) _ (by decide +kernel)
  | .wrk _ => kt.wc.2.2.2 | .sup _ _ => kt.sc.2.2.2
/-! ### what the program's tests say of them -/
def cds (s : Str) : List Nat := s.cps.toList
def letter (c : Nat) : Bool := decide (c ∈ (Str.ofString "abcdefghijklmnopqrstuvwxyz").cps.toList)
def sign (c : Nat) : Bool := decide (c ∈ (Str.ofString "abcdefghijklmnopqrstuvwxyz0123456789_").cps.toList)
def isWordS (s : Str) : Bool := decide (1 ≤ s.length) && (decide (s.length ≤ 20) && ((match s.cps.toList[0]? with | some c => letter c | none => false) && s.cps.toList.all sign))
def isWord : Pv → Bool
  | .str s => isWordS s
  | _ => false
def reserved : List V := [.str "own", .str "sender", .str "about"]
def ownReasons : List V := [.str "shutdown", .str "refused", .str "gave_up", .str "killed", .str "nobody"]
def ownWords : List V := [.str "answer", .str "back", .str "ended", .str "down", .str "told"]
def isWordNot (l : List V) : Pv → Bool
  | .str s => isWordS s && !inV (.str s) l
  | _ => false
def isName : Pv → Bool := isWordNot reserved
def isFailure : Pv → Bool := isWordNot ownReasons
def isFree : Pv → Bool := isWordNot ownWords
def isBetween (lo hi : Int) : Pv → Bool
  | .int i => decide (lo ≤ i) && decide (i ≤ hi)
  | _ => false
def isOneOf (ws : List V) : Pv → Bool
  | .str s => inV (.str s) ws
  | _ => false
def isDeadline : Pv → Bool
  | .non => true
  | p => isBetween 0 1000000000 p
def isValue : Pv → Bool := isBetween (-1000000000000) 1000000000000
def isDeedValue : Pv → Bool
  | .tup [.str w, x] => decide (w = ("plus" : Str)) && isValue x
  | .tup _ => false
  | p => isValue p
/-- deeds' values that the look at 'plus' is told of -/
def okDV : Pv → Bool
  | .tup [x, _] => isStr x
  | _ => true
def addRow : Pv → Bool
  | .tup [_, _, _, .tup ds] => ds.any fun d => match d with
    | .tup (.str w :: _) => decide (w = ("add" : Str))
    | _ => false
  | _ => false
def hasAdd : Pv → Bool
  | .tup rs => rs.any addRow
  | _ => false
def isAdded : Pv → Bool
  | .wrk [_, _, _, _, _, _, s] => !hasAdd s
  | _ => false
/-- the text is one of these (a case of a match) -/
def hit (zs : List Str) (w : Str) : Bool := zs.any fun z => decide (V.str w = V.str z)
def words1 : List Str := ["note", "cancel", "mode", "link", "unlink", "monitor", "unmonitor", "remove"]
def hasShape (w : Str) (ps : List Pv) : Bool :=
  if hit words1 w = true then decide (ps.length = 1) && isWord (ps.getD 0 .non)
  else if hit ["send", "ask"] w = true then decide (ps.length = 3) && (isWord (ps.getD 0 .non) && (isFree (ps.getD 1 .non) && isDeedValue (ps.getD 2 .non)))
  else if hit ["reply"] w = true then decide (ps.length = 1) && isDeedValue (ps.getD 0 .non)
  else if hit ["later"] w = true then (decide (ps.length = 3) && isBetween 1 1000000000 (ps.getD 0 .non)) && (isFree (ps.getD 1 .non) && isDeedValue (ps.getD 2 .non))
  else if hit ["trap"] w = true then decide (ps.length = 1) && isBl (ps.getD 0 .non)
  else if hit ["end"] w = true then decide (ps.length = 1) && isFailure (ps.getD 0 .non)
  else if hit ["add"] w = true then decide (ps.length = 2) && (isWord (ps.getD 0 .non) && isAdded (ps.getD 1 .non))
  else false
def isDeed : Pv → Bool
  | .tup (.str w :: ps) => decide (1 ≤ ps.length) && hasShape w ps
  | _ => false
def okDeed : Pv → Bool
  | .tup l => l.all okDV
  | _ => true
def isRow : Pv → Bool
  | .tup [a, b, c, .tup ds] => isWord a && (isWord b && (isBetween 1 1000 c && (decide (ds.length ≤ 8) && ds.all isDeed)))
  | _ => false
def okRow : Pv → Bool
  | .tup [_, _, _, .tup ds] => decide (ds.length ≤ 100) && ds.all okDeed
  | _ => true
def keyOf : Pv → Str × Str
  | .tup (.str a :: .str b :: _) => (a, b)
  | _ => ("", "")
def wrongGo : Nat → List (Str × Str) → List Pv → Option Nat
  | _, _, [] => none
  | i, kn, r :: rs => if (decide (30 ≤ i) || !isRow r || decide (keyOf r ∈ kn)) = true then some i else wrongGo (i + 1) (kn ++ [keyOf r]) rs
def isScript : Pv → Bool
  | .tup rs => (wrongGo 0 [] rs).isNone
  | _ => false
def okScr : Pv → Bool
  | .tup rs => rs.all okRow
  | _ => true
end WPv

set_option Elab.async false
set_option linter.all false
set_option maxRecDepth 100000
set_option maxHeartbeats 4000000
namespace W02
open PySem PySem.Spec PyProof.Rows L2
def inClass (s : Stmt) (i : Nat) : Stmt := match s with
  | .ClassDef (body := b) .. => b.getD i (.Pass ⟨0, 0, 0, 0⟩)
  | _ => .Pass ⟨0, 0, 0, 0⟩
def top (i : Nat) : Stmt := PySem.Challenge.pw_watchtree_k02_plans_refused.main.body.getD i (.Pass ⟨0, 0, 0, 0⟩)
abbrev s_is_word : Stmt := top 22
def d_is_word : WHe.DefP := ⟨fun K => He.fAd K ("is_word", none), "is_word", "is_word", defArgs s_is_word, defBody s_is_word, defScope s_is_word⟩
theorem sc_is_word : FnScope ["value", "sign"] ["value"] (defScope s_is_word) := ⟨rfl, rfl, rfl, by decide +kernel, rfl, by decide +kernel, by decide +kernel⟩
abbrev s_is_name : Stmt := top 23
def d_is_name : WHe.DefP := ⟨fun K => He.fAd K ("is_name", none), "is_name", "is_name", defArgs s_is_name, defBody s_is_name, defScope s_is_name⟩
theorem sc_is_name : FnScope ["value"] ["value"] (defScope s_is_name) := ⟨rfl, rfl, rfl, by decide +kernel, rfl, by decide +kernel, by decide +kernel⟩
abbrev s_is_between : Stmt := top 24
def d_is_between : WHe.DefP := ⟨fun K => He.fAd K ("is_between", none), "is_between", "is_between", defArgs s_is_between, defBody s_is_between, defScope s_is_between⟩
theorem sc_is_between : FnScope ["value", "low", "high"] ["value", "low", "high"] (defScope s_is_between) := ⟨rfl, rfl, rfl, by decide +kernel, rfl, by decide +kernel, by decide +kernel⟩
abbrev s_is_failure : Stmt := top 25
def d_is_failure : WHe.DefP := ⟨fun K => He.fAd K ("is_failure", none), "is_failure", "is_failure", defArgs s_is_failure, defBody s_is_failure, defScope s_is_failure⟩
theorem sc_is_failure : FnScope ["value"] ["value"] (defScope s_is_failure) := ⟨rfl, rfl, rfl, by decide +kernel, rfl, by decide +kernel, by decide +kernel⟩
abbrev s_is_free_word : Stmt := top 33
def d_is_free_word : WHe.DefP := ⟨fun K => He.fAd K ("is_free_word", none), "is_free_word", "is_free_word", defArgs s_is_free_word, defBody s_is_free_word, defScope s_is_free_word⟩
theorem sc_is_free_word : FnScope ["value"] ["value"] (defScope s_is_free_word) := ⟨rfl, rfl, rfl, by decide +kernel, rfl, by decide +kernel, by decide +kernel⟩
abbrev s_is_value : Stmt := top 34
def d_is_value : WHe.DefP := ⟨fun K => He.fAd K ("is_value", none), "is_value", "is_value", defArgs s_is_value, defBody s_is_value, defScope s_is_value⟩
theorem sc_is_value : FnScope ["value"] ["value"] (defScope s_is_value) := ⟨rfl, rfl, rfl, by decide +kernel, rfl, by decide +kernel, by decide +kernel⟩
abbrev s_is_deed_value : Stmt := top 35
def d_is_deed_value : WHe.DefP := ⟨fun K => He.fAd K ("is_deed_value", none), "is_deed_value", "is_deed_value", defArgs s_is_deed_value, defBody s_is_deed_value, defScope s_is_deed_value⟩
theorem sc_is_deed_value : FnScope ["value"] ["value"] (defScope s_is_deed_value) := ⟨rfl, rfl, rfl, by decide +kernel, rfl, by decide +kernel, by decide +kernel⟩
abbrev s_has_add : Stmt := top 36
def d_has_add : WHe.DefP := ⟨fun K => He.fAd K ("has_add", none), "has_add", "has_add", defArgs s_has_add, defBody s_has_add, defScope s_has_add⟩
theorem sc_has_add : FnScope ["script", "row", "deed"] ["script"] (defScope s_has_add) := ⟨rfl, rfl, rfl, by decide +kernel, rfl, by decide +kernel, by decide +kernel⟩
abbrev s_is_added_plan : Stmt := top 37
def d_is_added_plan : WHe.DefP := ⟨fun K => He.fAd K ("is_added_plan", none), "is_added_plan", "is_added_plan", defArgs s_is_added_plan, defBody s_is_added_plan, defScope s_is_added_plan⟩
theorem sc_is_added_plan : FnScope ["value"] ["value"] (defScope s_is_added_plan) := ⟨rfl, rfl, rfl, by decide +kernel, rfl, by decide +kernel, by decide +kernel⟩
abbrev s_has_shape : Stmt := top 38
def d_has_shape : WHe.DefP := ⟨fun K => He.fAd K ("has_shape", none), "has_shape", "has_shape", defArgs s_has_shape, defBody s_has_shape, defScope s_has_shape⟩
theorem sc_has_shape : FnScope ["word", "parts", "is_timed"] ["word", "parts"] (defScope s_has_shape) := ⟨rfl, rfl, rfl, by decide +kernel, rfl, by decide +kernel, by decide +kernel⟩
abbrev s_is_deed : Stmt := top 39
def d_is_deed : WHe.DefP := ⟨fun K => He.fAd K ("is_deed", none), "is_deed", "is_deed", defArgs s_is_deed, defBody s_is_deed, defScope s_is_deed⟩
theorem sc_is_deed : FnScope ["value"] ["value"] (defScope s_is_deed) := ⟨rfl, rfl, rfl, by decide +kernel, rfl, by decide +kernel, by decide +kernel⟩
abbrev s_is_row : Stmt := top 40
def d_is_row : WHe.DefP := ⟨fun K => He.fAd K ("is_row", none), "is_row", "is_row", defArgs s_is_row, defBody s_is_row, defScope s_is_row⟩
theorem sc_is_row : FnScope ["value", "deed"] ["value"] (defScope s_is_row) := ⟨rfl, rfl, rfl, by decide +kernel, rfl, by decide +kernel, by decide +kernel⟩
abbrev s_wrong_row : Stmt := top 41
def d_wrong_row : WHe.DefP := ⟨fun K => He.fAd K ("wrong_row", none), "wrong_row", "wrong_row", defArgs s_wrong_row, defBody s_wrong_row, defScope s_wrong_row⟩
theorem sc_wrong_row : FnScope ["script", "known", "index", "row"] ["script"] (defScope s_wrong_row) := ⟨rfl, rfl, rfl, by decide +kernel, rfl, by decide +kernel, by decide +kernel⟩
abbrev s_is_script : Stmt := top 42
def d_is_script : WHe.DefP := ⟨fun K => He.fAd K ("is_script", none), "is_script", "is_script", defArgs s_is_script, defBody s_is_script, defScope s_is_script⟩
theorem sc_is_script : FnScope ["value"] ["value"] (defScope s_is_script) := ⟨rfl, rfl, rfl, by decide +kernel, rfl, by decide +kernel, by decide +kernel⟩
abbrev s_is_one_of : Stmt := top 50
def d_is_one_of : WHe.DefP := ⟨fun K => He.fAd K ("is_one_of", none), "is_one_of", "is_one_of", defArgs s_is_one_of, defBody s_is_one_of, defScope s_is_one_of⟩
theorem sc_is_one_of : FnScope ["value", "words"] ["value", "words"] (defScope s_is_one_of) := ⟨rfl, rfl, rfl, by decide +kernel, rfl, by decide +kernel, by decide +kernel⟩
abbrev s_is_deadline : Stmt := top 51
def d_is_deadline : WHe.DefP := ⟨fun K => He.fAd K ("is_deadline", none), "is_deadline", "is_deadline", defArgs s_is_deadline, defBody s_is_deadline, defScope s_is_deadline⟩
theorem sc_is_deadline : FnScope ["value"] ["value"] (defScope s_is_deadline) := ⟨rfl, rfl, rfl, by decide +kernel, rfl, by decide +kernel, by decide +kernel⟩
abbrev s_require : Stmt := top 52
def d_require : WHe.DefP := ⟨fun K => He.fAd K ("require", none), "require", "require", defArgs s_require, defBody s_require, defScope s_require⟩
theorem sc_require : FnScope ["rows", "setting", "is_fine"] ["rows"] (defScope s_require) := ⟨rfl, rfl, rfl, by decide +kernel, rfl, by decide +kernel, by decide +kernel⟩
abbrev s_L_begun : Stmt := top 56
def d_L_begun : WHe.DefP := ⟨fun K => He.fAd K ("_law_begun", none), "_law_begun", "_law_begun", defArgs s_L_begun, defBody s_L_begun, defScope s_L_begun⟩
theorem sc_L_begun : FnScope ["cells"] ["cells"] (defScope s_L_begun) := ⟨rfl, rfl, rfl, by decide +kernel, rfl, by decide +kernel, by decide +kernel⟩
abbrev s_L_next : Stmt := top 57
def d_L_next : WHe.DefP := ⟨fun K => He.fAd K ("_law_next", none), "_law_next", "_law_next", defArgs s_L_next, defBody s_L_next, defScope s_L_next⟩
theorem sc_L_next : FnScope ["m", "total", "found", "k", "cell", "mixed"] ["m", "total"] (defScope s_L_next) := ⟨rfl, rfl, rfl, by decide +kernel, rfl, by decide +kernel, by decide +kernel⟩
abbrev s_L_of : Stmt := top 58
def d_L_of : WHe.DefP := ⟨fun K => He.fAd K ("_law_of", none), "_law_of", "_law_of", defArgs s_L_of, defBody s_L_of, defScope s_L_of⟩
theorem sc_L_of : FnScope ["m", "items"] ["m", "items"] (defScope s_L_of) := ⟨rfl, rfl, rfl, by decide +kernel, rfl, by decide +kernel, by decide +kernel⟩
abbrev s_L_scripts : Stmt := top 59
def d_L_scripts : WHe.DefP := ⟨fun K => He.fAd K ("_law_scripts", none), "_law_scripts", "_law_scripts", defArgs s_L_scripts, defBody s_L_scripts, defScope s_L_scripts⟩
theorem sc_L_scripts : FnScope ["row", "inner", "adds", "rows", "k", "some", "one", "deed"] [] (defScope s_L_scripts) := ⟨rfl, rfl, rfl, by decide +kernel, rfl, by decide +kernel, by decide +kernel⟩
abbrev s_L_odd : Stmt := top 60
def d_L_odd : WHe.DefP := ⟨fun K => He.fAd K ("_law_odd", none), "_law_odd", "_law_odd", defArgs s_L_odd, defBody s_L_odd, defScope s_L_odd⟩
theorem sc_L_odd : FnScope ["field", "some"] ["field"] (defScope s_L_odd) := ⟨rfl, rfl, rfl, by decide +kernel, rfl, by decide +kernel, by decide +kernel⟩
abbrev s_L_good : Stmt := top 61
def d_L_good : WHe.DefP := ⟨fun K => He.fAd K ("_law_good", none), "_law_good", "_law_good", defArgs s_L_good, defBody s_L_good, defScope s_L_good⟩
theorem sc_L_good : FnScope ["m", "field"] ["m", "field"] (defScope s_L_good) := ⟨rfl, rfl, rfl, by decide +kernel, rfl, by decide +kernel, by decide +kernel⟩
abbrev s_L_greatest : Stmt := top 62
def d_L_greatest : WHe.DefP := ⟨fun K => He.fAd K ("_law_greatest", none), "_law_greatest", "_law_greatest", defArgs s_L_greatest, defBody s_L_greatest, defScope s_L_greatest⟩
theorem sc_L_greatest : FnScope ["label", "c", "s", "a", "b", "d", "e", "f", "many"] ["label", "c", "s"] (defScope s_L_greatest) := ⟨rfl, rfl, rfl, by decide +kernel, rfl, by decide +kernel, by decide +kernel⟩
abbrev s_L_greater : Stmt := top 63
def d_L_greater : WHe.DefP := ⟨fun K => He.fAd K ("_law_greater", none), "_law_greater", "_law_greater", defArgs s_L_greater, defBody s_L_greater, defScope s_L_greater⟩
theorem sc_L_greater : FnScope ["label", "c", "s", "a", "b", "d", "e", "f", "many"] ["label", "c", "s"] (defScope s_L_greater) := ⟨rfl, rfl, rfl, by decide +kernel, rfl, by decide +kernel, by decide +kernel⟩
abbrev s_L_sup : Stmt := top 64
def d_L_sup : WHe.DefP := ⟨fun K => He.fAd K ("_law_sup", none), "_law_sup", "_law_sup", defArgs s_L_sup, defBody s_L_sup, defScope s_L_sup⟩
theorem sc_L_sup : FnScope ["label", "c", "s", "a", "b", "d", "e", "f", "many"] ["label", "c", "s"] (defScope s_L_sup) := ⟨rfl, rfl, rfl, by decide +kernel, rfl, by decide +kernel, by decide +kernel⟩
abbrev s_L_made : Stmt := top 65
def d_L_made : WHe.DefP := ⟨fun K => He.fAd K ("_law_made", none), "_law_made", "_law_made", defArgs s_L_made, defBody s_L_made, defScope s_L_made⟩
theorem sc_L_made : FnScope ["kind", "v", "c"] ["kind", "v", "c"] (defScope s_L_made) := ⟨rfl, rfl, rfl, by decide +kernel, rfl, by decide +kernel, by decide +kernel⟩
abbrev s_L_told : Stmt := top 66
def d_L_told : WHe.DefP := ⟨fun K => He.fAd K ("_law_told", none), "_law_told", "_law_told", defArgs s_L_told, defBody s_L_told, defScope s_L_told⟩
theorem sc_L_told : FnScope ["kind", "v", "c", "caught", "error", "some"] ["kind", "v", "c"] (defScope s_L_told) := ⟨rfl, rfl, rfl, by decide +kernel, rfl, by decide +kernel, by decide +kernel⟩
abbrev s_L_deep : Stmt := top 67
def d_L_deep : WHe.DefP := ⟨fun K => He.fAd K ("_law_deep", none), "_law_deep", "_law_deep", defArgs s_L_deep, defBody s_L_deep, defScope s_L_deep⟩
theorem sc_L_deep : FnScope ["many", "plan", "k"] ["many"] (defScope s_L_deep) := ⟨rfl, rfl, rfl, by decide +kernel, rfl, by decide +kernel, by decide +kernel⟩
abbrev s_L_broad : Stmt := top 68
def d_L_broad : WHe.DefP := ⟨fun K => He.fAd K ("_law_broad", none), "_law_broad", "_law_broad", defArgs s_L_broad, defBody s_L_broad, defScope s_L_broad⟩
theorem sc_L_broad : FnScope ["row"] [] (defScope s_L_broad) := ⟨rfl, rfl, rfl, by decide +kernel, rfl, by decide +kernel, by decide +kernel⟩
abbrev s_L_children : Stmt := top 69
def d_L_children : WHe.DefP := ⟨fun K => He.fAd K ("_law_children", none), "_law_children", "_law_children", defArgs s_L_children, defBody s_L_children, defScope s_L_children⟩
theorem sc_L_children : FnScope ["m", "many", "c", "first", "whole", "plans", "odd", "k", "way", "child", "size", "height", "is_plan"] ["m", "many"] (defScope s_L_children) := ⟨rfl, rfl, rfl, by decide +kernel, rfl, by decide +kernel, by decide +kernel⟩
abbrev s_L_fields_right : Stmt := top 70
def d_L_fields_right : WHe.DefP := ⟨fun K => He.fAd K ("_law_fields_right", none), "_law_fields_right", "_law_fields_right", defArgs s_L_fields_right, defBody s_L_fields_right, defScope s_L_fields_right⟩
theorem sc_L_fields_right : FnScope ["field", "number_now", "some", "others", "error"] ["field", "number_now"] (defScope s_L_fields_right) := ⟨rfl, rfl, rfl, by decide +kernel, rfl, by decide +kernel, by decide +kernel⟩
abbrev s_law : Stmt := top 71
def d_law : WHe.DefP := ⟨fun K => He.fAd K ("law", none), "law", "law", defArgs s_law, defBody s_law, defScope s_law⟩
theorem sc_law : FnScope ["cells", "m", "turn", "kind", "order", "wrong", "k", "v", "field", "c", "bad", "due", "first"] ["cells"] (defScope s_law) := ⟨rfl, rfl, rfl, by decide +kernel, rfl, by decide +kernel, by decide +kernel⟩
abbrev s_Plan_settings : Stmt := inClass (top 1) 0
def d_Plan_settings : WHe.DefP := ⟨fun K => He.fAd K ("Plan", some "settings"), "settings", "Plan.settings", defArgs s_Plan_settings, defBody s_Plan_settings, defScope s_Plan_settings⟩
theorem sc_Plan_settings : FnScope ["self"] ["self"] (defScope s_Plan_settings) := ⟨rfl, rfl, rfl, by decide +kernel, rfl, by decide +kernel, by decide +kernel⟩
abbrev s_Plan_below : Stmt := inClass (top 1) 1
def d_Plan_below : WHe.DefP := ⟨fun K => He.fAd K ("Plan", some "below"), "below", "Plan.below", defArgs s_Plan_below, defBody s_Plan_below, defScope s_Plan_below⟩
theorem sc_Plan_below : FnScope ["self"] ["self"] (defScope s_Plan_below) := ⟨rfl, rfl, rfl, by decide +kernel, rfl, by decide +kernel, by decide +kernel⟩
abbrev s_Plan_with_all : Stmt := inClass (top 1) 2
def d_Plan_with_all : WHe.DefP := ⟨fun K => He.fAd K ("Plan", some "with_all"), "with_all", "Plan.with_all", defArgs s_Plan_with_all, defBody s_Plan_with_all, defScope s_Plan_with_all⟩
theorem sc_Plan_with_all : FnScope ["self", "found", "child"] ["self"] (defScope s_Plan_with_all) := ⟨rfl, rfl, rfl, by decide +kernel, rfl, by decide +kernel, by decide +kernel⟩
abbrev s_Plan__len : Stmt := inClass (top 1) 3
def d_Plan__len : WHe.DefP := ⟨fun K => He.fAd K ("Plan", some "__len__"), "__len__", "Plan.__len__", defArgs s_Plan__len, defBody s_Plan__len, defScope s_Plan__len⟩
theorem sc_Plan__len : FnScope ["self"] ["self"] (defScope s_Plan__len) := ⟨rfl, rfl, rfl, by decide +kernel, rfl, by decide +kernel, by decide +kernel⟩
abbrev s_Plan__contains : Stmt := inClass (top 1) 4
def d_Plan__contains : WHe.DefP := ⟨fun K => He.fAd K ("Plan", some "__contains__"), "__contains__", "Plan.__contains__", defArgs s_Plan__contains, defBody s_Plan__contains, defScope s_Plan__contains⟩
theorem sc_Plan__contains : FnScope ["self", "value", "plan"] ["self", "value"] (defScope s_Plan__contains) := ⟨rfl, rfl, rfl, by decide +kernel, rfl, by decide +kernel, by decide +kernel⟩
abbrev s_WorkerPlan__init : Stmt := inClass (top 53) 0
def d_WorkerPlan__init : WHe.DefP := ⟨fun K => He.fAd K ("WorkerPlan", some "__init__"), "__init__", "WorkerPlan.__init__", defArgs s_WorkerPlan__init, defBody s_WorkerPlan__init, defScope s_WorkerPlan__init⟩
theorem sc_WorkerPlan__init : FnScope ["self", "name", "restart", "opening", "closing", "deadline", "refused", "script", "rows"] ["self", "name", "restart", "opening", "closing", "deadline", "refused", "script"] (defScope s_WorkerPlan__init) := ⟨rfl, rfl, rfl, by decide +kernel, rfl, by decide +kernel, by decide +kernel⟩
abbrev s_WorkerPlan__eq : Stmt := inClass (top 53) 8
def d_WorkerPlan__eq : WHe.DefP := ⟨fun K => He.fAd K ("WorkerPlan", some "__eq__"), "__eq__", "WorkerPlan.__eq__", defArgs s_WorkerPlan__eq, defBody s_WorkerPlan__eq, defScope s_WorkerPlan__eq⟩
theorem sc_WorkerPlan__eq : FnScope ["self", "other"] ["self", "other"] (defScope s_WorkerPlan__eq) := ⟨rfl, rfl, rfl, by decide +kernel, rfl, by decide +kernel, by decide +kernel⟩
abbrev s_SupervisorPlan__init : Stmt := inClass (top 54) 0
def d_SupervisorPlan__init : WHe.DefP := ⟨fun K => He.fAd K ("SupervisorPlan", some "__init__"), "__init__", "SupervisorPlan.__init__", defArgs s_SupervisorPlan__init, defBody s_SupervisorPlan__init, defScope s_SupervisorPlan__init⟩
theorem sc_SupervisorPlan__init : FnScope ["self", "name", "restart", "strategy", "most", "span", "deadline", "children", "rows", "count", "depth", "index", "child"] ["self", "name", "restart", "strategy", "most", "span", "deadline", "children"] (defScope s_SupervisorPlan__init) := ⟨rfl, rfl, rfl, by decide +kernel, rfl, by decide +kernel, by decide +kernel⟩
abbrev s_SupervisorPlan_below : Stmt := inClass (top 54) 8
def d_SupervisorPlan_below : WHe.DefP := ⟨fun K => He.fAd K ("SupervisorPlan", some "below"), "below", "SupervisorPlan.below", defArgs s_SupervisorPlan_below, defBody s_SupervisorPlan_below, defScope s_SupervisorPlan_below⟩
theorem sc_SupervisorPlan_below : FnScope ["self"] ["self"] (defScope s_SupervisorPlan_below) := ⟨rfl, rfl, rfl, by decide +kernel, rfl, by decide +kernel, by decide +kernel⟩
abbrev s_SupervisorPlan__eq : Stmt := inClass (top 54) 9
def d_SupervisorPlan__eq : WHe.DefP := ⟨fun K => He.fAd K ("SupervisorPlan", some "__eq__"), "__eq__", "SupervisorPlan.__eq__", defArgs s_SupervisorPlan__eq, defBody s_SupervisorPlan__eq, defScope s_SupervisorPlan__eq⟩
theorem sc_SupervisorPlan__eq : FnScope ["self", "other"] ["self", "other"] (defScope s_SupervisorPlan__eq) := ⟨rfl, rfl, rfl, by decide +kernel, rfl, by decide +kernel, by decide +kernel⟩
abbrev s_BadSetting__init : Stmt := inClass (top 5) 0
def d_BadSetting__init : WHe.DefP := ⟨fun K => He.fAd K ("BadSetting", some "__init__"), "__init__", "BadSetting.__init__", defArgs s_BadSetting__init, defBody s_BadSetting__init, defScope s_BadSetting__init⟩
theorem sc_BadSetting__init : FnScope ["self", "setting"] ["self", "setting"] (defScope s_BadSetting__init) := ⟨rfl, rfl, rfl, by decide +kernel, rfl, by decide +kernel, by decide +kernel⟩
abbrev s_BadChild__init : Stmt := inClass (top 6) 0
def d_BadChild__init : WHe.DefP := ⟨fun K => He.fAd K ("BadChild", some "__init__"), "__init__", "BadChild.__init__", defArgs s_BadChild__init, defBody s_BadChild__init, defScope s_BadChild__init⟩
theorem sc_BadChild__init : FnScope ["self", "index"] ["self", "index"] (defScope s_BadChild__init) := ⟨rfl, rfl, rfl, by decide +kernel, rfl, by decide +kernel, by decide +kernel⟩
abbrev s_WorkerPlan_name : Stmt := inClass (top 53) 1
def d_WorkerPlan_name : WHe.DefP := ⟨fun K => WHe.pgAd K "WorkerPlan" "name", "name", "WorkerPlan.name", defArgs s_WorkerPlan_name, defBody s_WorkerPlan_name, defScope s_WorkerPlan_name⟩
theorem sc_WorkerPlan_name : FnScope ["self"] ["self"] (defScope s_WorkerPlan_name) := ⟨rfl, rfl, rfl, by decide +kernel, rfl, by decide +kernel, by decide +kernel⟩
abbrev s_WorkerPlan_restart : Stmt := inClass (top 53) 2
def d_WorkerPlan_restart : WHe.DefP := ⟨fun K => WHe.pgAd K "WorkerPlan" "restart", "restart", "WorkerPlan.restart", defArgs s_WorkerPlan_restart, defBody s_WorkerPlan_restart, defScope s_WorkerPlan_restart⟩
theorem sc_WorkerPlan_restart : FnScope ["self"] ["self"] (defScope s_WorkerPlan_restart) := ⟨rfl, rfl, rfl, by decide +kernel, rfl, by decide +kernel, by decide +kernel⟩
abbrev s_WorkerPlan_opening : Stmt := inClass (top 53) 3
def d_WorkerPlan_opening : WHe.DefP := ⟨fun K => WHe.pgAd K "WorkerPlan" "opening", "opening", "WorkerPlan.opening", defArgs s_WorkerPlan_opening, defBody s_WorkerPlan_opening, defScope s_WorkerPlan_opening⟩
theorem sc_WorkerPlan_opening : FnScope ["self"] ["self"] (defScope s_WorkerPlan_opening) := ⟨rfl, rfl, rfl, by decide +kernel, rfl, by decide +kernel, by decide +kernel⟩
abbrev s_WorkerPlan_closing : Stmt := inClass (top 53) 4
def d_WorkerPlan_closing : WHe.DefP := ⟨fun K => WHe.pgAd K "WorkerPlan" "closing", "closing", "WorkerPlan.closing", defArgs s_WorkerPlan_closing, defBody s_WorkerPlan_closing, defScope s_WorkerPlan_closing⟩
theorem sc_WorkerPlan_closing : FnScope ["self"] ["self"] (defScope s_WorkerPlan_closing) := ⟨rfl, rfl, rfl, by decide +kernel, rfl, by decide +kernel, by decide +kernel⟩
abbrev s_WorkerPlan_deadline : Stmt := inClass (top 53) 5
def d_WorkerPlan_deadline : WHe.DefP := ⟨fun K => WHe.pgAd K "WorkerPlan" "deadline", "deadline", "WorkerPlan.deadline", defArgs s_WorkerPlan_deadline, defBody s_WorkerPlan_deadline, defScope s_WorkerPlan_deadline⟩
theorem sc_WorkerPlan_deadline : FnScope ["self"] ["self"] (defScope s_WorkerPlan_deadline) := ⟨rfl, rfl, rfl, by decide +kernel, rfl, by decide +kernel, by decide +kernel⟩
abbrev s_WorkerPlan_refused : Stmt := inClass (top 53) 6
def d_WorkerPlan_refused : WHe.DefP := ⟨fun K => WHe.pgAd K "WorkerPlan" "refused", "refused", "WorkerPlan.refused", defArgs s_WorkerPlan_refused, defBody s_WorkerPlan_refused, defScope s_WorkerPlan_refused⟩
theorem sc_WorkerPlan_refused : FnScope ["self"] ["self"] (defScope s_WorkerPlan_refused) := ⟨rfl, rfl, rfl, by decide +kernel, rfl, by decide +kernel, by decide +kernel⟩
abbrev s_WorkerPlan_script : Stmt := inClass (top 53) 7
def d_WorkerPlan_script : WHe.DefP := ⟨fun K => WHe.pgAd K "WorkerPlan" "script", "script", "WorkerPlan.script", defArgs s_WorkerPlan_script, defBody s_WorkerPlan_script, defScope s_WorkerPlan_script⟩
theorem sc_WorkerPlan_script : FnScope ["self"] ["self"] (defScope s_WorkerPlan_script) := ⟨rfl, rfl, rfl, by decide +kernel, rfl, by decide +kernel, by decide +kernel⟩
abbrev s_SupervisorPlan_name : Stmt := inClass (top 54) 1
def d_SupervisorPlan_name : WHe.DefP := ⟨fun K => WHe.pgAd K "SupervisorPlan" "name", "name", "SupervisorPlan.name", defArgs s_SupervisorPlan_name, defBody s_SupervisorPlan_name, defScope s_SupervisorPlan_name⟩
theorem sc_SupervisorPlan_name : FnScope ["self"] ["self"] (defScope s_SupervisorPlan_name) := ⟨rfl, rfl, rfl, by decide +kernel, rfl, by decide +kernel, by decide +kernel⟩
abbrev s_SupervisorPlan_restart : Stmt := inClass (top 54) 2
def d_SupervisorPlan_restart : WHe.DefP := ⟨fun K => WHe.pgAd K "SupervisorPlan" "restart", "restart", "SupervisorPlan.restart", defArgs s_SupervisorPlan_restart, defBody s_SupervisorPlan_restart, defScope s_SupervisorPlan_restart⟩
theorem sc_SupervisorPlan_restart : FnScope ["self"] ["self"] (defScope s_SupervisorPlan_restart) := ⟨rfl, rfl, rfl, by decide +kernel, rfl, by decide +kernel, by decide +kernel⟩
abbrev s_SupervisorPlan_strategy : Stmt := inClass (top 54) 3
def d_SupervisorPlan_strategy : WHe.DefP := ⟨fun K => WHe.pgAd K "SupervisorPlan" "strategy", "strategy", "SupervisorPlan.strategy", defArgs s_SupervisorPlan_strategy, defBody s_SupervisorPlan_strategy, defScope s_SupervisorPlan_strategy⟩
theorem sc_SupervisorPlan_strategy : FnScope ["self"] ["self"] (defScope s_SupervisorPlan_strategy) := ⟨rfl, rfl, rfl, by decide +kernel, rfl, by decide +kernel, by decide +kernel⟩
abbrev s_SupervisorPlan_most : Stmt := inClass (top 54) 4
def d_SupervisorPlan_most : WHe.DefP := ⟨fun K => WHe.pgAd K "SupervisorPlan" "most", "most", "SupervisorPlan.most", defArgs s_SupervisorPlan_most, defBody s_SupervisorPlan_most, defScope s_SupervisorPlan_most⟩
theorem sc_SupervisorPlan_most : FnScope ["self"] ["self"] (defScope s_SupervisorPlan_most) := ⟨rfl, rfl, rfl, by decide +kernel, rfl, by decide +kernel, by decide +kernel⟩
abbrev s_SupervisorPlan_span : Stmt := inClass (top 54) 5
def d_SupervisorPlan_span : WHe.DefP := ⟨fun K => WHe.pgAd K "SupervisorPlan" "span", "span", "SupervisorPlan.span", defArgs s_SupervisorPlan_span, defBody s_SupervisorPlan_span, defScope s_SupervisorPlan_span⟩
theorem sc_SupervisorPlan_span : FnScope ["self"] ["self"] (defScope s_SupervisorPlan_span) := ⟨rfl, rfl, rfl, by decide +kernel, rfl, by decide +kernel, by decide +kernel⟩
abbrev s_SupervisorPlan_deadline : Stmt := inClass (top 54) 6
def d_SupervisorPlan_deadline : WHe.DefP := ⟨fun K => WHe.pgAd K "SupervisorPlan" "deadline", "deadline", "SupervisorPlan.deadline", defArgs s_SupervisorPlan_deadline, defBody s_SupervisorPlan_deadline, defScope s_SupervisorPlan_deadline⟩
theorem sc_SupervisorPlan_deadline : FnScope ["self"] ["self"] (defScope s_SupervisorPlan_deadline) := ⟨rfl, rfl, rfl, by decide +kernel, rfl, by decide +kernel, by decide +kernel⟩
abbrev s_SupervisorPlan_children : Stmt := inClass (top 54) 7
def d_SupervisorPlan_children : WHe.DefP := ⟨fun K => WHe.pgAd K "SupervisorPlan" "children", "children", "SupervisorPlan.children", defArgs s_SupervisorPlan_children, defBody s_SupervisorPlan_children, defScope s_SupervisorPlan_children⟩
theorem sc_SupervisorPlan_children : FnScope ["self"] ["self"] (defScope s_SupervisorPlan_children) := ⟨rfl, rfl, rfl, by decide +kernel, rfl, by decide +kernel, by decide +kernel⟩
def fns : List WHe.DefP := [d_is_word, d_is_name, d_is_between, d_is_failure, d_is_free_word, d_is_value, d_is_deed_value, d_has_add, d_is_added_plan, d_has_shape, d_is_deed, d_is_row, d_wrong_row, d_is_script, d_is_one_of, d_is_deadline, d_require, d_L_begun, d_L_next, d_L_of, d_L_scripts, d_L_odd, d_L_good, d_L_greatest, d_L_greater, d_L_sup, d_L_made, d_L_told, d_L_deep, d_L_broad, d_L_children, d_L_fields_right, d_law, d_Plan_settings, d_Plan_below, d_Plan_with_all, d_Plan__len, d_Plan__contains, d_WorkerPlan__init, d_WorkerPlan__eq, d_SupervisorPlan__init, d_SupervisorPlan_below, d_SupervisorPlan__eq, d_BadSetting__init, d_BadChild__init, d_WorkerPlan_name, d_WorkerPlan_restart, d_WorkerPlan_opening, d_WorkerPlan_closing, d_WorkerPlan_deadline, d_WorkerPlan_refused, d_WorkerPlan_script, d_SupervisorPlan_name, d_SupervisorPlan_restart, d_SupervisorPlan_strategy, d_SupervisorPlan_most, d_SupervisorPlan_span, d_SupervisorPlan_deadline, d_SupervisorPlan_children]
def frees : List Str := ["len", "int", "isinstance", "range", "enumerate", "str", "tuple", "all", "min", "max", "bool", "repr", "ValueError"]
def globs : List Str := (["Plan", "BaseWorker", "PlanError", "BadSetting", "BadChild", "BadRoot", "BadText", "BadTick", "BadReason", "BadScript", "BadWord", "BadValue", "BadEntry", "BadInput", "WorkerPlan", "SupervisorPlan"] : List Str) ++ (["is_word", "is_name", "is_between", "is_failure", "is_free_word", "is_value", "is_deed_value", "has_add", "is_added_plan", "has_shape", "is_deed", "is_row", "wrong_row", "is_script", "is_one_of", "is_deadline"] : List Str) ++ (["require", "_law_begun", "_law_next", "_law_of", "_law_scripts", "_law_odd", "_law_good", "_law_greatest", "_law_greater", "_law_sup", "_law_made", "_law_told", "_law_deep", "_law_broad", "_law_children", "_law_fields_right"] : List Str) ++ (["law", "RESERVED", "OWN_REASONS", "OWN_WORDS", "RESTARTS", "STRATEGIES"] : List Str)
def cints : List (Str × Int) := [("MOST_SIGNS", 20), ("MOST_ROWS", 30), ("MOST_DEEDS", 8), ("MOST_WORK", 1000), ("MOST_TICKS", 1000000000), ("MOST_VALUE", 1000000000000), ("MOST_WAIT", 1000000000), ("MOST_CHILDREN", 12), ("MOST_DEPTH", 20), ("MOST_WHOLE", 200)]
def cstrs : List (Str × Str) := [("LETTERS", "abcdefghijklmnopqrstuvwxyz"), ("SIGNS", "abcdefghijklmnopqrstuvwxyz0123456789_")]
def ctups : List (Str × List He.Dv) := [("RESERVED", [.str "own", .str "sender", .str "about"]), ("OWN_REASONS", [.str "shutdown", .str "refused", .str "gave_up", .str "killed", .str "nobody"]), ("OWN_WORDS", [.str "answer", .str "back", .str "ended", .str "down", .str "told"]), ("RESTARTS", [.str "permanent", .str "transient", .str "temporary"]), ("STRATEGIES", [.str "one", .str "rest", .str "all"])]
def noat : List (Str × Str) := [("WorkerPlan", "own_settings"), ("WorkerPlan", "own_count"), ("WorkerPlan", "own_depth"), ("SupervisorPlan", "own_settings"), ("SupervisorPlan", "own_children"), ("SupervisorPlan", "own_count"), ("SupervisorPlan", "own_depth")]
def meths : List (Str × Str × Str) := [("WorkerPlan", "settings", "Plan"), ("WorkerPlan", "below", "Plan"), ("WorkerPlan", "with_all", "Plan"), ("WorkerPlan", "__len__", "Plan"), ("WorkerPlan", "__contains__", "Plan"), ("SupervisorPlan", "below", "SupervisorPlan"), ("SupervisorPlan", "settings", "Plan"), ("SupervisorPlan", "with_all", "Plan"), ("SupervisorPlan", "__len__", "Plan"), ("SupervisorPlan", "__contains__", "Plan")]
def props : List (Str × Str) := [("WorkerPlan", "name"), ("WorkerPlan", "restart"), ("WorkerPlan", "opening"), ("WorkerPlan", "closing"), ("WorkerPlan", "deadline"), ("WorkerPlan", "refused"), ("WorkerPlan", "script"), ("SupervisorPlan", "name"), ("SupervisorPlan", "restart"), ("SupervisorPlan", "strategy"), ("SupervisorPlan", "most"), ("SupervisorPlan", "span"), ("SupervisorPlan", "deadline"), ("SupervisorPlan", "children")]
def kits : List (Str × Str × Bool) := [("WorkerPlan", "Plan", true), ("WorkerPlan", "BaseWorker", true), ("WorkerPlan", "WorkerPlan", true), ("WorkerPlan", "SupervisorPlan", false), ("SupervisorPlan", "Plan", true), ("SupervisorPlan", "BaseWorker", false), ("SupervisorPlan", "WorkerPlan", false), ("SupervisorPlan", "SupervisorPlan", true)]
abbrev bmVE : List Value := [.type "ValueError", .type "Exception", .type "BaseException", .type "object"]
/-- the keyword default k of the def at f, if it is an object -/
def kwAt (f : PySem.W.Frag → Addr) (k : Str) (K : PySem.W.Frag) : Addr := match K.lookup (f K) with
  | some ⟨_, _, .func fd, _⟩ => (match fd.kwdefaults with
    | .ref D => (match PySem.W.nsIn K D k with
      | some (some (.ref a)) => a
      | _ => 0)
    | _ => 0)
  | _ => 0
def kwB (K : PySem.W.Frag) (a : Addr) (kws : List (Str × V)) : Bool := match K.lookup a with
  | some ⟨_, _, .func fd, _⟩ => He.kwdB K fd.kwdefaults kws
  | _ => false
def emB (K : PySem.W.Frag) (a : Addr) : Bool := match K.lookup a with
  | some ⟨.type c, _, .seq its _, _⟩ => decide (c = "tuple") && decide (its.size = 0)
  | _ => false
theorem emB_ok {K : PySem.W.Frag} {a : Addr} (h : emB K a = true) (H : Hp) : SqT K H a [] := by
  unfold emB at h
  split at h
  · rename_i c od its n sl e
    obtain ⟨h1, h2⟩ := He.ba h
    have e1 := of_decide_eq_true h1
    have e2 := of_decide_eq_true h2
    subst e1
    have e3 : its.toList = [] := List.length_eq_zero_iff.mp (by simpa using e2)
    exact .inr ⟨_, its, n, e, rfl, rfl, by rw [e2]; exact Nat.zero_le _, by rw [e3]; exact .nil⟩
  · cases h
def exNames : List Str := ["BadSetting", "BadChild", "BadEntry", "BadInput", "BadReason", "BadRoot", "BadScript", "BadText", "BadTick", "BadValue", "BadWord"]
theorem kb_pos {K : PySem.W.Frag} {fd : FuncData} {ps : List Str} {n : Nat} (hn : n = ps.length) (h : Binds K fd ps []) : KBn K fd ps n [] (fun us _ => us) (fun vs _ => vs) :=
  ⟨fun s us ws X hl _ => by
    have z := h s us X (by rw [List.append_nil, hl, hn])
    rw [List.append_nil] at z
    exact z, fun r _ => r⟩
theorem kb_kw {K : PySem.W.Frag} {x qual : Str} {params : Arguments} {body : List Stmt} {scope : Scope} {f : Addr} {fd : FuncData} {a b k : Str} (F : FunD K x qual params body scope [] [] f fd)
    (h : ∀ (kV doc pm : Value) (an : Option Addr) (cdv ct : Value) (u v : Value), bindArgs (PySem.W.fnOf x qual params body scope .none kV doc pm an cdv ct) ⟨[u], [(k, v)]⟩ = pure ([a, b].zip [u, v])) :
    KBn K fd [a, b] 1 [k] (fun us ws => us ++ ws) (fun vs zs => vs ++ zs) := by
  obtain ⟨oc, od, dV, kV, doc, pm, an, cdv, ct, osl, rfl, lk, hcd, hD, hK⟩ := F.ex
  rcases hD with ⟨_, rfl⟩ | ⟨e, _⟩
  · refine ⟨fun s us ws X h1 h2 => ?_, fun r1 r2 => r1.append r2⟩
    match us, ws, h1, h2 with
    | [u], [v], _, _ => exact .of_eq (h kV doc pm an cdv ct u v)
  · exact absurd rfl e
def kws_WorkerPlan__init : List (Str × He.Dv) := [("restart", .str "permanent"), ("opening", .int 0), ("closing", .int 0), ("deadline", .non), ("refused", .int 0), ("script", .adr (kwAt (fun K => He.fAd K ("WorkerPlan", some "__init__")) "script"))]
def kws_SupervisorPlan__init : List (Str × He.Dv) := [("restart", .str "permanent"), ("strategy", .str "one"), ("most", .int 1), ("span", .int 10), ("deadline", .non)]
def kwsV (K : PySem.W.Frag) (l : List (Str × He.Dv)) : List (Str × V) := l.map fun q => (q.1, q.2.v K)
structure Env (K : PySem.W.Frag) (mg : Str → Option Value) : Type where
  sys : WXG.SysK K
  b_len : mg "len" = none
  b_int : mg "int" = none
  b_isinstance : mg "isinstance" = none
  b_range : mg "range" = none
  b_enumerate : mg "enumerate" = none
  b_str : mg "str" = none
  b_tuple : mg "tuple" = none
  b_all : mg "all" = none
  b_min : mg "min" = none
  b_max : mg "max" = none
  b_bool : mg "bool" = none
  b_repr : mg "repr" = none
  b_ValueError : mg "ValueError" = none
  g_Plan : mg "Plan" = some (.ref (He.ga K "Plan"))
  g_BaseWorker : mg "BaseWorker" = some (.ref (He.ga K "BaseWorker"))
  g_PlanError : mg "PlanError" = some (.ref (He.ga K "PlanError"))
  g_BadSetting : mg "BadSetting" = some (.ref (He.ga K "BadSetting"))
  g_BadChild : mg "BadChild" = some (.ref (He.ga K "BadChild"))
  g_BadRoot : mg "BadRoot" = some (.ref (He.ga K "BadRoot"))
  g_BadText : mg "BadText" = some (.ref (He.ga K "BadText"))
  g_BadTick : mg "BadTick" = some (.ref (He.ga K "BadTick"))
  g_BadReason : mg "BadReason" = some (.ref (He.ga K "BadReason"))
  g_BadScript : mg "BadScript" = some (.ref (He.ga K "BadScript"))
  g_BadWord : mg "BadWord" = some (.ref (He.ga K "BadWord"))
  g_BadValue : mg "BadValue" = some (.ref (He.ga K "BadValue"))
  g_BadEntry : mg "BadEntry" = some (.ref (He.ga K "BadEntry"))
  g_BadInput : mg "BadInput" = some (.ref (He.ga K "BadInput"))
  g_WorkerPlan : mg "WorkerPlan" = some (.ref (He.ga K "WorkerPlan"))
  g_SupervisorPlan : mg "SupervisorPlan" = some (.ref (He.ga K "SupervisorPlan"))
  g_is_word : mg "is_word" = some (.ref (He.ga K "is_word"))
  g_is_name : mg "is_name" = some (.ref (He.ga K "is_name"))
  g_is_between : mg "is_between" = some (.ref (He.ga K "is_between"))
  g_is_failure : mg "is_failure" = some (.ref (He.ga K "is_failure"))
  g_is_free_word : mg "is_free_word" = some (.ref (He.ga K "is_free_word"))
  g_is_value : mg "is_value" = some (.ref (He.ga K "is_value"))
  g_is_deed_value : mg "is_deed_value" = some (.ref (He.ga K "is_deed_value"))
  g_has_add : mg "has_add" = some (.ref (He.ga K "has_add"))
  g_is_added_plan : mg "is_added_plan" = some (.ref (He.ga K "is_added_plan"))
  g_has_shape : mg "has_shape" = some (.ref (He.ga K "has_shape"))
  g_is_deed : mg "is_deed" = some (.ref (He.ga K "is_deed"))
  g_is_row : mg "is_row" = some (.ref (He.ga K "is_row"))
  g_wrong_row : mg "wrong_row" = some (.ref (He.ga K "wrong_row"))
  g_is_script : mg "is_script" = some (.ref (He.ga K "is_script"))
  g_is_one_of : mg "is_one_of" = some (.ref (He.ga K "is_one_of"))
  g_is_deadline : mg "is_deadline" = some (.ref (He.ga K "is_deadline"))
  g_require : mg "require" = some (.ref (He.ga K "require"))
  g__law_begun : mg "_law_begun" = some (.ref (He.ga K "_law_begun"))
  g__law_next : mg "_law_next" = some (.ref (He.ga K "_law_next"))
  g__law_of : mg "_law_of" = some (.ref (He.ga K "_law_of"))
  g__law_scripts : mg "_law_scripts" = some (.ref (He.ga K "_law_scripts"))
  g__law_odd : mg "_law_odd" = some (.ref (He.ga K "_law_odd"))
  g__law_good : mg "_law_good" = some (.ref (He.ga K "_law_good"))
  g__law_greatest : mg "_law_greatest" = some (.ref (He.ga K "_law_greatest"))
  g__law_greater : mg "_law_greater" = some (.ref (He.ga K "_law_greater"))
  g__law_sup : mg "_law_sup" = some (.ref (He.ga K "_law_sup"))
  g__law_made : mg "_law_made" = some (.ref (He.ga K "_law_made"))
  g__law_told : mg "_law_told" = some (.ref (He.ga K "_law_told"))
  g__law_deep : mg "_law_deep" = some (.ref (He.ga K "_law_deep"))
  g__law_broad : mg "_law_broad" = some (.ref (He.ga K "_law_broad"))
  g__law_children : mg "_law_children" = some (.ref (He.ga K "_law_children"))
  g__law_fields_right : mg "_law_fields_right" = some (.ref (He.ga K "_law_fields_right"))
  g_law : mg "law" = some (.ref (He.ga K "law"))
  g_RESERVED : mg "RESERVED" = some (.ref (He.ga K "RESERVED"))
  g_OWN_REASONS : mg "OWN_REASONS" = some (.ref (He.ga K "OWN_REASONS"))
  g_OWN_WORDS : mg "OWN_WORDS" = some (.ref (He.ga K "OWN_WORDS"))
  g_RESTARTS : mg "RESTARTS" = some (.ref (He.ga K "RESTARTS"))
  g_STRATEGIES : mg "STRATEGIES" = some (.ref (He.ga K "STRATEGIES"))
  c_MOST_SIGNS : ∃ u, mg "MOST_SIGNS" = some u ∧ L2.RelV (.int 20) u
  c_MOST_ROWS : ∃ u, mg "MOST_ROWS" = some u ∧ L2.RelV (.int 30) u
  c_MOST_DEEDS : ∃ u, mg "MOST_DEEDS" = some u ∧ L2.RelV (.int 8) u
  c_MOST_WORK : ∃ u, mg "MOST_WORK" = some u ∧ L2.RelV (.int 1000) u
  c_MOST_TICKS : ∃ u, mg "MOST_TICKS" = some u ∧ L2.RelV (.int 1000000000) u
  c_MOST_VALUE : ∃ u, mg "MOST_VALUE" = some u ∧ L2.RelV (.int 1000000000000) u
  c_MOST_WAIT : ∃ u, mg "MOST_WAIT" = some u ∧ L2.RelV (.int 1000000000) u
  c_MOST_CHILDREN : ∃ u, mg "MOST_CHILDREN" = some u ∧ L2.RelV (.int 12) u
  c_MOST_DEPTH : ∃ u, mg "MOST_DEPTH" = some u ∧ L2.RelV (.int 20) u
  c_MOST_WHOLE : ∃ u, mg "MOST_WHOLE" = some u ∧ L2.RelV (.int 200) u
  c_LETTERS : ∃ u, mg "LETTERS" = some u ∧ L2.RelV (.str "abcdefghijklmnopqrstuvwxyz") u
  c_SIGNS : ∃ u, mg "SIGNS" = some u ∧ L2.RelV (.str "abcdefghijklmnopqrstuvwxyz0123456789_") u
  q_RESERVED : ∀ H, SqT K H (He.ga K "RESERVED") [.str "own", .str "sender", .str "about"]
  q_OWN_REASONS : ∀ H, SqT K H (He.ga K "OWN_REASONS") [.str "shutdown", .str "refused", .str "gave_up", .str "killed", .str "nobody"]
  q_OWN_WORDS : ∀ H, SqT K H (He.ga K "OWN_WORDS") [.str "answer", .str "back", .str "ended", .str "down", .str "told"]
  q_RESTARTS : ∀ H, SqT K H (He.ga K "RESTARTS") [.str "permanent", .str "transient", .str "temporary"]
  q_STRATEGIES : ∀ H, SqT K H (He.ga K "STRATEGIES") [.str "one", .str "rest", .str "all"]
  fd_is_word : FuncData
  F_is_word : FunD K d_is_word.name d_is_word.qual d_is_word.params d_is_word.body d_is_word.scope [] [] (d_is_word.loc K) fd_is_word
  fd_is_name : FuncData
  F_is_name : FunD K d_is_name.name d_is_name.qual d_is_name.params d_is_name.body d_is_name.scope [] [] (d_is_name.loc K) fd_is_name
  fd_is_between : FuncData
  F_is_between : FunD K d_is_between.name d_is_between.qual d_is_between.params d_is_between.body d_is_between.scope [] [] (d_is_between.loc K) fd_is_between
  fd_is_failure : FuncData
  F_is_failure : FunD K d_is_failure.name d_is_failure.qual d_is_failure.params d_is_failure.body d_is_failure.scope [] [] (d_is_failure.loc K) fd_is_failure
  fd_is_free_word : FuncData
  F_is_free_word : FunD K d_is_free_word.name d_is_free_word.qual d_is_free_word.params d_is_free_word.body d_is_free_word.scope [] [] (d_is_free_word.loc K) fd_is_free_word
  fd_is_value : FuncData
  F_is_value : FunD K d_is_value.name d_is_value.qual d_is_value.params d_is_value.body d_is_value.scope [] [] (d_is_value.loc K) fd_is_value
  fd_is_deed_value : FuncData
  F_is_deed_value : FunD K d_is_deed_value.name d_is_deed_value.qual d_is_deed_value.params d_is_deed_value.body d_is_deed_value.scope [] [] (d_is_deed_value.loc K) fd_is_deed_value
  fd_has_add : FuncData
  F_has_add : FunD K d_has_add.name d_has_add.qual d_has_add.params d_has_add.body d_has_add.scope [] [] (d_has_add.loc K) fd_has_add
  fd_is_added_plan : FuncData
  F_is_added_plan : FunD K d_is_added_plan.name d_is_added_plan.qual d_is_added_plan.params d_is_added_plan.body d_is_added_plan.scope [] [] (d_is_added_plan.loc K) fd_is_added_plan
  fd_has_shape : FuncData
  F_has_shape : FunD K d_has_shape.name d_has_shape.qual d_has_shape.params d_has_shape.body d_has_shape.scope [] [] (d_has_shape.loc K) fd_has_shape
  fd_is_deed : FuncData
  F_is_deed : FunD K d_is_deed.name d_is_deed.qual d_is_deed.params d_is_deed.body d_is_deed.scope [] [] (d_is_deed.loc K) fd_is_deed
  fd_is_row : FuncData
  F_is_row : FunD K d_is_row.name d_is_row.qual d_is_row.params d_is_row.body d_is_row.scope [] [] (d_is_row.loc K) fd_is_row
  fd_wrong_row : FuncData
  F_wrong_row : FunD K d_wrong_row.name d_wrong_row.qual d_wrong_row.params d_wrong_row.body d_wrong_row.scope [] [] (d_wrong_row.loc K) fd_wrong_row
  fd_is_script : FuncData
  F_is_script : FunD K d_is_script.name d_is_script.qual d_is_script.params d_is_script.body d_is_script.scope [] [] (d_is_script.loc K) fd_is_script
  fd_is_one_of : FuncData
  F_is_one_of : FunD K d_is_one_of.name d_is_one_of.qual d_is_one_of.params d_is_one_of.body d_is_one_of.scope [] [] (d_is_one_of.loc K) fd_is_one_of
  fd_is_deadline : FuncData
  F_is_deadline : FunD K d_is_deadline.name d_is_deadline.qual d_is_deadline.params d_is_deadline.body d_is_deadline.scope [] [] (d_is_deadline.loc K) fd_is_deadline
  fd_require : FuncData
  F_require : FunD K d_require.name d_require.qual d_require.params d_require.body d_require.scope [] [] (d_require.loc K) fd_require
  fd_L_begun : FuncData
  F_L_begun : FunD K d_L_begun.name d_L_begun.qual d_L_begun.params d_L_begun.body d_L_begun.scope [] [] (d_L_begun.loc K) fd_L_begun
  fd_L_next : FuncData
  F_L_next : FunD K d_L_next.name d_L_next.qual d_L_next.params d_L_next.body d_L_next.scope [] [] (d_L_next.loc K) fd_L_next
  fd_L_of : FuncData
  F_L_of : FunD K d_L_of.name d_L_of.qual d_L_of.params d_L_of.body d_L_of.scope [] [] (d_L_of.loc K) fd_L_of
  fd_L_scripts : FuncData
  F_L_scripts : FunD K d_L_scripts.name d_L_scripts.qual d_L_scripts.params d_L_scripts.body d_L_scripts.scope [] [] (d_L_scripts.loc K) fd_L_scripts
  fd_L_odd : FuncData
  F_L_odd : FunD K d_L_odd.name d_L_odd.qual d_L_odd.params d_L_odd.body d_L_odd.scope [] [] (d_L_odd.loc K) fd_L_odd
  fd_L_good : FuncData
  F_L_good : FunD K d_L_good.name d_L_good.qual d_L_good.params d_L_good.body d_L_good.scope [] [] (d_L_good.loc K) fd_L_good
  fd_L_greatest : FuncData
  F_L_greatest : FunD K d_L_greatest.name d_L_greatest.qual d_L_greatest.params d_L_greatest.body d_L_greatest.scope [] [] (d_L_greatest.loc K) fd_L_greatest
  fd_L_greater : FuncData
  F_L_greater : FunD K d_L_greater.name d_L_greater.qual d_L_greater.params d_L_greater.body d_L_greater.scope [] [] (d_L_greater.loc K) fd_L_greater
  fd_L_sup : FuncData
  F_L_sup : FunD K d_L_sup.name d_L_sup.qual d_L_sup.params d_L_sup.body d_L_sup.scope [] [] (d_L_sup.loc K) fd_L_sup
  fd_L_made : FuncData
  F_L_made : FunD K d_L_made.name d_L_made.qual d_L_made.params d_L_made.body d_L_made.scope [] [] (d_L_made.loc K) fd_L_made
  fd_L_told : FuncData
  F_L_told : FunD K d_L_told.name d_L_told.qual d_L_told.params d_L_told.body d_L_told.scope [] [] (d_L_told.loc K) fd_L_told
  fd_L_deep : FuncData
  F_L_deep : FunD K d_L_deep.name d_L_deep.qual d_L_deep.params d_L_deep.body d_L_deep.scope [] [] (d_L_deep.loc K) fd_L_deep
  fd_L_broad : FuncData
  F_L_broad : FunD K d_L_broad.name d_L_broad.qual d_L_broad.params d_L_broad.body d_L_broad.scope [] [] (d_L_broad.loc K) fd_L_broad
  fd_L_children : FuncData
  F_L_children : FunD K d_L_children.name d_L_children.qual d_L_children.params d_L_children.body d_L_children.scope [] [] (d_L_children.loc K) fd_L_children
  fd_L_fields_right : FuncData
  F_L_fields_right : FunD K d_L_fields_right.name d_L_fields_right.qual d_L_fields_right.params d_L_fields_right.body d_L_fields_right.scope [] [] (d_L_fields_right.loc K) fd_L_fields_right
  fd_law : FuncData
  F_law : FunD K d_law.name d_law.qual d_law.params d_law.body d_law.scope [] [] (d_law.loc K) fd_law
  fd_Plan_settings : FuncData
  F_Plan_settings : FunD K d_Plan_settings.name d_Plan_settings.qual d_Plan_settings.params d_Plan_settings.body d_Plan_settings.scope [] [] (d_Plan_settings.loc K) fd_Plan_settings
  fd_Plan_below : FuncData
  F_Plan_below : FunD K d_Plan_below.name d_Plan_below.qual d_Plan_below.params d_Plan_below.body d_Plan_below.scope [] [] (d_Plan_below.loc K) fd_Plan_below
  fd_Plan_with_all : FuncData
  F_Plan_with_all : FunD K d_Plan_with_all.name d_Plan_with_all.qual d_Plan_with_all.params d_Plan_with_all.body d_Plan_with_all.scope [] [] (d_Plan_with_all.loc K) fd_Plan_with_all
  fd_Plan__len : FuncData
  F_Plan__len : FunD K d_Plan__len.name d_Plan__len.qual d_Plan__len.params d_Plan__len.body d_Plan__len.scope [] [] (d_Plan__len.loc K) fd_Plan__len
  fd_Plan__contains : FuncData
  F_Plan__contains : FunD K d_Plan__contains.name d_Plan__contains.qual d_Plan__contains.params d_Plan__contains.body d_Plan__contains.scope [] [] (d_Plan__contains.loc K) fd_Plan__contains
  fd_WorkerPlan__init : FuncData
  F_WorkerPlan__init : FunD K d_WorkerPlan__init.name d_WorkerPlan__init.qual d_WorkerPlan__init.params d_WorkerPlan__init.body d_WorkerPlan__init.scope [] [] (d_WorkerPlan__init.loc K) fd_WorkerPlan__init
  fd_WorkerPlan__eq : FuncData
  F_WorkerPlan__eq : FunD K d_WorkerPlan__eq.name d_WorkerPlan__eq.qual d_WorkerPlan__eq.params d_WorkerPlan__eq.body d_WorkerPlan__eq.scope [] [] (d_WorkerPlan__eq.loc K) fd_WorkerPlan__eq
  fd_SupervisorPlan__init : FuncData
  F_SupervisorPlan__init : FunD K d_SupervisorPlan__init.name d_SupervisorPlan__init.qual d_SupervisorPlan__init.params d_SupervisorPlan__init.body d_SupervisorPlan__init.scope [] [] (d_SupervisorPlan__init.loc K) fd_SupervisorPlan__init
  fd_SupervisorPlan_below : FuncData
  F_SupervisorPlan_below : FunD K d_SupervisorPlan_below.name d_SupervisorPlan_below.qual d_SupervisorPlan_below.params d_SupervisorPlan_below.body d_SupervisorPlan_below.scope [] [] (d_SupervisorPlan_below.loc K) fd_SupervisorPlan_below
  fd_SupervisorPlan__eq : FuncData
  F_SupervisorPlan__eq : FunD K d_SupervisorPlan__eq.name d_SupervisorPlan__eq.qual d_SupervisorPlan__eq.params d_SupervisorPlan__eq.body d_SupervisorPlan__eq.scope [] [] (d_SupervisorPlan__eq.loc K) fd_SupervisorPlan__eq
  fd_BadSetting__init : FuncData
  F_BadSetting__init : FunD K d_BadSetting__init.name d_BadSetting__init.qual d_BadSetting__init.params d_BadSetting__init.body d_BadSetting__init.scope [] [] (d_BadSetting__init.loc K) fd_BadSetting__init
  fd_BadChild__init : FuncData
  F_BadChild__init : FunD K d_BadChild__init.name d_BadChild__init.qual d_BadChild__init.params d_BadChild__init.body d_BadChild__init.scope [] [] (d_BadChild__init.loc K) fd_BadChild__init
  fd_WorkerPlan_name : FuncData
  F_WorkerPlan_name : FunD K d_WorkerPlan_name.name d_WorkerPlan_name.qual d_WorkerPlan_name.params d_WorkerPlan_name.body d_WorkerPlan_name.scope [] [] (d_WorkerPlan_name.loc K) fd_WorkerPlan_name
  fd_WorkerPlan_restart : FuncData
  F_WorkerPlan_restart : FunD K d_WorkerPlan_restart.name d_WorkerPlan_restart.qual d_WorkerPlan_restart.params d_WorkerPlan_restart.body d_WorkerPlan_restart.scope [] [] (d_WorkerPlan_restart.loc K) fd_WorkerPlan_restart
  fd_WorkerPlan_opening : FuncData
  F_WorkerPlan_opening : FunD K d_WorkerPlan_opening.name d_WorkerPlan_opening.qual d_WorkerPlan_opening.params d_WorkerPlan_opening.body d_WorkerPlan_opening.scope [] [] (d_WorkerPlan_opening.loc K) fd_WorkerPlan_opening
  fd_WorkerPlan_closing : FuncData
  F_WorkerPlan_closing : FunD K d_WorkerPlan_closing.name d_WorkerPlan_closing.qual d_WorkerPlan_closing.params d_WorkerPlan_closing.body d_WorkerPlan_closing.scope [] [] (d_WorkerPlan_closing.loc K) fd_WorkerPlan_closing
  fd_WorkerPlan_deadline : FuncData
  F_WorkerPlan_deadline : FunD K d_WorkerPlan_deadline.name d_WorkerPlan_deadline.qual d_WorkerPlan_deadline.params d_WorkerPlan_deadline.body d_WorkerPlan_deadline.scope [] [] (d_WorkerPlan_deadline.loc K) fd_WorkerPlan_deadline
  fd_WorkerPlan_refused : FuncData
  F_WorkerPlan_refused : FunD K d_WorkerPlan_refused.name d_WorkerPlan_refused.qual d_WorkerPlan_refused.params d_WorkerPlan_refused.body d_WorkerPlan_refused.scope [] [] (d_WorkerPlan_refused.loc K) fd_WorkerPlan_refused
  fd_WorkerPlan_script : FuncData
  F_WorkerPlan_script : FunD K d_WorkerPlan_script.name d_WorkerPlan_script.qual d_WorkerPlan_script.params d_WorkerPlan_script.body d_WorkerPlan_script.scope [] [] (d_WorkerPlan_script.loc K) fd_WorkerPlan_script
  fd_SupervisorPlan_name : FuncData
  F_SupervisorPlan_name : FunD K d_SupervisorPlan_name.name d_SupervisorPlan_name.qual d_SupervisorPlan_name.params d_SupervisorPlan_name.body d_SupervisorPlan_name.scope [] [] (d_SupervisorPlan_name.loc K) fd_SupervisorPlan_name
  fd_SupervisorPlan_restart : FuncData
  F_SupervisorPlan_restart : FunD K d_SupervisorPlan_restart.name d_SupervisorPlan_restart.qual d_SupervisorPlan_restart.params d_SupervisorPlan_restart.body d_SupervisorPlan_restart.scope [] [] (d_SupervisorPlan_restart.loc K) fd_SupervisorPlan_restart
  fd_SupervisorPlan_strategy : FuncData
  F_SupervisorPlan_strategy : FunD K d_SupervisorPlan_strategy.name d_SupervisorPlan_strategy.qual d_SupervisorPlan_strategy.params d_SupervisorPlan_strategy.body d_SupervisorPlan_strategy.scope [] [] (d_SupervisorPlan_strategy.loc K) fd_SupervisorPlan_strategy
  fd_SupervisorPlan_most : FuncData
  F_SupervisorPlan_most : FunD K d_SupervisorPlan_most.name d_SupervisorPlan_most.qual d_SupervisorPlan_most.params d_SupervisorPlan_most.body d_SupervisorPlan_most.scope [] [] (d_SupervisorPlan_most.loc K) fd_SupervisorPlan_most
  fd_SupervisorPlan_span : FuncData
  F_SupervisorPlan_span : FunD K d_SupervisorPlan_span.name d_SupervisorPlan_span.qual d_SupervisorPlan_span.params d_SupervisorPlan_span.body d_SupervisorPlan_span.scope [] [] (d_SupervisorPlan_span.loc K) fd_SupervisorPlan_span
  fd_SupervisorPlan_deadline : FuncData
  F_SupervisorPlan_deadline : FunD K d_SupervisorPlan_deadline.name d_SupervisorPlan_deadline.qual d_SupervisorPlan_deadline.params d_SupervisorPlan_deadline.body d_SupervisorPlan_deadline.scope [] [] (d_SupervisorPlan_deadline.loc K) fd_SupervisorPlan_deadline
  fd_SupervisorPlan_children : FuncData
  F_SupervisorPlan_children : FunD K d_SupervisorPlan_children.name d_SupervisorPlan_children.qual d_SupervisorPlan_children.params d_SupervisorPlan_children.body d_SupervisorPlan_children.scope [] [] (d_SupervisorPlan_children.loc K) fd_SupervisorPlan_children
  n_WorkerPlan_own_settings : NoAttr K (He.ga K "WorkerPlan") "own_settings"
  n_WorkerPlan_own_count : NoAttr K (He.ga K "WorkerPlan") "own_count"
  n_WorkerPlan_own_depth : NoAttr K (He.ga K "WorkerPlan") "own_depth"
  n_SupervisorPlan_own_settings : NoAttr K (He.ga K "SupervisorPlan") "own_settings"
  n_SupervisorPlan_own_children : NoAttr K (He.ga K "SupervisorPlan") "own_children"
  n_SupervisorPlan_own_count : NoAttr K (He.ga K "SupervisorPlan") "own_count"
  n_SupervisorPlan_own_depth : NoAttr K (He.ga K "SupervisorPlan") "own_depth"
  m_WorkerPlan_settings : Meth K (He.ga K "WorkerPlan") "settings" (He.fAd K ("Plan", some "settings"))
  m_WorkerPlan_below : Meth K (He.ga K "WorkerPlan") "below" (He.fAd K ("Plan", some "below"))
  m_WorkerPlan_with_all : Meth K (He.ga K "WorkerPlan") "with_all" (He.fAd K ("Plan", some "with_all"))
  m_WorkerPlan___len__ : Meth K (He.ga K "WorkerPlan") "__len__" (He.fAd K ("Plan", some "__len__"))
  m_WorkerPlan___contains__ : Meth K (He.ga K "WorkerPlan") "__contains__" (He.fAd K ("Plan", some "__contains__"))
  m_SupervisorPlan_below : Meth K (He.ga K "SupervisorPlan") "below" (He.fAd K ("SupervisorPlan", some "below"))
  m_SupervisorPlan_settings : Meth K (He.ga K "SupervisorPlan") "settings" (He.fAd K ("Plan", some "settings"))
  m_SupervisorPlan_with_all : Meth K (He.ga K "SupervisorPlan") "with_all" (He.fAd K ("Plan", some "with_all"))
  m_SupervisorPlan___len__ : Meth K (He.ga K "SupervisorPlan") "__len__" (He.fAd K ("Plan", some "__len__"))
  m_SupervisorPlan___contains__ : Meth K (He.ga K "SupervisorPlan") "__contains__" (He.fAd K ("Plan", some "__contains__"))
  p_WorkerPlan_name : PropOf K (He.ga K "WorkerPlan") "name" (He.ma K (He.ga K "WorkerPlan") "name") (WHe.pgAd K "WorkerPlan" "name")
  p_WorkerPlan_restart : PropOf K (He.ga K "WorkerPlan") "restart" (He.ma K (He.ga K "WorkerPlan") "restart") (WHe.pgAd K "WorkerPlan" "restart")
  p_WorkerPlan_opening : PropOf K (He.ga K "WorkerPlan") "opening" (He.ma K (He.ga K "WorkerPlan") "opening") (WHe.pgAd K "WorkerPlan" "opening")
  p_WorkerPlan_closing : PropOf K (He.ga K "WorkerPlan") "closing" (He.ma K (He.ga K "WorkerPlan") "closing") (WHe.pgAd K "WorkerPlan" "closing")
  p_WorkerPlan_deadline : PropOf K (He.ga K "WorkerPlan") "deadline" (He.ma K (He.ga K "WorkerPlan") "deadline") (WHe.pgAd K "WorkerPlan" "deadline")
  p_WorkerPlan_refused : PropOf K (He.ga K "WorkerPlan") "refused" (He.ma K (He.ga K "WorkerPlan") "refused") (WHe.pgAd K "WorkerPlan" "refused")
  p_WorkerPlan_script : PropOf K (He.ga K "WorkerPlan") "script" (He.ma K (He.ga K "WorkerPlan") "script") (WHe.pgAd K "WorkerPlan" "script")
  p_SupervisorPlan_name : PropOf K (He.ga K "SupervisorPlan") "name" (He.ma K (He.ga K "SupervisorPlan") "name") (WHe.pgAd K "SupervisorPlan" "name")
  p_SupervisorPlan_restart : PropOf K (He.ga K "SupervisorPlan") "restart" (He.ma K (He.ga K "SupervisorPlan") "restart") (WHe.pgAd K "SupervisorPlan" "restart")
  p_SupervisorPlan_strategy : PropOf K (He.ga K "SupervisorPlan") "strategy" (He.ma K (He.ga K "SupervisorPlan") "strategy") (WHe.pgAd K "SupervisorPlan" "strategy")
  p_SupervisorPlan_most : PropOf K (He.ga K "SupervisorPlan") "most" (He.ma K (He.ga K "SupervisorPlan") "most") (WHe.pgAd K "SupervisorPlan" "most")
  p_SupervisorPlan_span : PropOf K (He.ga K "SupervisorPlan") "span" (He.ma K (He.ga K "SupervisorPlan") "span") (WHe.pgAd K "SupervisorPlan" "span")
  p_SupervisorPlan_deadline : PropOf K (He.ga K "SupervisorPlan") "deadline" (He.ma K (He.ga K "SupervisorPlan") "deadline") (WHe.pgAd K "SupervisorPlan" "deadline")
  p_SupervisorPlan_children : PropOf K (He.ga K "SupervisorPlan") "children" (He.ma K (He.ga K "SupervisorPlan") "children") (WHe.pgAd K "SupervisorPlan" "children")
  mk_WorkerPlan : Mk K (He.ga K "WorkerPlan") (He.fAd K ("WorkerPlan", some "__init__"))
  dc_WorkerPlan : WHe.DatC K (He.ga K "WorkerPlan") (He.fAd K ("WorkerPlan", some "__eq__"))
  mk_SupervisorPlan : Mk K (He.ga K "SupervisorPlan") (He.fAd K ("SupervisorPlan", some "__init__"))
  dc_SupervisorPlan : WHe.DatC K (He.ga K "SupervisorPlan") (He.fAd K ("SupervisorPlan", some "__eq__"))
  k_WorkerPlan_Plan : PySem.W.kitOne K (.ref (He.ga K "WorkerPlan")) (.ref (He.ga K "Plan")) = some true
  k_WorkerPlan_BaseWorker : PySem.W.kitOne K (.ref (He.ga K "WorkerPlan")) (.ref (He.ga K "BaseWorker")) = some true
  k_WorkerPlan_WorkerPlan : PySem.W.kitOne K (.ref (He.ga K "WorkerPlan")) (.ref (He.ga K "WorkerPlan")) = some true
  k_WorkerPlan_SupervisorPlan : PySem.W.kitOne K (.ref (He.ga K "WorkerPlan")) (.ref (He.ga K "SupervisorPlan")) = some false
  k_SupervisorPlan_Plan : PySem.W.kitOne K (.ref (He.ga K "SupervisorPlan")) (.ref (He.ga K "Plan")) = some true
  k_SupervisorPlan_BaseWorker : PySem.W.kitOne K (.ref (He.ga K "SupervisorPlan")) (.ref (He.ga K "BaseWorker")) = some false
  k_SupervisorPlan_WorkerPlan : PySem.W.kitOne K (.ref (He.ga K "SupervisorPlan")) (.ref (He.ga K "WorkerPlan")) = some false
  k_SupervisorPlan_SupervisorPlan : PySem.W.kitOne K (.ref (He.ga K "SupervisorPlan")) (.ref (He.ga K "SupervisorPlan")) = some true
  x_BadSetting : WXE.XC K (He.ga K "BadSetting") "ValueError" "ValueError.__new__" "ValueError.__init__" bmVE
  o_BadSetting : OexC K (He.ga K "BadSetting")
  i_BadSetting : PySem.W.findIn K (.ref (He.ga K "BadSetting")) "__init__" = some (some (.ref (He.fAd K ("BadSetting", some "__init__"))))
  t_BadSetting : PySem.W.typeIn K (.ref (He.fAd K ("BadSetting", some "__init__"))) = some (.type "function")
  n_BadSetting : PySem.W.findIn K (.ref (He.ga K "BadSetting")) "setting" = some none
  e_BadSetting : PySem.W.exmOne K (.ref (He.ga K "BadSetting")) (.ref (He.ga K "PlanError")) = some true
  vt_BadSetting : PySem.W.kitOne K (.ref (He.ga K "BadSetting")) (.type "ValueError") = some true
  vp_BadSetting : PySem.W.kitOne K (.ref (He.ga K "BadSetting")) (.ref (He.ga K "PlanError")) = some true
  vx_BadSetting : ∀ y ∈ exNames, PySem.W.kitOne K (.ref (He.ga K "BadSetting")) (.ref (He.ga K y)) = some (decide (y = "BadSetting"))
  x_BadChild : WXE.XC K (He.ga K "BadChild") "ValueError" "ValueError.__new__" "ValueError.__init__" bmVE
  o_BadChild : OexC K (He.ga K "BadChild")
  i_BadChild : PySem.W.findIn K (.ref (He.ga K "BadChild")) "__init__" = some (some (.ref (He.fAd K ("BadChild", some "__init__"))))
  t_BadChild : PySem.W.typeIn K (.ref (He.fAd K ("BadChild", some "__init__"))) = some (.type "function")
  n_BadChild : PySem.W.findIn K (.ref (He.ga K "BadChild")) "index" = some none
  e_BadChild : PySem.W.exmOne K (.ref (He.ga K "BadChild")) (.ref (He.ga K "PlanError")) = some true
  vt_BadChild : PySem.W.kitOne K (.ref (He.ga K "BadChild")) (.type "ValueError") = some true
  vp_BadChild : PySem.W.kitOne K (.ref (He.ga K "BadChild")) (.ref (He.ga K "PlanError")) = some true
  vx_BadChild : ∀ y ∈ exNames, PySem.W.kitOne K (.ref (He.ga K "BadChild")) (.ref (He.ga K y)) = some (decide (y = "BadChild"))
  r_PlanError : PySem.W.readsIn K (He.ga K "PlanError") (.type "type") = true
  s_PlanError : PySem.W.specialIn K (.ref (He.ga K "PlanError")) "__getattribute__" = some (some (.builtin "type.__getattribute__"))
  v_PlanError : PySem.W.findCls K (.ref (He.ga K "PlanError")) (.type "type") "__init__" = some (.val (.builtin "ValueError.__init__"))
  kt : WPv.Kt K
  kd_WorkerPlan__init : ∀ (oc : Value) (od : Option Addr) (osl : Array (Option Value)), K.lookup (d_WorkerPlan__init.loc K) = some ⟨oc, od, .func fd_WorkerPlan__init, osl⟩ → KwdV K fd_WorkerPlan__init.kwdefaults (kwsV K kws_WorkerPlan__init)
  kd_SupervisorPlan__init : ∀ (oc : Value) (od : Option Addr) (osl : Array (Option Value)), K.lookup (d_SupervisorPlan__init.loc K) = some ⟨oc, od, .func fd_SupervisorPlan__init, osl⟩ → KwdV K fd_SupervisorPlan__init.kwdefaults (kwsV K kws_SupervisorPlan__init)
  sd : ∀ H, SqT K H (kwAt (fun K => He.fAd K ("WorkerPlan", some "__init__")) "script" K) []
section
variable {K : PySem.W.Frag} {mg : Str → Option Value}
theorem Env.bi_is_word (T : Env K mg) : Binds K T.fd_is_word ["value"] [] := T.F_is_word.bindsN fun _ _ _ _ _ _ us hl => match us, hl with | [_], _ => rfl
theorem Env.bi_is_name (T : Env K mg) : Binds K T.fd_is_name ["value"] [] := T.F_is_name.bindsN fun _ _ _ _ _ _ us hl => match us, hl with | [_], _ => rfl
theorem Env.bi_is_between (T : Env K mg) : Binds K T.fd_is_between ["value", "low", "high"] [] := T.F_is_between.bindsN fun _ _ _ _ _ _ us hl => match us, hl with | [_, _, _], _ => rfl
theorem Env.bi_is_failure (T : Env K mg) : Binds K T.fd_is_failure ["value"] [] := T.F_is_failure.bindsN fun _ _ _ _ _ _ us hl => match us, hl with | [_], _ => rfl
theorem Env.bi_is_free_word (T : Env K mg) : Binds K T.fd_is_free_word ["value"] [] := T.F_is_free_word.bindsN fun _ _ _ _ _ _ us hl => match us, hl with | [_], _ => rfl
theorem Env.bi_is_value (T : Env K mg) : Binds K T.fd_is_value ["value"] [] := T.F_is_value.bindsN fun _ _ _ _ _ _ us hl => match us, hl with | [_], _ => rfl
theorem Env.bi_is_deed_value (T : Env K mg) : Binds K T.fd_is_deed_value ["value"] [] := T.F_is_deed_value.bindsN fun _ _ _ _ _ _ us hl => match us, hl with | [_], _ => rfl
theorem Env.bi_has_add (T : Env K mg) : Binds K T.fd_has_add ["script"] [] := T.F_has_add.bindsN fun _ _ _ _ _ _ us hl => match us, hl with | [_], _ => rfl
theorem Env.bi_is_added_plan (T : Env K mg) : Binds K T.fd_is_added_plan ["value"] [] := T.F_is_added_plan.bindsN fun _ _ _ _ _ _ us hl => match us, hl with | [_], _ => rfl
theorem Env.bi_has_shape (T : Env K mg) : Binds K T.fd_has_shape ["word", "parts"] [] := T.F_has_shape.bindsN fun _ _ _ _ _ _ us hl => match us, hl with | [_, _], _ => rfl
theorem Env.bi_is_deed (T : Env K mg) : Binds K T.fd_is_deed ["value"] [] := T.F_is_deed.bindsN fun _ _ _ _ _ _ us hl => match us, hl with | [_], _ => rfl
theorem Env.bi_is_row (T : Env K mg) : Binds K T.fd_is_row ["value"] [] := T.F_is_row.bindsN fun _ _ _ _ _ _ us hl => match us, hl with | [_], _ => rfl
theorem Env.bi_wrong_row (T : Env K mg) : Binds K T.fd_wrong_row ["script"] [] := T.F_wrong_row.bindsN fun _ _ _ _ _ _ us hl => match us, hl with | [_], _ => rfl
theorem Env.bi_is_script (T : Env K mg) : Binds K T.fd_is_script ["value"] [] := T.F_is_script.bindsN fun _ _ _ _ _ _ us hl => match us, hl with | [_], _ => rfl
theorem Env.bi_is_one_of (T : Env K mg) : Binds K T.fd_is_one_of ["value", "words"] [] := T.F_is_one_of.bindsN fun _ _ _ _ _ _ us hl => match us, hl with | [_, _], _ => rfl
theorem Env.bi_is_deadline (T : Env K mg) : Binds K T.fd_is_deadline ["value"] [] := T.F_is_deadline.bindsN fun _ _ _ _ _ _ us hl => match us, hl with | [_], _ => rfl
theorem Env.bi_require (T : Env K mg) : Binds K T.fd_require ["rows"] [] := T.F_require.bindsN fun _ _ _ _ _ _ us hl => match us, hl with | [_], _ => rfl
theorem Env.bi_L_begun (T : Env K mg) : Binds K T.fd_L_begun ["cells"] [] := T.F_L_begun.bindsN fun _ _ _ _ _ _ us hl => match us, hl with | [_], _ => rfl
theorem Env.bi_L_next (T : Env K mg) : Binds K T.fd_L_next ["m", "total"] [] := T.F_L_next.bindsN fun _ _ _ _ _ _ us hl => match us, hl with | [_, _], _ => rfl
theorem Env.bi_L_of (T : Env K mg) : Binds K T.fd_L_of ["m", "items"] [] := T.F_L_of.bindsN fun _ _ _ _ _ _ us hl => match us, hl with | [_, _], _ => rfl
theorem Env.bi_L_scripts (T : Env K mg) : Binds K T.fd_L_scripts [] [] := T.F_L_scripts.bindsN fun _ _ _ _ _ _ us hl => match us, hl with | [], _ => rfl
theorem Env.bi_L_odd (T : Env K mg) : Binds K T.fd_L_odd ["field"] [] := T.F_L_odd.bindsN fun _ _ _ _ _ _ us hl => match us, hl with | [_], _ => rfl
theorem Env.bi_L_good (T : Env K mg) : Binds K T.fd_L_good ["m", "field"] [] := T.F_L_good.bindsN fun _ _ _ _ _ _ us hl => match us, hl with | [_, _], _ => rfl
theorem Env.bi_L_greatest (T : Env K mg) : Binds K T.fd_L_greatest ["label", "c", "s"] [] := T.F_L_greatest.bindsN fun _ _ _ _ _ _ us hl => match us, hl with | [_, _, _], _ => rfl
theorem Env.bi_L_greater (T : Env K mg) : Binds K T.fd_L_greater ["label", "c", "s"] [] := T.F_L_greater.bindsN fun _ _ _ _ _ _ us hl => match us, hl with | [_, _, _], _ => rfl
theorem Env.bi_L_sup (T : Env K mg) : Binds K T.fd_L_sup ["label", "c", "s"] [] := T.F_L_sup.bindsN fun _ _ _ _ _ _ us hl => match us, hl with | [_, _, _], _ => rfl
theorem Env.bi_L_made (T : Env K mg) : Binds K T.fd_L_made ["kind", "v", "c"] [] := T.F_L_made.bindsN fun _ _ _ _ _ _ us hl => match us, hl with | [_, _, _], _ => rfl
theorem Env.bi_L_told (T : Env K mg) : Binds K T.fd_L_told ["kind", "v", "c"] [] := T.F_L_told.bindsN fun _ _ _ _ _ _ us hl => match us, hl with | [_, _, _], _ => rfl
theorem Env.bi_L_deep (T : Env K mg) : Binds K T.fd_L_deep ["many"] [] := T.F_L_deep.bindsN fun _ _ _ _ _ _ us hl => match us, hl with | [_], _ => rfl
theorem Env.bi_L_broad (T : Env K mg) : Binds K T.fd_L_broad [] [] := T.F_L_broad.bindsN fun _ _ _ _ _ _ us hl => match us, hl with | [], _ => rfl
theorem Env.bi_L_children (T : Env K mg) : Binds K T.fd_L_children ["m", "many"] [] := T.F_L_children.bindsN fun _ _ _ _ _ _ us hl => match us, hl with | [_, _], _ => rfl
theorem Env.bi_L_fields_right (T : Env K mg) : Binds K T.fd_L_fields_right ["field", "number_now"] [] := T.F_L_fields_right.bindsN fun _ _ _ _ _ _ us hl => match us, hl with | [_, _], _ => rfl
theorem Env.bi_law (T : Env K mg) : Binds K T.fd_law ["cells"] [] := T.F_law.bindsN fun _ _ _ _ _ _ us hl => match us, hl with | [_], _ => rfl
theorem Env.bi_Plan_settings (T : Env K mg) : Binds K T.fd_Plan_settings ["self"] [] := T.F_Plan_settings.bindsN fun _ _ _ _ _ _ us hl => match us, hl with | [_], _ => rfl
theorem Env.bi_Plan_below (T : Env K mg) : Binds K T.fd_Plan_below ["self"] [] := T.F_Plan_below.bindsN fun _ _ _ _ _ _ us hl => match us, hl with | [_], _ => rfl
theorem Env.bi_Plan_with_all (T : Env K mg) : Binds K T.fd_Plan_with_all ["self"] [] := T.F_Plan_with_all.bindsN fun _ _ _ _ _ _ us hl => match us, hl with | [_], _ => rfl
theorem Env.bi_Plan__len (T : Env K mg) : Binds K T.fd_Plan__len ["self"] [] := T.F_Plan__len.bindsN fun _ _ _ _ _ _ us hl => match us, hl with | [_], _ => rfl
theorem Env.bi_Plan__contains (T : Env K mg) : Binds K T.fd_Plan__contains ["self", "value"] [] := T.F_Plan__contains.bindsN fun _ _ _ _ _ _ us hl => match us, hl with | [_, _], _ => rfl
theorem Env.bi_WorkerPlan__eq (T : Env K mg) : Binds K T.fd_WorkerPlan__eq ["self", "other"] [] := T.F_WorkerPlan__eq.bindsN fun _ _ _ _ _ _ us hl => match us, hl with | [_, _], _ => rfl
theorem Env.bi_SupervisorPlan_below (T : Env K mg) : Binds K T.fd_SupervisorPlan_below ["self"] [] := T.F_SupervisorPlan_below.bindsN fun _ _ _ _ _ _ us hl => match us, hl with | [_], _ => rfl
theorem Env.bi_SupervisorPlan__eq (T : Env K mg) : Binds K T.fd_SupervisorPlan__eq ["self", "other"] [] := T.F_SupervisorPlan__eq.bindsN fun _ _ _ _ _ _ us hl => match us, hl with | [_, _], _ => rfl
theorem Env.bi_BadSetting__init (T : Env K mg) : Binds K T.fd_BadSetting__init ["self", "setting"] [] := T.F_BadSetting__init.bindsN fun _ _ _ _ _ _ us hl => match us, hl with | [_, _], _ => rfl
theorem Env.bi_BadChild__init (T : Env K mg) : Binds K T.fd_BadChild__init ["self", "index"] [] := T.F_BadChild__init.bindsN fun _ _ _ _ _ _ us hl => match us, hl with | [_, _], _ => rfl
theorem Env.bi_WorkerPlan_name (T : Env K mg) : Binds K T.fd_WorkerPlan_name ["self"] [] := T.F_WorkerPlan_name.bindsN fun _ _ _ _ _ _ us hl => match us, hl with | [_], _ => rfl
theorem Env.bi_WorkerPlan_restart (T : Env K mg) : Binds K T.fd_WorkerPlan_restart ["self"] [] := T.F_WorkerPlan_restart.bindsN fun _ _ _ _ _ _ us hl => match us, hl with | [_], _ => rfl
theorem Env.bi_WorkerPlan_opening (T : Env K mg) : Binds K T.fd_WorkerPlan_opening ["self"] [] := T.F_WorkerPlan_opening.bindsN fun _ _ _ _ _ _ us hl => match us, hl with | [_], _ => rfl
theorem Env.bi_WorkerPlan_closing (T : Env K mg) : Binds K T.fd_WorkerPlan_closing ["self"] [] := T.F_WorkerPlan_closing.bindsN fun _ _ _ _ _ _ us hl => match us, hl with | [_], _ => rfl
theorem Env.bi_WorkerPlan_deadline (T : Env K mg) : Binds K T.fd_WorkerPlan_deadline ["self"] [] := T.F_WorkerPlan_deadline.bindsN fun _ _ _ _ _ _ us hl => match us, hl with | [_], _ => rfl
theorem Env.bi_WorkerPlan_refused (T : Env K mg) : Binds K T.fd_WorkerPlan_refused ["self"] [] := T.F_WorkerPlan_refused.bindsN fun _ _ _ _ _ _ us hl => match us, hl with | [_], _ => rfl
theorem Env.bi_WorkerPlan_script (T : Env K mg) : Binds K T.fd_WorkerPlan_script ["self"] [] := T.F_WorkerPlan_script.bindsN fun _ _ _ _ _ _ us hl => match us, hl with | [_], _ => rfl
theorem Env.bi_SupervisorPlan_name (T : Env K mg) : Binds K T.fd_SupervisorPlan_name ["self"] [] := T.F_SupervisorPlan_name.bindsN fun _ _ _ _ _ _ us hl => match us, hl with | [_], _ => rfl
theorem Env.bi_SupervisorPlan_restart (T : Env K mg) : Binds K T.fd_SupervisorPlan_restart ["self"] [] := T.F_SupervisorPlan_restart.bindsN fun _ _ _ _ _ _ us hl => match us, hl with | [_], _ => rfl
theorem Env.bi_SupervisorPlan_strategy (T : Env K mg) : Binds K T.fd_SupervisorPlan_strategy ["self"] [] := T.F_SupervisorPlan_strategy.bindsN fun _ _ _ _ _ _ us hl => match us, hl with | [_], _ => rfl
theorem Env.bi_SupervisorPlan_most (T : Env K mg) : Binds K T.fd_SupervisorPlan_most ["self"] [] := T.F_SupervisorPlan_most.bindsN fun _ _ _ _ _ _ us hl => match us, hl with | [_], _ => rfl
theorem Env.bi_SupervisorPlan_span (T : Env K mg) : Binds K T.fd_SupervisorPlan_span ["self"] [] := T.F_SupervisorPlan_span.bindsN fun _ _ _ _ _ _ us hl => match us, hl with | [_], _ => rfl
theorem Env.bi_SupervisorPlan_deadline (T : Env K mg) : Binds K T.fd_SupervisorPlan_deadline ["self"] [] := T.F_SupervisorPlan_deadline.bindsN fun _ _ _ _ _ _ us hl => match us, hl with | [_], _ => rfl
theorem Env.bi_SupervisorPlan_children (T : Env K mg) : Binds K T.fd_SupervisorPlan_children ["self"] [] := T.F_SupervisorPlan_children.bindsN fun _ _ _ _ _ _ us hl => match us, hl with | [_], _ => rfl
theorem Env.kb_BadSetting (T : Env K mg) : KBn K T.fd_BadSetting__init ["self", "setting"] 2 [] (fun us _ => us) (fun vs _ => vs) := kb_pos rfl (T.F_BadSetting__init.bindsN fun _ _ _ _ _ _ us hl => match us, hl with | [_, _], _ => rfl)
theorem Env.kw_BadSetting (T : Env K mg) : KBn K T.fd_BadSetting__init ["self", "setting"] 1 ["setting"] (fun us ws => us ++ ws) (fun vs zs => vs ++ zs) := kb_kw T.F_BadSetting__init fun _ _ _ _ _ _ _ _ => rfl
theorem Env.kb_BadChild (T : Env K mg) : KBn K T.fd_BadChild__init ["self", "index"] 2 [] (fun us _ => us) (fun vs _ => vs) := kb_pos rfl (T.F_BadChild__init.bindsN fun _ _ _ _ _ _ us hl => match us, hl with | [_, _], _ => rfl)
theorem Env.kw_BadChild (T : Env K mg) : KBn K T.fd_BadChild__init ["self", "index"] 1 ["index"] (fun us ws => us ++ ws) (fun vs zs => vs ++ zs) := kb_kw T.F_BadChild__init fun _ _ _ _ _ _ _ _ => rfl
end
end W02

set_option Elab.async false
set_option linter.all false
set_option maxRecDepth 100000
set_option maxHeartbeats 0
/-! the head's facts over the first n objects (no search for them: less memory) -/
namespace WHg
open PySem PySem.Spec PyProof.Rows L2 WHe
def obsLG (n : Nat) (chk : PySem.W.Frag → Bool) (fn : List DefP) (g : Addr → Option Obj) : He.AlD := obsK chk fn (He.frG g (List.range n))
def hookL (n : Nat) (chk : PySem.W.Frag → Bool) (fn : List DefP) : PySem.W.Hook where
  α := He.AlD
  obs := fun s => obsLG n chk fn s.heap.get?
  val := fun _ => valK fn
  says := fun _ h => ∃ K : PySem.W.Frag, K.In h ∧ SaysK chk fn K
  of := fun _ _ e => ⟨_, He.frG_in, e⟩
  keeps := fun _ _ _ ⟨K, hK, c⟩ k => ⟨K, PySem.W.Frag.In.keeps hK k, c⟩
theorem obsLG_eq {n : Nat} {chk : PySem.W.Frag → Bool} {fn : List DefP} {g : Addr → Option Obj} {s : Shared} (h : ∀ a, g a = s.heap.get? a) : obsLG n chk fn g = (hookL n chk fn).obs s := by
  have e : g = s.heap.get? := funext h
  rw [e] <;> rfl
end WHg

set_option Elab.async false
set_option linter.all false
set_option maxRecDepth 100000
set_option maxHeartbeats 4000000
namespace W02
open PySem PySem.Spec PyProof.Rows L2
def chk0 (K : PySem.W.Frag) : Bool := WHe.sysB K && (frees.all (fun x => He.eqO (PySem.W.nsIn K mainGlobals x) (some none)) && (globs.all (fun x => He.eqO (PySem.W.nsIn K mainGlobals x) (some (some (.ref (He.ga K x))))) &&
  (cints.all (fun q => (He.Fa.int q.1 q.2).ok K) && (cstrs.all (fun q => (He.Fa.str q.1 q.2).ok K) && (ctups.all (fun q => He.tupB K q.1 q.2) && (noat.all (fun q => (He.Fa.noat q.1 q.2).ok K) && (meths.all (fun q => WHe.methB K q.1 q.2.1 q.2.2) &&
  (props.all (fun q => WHe.propB K q.1 q.2) && ((["WorkerPlan", "SupervisorPlan"] : List Str).all (fun C => (He.Fa.mkr C).ok K && WHe.datB K C) && kits.all (WHe.kitB K))))))))))
def excB (K : PySem.W.Frag) (q : Str × Str) : Bool := WXE.xcB K (He.ga K q.1) "ValueError.__new__" bmVE && (WXO.oexB K (He.ga K q.1) && (decide (PySem.W.findIn K (.ref (He.ga K q.1)) "__init__" = some (some (.ref (He.fAd K (q.1, some "__init__"))))) &&
  (decide (PySem.W.typeIn K (.ref (He.fAd K (q.1, some "__init__"))) = some (.type "function")) && (decide (PySem.W.findIn K (.ref (He.ga K q.1)) q.2 = some none) && (decide (PySem.W.exmOne K (.ref (He.ga K q.1)) (.ref (He.ga K "PlanError")) = some true) &&
  (decide (PySem.W.kitOne K (.ref (He.ga K q.1)) (.type "ValueError") = some true) && (decide (PySem.W.kitOne K (.ref (He.ga K q.1)) (.ref (He.ga K "PlanError")) = some true) &&
  exNames.all fun y => decide (PySem.W.kitOne K (.ref (He.ga K q.1)) (.ref (He.ga K y)) = some (decide (y = q.1))))))))))
theorem excB_ok {K : PySem.W.Frag} {q : Str × Str} (h : excB K q = true) : WXE.xcB K (He.ga K q.1) "ValueError.__new__" bmVE = true ∧ WXO.oexB K (He.ga K q.1) = true ∧ PySem.W.findIn K (.ref (He.ga K q.1)) "__init__" = some (some (.ref (He.fAd K (q.1, some "__init__")))) ∧
    PySem.W.typeIn K (.ref (He.fAd K (q.1, some "__init__"))) = some (.type "function") ∧ PySem.W.findIn K (.ref (He.ga K q.1)) q.2 = some none ∧ PySem.W.exmOne K (.ref (He.ga K q.1)) (.ref (He.ga K "PlanError")) = some true ∧
    PySem.W.kitOne K (.ref (He.ga K q.1)) (.type "ValueError") = some true ∧ PySem.W.kitOne K (.ref (He.ga K q.1)) (.ref (He.ga K "PlanError")) = some true ∧
    ∀ y ∈ exNames, PySem.W.kitOne K (.ref (He.ga K q.1)) (.ref (He.ga K y)) = some (decide (y = q.1)) := by
  obtain ⟨h1, h⟩ := He.ba h
  obtain ⟨h2, h⟩ := He.ba h
  obtain ⟨h3, h⟩ := He.ba h
  obtain ⟨h4, h⟩ := He.ba h
  obtain ⟨h5, h⟩ := He.ba h
  obtain ⟨h6, h⟩ := He.ba h
  obtain ⟨h7, h⟩ := He.ba h
  obtain ⟨h8, h9⟩ := He.ba h
  exact ⟨h1, h2, of_decide_eq_true h3, of_decide_eq_true h4, of_decide_eq_true h5, of_decide_eq_true h6, of_decide_eq_true h7, of_decide_eq_true h8, fun y hy => of_decide_eq_true (List.all_eq_true.mp h9 y hy)⟩
def basB (K : PySem.W.Frag) : Bool := PySem.W.readsIn K (He.ga K "PlanError") (.type "type") &&
  (decide (PySem.W.specialIn K (.ref (He.ga K "PlanError")) "__getattribute__" = some (some (.builtin "type.__getattribute__"))) &&
  (match PySem.W.findCls K (.ref (He.ga K "PlanError")) (.type "type") "__init__" with
    | some (.val v) => decide (v = .builtin "ValueError.__init__")
    | _ => false))
theorem basB_ok {K : PySem.W.Frag} (h : basB K = true) : PySem.W.readsIn K (He.ga K "PlanError") (.type "type") = true ∧ PySem.W.specialIn K (.ref (He.ga K "PlanError")) "__getattribute__" = some (some (.builtin "type.__getattribute__")) ∧
    PySem.W.findCls K (.ref (He.ga K "PlanError")) (.type "type") "__init__" = some (.val (.builtin "ValueError.__init__")) := by
  obtain ⟨h1, h⟩ := He.ba h
  obtain ⟨h2, h3⟩ := He.ba h
  refine ⟨h1, of_decide_eq_true h2, ?_⟩
  cases e : PySem.W.findCls K (.ref (He.ga K "PlanError")) (.type "type") "__init__" with
  | none => rw [e] at h3; cases h3
  | some r =>
    rw [e] at h3
    cases r with
    | val v => rw [of_decide_eq_true h3]
    | get _ _ _ _ => cases h3
def excs : List (Str × Str) := [("BadSetting", "setting"), ("BadChild", "index")]
def kwdl : List ((PySem.W.Frag → Addr) × List (Str × He.Dv)) := [(d_WorkerPlan__init.loc, kws_WorkerPlan__init), (d_SupervisorPlan__init.loc, kws_SupervisorPlan__init)]
def chk (K : PySem.W.Frag) : Bool := chk0 K && (excs.all (excB K) && (basB K && (WPv.ktB K && (kwdl.all (fun q => kwB K (q.1 K) (kwsV K q.2)) && emB K (kwAt (fun K => He.fAd K ("WorkerPlan", some "__init__")) "script" K)))))
theorem at_ {α : Type} {l : List α} {p : α → Bool} (h : l.all p = true) (i : Nat) {x : α} (e : l[i]? = some x) : p x = true := List.all_eq_true.mp h x (List.mem_of_getElem? e)
theorem env_of {K : PySem.W.Frag} {h : Heap} {mg : Str → Option Value} (X : K.In h) (G : h.Ns mainGlobals mg) (c : WHe.SaysK chk fns K) : Nonempty (Env K mg) := by
  obtain ⟨cz, cx⟩ := He.ba c.chk_
  obtain ⟨x0, cx⟩ := He.ba cx
  obtain ⟨x1, cx⟩ := He.ba cx
  obtain ⟨x2, cx⟩ := He.ba cx
  obtain ⟨x3, x4⟩ := He.ba cx
  obtain ⟨c0, cc⟩ := He.ba cz
  obtain ⟨c1, cc⟩ := He.ba cc
  obtain ⟨c2, cc⟩ := He.ba cc
  obtain ⟨c3, cc⟩ := He.ba cc
  obtain ⟨c4, cc⟩ := He.ba cc
  obtain ⟨c5, cc⟩ := He.ba cc
  obtain ⟨c6, cc⟩ := He.ba cc
  obtain ⟨c7, cc⟩ := He.ba cc
  obtain ⟨c8, cc⟩ := He.ba cc
  obtain ⟨c9, ca⟩ := He.ba cc
  have fr : ∀ (i : Nat) {x : Str}, frees[i]? = some x → mg x = none := fun i x e => PySem.W.mg_none_of X G (He.eqO_ok (at_ c1 i e))
  have gl : ∀ (i : Nat) {x : Str}, globs[i]? = some x → mg x = some (.ref (He.ga K x)) := fun i x e => PySem.W.mg_of X G (He.eqO_ok (at_ c2 i e))
  have ci : ∀ (i : Nat) {x : Str} {n : Int}, cints[i]? = some (x, n) → ∃ u, mg x = some u ∧ L2.RelV (.int n) u := fun i x n e => by
    obtain ⟨t, q⟩ := He.int_ok X G (at_ c3 i e)
    exact ⟨_, q, t, rfl⟩
  have cs : ∀ (i : Nat) {x z : Str}, cstrs[i]? = some (x, z) → ∃ u, mg x = some u ∧ L2.RelV (.str z) u := fun i x z e => by
    obtain ⟨t, q⟩ := He.str_ok X G (at_ c4 i e)
    exact ⟨_, q, t, rfl⟩
  obtain ⟨fd0, F0⟩ := c.def_ 0 (d := d_is_word) rfl
  obtain ⟨fd1, F1⟩ := c.def_ 1 (d := d_is_name) rfl
  obtain ⟨fd2, F2⟩ := c.def_ 2 (d := d_is_between) rfl
  obtain ⟨fd3, F3⟩ := c.def_ 3 (d := d_is_failure) rfl
  obtain ⟨fd4, F4⟩ := c.def_ 4 (d := d_is_free_word) rfl
  obtain ⟨fd5, F5⟩ := c.def_ 5 (d := d_is_value) rfl
  obtain ⟨fd6, F6⟩ := c.def_ 6 (d := d_is_deed_value) rfl
  obtain ⟨fd7, F7⟩ := c.def_ 7 (d := d_has_add) rfl
  obtain ⟨fd8, F8⟩ := c.def_ 8 (d := d_is_added_plan) rfl
  obtain ⟨fd9, F9⟩ := c.def_ 9 (d := d_has_shape) rfl
  obtain ⟨fd10, F10⟩ := c.def_ 10 (d := d_is_deed) rfl
  obtain ⟨fd11, F11⟩ := c.def_ 11 (d := d_is_row) rfl
  obtain ⟨fd12, F12⟩ := c.def_ 12 (d := d_wrong_row) rfl
  obtain ⟨fd13, F13⟩ := c.def_ 13 (d := d_is_script) rfl
  obtain ⟨fd14, F14⟩ := c.def_ 14 (d := d_is_one_of) rfl
  obtain ⟨fd15, F15⟩ := c.def_ 15 (d := d_is_deadline) rfl
  obtain ⟨fd16, F16⟩ := c.def_ 16 (d := d_require) rfl
  obtain ⟨fd17, F17⟩ := c.def_ 17 (d := d_L_begun) rfl
  obtain ⟨fd18, F18⟩ := c.def_ 18 (d := d_L_next) rfl
  obtain ⟨fd19, F19⟩ := c.def_ 19 (d := d_L_of) rfl
  obtain ⟨fd20, F20⟩ := c.def_ 20 (d := d_L_scripts) rfl
  obtain ⟨fd21, F21⟩ := c.def_ 21 (d := d_L_odd) rfl
  obtain ⟨fd22, F22⟩ := c.def_ 22 (d := d_L_good) rfl
  obtain ⟨fd23, F23⟩ := c.def_ 23 (d := d_L_greatest) rfl
  obtain ⟨fd24, F24⟩ := c.def_ 24 (d := d_L_greater) rfl
  obtain ⟨fd25, F25⟩ := c.def_ 25 (d := d_L_sup) rfl
  obtain ⟨fd26, F26⟩ := c.def_ 26 (d := d_L_made) rfl
  obtain ⟨fd27, F27⟩ := c.def_ 27 (d := d_L_told) rfl
  obtain ⟨fd28, F28⟩ := c.def_ 28 (d := d_L_deep) rfl
  obtain ⟨fd29, F29⟩ := c.def_ 29 (d := d_L_broad) rfl
  obtain ⟨fd30, F30⟩ := c.def_ 30 (d := d_L_children) rfl
  obtain ⟨fd31, F31⟩ := c.def_ 31 (d := d_L_fields_right) rfl
  obtain ⟨fd32, F32⟩ := c.def_ 32 (d := d_law) rfl
  obtain ⟨fd33, F33⟩ := c.def_ 33 (d := d_Plan_settings) rfl
  obtain ⟨fd34, F34⟩ := c.def_ 34 (d := d_Plan_below) rfl
  obtain ⟨fd35, F35⟩ := c.def_ 35 (d := d_Plan_with_all) rfl
  obtain ⟨fd36, F36⟩ := c.def_ 36 (d := d_Plan__len) rfl
  obtain ⟨fd37, F37⟩ := c.def_ 37 (d := d_Plan__contains) rfl
  obtain ⟨fd38, F38⟩ := c.def_ 38 (d := d_WorkerPlan__init) rfl
  obtain ⟨fd39, F39⟩ := c.def_ 39 (d := d_WorkerPlan__eq) rfl
  obtain ⟨fd40, F40⟩ := c.def_ 40 (d := d_SupervisorPlan__init) rfl
  obtain ⟨fd41, F41⟩ := c.def_ 41 (d := d_SupervisorPlan_below) rfl
  obtain ⟨fd42, F42⟩ := c.def_ 42 (d := d_SupervisorPlan__eq) rfl
  obtain ⟨fd43, F43⟩ := c.def_ 43 (d := d_BadSetting__init) rfl
  obtain ⟨fd44, F44⟩ := c.def_ 44 (d := d_BadChild__init) rfl
  obtain ⟨fd45, F45⟩ := c.def_ 45 (d := d_WorkerPlan_name) rfl
  obtain ⟨fd46, F46⟩ := c.def_ 46 (d := d_WorkerPlan_restart) rfl
  obtain ⟨fd47, F47⟩ := c.def_ 47 (d := d_WorkerPlan_opening) rfl
  obtain ⟨fd48, F48⟩ := c.def_ 48 (d := d_WorkerPlan_closing) rfl
  obtain ⟨fd49, F49⟩ := c.def_ 49 (d := d_WorkerPlan_deadline) rfl
  obtain ⟨fd50, F50⟩ := c.def_ 50 (d := d_WorkerPlan_refused) rfl
  obtain ⟨fd51, F51⟩ := c.def_ 51 (d := d_WorkerPlan_script) rfl
  obtain ⟨fd52, F52⟩ := c.def_ 52 (d := d_SupervisorPlan_name) rfl
  obtain ⟨fd53, F53⟩ := c.def_ 53 (d := d_SupervisorPlan_restart) rfl
  obtain ⟨fd54, F54⟩ := c.def_ 54 (d := d_SupervisorPlan_strategy) rfl
  obtain ⟨fd55, F55⟩ := c.def_ 55 (d := d_SupervisorPlan_most) rfl
  obtain ⟨fd56, F56⟩ := c.def_ 56 (d := d_SupervisorPlan_span) rfl
  obtain ⟨fd57, F57⟩ := c.def_ 57 (d := d_SupervisorPlan_deadline) rfl
  obtain ⟨fd58, F58⟩ := c.def_ 58 (d := d_SupervisorPlan_children) rfl
  refine ⟨{ sys := WHe.sysB_ok c0
            b_len := fr 0 rfl
            b_int := fr 1 rfl
            b_isinstance := fr 2 rfl
            b_range := fr 3 rfl
            b_enumerate := fr 4 rfl
            b_str := fr 5 rfl
            b_tuple := fr 6 rfl
            b_all := fr 7 rfl
            b_min := fr 8 rfl
            b_max := fr 9 rfl
            b_bool := fr 10 rfl
            b_repr := fr 11 rfl
            b_ValueError := fr 12 rfl
            g_Plan := gl 0 rfl
            g_BaseWorker := gl 1 rfl
            g_PlanError := gl 2 rfl
            g_BadSetting := gl 3 rfl
            g_BadChild := gl 4 rfl
            g_BadRoot := gl 5 rfl
            g_BadText := gl 6 rfl
            g_BadTick := gl 7 rfl
            g_BadReason := gl 8 rfl
            g_BadScript := gl 9 rfl
            g_BadWord := gl 10 rfl
            g_BadValue := gl 11 rfl
            g_BadEntry := gl 12 rfl
            g_BadInput := gl 13 rfl
            g_WorkerPlan := gl 14 rfl
            g_SupervisorPlan := gl 15 rfl
            g_is_word := gl 16 rfl
            g_is_name := gl 17 rfl
            g_is_between := gl 18 rfl
            g_is_failure := gl 19 rfl
            g_is_free_word := gl 20 rfl
            g_is_value := gl 21 rfl
            g_is_deed_value := gl 22 rfl
            g_has_add := gl 23 rfl
            g_is_added_plan := gl 24 rfl
            g_has_shape := gl 25 rfl
            g_is_deed := gl 26 rfl
            g_is_row := gl 27 rfl
            g_wrong_row := gl 28 rfl
            g_is_script := gl 29 rfl
            g_is_one_of := gl 30 rfl
            g_is_deadline := gl 31 rfl
            g_require := gl 32 rfl
            g__law_begun := gl 33 rfl
            g__law_next := gl 34 rfl
            g__law_of := gl 35 rfl
            g__law_scripts := gl 36 rfl
            g__law_odd := gl 37 rfl
            g__law_good := gl 38 rfl
            g__law_greatest := gl 39 rfl
            g__law_greater := gl 40 rfl
            g__law_sup := gl 41 rfl
            g__law_made := gl 42 rfl
            g__law_told := gl 43 rfl
            g__law_deep := gl 44 rfl
            g__law_broad := gl 45 rfl
            g__law_children := gl 46 rfl
            g__law_fields_right := gl 47 rfl
            g_law := gl 48 rfl
            g_RESERVED := gl 49 rfl
            g_OWN_REASONS := gl 50 rfl
            g_OWN_WORDS := gl 51 rfl
            g_RESTARTS := gl 52 rfl
            g_STRATEGIES := gl 53 rfl
            c_MOST_SIGNS := ci 0 rfl
            c_MOST_ROWS := ci 1 rfl
            c_MOST_DEEDS := ci 2 rfl
            c_MOST_WORK := ci 3 rfl
            c_MOST_TICKS := ci 4 rfl
            c_MOST_VALUE := ci 5 rfl
            c_MOST_WAIT := ci 6 rfl
            c_MOST_CHILDREN := ci 7 rfl
            c_MOST_DEPTH := ci 8 rfl
            c_MOST_WHOLE := ci 9 rfl
            c_LETTERS := cs 0 rfl
            c_SIGNS := cs 1 rfl
            q_RESERVED := fun H => He.tupB_ok (at_ c5 0 rfl) H
            q_OWN_REASONS := fun H => He.tupB_ok (at_ c5 1 rfl) H
            q_OWN_WORDS := fun H => He.tupB_ok (at_ c5 2 rfl) H
            q_RESTARTS := fun H => He.tupB_ok (at_ c5 3 rfl) H
            q_STRATEGIES := fun H => He.tupB_ok (at_ c5 4 rfl) H
            fd_is_word := fd0
            F_is_word := F0
            fd_is_name := fd1
            F_is_name := F1
            fd_is_between := fd2
            F_is_between := F2
            fd_is_failure := fd3
            F_is_failure := F3
            fd_is_free_word := fd4
            F_is_free_word := F4
            fd_is_value := fd5
            F_is_value := F5
            fd_is_deed_value := fd6
            F_is_deed_value := F6
            fd_has_add := fd7
            F_has_add := F7
            fd_is_added_plan := fd8
            F_is_added_plan := F8
            fd_has_shape := fd9
            F_has_shape := F9
            fd_is_deed := fd10
            F_is_deed := F10
            fd_is_row := fd11
            F_is_row := F11
            fd_wrong_row := fd12
            F_wrong_row := F12
            fd_is_script := fd13
            F_is_script := F13
            fd_is_one_of := fd14
            F_is_one_of := F14
            fd_is_deadline := fd15
            F_is_deadline := F15
            fd_require := fd16
            F_require := F16
            fd_L_begun := fd17
            F_L_begun := F17
            fd_L_next := fd18
            F_L_next := F18
            fd_L_of := fd19
            F_L_of := F19
            fd_L_scripts := fd20
            F_L_scripts := F20
            fd_L_odd := fd21
            F_L_odd := F21
            fd_L_good := fd22
            F_L_good := F22
            fd_L_greatest := fd23
            F_L_greatest := F23
            fd_L_greater := fd24
            F_L_greater := F24
            fd_L_sup := fd25
            F_L_sup := F25
            fd_L_made := fd26
            F_L_made := F26
            fd_L_told := fd27
            F_L_told := F27
            fd_L_deep := fd28
            F_L_deep := F28
            fd_L_broad := fd29
            F_L_broad := F29
            fd_L_children := fd30
            F_L_children := F30
            fd_L_fields_right := fd31
            F_L_fields_right := F31
            fd_law := fd32
            F_law := F32
            fd_Plan_settings := fd33
            F_Plan_settings := F33
            fd_Plan_below := fd34
            F_Plan_below := F34
            fd_Plan_with_all := fd35
            F_Plan_with_all := F35
            fd_Plan__len := fd36
            F_Plan__len := F36
            fd_Plan__contains := fd37
            F_Plan__contains := F37
            fd_WorkerPlan__init := fd38
            F_WorkerPlan__init := F38
            fd_WorkerPlan__eq := fd39
            F_WorkerPlan__eq := F39
            fd_SupervisorPlan__init := fd40
            F_SupervisorPlan__init := F40
            fd_SupervisorPlan_below := fd41
            F_SupervisorPlan_below := F41
            fd_SupervisorPlan__eq := fd42
            F_SupervisorPlan__eq := F42
            fd_BadSetting__init := fd43
            F_BadSetting__init := F43
            fd_BadChild__init := fd44
            F_BadChild__init := F44
            fd_WorkerPlan_name := fd45
            F_WorkerPlan_name := F45
            fd_WorkerPlan_restart := fd46
            F_WorkerPlan_restart := F46
            fd_WorkerPlan_opening := fd47
            F_WorkerPlan_opening := F47
            fd_WorkerPlan_closing := fd48
            F_WorkerPlan_closing := F48
            fd_WorkerPlan_deadline := fd49
            F_WorkerPlan_deadline := F49
            fd_WorkerPlan_refused := fd50
            F_WorkerPlan_refused := F50
            fd_WorkerPlan_script := fd51
            F_WorkerPlan_script := F51
            fd_SupervisorPlan_name := fd52
            F_SupervisorPlan_name := F52
            fd_SupervisorPlan_restart := fd53
            F_SupervisorPlan_restart := F53
            fd_SupervisorPlan_strategy := fd54
            F_SupervisorPlan_strategy := F54
            fd_SupervisorPlan_most := fd55
            F_SupervisorPlan_most := F55
            fd_SupervisorPlan_span := fd56
            F_SupervisorPlan_span := F56
            fd_SupervisorPlan_deadline := fd57
            F_SupervisorPlan_deadline := F57
            fd_SupervisorPlan_children := fd58
            F_SupervisorPlan_children := F58
            n_WorkerPlan_own_settings := He.noat_ok (at_ c6 0 rfl)
            n_WorkerPlan_own_count := He.noat_ok (at_ c6 1 rfl)
            n_WorkerPlan_own_depth := He.noat_ok (at_ c6 2 rfl)
            n_SupervisorPlan_own_settings := He.noat_ok (at_ c6 3 rfl)
            n_SupervisorPlan_own_children := He.noat_ok (at_ c6 4 rfl)
            n_SupervisorPlan_own_count := He.noat_ok (at_ c6 5 rfl)
            n_SupervisorPlan_own_depth := He.noat_ok (at_ c6 6 rfl)
            m_WorkerPlan_settings := WHe.methB_ok (at_ c7 0 rfl)
            m_WorkerPlan_below := WHe.methB_ok (at_ c7 1 rfl)
            m_WorkerPlan_with_all := WHe.methB_ok (at_ c7 2 rfl)
            m_WorkerPlan___len__ := WHe.methB_ok (at_ c7 3 rfl)
            m_WorkerPlan___contains__ := WHe.methB_ok (at_ c7 4 rfl)
            m_SupervisorPlan_below := WHe.methB_ok (at_ c7 5 rfl)
            m_SupervisorPlan_settings := WHe.methB_ok (at_ c7 6 rfl)
            m_SupervisorPlan_with_all := WHe.methB_ok (at_ c7 7 rfl)
            m_SupervisorPlan___len__ := WHe.methB_ok (at_ c7 8 rfl)
            m_SupervisorPlan___contains__ := WHe.methB_ok (at_ c7 9 rfl)
            p_WorkerPlan_name := WHe.propB_ok (at_ c8 0 rfl)
            p_WorkerPlan_restart := WHe.propB_ok (at_ c8 1 rfl)
            p_WorkerPlan_opening := WHe.propB_ok (at_ c8 2 rfl)
            p_WorkerPlan_closing := WHe.propB_ok (at_ c8 3 rfl)
            p_WorkerPlan_deadline := WHe.propB_ok (at_ c8 4 rfl)
            p_WorkerPlan_refused := WHe.propB_ok (at_ c8 5 rfl)
            p_WorkerPlan_script := WHe.propB_ok (at_ c8 6 rfl)
            p_SupervisorPlan_name := WHe.propB_ok (at_ c8 7 rfl)
            p_SupervisorPlan_restart := WHe.propB_ok (at_ c8 8 rfl)
            p_SupervisorPlan_strategy := WHe.propB_ok (at_ c8 9 rfl)
            p_SupervisorPlan_most := WHe.propB_ok (at_ c8 10 rfl)
            p_SupervisorPlan_span := WHe.propB_ok (at_ c8 11 rfl)
            p_SupervisorPlan_deadline := WHe.propB_ok (at_ c8 12 rfl)
            p_SupervisorPlan_children := WHe.propB_ok (at_ c8 13 rfl)
            mk_WorkerPlan := He.mkr_ok (He.ba (at_ c9 0 rfl)).1
            dc_WorkerPlan := WHe.datB_ok (He.ba (at_ c9 0 rfl)).2
            mk_SupervisorPlan := He.mkr_ok (He.ba (at_ c9 1 rfl)).1
            dc_SupervisorPlan := WHe.datB_ok (He.ba (at_ c9 1 rfl)).2
            k_WorkerPlan_Plan := of_decide_eq_true (at_ ca 0 rfl)
            k_WorkerPlan_BaseWorker := of_decide_eq_true (at_ ca 1 rfl)
            k_WorkerPlan_WorkerPlan := of_decide_eq_true (at_ ca 2 rfl)
            k_WorkerPlan_SupervisorPlan := of_decide_eq_true (at_ ca 3 rfl)
            k_SupervisorPlan_Plan := of_decide_eq_true (at_ ca 4 rfl)
            k_SupervisorPlan_BaseWorker := of_decide_eq_true (at_ ca 5 rfl)
            k_SupervisorPlan_WorkerPlan := of_decide_eq_true (at_ ca 6 rfl)
            k_SupervisorPlan_SupervisorPlan := of_decide_eq_true (at_ ca 7 rfl)
            x_BadSetting := WXE.xcB_ok F.excBase_ValueError F.store_ValueError (excB_ok (at_ x0 0 rfl)).1
            o_BadSetting := WXO.oexB_ok (WXE.xcB_ok F.excBase_ValueError F.store_ValueError (excB_ok (at_ x0 0 rfl)).1) (excB_ok (at_ x0 0 rfl)).2.1
            i_BadSetting := (excB_ok (at_ x0 0 rfl)).2.2.1
            t_BadSetting := (excB_ok (at_ x0 0 rfl)).2.2.2.1
            n_BadSetting := (excB_ok (at_ x0 0 rfl)).2.2.2.2.1
            e_BadSetting := (excB_ok (at_ x0 0 rfl)).2.2.2.2.2.1
            vt_BadSetting := (excB_ok (at_ x0 0 rfl)).2.2.2.2.2.2.1
            vp_BadSetting := (excB_ok (at_ x0 0 rfl)).2.2.2.2.2.2.2.1
            vx_BadSetting := (excB_ok (at_ x0 0 rfl)).2.2.2.2.2.2.2.2
            x_BadChild := WXE.xcB_ok F.excBase_ValueError F.store_ValueError (excB_ok (at_ x0 1 rfl)).1
            o_BadChild := WXO.oexB_ok (WXE.xcB_ok F.excBase_ValueError F.store_ValueError (excB_ok (at_ x0 1 rfl)).1) (excB_ok (at_ x0 1 rfl)).2.1
            i_BadChild := (excB_ok (at_ x0 1 rfl)).2.2.1
            t_BadChild := (excB_ok (at_ x0 1 rfl)).2.2.2.1
            n_BadChild := (excB_ok (at_ x0 1 rfl)).2.2.2.2.1
            e_BadChild := (excB_ok (at_ x0 1 rfl)).2.2.2.2.2.1
            vt_BadChild := (excB_ok (at_ x0 1 rfl)).2.2.2.2.2.2.1
            vp_BadChild := (excB_ok (at_ x0 1 rfl)).2.2.2.2.2.2.2.1
            vx_BadChild := (excB_ok (at_ x0 1 rfl)).2.2.2.2.2.2.2.2
            r_PlanError := (basB_ok x1).1
            s_PlanError := (basB_ok x1).2.1
            v_PlanError := (basB_ok x1).2.2
            kt := WPv.ktB_ok x2 (WHe.datB_ok (He.ba (at_ c9 0 rfl)).2) (WHe.datB_ok (He.ba (at_ c9 1 rfl)).2) ⟨of_decide_eq_true (at_ ca 0 rfl), of_decide_eq_true (at_ ca 1 rfl), of_decide_eq_true (at_ ca 2 rfl), of_decide_eq_true (at_ ca 3 rfl)⟩ ⟨of_decide_eq_true (at_ ca 4 rfl), of_decide_eq_true (at_ ca 5 rfl), of_decide_eq_true (at_ ca 6 rfl), of_decide_eq_true (at_ ca 7 rfl)⟩
            kd_WorkerPlan__init := fun oc od osl e => by have z := at_ x3 0 rfl; have z2 : kwB K (d_WorkerPlan__init.loc K) (kwsV K kws_WorkerPlan__init) = true := z; unfold kwB at z2; rw [e] at z2; exact He.kwdB_ok z2
            kd_SupervisorPlan__init := fun oc od osl e => by have z := at_ x3 1 rfl; have z2 : kwB K (d_SupervisorPlan__init.loc K) (kwsV K kws_SupervisorPlan__init) = true := z; unfold kwB at z2; rw [e] at z2; exact He.kwdB_ok z2
            sd := fun H => emB_ok x4 H
          }⟩
abbrev R : PySem.W.OpenRow := PySem.W.OpenLaw.row PySem.Challenge.rw_watchtree_k02_plans_refused
abbrev hk : PySem.W.Hook := WHg.hookL 1000 chk fns
def ob (s : PySem.W.SharedT) : He.AlD := WHg.obsLG 1000 chk fns (HandSHeadRun.getT s)
theorem ob_eq (s : PySem.W.SharedT) : ob s = hk.obs s.abs := WHg.obsLG_eq (HandSHeadRun.getT_eq s)
def loose : List Str := (["Plan", "BaseWorker", "PlanError", "BadSetting", "BadChild", "BadRoot", "BadText", "BadTick", "BadReason", "BadScript", "BadWord", "BadValue", "BadEntry", "BadInput", "LETTERS", "SIGNS"] : List Str) ++ (["MOST_SIGNS", "RESERVED", "OWN_REASONS", "is_word", "is_name", "is_between", "is_failure", "MOST_ROWS", "MOST_DEEDS", "MOST_WORK", "MOST_TICKS", "MOST_VALUE", "OWN_WORDS", "is_free_word", "is_value", "is_deed_value"] : List Str) ++ (["has_add", "is_added_plan", "has_shape", "is_deed", "is_row", "wrong_row", "is_script", "RESTARTS", "STRATEGIES", "MOST_WAIT", "MOST_CHILDREN", "MOST_DEPTH", "MOST_WHOLE", "is_one_of", "is_deadline", "require"] : List Str) ++ (["WorkerPlan", "SupervisorPlan", "_law_begun", "_law_next", "_law_of", "_law_scripts", "_law_odd", "_law_good", "_law_greatest", "_law_greater", "_law_sup", "_law_made", "_law_told", "_law_deep", "_law_broad", "_law_children"] : List Str) ++ (["_law_fields_right"] : List Str)
end W02

set_option Elab.async false
set_option linter.all false
set_option maxRecDepth 100000
set_option maxHeartbeats 0
namespace W02
open PySem PySem.Spec PyProof.Rows L2
theorem run (w : World) : HandSHeadRun.RunEq R (PySem.W.view R.prog [71]) hk ob 9000 loose w := by
  intro os
  kernel_rfl
end W02

set_option Elab.async false
set_option linter.all false
set_option maxRecDepth 100000
set_option maxHeartbeats 2000000
/-! enumerate over a tuple or a list, from any count -/
namespace WEn
open PySem PySem.Spec PyProof.Rows L2
/-- a tuple (t) or a list -/
def SqB (t : Bool) (K : PySem.W.Frag) (H : Hp) (a : Addr) (xs : List V) : Prop := match t with
  | true => SqT K H a xs
  | false => SqL K H a xs
def IsB (t : Bool) (h : Heap) (a : Addr) (its : Array Value) : Prop := match t with
  | true => h.IsTuple a its
  | false => h.IsList a its
def ItB (t : Bool) (h : Heap) (it a : Addr) (i : Nat) : Prop := match t with
  | true => h.IsTupleIter it a i
  | false => h.IsListIter it a i
section
variable {X : Cx} {pins : List (Addr × Obj)} {σ : L2.St} {H : Hp} {s : Shared} {t : Bool} {a it : Addr} {xs ys : List V}
theorem of_sq (I : Inv X pins σ H s) (h : SqB t X.K H a xs) : ∃ its : List Value, Vals xs its ∧ IsB t s.heap a its.toArray ∧ xs.length ≤ sizeLine := by
  cases t with
  | true =>
    obtain ⟨its, r, p, z⟩ := I.tuple h
    exact ⟨its, r, p, z⟩
  | false =>
    obtain ⟨its, r, p, z⟩ := I.list h
    exact ⟨its, r, p.isList, z⟩
theorem sq_inj (I : Inv X pins σ H s) (h : SqB t X.K H a xs) (h' : SqB t X.K H a ys) : xs = ys := by
  cases t with
  | true => exact I.tuple_inj h h'
  | false => exact I.list_inj h h'
theorem itB_obj {h : Heap} {i : Nat} (x : ItB t h it a i) : ∃ o, h.get? it = some o ∧ ∀ v, o.data ≠ .cell v := by
  cases t with
  | true =>
    obtain ⟨o, e, _, d⟩ := x
    exact ⟨o, e, fun v z => by rw [d] at z; cases z⟩
  | false =>
    obtain ⟨o, e, _, d⟩ := x
    exact ⟨o, e, fun v z => by rw [d] at z; cases z⟩
theorem itB_at {h h' : Heap} {i : Nat} (x : ItB t h it a i) (k : ∀ o, h.get? it = some o → h'.get? it = some o) : ItB t h' it a i := by
  cases t with
  | true => exact Heap.IsTupleIter.at x k
  | false => exact Heap.IsListIter.at x k
theorem drawsB {prog : Program} {w : World} {A : Around} (hh : A.handled = none) (hne : a ≠ it) (its : Array Value) :
    Draws prog w A it [it, a] its.size (fun i v => its[i]? = some v) (fun i h => ItB t h it a i ∧ IsB t h a its) := by
  cases t with
  | true => exact Draws.tuple hh it a hne its
  | false => exact Draws.list hh it a hne its
end
/-- the sequence at a as it stands at each turn, each item in a new pair with its count -/
def ItE (t : Bool) (c : Int) (K : PySem.W.Frag) (a : Addr) : It :=
  ⟨fun i H => ∃ (xs : List V) (x : V), SqB t K H a xs ∧ xs[i]? = some x, fun i H v H' => ∃ T x, v = .ref T ∧ H T = none ∧ H' = upd H T (.tup [.int (c + (i : Nat)), x]) ∧ ∀ xs, SqB t K H a xs → xs[i]? = some x,
    fun i H => ∃ xs : List V, SqB t K H a xs ∧ xs.length = i⟩
theorem turn_enumC {P : Program} {w : World} {K : PySem.W.Frag} {elts : List Expr} {kk : Nat} {tpos : Pos} (t : Bool) (c : Int) (a e it : Addr) (hai : a ≠ it) (hae : a ≠ e) :
    Turn P w K (.Tuple elts kk tpos) (ItE t c K a) [e, it] e (fun i h => (∃ old, IsEnum h e it (c + (i : Nat)) old) ∧ ItB t h it a i ∧ e ≠ it) where
  mem := by simp
  obj := fun i h st b hb => by
    obtain ⟨⟨old, he⟩, hi, _⟩ := st
    have e' : b = e ∨ b = it := by simpa using hb
    rcases e' with z | z
    · rw [z]; exact ⟨_, he, fun v q => nomatch q⟩
    · rw [z]; exact itB_obj hi
  keep := fun i h h' st k => let ⟨⟨old, he⟩, hi, hne⟩ := st; ⟨⟨old, k e (by simp) _ he⟩, itB_at hi fun o q => k it (by simp) o q, hne⟩
  item := by
    intro X hP hw hK hc i pins s σ H E I hf st hg
    subst hP hw hK
    obtain ⟨⟨old, he⟩, hit, hne⟩ := st
    obtain ⟨xs, x, hq, hx⟩ := hg
    obtain ⟨its, rv, p, hz⟩ := of_sq I hq
    obtain ⟨u, hu, ru⟩ := rv.get hx
    have hel : e < s.heap.objs.size := Heap.lt_size he
    have hil : it < s.heap.objs.size := by obtain ⟨_, q, _⟩ := itB_obj hit; exact Heap.lt_size q
    have hlt : i < its.toArray.size := by
      rw [List.size_toArray, ← rv.length]
      exact (List.getElem?_eq_some_iff.mp hx).1
    refine wpAny_pyNext_enum_itemC (drawsB (A := X.A.in1) (t := t) (a := a) (I.ok.hd hc) hai its.toArray) he ⟨hit, p⟩ hlt hne (by simp [hne, Ne.symm hae]) fun x' h' tk hP ho hst hT hsz hk => ?_
    have hxu : x' = u := by
      rw [show its.toArray[i]? = its[i]? by simp, hu] at hP
      exact (Option.some.inj hP).symm
    subst hxu
    refine ⟨_, rfl, wpAny_letOwnedTupleGo_enum (s := { s with heap := h', toks := tk + 1 }) ho fun h'' he' sb => ?_⟩
    have hT2 : h''.get? s.heap.objs.size = some { cls := .type "tuple", data := .seq #[.int (c + (i : Nat)) tk, x'] } := (sb.2 _ (Nat.ne_of_gt hel)).trans hT
    have new : ObjOk X.prog X.w (upd H s.heap.objs.size (.tup [.int (c + (i : Nat)), x])) h'' s.heap.objs.size (.tup [.int (c + (i : Nat)), x]) :=
      ⟨by show 2 ≤ sizeLine; decide, [.int (c + (i : Nat)) tk, x'], .cons ⟨_, rfl⟩ (.cons ru .nil), ⟨_, hT2, rfl, _, rfl⟩⟩
    have I1 : Inv X pins σ (upd H s.heap.objs.size (.tup [.int (c + (i : Nat)), x])) { s with heap := h'', toks := tk + 1 } :=
      I.turnedNew (ch := [e, it]) (fun b ob hb q => (sb.2 b (fun z => hb (by simp [z]))).trans (hk b ob (fun z => hb (by simp [z])) (fun z => hb (by simp [z])) q)) hf (Nat.le_refl _) new
    refine ⟨.ref s.heap.objs.size, _, I1, rfl, ⟨_, x, rfl, I.hok.fresh (Nat.le_refl _), rfl, fun ys hy => by rw [sq_inj I hy hq]; exact hx⟩, ⟨⟨x', ?_⟩, itB_at hst.1 fun o q => (sb.2 it (Ne.symm hne)).trans q, hne⟩, fun b hb => ?_⟩
    · have e1 : c + ((i + 1 : Nat) : Int) = c + (i : Nat) + 1 := by omega
      rw [e1]; exact he'
    · have hb' : b < s.heap.objs.size := by
        have e' : b = e ∨ b = it := by simpa using hb
        rcases e' with z | z
        · rw [z]; exact hel
        · rw [z]; exact hil
      rw [upd_ne (Nat.ne_of_lt hb')]
      exact (hf b hb).1
  done := by
    intro X hP hw hK hc i pins s σ H E I hf st hg
    subst hP hw hK
    obtain ⟨⟨old, he⟩, hit, hne⟩ := st
    obtain ⟨xs, hq, hx⟩ := hg
    obtain ⟨its, rv, p, hz⟩ := of_sq I hq
    obtain ⟨f0, f1, f2, f3, f4, f5⟩ := hf it (by simp)
    have hn : its.toArray.size = i := by rw [List.size_toArray, ← rv.length, hx]
    refine wpAny_pyNext_enum_endD (drawsB (A := X.A.in1) (t := t) (a := a) (I.ok.hd hc) hai its.toArray) he ⟨by rw [hn]; exact hit, p⟩ fun h' eb => ⟨rfl, I.turned (t' := s.toks) (fun b o hb q => eb b o hb q) f0 f1 f3 f4 f5⟩
  self := fun A i s Q E st h => let ⟨⟨_, he⟩, _⟩ := st; wpAny_pyIter_enum he h
theorem meets_enum0 {v : Value} {o : Obj} {G : Heap → Prop} (B : Begins v o G) :
    Meets (Builtin.«enumerate.__new__» ⟨[.type "enumerate", v], []⟩) (fun _ R s => G s.heap ∧ R (.ok (.ret (.ref (s.heap.push o).objs.size)))
      { s with heap := (s.heap.push o).push { cls := .type "enumerate", data := .fields #[.none, .bool false, .ref s.heap.objs.size, rawInt 0, .none, .none] } }) :=
  .of_wp fun prog w A R s h => by
    obtain ⟨hp, g, d, tk, os⟩ := s
    obtain ⟨h1, h⟩ := h
    have hsub := sub_enumerate
    have q1 : ∀ {A' : Around} {E : Value → Shared → Prop} {Q : Value → Shared → Prop}, Q (.ref hp.objs.size) ⟨hp.push o, g, d, tk, os⟩ → wpAny (model prog w) A' (pyIter v) Q E ⟨hp, g, d, tk, os⟩ :=
      fun q => B.iter prog w _ _ ⟨hp, g, d, tk, os⟩ _ h1 q
    wp_walk using q1
    refine wpAny_stack_any fun st => wpAny_pure ?_
    split
    · rename_i c _ _ _ _ _
      cases (c == Value.type "enumerate") <;>
        · wp_walk using q1
          exact ⟨_, rfl, h⟩
    · wp_walk using q1
      exact ⟨_, rfl, h⟩
section
variable {prog : Program} {w : World} {A : Around} {E : Value → Shared → Prop} {s : Shared}
theorem enum_begins0 {v : Value} {o : Obj} {G : Heap → Prop} {Q : Value → Shared → Prop} (B : Begins v o G) (h1 : G s.heap)
    (h : ∀ h', IsEnum h' (s.heap.objs.size + 1) s.heap.objs.size 0 .none → h'.get? s.heap.objs.size = some o → (∀ b o, s.heap.get? b = some o → h'.get? b = some o) → Q (.ref (s.heap.objs.size + 1)) { s with heap := h' }) :
    wpAny (model prog w) A (call (.type "enumerate") [v]) Q E s := by
  refine callType_new F.called_enumerate (by decide) (F.typeCall_enumerate_1 _) (F.newCall_enumerate_1 _) (fun obj => F.args_object_init_2 obj _) F.entry_enumerate_new (meets_enum0 B) ⟨h1, ?_⟩
  have hz : (s.heap.push o).objs.size = s.heap.objs.size + 1 := Heap.size_push ..
  have g0 : ((s.heap.push o).push { cls := .type "enumerate", data := .fields #[.none, .bool false, .ref s.heap.objs.size, rawInt 0, .none, .none] }).get? (s.heap.push o).objs.size = some _ := Heap.get?_push_size _ rfl
  show _ ∧ _
  rw [hz] at g0 ⊢
  exact ⟨⟨_, g0, rfl⟩, h _ g0 (Heap.get?_push_of_some _ (Heap.get?_push_size _ B.free)) fun b o x => Heap.get?_push_of_some _ (Heap.get?_push_of_some _ x)⟩
end
/-- enumerate(tuple) -/
def iEnumT (K : PySem.W.Frag) (ta : TA) : TI := fun σ H R => ta σ H fun vs H1 => ∃ a xs, vs = [.ref a] ∧ SqT K H1 a xs ∧ R (ItE true 0 K a) H1
theorem pi_enumT {X : Cx} {e : Expr} {ta : TA} {p pos tpos : Pos} {elts : List Expr} {kk : Nat} (hg : Gl X "enumerate") (hm : X.mg "enumerate" = none) (ha : PA X [e] ta) (hs : starEach [e] X.env = [(false, eval e X.env)] := by rfl) :
    PI X (.Tuple elts kk tpos) (.Call (.Name "enumerate" p) [e] [] pos) (iEnumT X.K ta) := by
  refine ⟨fun pins s σ H R I h => ?_⟩
  refine Call_ (ld_blt I hg hm boot_enumerate (PyProof.Rows.callWith_type1 (thn (ha.run pos pins s σ H _ I h) fun us s1 ⟨vs, H1, I1, r1, q1⟩ => ?_) hs rfl))
  obtain ⟨a, xs, rfl, hq, q⟩ := q1
  cases r1 with
  | cons r rr =>
    cases rr
    cases r
    obtain ⟨its, rv, p', hz⟩ := I1.tuple hq
    have hal : a < s1.heap.objs.size := by obtain ⟨o, ho, _⟩ := id p'; exact Heap.lt_size ho
    refine enum_begins0 (begins_tuple a its.toArray) p' fun h' he hit hk => wpAny_pyIter_enum he ?_
    have I2 : Inv X pins σ H1 { s1 with heap := h' } := I1.kept (t' := s1.toks) hk
    refine ⟨s1.heap.objs.size + 1, [s1.heap.objs.size + 1, s1.heap.objs.size], _, _, H1, rfl, I2, turn_enumC true 0 a (s1.heap.objs.size + 1) s1.heap.objs.size (Nat.ne_of_lt hal) (Nat.ne_of_lt (Nat.lt_succ_of_lt hal)), ⟨⟨.none, he⟩, ⟨_, hit, rfl, rfl⟩, Nat.succ_ne_self _⟩, fun b hb => ?_, q⟩
    have e' : b = s1.heap.objs.size + 1 ∨ b = s1.heap.objs.size := by simpa using hb
    have hle : s1.heap.objs.size ≤ b := by
      rcases e' with z | z
      · rw [z]; exact Nat.le_succ _
      · rw [z]; exact Nat.le_refl _
    exact I1.fpOk hle (I1.hok.fresh hle)
theorem callWith_typeK {M : Model} {A : Around} {E : Value → Shared → Prop} {s : Shared} {env : Env} {pos : Pos} {T : String} {e : Expr} {rest : List Expr} {kws : List Keyword} {Q : Value → Shared → Prop} (hall : (backToKw pos (keywordEach kws env)).all (·.1.isSome) = true)
    (h : wpAny M A (spliced (backTo pos (starEach (e :: rest) env))) (fun vs s1 => wpAny M A (evalAll ((backToKw pos (keywordEach kws env)).map (·.2))) (fun ks s2 => wpAny M A (call (.type T) vs (((backToKw pos (keywordEach kws env)).filterMap (·.1)).zip ks)) Q E s2) E s1) E s)
    (hpl : ((backTo pos (starEach (e :: rest) env)).any (·.1) || (backToKw pos (keywordEach kws env)).any (·.1.isNone)) = false := by rfl) (he : starEach (e :: rest) env = (false, eval e env) :: starEach rest env := by rfl) :
    wpAny M A (callWith pos (.type T) [] (backTo pos (starEach (e :: rest) env)) (backToKw pos (keywordEach kws env))) Q E s := by
  unfold callWith
  refine wpAny_bind (wpAny_holding (wpAny_mono (evalArgs_kw2 (Q := fun a s1 => wpAny M A (call (.type T) ([] ++ a.pos) a.kw) Q E s1) hall h he) (fun a s1 h1 => wpAny_bind (wpAny_standAt ?_)) fun _ _ q => q))
  simp only [hpl]
  refine wpAny_bind (wpAny_pure ?_)
  exact wpAny_bind (wpAny_mono h1 (fun r s2 hr => wpAny_bind (wpAny_holding (wpAny_point (wpAny_pure hr)))) fun _ _ q => q)
/-- enumerate(list, start=c) -/
def iEnumS (K : PySem.W.Frag) (ta tk : TA) : TI := fun σ H R => ta σ H fun vs H1 => tk σ H1 fun zs H2 => ∃ a xs c, vs = [.ref a] ∧ zs = [.int c] ∧ SqL K H2 a xs ∧ -(2 ^ 63) ≤ c ∧ c < 2 ^ 63 ∧ R (ItE false c K a) H2
theorem pi_enumS {X : Cx} {e : Expr} {ta tk : TA} {p pos tpos : Pos} {elts : List Expr} {kk : Nat} {kws : List Keyword} (hg : Gl X "enumerate") (hm : X.mg "enumerate" = none) (ha : PA X [e] ta) (hkw : PK X kws tk)
    (hall : (backToKw pos (keywordEach kws X.env)).all (·.1.isSome) = true := by rfl) (hks : (backToKw pos (keywordEach kws X.env)).filterMap (·.1) = [("start" : Str)] := by rfl)
    (he : starEach [e] X.env = (false, eval e X.env) :: starEach [] X.env := by rfl) (hpl : ((backTo pos (starEach [e] X.env)).any (·.1) || (backToKw pos (keywordEach kws X.env)).any (·.1.isNone)) = false := by rfl) :
    PI X (.Tuple elts kk tpos) (.Call (.Name "enumerate" p) [e] kws pos) (iEnumS X.K ta tk) := by
  refine ⟨fun pins s σ H R I h => ?_⟩
  refine wpAny_Call_Name_kw (ld_blt I hg hm boot_enumerate (callWith_typeK hall (thn (ha.run pos pins s σ H _ I h) fun us s1 ⟨vs, H1, I1, r1, q1⟩ => ?_) hpl he))
  refine thn (hkw.run pos pins s1 σ H1 _ I1 q1) fun ws s2 ⟨zs, H2, I2, rz, a, xs, c, e1, e2, hq, hc0, hc1, q⟩ => ?_
  subst e1 e2
  rw [hks]
  cases r1 with
  | cons r rr =>
    cases rr
    cases r
    cases rz with
    | cons rk rr =>
      cases rr
      obtain ⟨t, rfl⟩ := rk
      obtain ⟨its, rv, p', hz⟩ := I2.list hq
      have hal : a < s2.heap.objs.size := p'.lt
      refine enum_begins_start (begins_list a its.toArray) p'.isList hc0 hc1 fun h' he hit hz hk => wpAny_pyIter_enum he ?_
      have I3 : Inv X pins σ H2 { s2 with heap := h' } := I2.kept (t' := s2.toks) hk
      refine ⟨s2.heap.objs.size + 1, [s2.heap.objs.size + 1, s2.heap.objs.size], _, _, H2, rfl, I3, turn_enumC false c a (s2.heap.objs.size + 1) s2.heap.objs.size (Nat.ne_of_lt hal) (Nat.ne_of_lt (Nat.lt_succ_of_lt hal)), ⟨⟨.none, ?_⟩, ⟨_, hit, rfl, rfl⟩, Nat.succ_ne_self _⟩, fun b hb => ?_, q⟩
      · rw [show c + ((0 : Nat) : Int) = c by omega]
        exact he
      · have e' : b = s2.heap.objs.size + 1 ∨ b = s2.heap.objs.size := by simpa using hb
        have hle : s2.heap.objs.size ≤ b := by
          rcases e' with z | z
          · rw [z]; exact Nat.le_succ _
          · rw [z]; exact Nat.le_refl _
        exact I2.fpOk hle (I2.hok.fresh hle)
theorem walk_enumC {K : PySem.W.Frag} {t : Bool} {c : Int} {a : Addr} {xs : List V} : Walk (ItE t c K a) xs.length (fun H => SqB t K H a xs) (YPair (fun i => some (.int (c + (i : Nat)))) (fun i => xs[i]?)) := by
  refine ⟨fun i _ hi q => ⟨xs, xs[i], q, by simp [hi]⟩, fun _ q => ⟨xs, q, rfl⟩, fun i H v H' _ q y => ?_⟩
  obtain ⟨T, x, h1, h2, h3, h4⟩ := y
  exact ⟨T, .int (c + (i : Nat)), x, h1, h2, h3, rfl, h4 xs q⟩
end WEn

set_option Elab.async false
set_option linter.all false
set_option maxRecDepth 100000
set_option maxHeartbeats 2000000
/-! zip(tuple, list, strict=True) -/
namespace WZs
open PySem PySem.Spec PyProof.Rows L2 WEn
abbrev ZS (h : Heap) (z TI TO : Addr) (f0 : Value) : Prop := h.get? z = some { cls := .type "zip", dict := none, data := .fields #[f0, .bool false, .bool true, .ref TI, .ref TO], slots := #[] }
section
variable {prog : Program} {w : World} {A : Around} {E : Value → Shared → Prop} {s : Shared} {it : Addr} {fp : List Addr} {n i : Nat} {P : Nat → Value → Prop} {St : Nat → Heap → Prop}
/-- the next of an iterator, or None where it is over -/
theorem draw_more {Q : Option Value → Shared → Prop} (D : Draws prog w A it fp n P St) (st : St i s.heap) (hi : i < n) (h : ∀ x h' tk, P i x → St (i + 1) h' → Heap.SameBut it s.heap h' → Q (some x) { s with heap := h', toks := tk }) :
    wpAny (model prog w) A (Builtin.SmallTypes.nextOrEnd (.ref it)) Q E s := by
  unfold Builtin.SmallTypes.nextOrEnd
  exact wpAny_bind (wpAny_attempt (D.item i s _ _ hi st fun x h' tk a b c => wpAny_pure (h x h' tk a b c)))
theorem draw_over {Q : Option Value → Shared → Prop} (D : Draws prog w A it fp n P St) (st : St n s.heap) (h : ∀ h', Heap.ExtBut it s.heap h' → Q none { s with heap := h' }) :
    wpAny (model prog w) A (Builtin.SmallTypes.nextOrEnd (.ref it)) Q E s := by
  unfold Builtin.SmallTypes.nextOrEnd
  refine wpAny_bind (wpAny_attempt (D.done s _ _ st fun h' e he hx => ?_))
  obtain ⟨o, ho, hc⟩ := hx
  refine wpAny_bind (wpAny_isInstance (T := "StopIteration") (b := true) ⟨o, ho, hc⟩ isSubtype_stop ?_)
  exact wpAny_pure (h h' he)
end
section
variable {prog : Program} {w : World} {A : Around} {E : Value → Shared → Prop} {s : Shared} {z TI TO i1 i2 : Addr} {fp1 fp2 : List Addr} {n i : Nat} {P1 P2 : Nat → Value → Prop} {St1 St2 : Nat → Heap → Prop} {a1 a2 : Value}
theorem zs_item {Q : Value → Shared → Prop} (S : ZipSep2 z TI TO i1 i2 fp1 fp2) (D1 : Draws prog w A i1 fp1 n P1 St1) (D2 : Draws prog w A i2 fp2 n P2 St2)
    (hz : ZS s.heap z TI TO .none) (hTI : IsTupOf2 s.heap TI (.ref i1) (.ref i2)) (hTO : IsTupOf2 s.heap TO a1 a2) (st1 : St1 i s.heap) (st2 : St2 i s.heap) (hlt : i < n)
    (hQ : ∀ x1 x2 h' tk, P1 i x1 → P2 i x2 → ZS h' z TI TO (rawInt s.heap.objs.size) → IsTupOf2 h' TO x1 x2 → St1 (i + 1) h' → St2 (i + 1) h' → IsTupOf2 h' s.heap.objs.size x1 x2 →
      (∀ c o, c ≠ z → c ≠ TO → c ≠ i1 → c ≠ i2 → s.heap.get? c = some o → h'.get? c = some o) → Q (.ref s.heap.objs.size) { s with heap := h', toks := tk }) :
    wpAny (model prog w) A (Builtin.«zip.__next__» ⟨[.ref z], []⟩) (fun fin s' => ∃ v, fin = .done (.ret v) ∧ Q v s') E s := by
  obtain ⟨hp, g, d, tk0, os⟩ := s
  show wpAny _ _ (field (.ref z) 2 >>= _) _ _ _
  refine wpAny_bind (wpAny_field hz rfl (x := .bool true) rfl ?_)
  show wpAny _ _ (field (.ref z) 3 >>= _) _ _ _
  refine wpAny_bind (wpAny_field hz rfl (x := .ref TI) rfl ?_)
  refine wpAny_bind (wpAny_seqItems hTI rfl ?_)
  show wpAny _ _ (Builtin.SmallTypes.ownedTupleIsFree (.ref z) >>= _) _ _ _
  refine wpAny_bind ?_
  unfold Builtin.SmallTypes.ownedTupleIsFree
  refine wpAny_bind (wpAny_field hz rfl (x := .none) rfl (wpAny_pure ?_))
  simp only [if_true]
  refine wpAny_bind (wpAny_rule ?_)
  refine wpAny_bind (wpAny_field hz rfl (x := .ref TO) rfl ?_)
  refine wpAny_bind (wpAny_setField_rec hz (by simp) fun g0 hz0 hs0 => ?_)
  replace hz0 : ZS g0 z TI TO .ellipsis := hz0
  replace hs0 : Heap.SameBut z hp g0 := hs0
  refine wpAny_bind ?_
  simp only [List.zipIdx_cons, List.zipIdx_nil, List.forIn_cons, List.forIn_nil]
  refine wpAny_bind (wpAny_bind (wpAny_onRaise ?_))
  show wpAny _ _ (Builtin.SmallTypes.nextOrEnd (.ref i1)) _ _ ⟨g0, g, d, tk0, os⟩
  refine draw_more (s := ⟨g0, g, d, tk0, os⟩) D1 (D1.over st1 hs0 S.zf1) hlt fun x1 p1 tk1 hx1 sn1 hp1 => ?_
  replace hp1 : Heap.SameBut i1 g0 p1 := hp1
  have hU1 : IsTupOf2 p1 TO a1 a2 := hp1.extBut _ _ S.Ti1 (hs0.extBut _ _ S.TOz hTO)
  refine wpAny_bind (wpAny_seqItems (s := ⟨p1, g, d, tk1, os⟩) hU1 rfl ?_)
  refine wpAny_bind (updateSeq_IsTupOf2 (s := ⟨p1, g, d, tk1, os⟩) hU1 fun g1 hT1 hs1 => ?_)
  replace hT1 : IsTupOf2 g1 TO x1 a2 := hT1
  replace hs1 : Heap.SameBut TO p1 g1 := hs1
  refine wpAny_bind (wpAny_letGo (wpAny_pure ?_))
  refine wpAny_bind (wpAny_bind (wpAny_onRaise ?_))
  show wpAny _ _ (Builtin.SmallTypes.nextOrEnd (.ref i2)) _ _ ⟨g1, g, d, tk1, os⟩
  refine draw_more (s := ⟨g1, g, d, tk1, os⟩) D2 (D2.over (D2.over (D2.over st2 hs0 S.zf2) hp1 S.sep1_2) hs1 S.Tf2) hlt fun x2 p2 tk2 hx2 sn2 hp2 => ?_
  replace hp2 : Heap.SameBut i2 g1 p2 := hp2
  have hU2 : IsTupOf2 p2 TO x1 a2 := hp2.extBut _ _ S.Ti2 hT1
  refine wpAny_bind (wpAny_seqItems (s := ⟨p2, g, d, tk2, os⟩) hU2 rfl ?_)
  refine wpAny_bind (updateSeq_IsTupOf2 (s := ⟨p2, g, d, tk2, os⟩) hU2 fun g2 hT2 hs2 => ?_)
  replace hT2 : IsTupOf2 g2 TO x1 x2 := hT2
  replace hs2 : Heap.SameBut TO p2 g2 := hs2
  refine wpAny_bind (wpAny_letGo (wpAny_pure (wpAny_pure ?_)))
  refine wpAny_bind (wpAny_seqItems (s := ⟨g2, g, d, tk2, os⟩) hT2 rfl ?_)
  refine wpAny_bind (wpAny_newTuple ?_)
  have hsz : g2.objs.size = hp.objs.size := by rw [hs2.1, hp2.1, hs1.1, hp1.1, hs0.1]
  have hzz : ZS g2 z TI TO .ellipsis := hs2.extBut _ _ S.TOz.symm (hp2.extBut _ _ S.zi2 (hs1.extBut _ _ S.TOz.symm (hp1.extBut _ _ S.zi1 hz0)))
  have hkk : ∀ c o, c ≠ z → c ≠ TO → c ≠ i1 → c ≠ i2 → hp.get? c = some o → g2.get? c = some o := fun c o cz cT c1 c2 e =>
    hs2.extBut _ _ cT (hp2.extBut _ _ c2 (hs1.extBut _ _ cT (hp1.extBut _ _ c1 (hs0.extBut _ _ cz e))))
  have hj1 : St1 (i + 1) g2 := D1.over (D1.over (D1.over sn1 hs1 S.Tf1) hp2 S.sep2_1) hs2 S.Tf1
  have hj2 : St2 (i + 1) g2 := D2.over sn2 hs2 S.Tf2
  have hzlt : z < g2.objs.size := Heap.lt_size hzz
  show wpAny _ _ (Builtin.SmallTypes.ownedTupleHandOut (.ref z) (.ref g2.objs.size) >>= _) _ _ ⟨g2.push { cls := .type "tuple", data := .seq #[x1, x2] }, g, d, tk2, os⟩
  refine wpAny_bind ?_
  unfold Builtin.SmallTypes.ownedTupleHandOut
  have hz6 : ZS (g2.push { cls := .type "tuple", data := .seq #[x1, x2] }) z TI TO .ellipsis := Heap.get?_push_of_some _ hzz
  refine wpAny_bind (wpAny_setField_rec hz6 (by simp) fun h7 hz7 hs7 => ?_)
  replace hz7 : ZS h7 z TI TO (rawInt g2.objs.size) := hz7
  refine wpAny_setField_rec hz7 (by simp) fun h8 hz8 hs8 => ?_
  replace hz8 : ZS h8 z TI TO (rawInt g2.objs.size) := hz8
  replace hs7 : Heap.SameBut z (g2.push { cls := .type "tuple", data := .seq #[x1, x2] }) h7 := hs7
  replace hs8 : Heap.SameBut z h7 h8 := hs8
  have up : ∀ c o, c ≠ z → g2.get? c = some o → h8.get? c = some o := fun c o c1 e => hs8.extBut _ _ c1 (hs7.extBut _ _ c1 (Heap.get?_push_of_some _ e))
  have hT8 : IsTupOf2 h8 g2.objs.size x1 x2 := hs8.extBut _ _ (Nat.ne_of_gt hzlt) (hs7.extBut _ _ (Nat.ne_of_gt hzlt) (Heap.get?_push_size _ rfl))
  rw [hsz] at hz8 hT8
  refine wpAny_pure ⟨_, rfl, ?_⟩
  show Q (.ref g2.objs.size) ⟨h8, g, d, tk2, os⟩
  rw [hsz]
  exact hQ x1 x2 h8 tk2 hx1 hx2 hz8 (up _ _ S.TOz hT2) (D1.frame _ _ _ hj1 fun b hb o e => up b o (fun q => S.zf1 (q ▸ hb)) e) (D2.frame _ _ _ hj2 fun b hb o e => up b o (fun q => S.zf2 (q ▸ hb)) e) hT8 fun c o cz cT c1 c2 e => up c o cz (hkk c o cz cT c1 c2 e)
theorem zs_over {Q : Fin → Shared → Prop} (hh : A.handled = none) (S : ZipSep2 z TI TO i1 i2 fp1 fp2) (D1 : Draws prog w A i1 fp1 n P1 St1) (D2 : Draws prog w A i2 fp2 n P2 St2)
    (hz : ZS s.heap z TI TO .none) (hTI : IsTupOf2 s.heap TI (.ref i1) (.ref i2)) (hTO : IsTupOf2 s.heap TO a1 a2) (st1 : St1 n s.heap) (st2 : St2 n s.heap)
    (hE : ∀ h' e, (∀ c o, c ≠ z → c ≠ TO → c ≠ i1 → c ≠ i2 → s.heap.get? c = some o → h'.get? c = some o) → (∃ o, h'.get? e = some o ∧ o.cls = .type "StopIteration") → E (.ref e) { s with heap := h' }) :
    wpAny (model prog w) A (Builtin.«zip.__next__» ⟨[.ref z], []⟩) Q E s := by
  obtain ⟨hp, g, d, tk0, os⟩ := s
  show wpAny _ _ (field (.ref z) 2 >>= _) _ _ _
  refine wpAny_bind (wpAny_field hz rfl (x := .bool true) rfl ?_)
  show wpAny _ _ (field (.ref z) 3 >>= _) _ _ _
  refine wpAny_bind (wpAny_field hz rfl (x := .ref TI) rfl ?_)
  refine wpAny_bind (wpAny_seqItems hTI rfl ?_)
  show wpAny _ _ (Builtin.SmallTypes.ownedTupleIsFree (.ref z) >>= _) _ _ _
  refine wpAny_bind ?_
  unfold Builtin.SmallTypes.ownedTupleIsFree
  refine wpAny_bind (wpAny_field hz rfl (x := .none) rfl (wpAny_pure ?_))
  simp only [if_true]
  refine wpAny_bind (wpAny_rule ?_)
  refine wpAny_bind (wpAny_field hz rfl (x := .ref TO) rfl ?_)
  refine wpAny_bind (wpAny_setField_rec hz (by simp) fun g0 hz0 hs0 => ?_)
  replace hz0 : ZS g0 z TI TO .ellipsis := hz0
  replace hs0 : Heap.SameBut z hp g0 := hs0
  refine wpAny_bind ?_
  simp only [List.zipIdx_cons, List.zipIdx_nil, List.forIn_cons, List.forIn_nil]
  refine wpAny_bind (wpAny_bind (wpAny_onRaise ?_))
  show wpAny _ _ (Builtin.SmallTypes.nextOrEnd (.ref i1)) _ _ ⟨g0, g, d, tk0, os⟩
  refine draw_over (s := ⟨g0, g, d, tk0, os⟩) D1 (D1.over st1 hs0 S.zf1) fun p1 hp1 => ?_
  replace hp1 : Heap.ExtBut i1 g0 p1 := hp1
  have hz1 : ZS p1 z TI TO .ellipsis := hp1 _ _ S.zi1 hz0
  refine wpAny_bind (wpAny_setField_rec hz1 (by simp) fun g1 hz2 hs1 => ?_)
  replace hs1 : Heap.SameBut z p1 g1 := hs1
  refine wpAny_bind ?_
  refine wpAny_mono (Q := fun _ _ => False) ?_ (fun _ _ h => h.elim) fun _ _ h => h
  have st2' : St2 n g1 := D2.over (D2.frame _ _ _ (D2.over st2 hs0 S.zf2) fun b hb o e => hp1 b o (fun q => S.sep1_2 (q ▸ hb)) e) hs1 S.zf2
  wp_delta
  iterate 2 wp_step
  rw [show (List.drop 1 [Value.ref i1, Value.ref i2]).zipIdx 1 = [(Value.ref i2, 1)] from rfl, List.forIn_cons]
  refine wpAny_bind ?_
  refine wpAny_bind (draw_over (s := ⟨g1, g, d, tk0, os⟩) D2 st2' fun h2 he2 => ?_)
  rw [if_neg (by simp)]
  refine wpAny_pure ?_
  dsimp only
  rw [List.forIn_nil]
  refine wpAny_pure ?_
  refine wpAny_bind (wpAny_rule ?_)
  have hk2 : ∀ c o, c ≠ z → c ≠ TO → c ≠ i1 → c ≠ i2 → hp.get? c = some o → h2.get? c = some o := fun c o cz _ c1 c2 e => he2 c o c2 (hs1.extBut c o cz (hp1 c o c1 (hs0.extBut c o cz e)))
  show wpAny _ _ (newExc (.type "StopIteration") [] >>= _) _ _ _
  refine wpAny_bind ?_
  simp only [newExc, newTuple]
  refine wpAny_bind (wpAny_newObj_type ?_ (by size_fits))
  refine wpAny_bind (m := firstArgMember _ _) (wpAny_of_eq (a := Value.none) (by first | rfl | (simp only [firstArgMember]; rfl)) ?_)
  refine wpAny_newObj_type ?_ (by size_fits)
  simp only [raiseNew]
  refine wpAny_bind (wpAny_handled ?_)
  rw [hh]
  refine wpAny_bind (wpAny_pure (wpAny_throw ?_))
  exact hE _ _ (fun c o cz cT c1 c2 e => Heap.get?_push_of_some _ (Heap.get?_push_of_some _ (hk2 c o cz cT c1 c2 e))) ⟨_, Heap.get?_push_size _ rfl, rfl⟩
theorem next_zs_item {Q : Option Value → Shared → Prop} (S : ZipSep2 z TI TO i1 i2 fp1 fp2) (D1 : Draws prog w A.in1 i1 fp1 n P1 St1) (D2 : Draws prog w A.in1 i2 fp2 n P2 St2)
    (hz : ZS s.heap z TI TO .none) (hTI : IsTupOf2 s.heap TI (.ref i1) (.ref i2)) (hTO : IsTupOf2 s.heap TO a1 a2) (st1 : St1 i s.heap) (st2 : St2 i s.heap) (hlt : i < n)
    (hQ : ∀ x1 x2 h' tk, P1 i x1 → P2 i x2 → ZS h' z TI TO (rawInt s.heap.objs.size) → IsTupOf2 h' TO x1 x2 → St1 (i + 1) h' → St2 (i + 1) h' → IsTupOf2 h' s.heap.objs.size x1 x2 →
      (∀ c o, c ≠ z → c ≠ TO → c ≠ i1 → c ≠ i2 → s.heap.get? c = some o → h'.get? c = some o) → Q (some (.ref s.heap.objs.size)) { s with heap := h', toks := tk }) :
    wpAny (model prog w) A (pyNext (.ref z)) Q E s := by
  have hT : s.TypeIs (.ref z) "zip" := ⟨_, hz, rfl⟩
  unfold pyNext
  exact wpAny_bind (wpAny_attempt (wpAny_callSpecial?_slot (name := Str.ofString "__next__") hT F.slot_zip_next
    (wpAny_call_entry F.slot_zip_next hT F.entry_zip_next (zs_item S D1 D2 hz hTI hTO st1 st2 hlt fun x1 x2 h' tk b1 b2 b3 b4 b5 b6 b7 b8 => wpAny_pure (hQ x1 x2 h' tk b1 b2 b3 b4 b5 b6 b7 b8)) (F.args_zip_next_1 _))))
theorem next_zs_over {Q : Option Value → Shared → Prop} (hh : A.handled = none) (S : ZipSep2 z TI TO i1 i2 fp1 fp2) (D1 : Draws prog w A.in1 i1 fp1 n P1 St1) (D2 : Draws prog w A.in1 i2 fp2 n P2 St2)
    (hz : ZS s.heap z TI TO .none) (hTI : IsTupOf2 s.heap TI (.ref i1) (.ref i2)) (hTO : IsTupOf2 s.heap TO a1 a2) (st1 : St1 n s.heap) (st2 : St2 n s.heap)
    (hQ : ∀ h', (∀ c o, c ≠ z → c ≠ TO → c ≠ i1 → c ≠ i2 → s.heap.get? c = some o → h'.get? c = some o) → Q none { s with heap := h' }) : wpAny (model prog w) A (pyNext (.ref z)) Q E s := by
  have hT : s.TypeIs (.ref z) "zip" := ⟨_, hz, rfl⟩
  unfold pyNext
  refine wpAny_bind (wpAny_attempt (wpAny_callSpecial?_slot (name := Str.ofString "__next__") hT F.slot_zip_next
    (wpAny_call_entry F.slot_zip_next hT F.entry_zip_next (zs_over hh S D1 D2 hz hTI hTO st1 st2 fun h' e hk he => ?_) (F.args_zip_next_1 _))))
  obtain ⟨o, ho, hc⟩ := he
  refine wpAny_bind (wpAny_isInstance (T := "StopIteration") (b := true) ⟨o, ho, hc⟩ isSubtype_stop ?_)
  exact wpAny_pure (hQ _ hk)
theorem go_zs {elts : List Expr} {x1} {pos : Pos} {T : Addr} {Q : Unit → Shared → Prop} (hz : ZS s.heap z TI TO (rawInt T)) (hQ : ∀ h', ZS h' z TI TO .none → Heap.SameBut z s.heap h' → Q () { s with heap := h' }) :
    wpAny (model prog w) A (letOwnedTupleGo (.Tuple elts x1 pos) (.ref z) (.ref T)) Q E s := by
  unfold letOwnedTupleGo
  refine wpAny_bind (wpAny_load hz ?_)
  dsimp only
  rw [if_pos (by simp)]
  refine wpAny_bind (wpAny_rule ?_)
  show wpAny _ _ (setField (.ref z) 0 .none) Q E s
  exact wpAny_setField_rec hz (by simp) fun h' hz' hs' => hQ h' hz' hs'
theorem iter_zs {f0 : Value} {Q : Value → Shared → Prop} (hz : ZS s.heap z TI TO f0) (h : Q (.ref z) s) : wpAny (model prog w) A (pyIter (.ref z)) Q E s := by
  have hT : s.TypeIs (.ref z) "zip" := ⟨_, hz, rfl⟩
  refine wpAny_pyIter_slot hT F.slot_zip_iter (wpAny_call_entry F.slot_zip_iter hT F.entry_zip_iter ?_ (F.args_zip_iter_1 _))
  show wpAny _ _ (ret (.ref z)) _ _ s
  exact wpAny_pure ⟨_, rfl, "zip", _, hT, F.slot_zip_next.lookup, h⟩
end
abbrev zh (h : Heap) (o1 o2 : Obj) : Heap := ((((h.push o1).push o2).push { cls := .type "tuple", data := .seq #[.ref h.objs.size, .ref (h.push o1).objs.size] }).push { cls := .type "tuple", data := .seq #[.none, .none] }).push
  { cls := .type "zip", data := .fields #[.none, .bool false, .bool true, .ref ((h.push o1).push o2).objs.size, .ref (((h.push o1).push o2).push { cls := .type "tuple", data := .seq #[.ref h.objs.size, .ref (h.push o1).objs.size] }).objs.size] }
abbrev zh4 (h : Heap) (o1 o2 : Obj) : Heap := (((h.push o1).push o2).push { cls := .type "tuple", data := .seq #[.ref h.objs.size, .ref (h.push o1).objs.size] }).push { cls := .type "tuple", data := .seq #[.none, .none] }
theorem meets_zs {v1 v2 : Value} {o1 o2 : Obj} {G1 G2 : Heap → Prop} (B1 : Begins v1 o1 G1) (B2 : Begins v2 o2 G2) :
    Meets (Builtin.«zip.__new__» ⟨[.type "zip", v1, v2], [(Str.ofString "strict", .bool true)]⟩) (fun _ R s => (G1 s.heap ∧ G2 s.heap) ∧ R (.ok (.ret (.ref (zh4 s.heap o1 o2).objs.size))) { s with heap := zh s.heap o1 o2 }) :=
  .of_wp fun prog w A R s h => by
    obtain ⟨hp, g, d, tk, os⟩ := s
    obtain ⟨⟨h1, h2⟩, h⟩ := h
    have hsub := sub_zip
    have h2' : G2 (hp.push o1) := B2.keeps _ _ h2 fun b o q => Heap.get?_push_of_some _ q
    have q1 : ∀ {A' : Around} {E : Value → Shared → Prop} {Q : Value → Shared → Prop}, Q (.ref hp.objs.size) ⟨hp.push o1, g, d, tk, os⟩ → wpAny (model prog w) A' (pyIter v1) Q E ⟨hp, g, d, tk, os⟩ :=
      fun q => B1.iter prog w _ _ ⟨hp, g, d, tk, os⟩ _ h1 q
    have q2 : ∀ {A' : Around} {E : Value → Shared → Prop} {Q : Value → Shared → Prop}, Q (.ref (hp.push o1).objs.size) ⟨(hp.push o1).push o2, g, d, tk, os⟩ → wpAny (model prog w) A' (pyIter v2) Q E ⟨hp.push o1, g, d, tk, os⟩ :=
      fun q => B2.iter prog w _ _ ⟨hp.push o1, g, d, tk, os⟩ _ h2' q
    have e1 : (Str.ofString "strict" != ("strict" : Str)) = false := by decide +kernel
    wp_walk using q1, q2
    exact ⟨_, rfl, h⟩
theorem tcall_strict (a b c : Value) : checkTypeCall "zip" ⟨[a, b], [(Str.ofString "strict", c)]⟩ = pure () := by kernel_rfl
theorem ncall_strict (a b c : Value) : checkBuiltinCall "zip.__new__" ⟨[.type "zip", a, b], [(Str.ofString "strict", c)]⟩ = pure () := by kernel_rfl
theorem init_strict (obj a b c : Value) : argsOk "object.__init__" ⟨[obj, a, b], [(Str.ofString "strict", c)]⟩ := by unfold argsOk; kernel_rfl
section
variable {prog : Program} {w : World} {A : Around} {E : Value → Shared → Prop} {s : Shared}
theorem zs_begins {v1 v2 : Value} {o1 o2 : Obj} {G1 G2 : Heap → Prop} {Q : Value → Shared → Prop} (B1 : Begins v1 o1 G1) (B2 : Begins v2 o2 G2) (h1 : G1 s.heap) (h2 : G2 s.heap)
    (h : ∀ h', ZS h' (s.heap.objs.size + 4) (s.heap.objs.size + 2) (s.heap.objs.size + 3) .none → IsTupOf2 h' (s.heap.objs.size + 2) (.ref s.heap.objs.size) (.ref (s.heap.objs.size + 1)) → IsTupOf2 h' (s.heap.objs.size + 3) .none .none →
      h'.get? s.heap.objs.size = some o1 → h'.get? (s.heap.objs.size + 1) = some o2 → (∀ b o, s.heap.get? b = some o → h'.get? b = some o) → Q (.ref (s.heap.objs.size + 4)) { s with heap := h' }) :
    wpAny (model prog w) A (call (.type "zip") [v1, v2] [(Str.ofString "strict", .bool true)]) Q E s := by
  refine callType_newKw F.called_zip (by decide) (tcall_strict _ _ _) (ncall_strict _ _ _) (fun obj => init_strict obj _ _ _) F.entry_zip_new (meets_zs B1 B2) ⟨⟨h1, h2⟩, ?_⟩
  have z1 : (s.heap.push o1).objs.size = s.heap.objs.size + 1 := Heap.size_push ..
  have z2 : ((s.heap.push o1).push o2).objs.size = s.heap.objs.size + 2 := by rw [Heap.size_push, z1]
  have z3 : (((s.heap.push o1).push o2).push { cls := .type "tuple", data := .seq #[.ref s.heap.objs.size, .ref (s.heap.push o1).objs.size] }).objs.size = s.heap.objs.size + 3 := by rw [Heap.size_push, z2]
  have z4 : (zh4 s.heap o1 o2).objs.size = s.heap.objs.size + 4 := by rw [Heap.size_push, z3]
  have g5 : (zh s.heap o1 o2).get? (zh4 s.heap o1 o2).objs.size = some _ := Heap.get?_push_size _ rfl
  have g4 : (zh s.heap o1 o2).get? (((s.heap.push o1).push o2).push { cls := .type "tuple", data := .seq #[.ref s.heap.objs.size, .ref (s.heap.push o1).objs.size] }).objs.size = some _ := Heap.get?_push_of_some _ (Heap.get?_push_size _ rfl)
  have g3 : (zh s.heap o1 o2).get? ((s.heap.push o1).push o2).objs.size = some _ := Heap.get?_push_of_some _ (Heap.get?_push_of_some _ (Heap.get?_push_size _ rfl))
  have g2 : (zh s.heap o1 o2).get? (s.heap.push o1).objs.size = some _ := Heap.get?_push_of_some _ (Heap.get?_push_of_some _ (Heap.get?_push_of_some _ (Heap.get?_push_size _ B2.free)))
  have g1 : (zh s.heap o1 o2).get? s.heap.objs.size = some _ := Heap.get?_push_of_some _ (Heap.get?_push_of_some _ (Heap.get?_push_of_some _ (Heap.get?_push_of_some _ (Heap.get?_push_size _ B1.free))))
  show _ ∧ _
  rw [z2, z3, z4] at g5
  rw [z1, z2] at g3
  rw [z3] at g4
  rw [z1] at g2
  rw [z4]
  exact ⟨⟨_, g5, rfl⟩, h _ g5 g3 g4 g1 g2 fun c o x => Heap.get?_push_of_some _ (Heap.get?_push_of_some _ (Heap.get?_push_of_some _ (Heap.get?_push_of_some _ (Heap.get?_push_of_some _ x))))⟩
end
/-- the tuple at a, the list at b as they stand, the items in new pairs -/
def ItZ (K : PySem.W.Frag) (a b : Addr) : It :=
  ⟨fun i H => ∃ (xs ys : List V) (x y : V), SqT K H a xs ∧ SqL K H b ys ∧ xs.length = ys.length ∧ xs[i]? = some x ∧ ys[i]? = some y,
    fun i H v H' => ∃ T x y, v = .ref T ∧ H T = none ∧ H' = upd H T (.tup [x, y]) ∧ (∀ xs, SqT K H a xs → xs[i]? = some x) ∧ ∀ ys, SqL K H b ys → ys[i]? = some y,
    fun i H => ∃ xs ys : List V, SqT K H a xs ∧ SqL K H b ys ∧ xs.length = i ∧ ys.length = i⟩
theorem ne_nat {a b : Nat} (h : a < b ∨ b < a) : ¬ @Eq Addr a b := fun e => by
  have e' : a = b := e
  omega
theorem out2 {a b c : Nat} (h1 : a < b ∨ b < a) (h2 : a < c ∨ c < a) : ¬ ((a : Addr) ∈ ([b, c] : List Addr)) := fun h => by
  rcases List.mem_cons.mp h with e | h
  · exact ne_nat h1 e
  · exact ne_nat h2 (List.mem_singleton.mp h)
theorem sep_of (n a b : Nat) (h1 : a < n) (h2 : b < n) : ZipSep2 (n + 4) (n + 2) (n + 3) n (n + 1) [n, a] [n + 1, b] :=
  ⟨ne_nat (by omega), ne_nat (by omega), ne_nat (by omega), ne_nat (by omega), List.mem_cons_self, out2 (by omega) (by omega), out2 (by omega) (by omega), ne_nat (by omega), List.mem_cons_self, out2 (by omega) (by omega), out2 (by omega) (by omega), out2 (by omega) (by omega), out2 (by omega) (by omega)⟩
theorem turn_zs {P : Program} {w : World} {K : PySem.W.Frag} {elts : List Expr} {kk : Nat} {tpos : Pos} {a b z TI TO i1 i2 : Addr} (S : ZipSep2 z TI TO i1 i2 [i1, a] [i2, b]) (ha : a ≠ i1) (hb : b ≠ i2) :
    Turn P w K (.Tuple elts kk tpos) (ItZ K a b) [z, TI, TO, i1, i2] z (fun i h => ZS h z TI TO .none ∧ IsTupOf2 h TI (.ref i1) (.ref i2) ∧ (∃ x y, IsTupOf2 h TO x y) ∧ h.IsTupleIter i1 a i ∧ h.IsListIter i2 b i) where
  mem := by simp
  obj := fun i h st c hc => by
    obtain ⟨hz, hTI, ⟨x, y, hTO⟩, ⟨o1, e1, _, d1⟩, ⟨o2, e2, _, d2⟩⟩ := st
    have e' : c = z ∨ c = TI ∨ c = TO ∨ c = i1 ∨ c = i2 := by simpa using hc
    rcases e' with q | q | q | q | q
    · rw [q]; exact ⟨_, hz, fun v q => nomatch q⟩
    · rw [q]; exact ⟨_, hTI, fun v q => nomatch q⟩
    · rw [q]; exact ⟨_, hTO, fun v q => nomatch q⟩
    · rw [q]; exact ⟨o1, e1, fun v q => by rw [d1] at q; cases q⟩
    · rw [q]; exact ⟨o2, e2, fun v q => by rw [d2] at q; cases q⟩
  keep := fun i h h' st k => by
    obtain ⟨hz, hTI, ⟨x, y, hTO⟩, h1, h2⟩ := st
    exact ⟨k z (by simp) _ hz, k TI (by simp) _ hTI, ⟨x, y, k TO (by simp) _ hTO⟩, h1.at fun o q => k i1 (by simp) o q, h2.at fun o q => k i2 (by simp) o q⟩
  item := by
    intro X hP hw hK hc i pins s σ H E I hf st hg
    subst hP hw hK
    obtain ⟨hz, hTI, ⟨x0, y0, hTO⟩, h1, h2⟩ := st
    obtain ⟨xs, ys, x, y, hqx, hqy, hl, hx, hy⟩ := hg
    obtain ⟨its, rv, p, _⟩ := I.tuple hqx
    obtain ⟨its2, rv2, p2, _⟩ := I.list hqy
    obtain ⟨u, hu, ru⟩ := rv.get hx
    obtain ⟨u2, hu2, ru2⟩ := rv2.get hy
    have l1 := rv.length
    have l2 := rv2.length
    have hzl : z < s.heap.objs.size := Heap.lt_size hz
    have hlt : i < its.toArray.size := by
      rw [List.size_toArray, ← l1]
      exact (List.getElem?_eq_some_iff.mp hx).1
    have hsz : its.toArray.size = its2.toArray.size := by rw [List.size_toArray, List.size_toArray]; omega
    have D2 := Draws.list (prog := X.prog) (w := X.w) (A := X.A.in1) (I.ok.hd hc) i2 b hb its2.toArray
    rw [← hsz] at D2
    refine next_zs_item S (Draws.tuple (A := X.A.in1) (I.ok.hd hc) i1 a ha its.toArray) D2 hz hTI hTO ⟨h1, p⟩ ⟨h2, p2.isList⟩ hlt fun x1 x2 h' tk e1 e2 z' TO' h1' h2' hT hk => ?_
    have eu : x1 = u := by
      rw [show its.toArray[i]? = its[i]? by simp, hu] at e1
      exact (Option.some.inj e1).symm
    have eu2 : x2 = u2 := by
      rw [show its2.toArray[i]? = its2[i]? by simp, hu2] at e2
      exact (Option.some.inj e2).symm
    subst eu eu2
    refine ⟨_, rfl, go_zs (s := { s with heap := h', toks := tk }) z' fun h'' z'' sb => ?_⟩
    have hT2 : h''.get? s.heap.objs.size = some { cls := .type "tuple", data := .seq #[x1, x2] } := (sb.2 _ (Nat.ne_of_gt hzl)).trans hT
    have new : ObjOk X.prog X.w (upd H s.heap.objs.size (.tup [x, y])) h'' s.heap.objs.size (.tup [x, y]) := ⟨by show 2 ≤ sizeLine; decide, [x1, x2], .cons ru (.cons ru2 .nil), ⟨_, hT2, rfl, _, rfl⟩⟩
    have I1 : Inv X pins σ (upd H s.heap.objs.size (.tup [x, y])) { s with heap := h'', toks := tk } :=
      I.turnedNew (ch := [z, TI, TO, i1, i2]) (fun c o hb q => (sb.2 c (fun q' => hb (by simp [q']))).trans (hk c o (fun q' => hb (by simp [q'])) (fun q' => hb (by simp [q'])) (fun q' => hb (by simp [q'])) (fun q' => hb (by simp [q'])) q)) hf (Nat.le_refl _) new
    refine ⟨.ref s.heap.objs.size, _, I1, rfl, ⟨_, x, y, rfl, I.hok.fresh (Nat.le_refl _), rfl, fun l hl => by rw [I.tuple_inj hl hqx]; exact hx, fun l hl => by rw [I.list_inj hl hqy]; exact hy⟩, ⟨z'', ?_, ⟨x1, x2, ?_⟩, ?_, ?_⟩, fun c hcm => ?_⟩
    · exact (sb.2 _ S.TIz).trans (hk _ _ S.TIz S.TITO S.TIi1 S.TIi2 hTI)
    · exact (sb.2 _ S.TOz).trans TO'
    · exact h1'.1.at fun o q => (sb.2 _ S.zi1.symm).trans q
    · exact h2'.1.at fun o q => (sb.2 _ S.zi2.symm).trans q
    · have hlt : c < s.heap.objs.size := by
        have e' : c = z ∨ c = TI ∨ c = TO ∨ c = i1 ∨ c = i2 := by simpa using hcm
        rcases e' with q | q | q | q | q
        · rw [q]; exact hzl
        · rw [q]; exact Heap.lt_size hTI
        · rw [q]; exact Heap.lt_size hTO
        · rw [q]; obtain ⟨_, e1, _⟩ := h1; exact Heap.lt_size e1
        · rw [q]; obtain ⟨_, e2, _⟩ := h2; exact Heap.lt_size e2
      rw [upd_ne (Nat.ne_of_lt hlt)]
      exact (hf c hcm).1
  done := by
    intro X hP hw hK hc i pins s σ H E I hf st hg
    subst hP hw hK
    obtain ⟨hz, hTI, ⟨x0, y0, hTO⟩, h1, h2⟩ := st
    obtain ⟨xs, ys, hqx, hqy, e1, e2⟩ := hg
    obtain ⟨its, rv, p, _⟩ := I.tuple hqx
    obtain ⟨its2, rv2, p2, _⟩ := I.list hqy
    have l1 := rv.length
    have l2 := rv2.length
    have n1 : its.toArray.size = i := by rw [List.size_toArray]; omega
    have hsz : its.toArray.size = its2.toArray.size := by rw [List.size_toArray, List.size_toArray]; omega
    have D2 := Draws.list (prog := X.prog) (w := X.w) (A := X.A.in1) (I.ok.hd hc) i2 b hb its2.toArray
    rw [← hsz] at D2
    exact next_zs_over (I.ok.hd hc) S (Draws.tuple (A := X.A.in1) (I.ok.hd hc) i1 a ha its.toArray) D2 hz hTI hTO ⟨by rw [n1]; exact h1, p⟩ ⟨by rw [n1]; exact h2, p2.isList⟩ fun h' hk => ⟨rfl, I.turnedL (t' := s.toks) (ch := [z, TI, TO, i1, i2]) (fun c o hb q =>
      hk c o (fun q' => hb (by simp [q'])) (fun q' => hb (by simp [q'])) (fun q' => hb (by simp [q'])) (fun q' => hb (by simp [q'])) q) hf⟩
  self := fun A i s Q E st h => iter_zs st.1 h
/-- zip(tuple, list, strict=True) -/
def iZipS (K : PySem.W.Frag) (ta tk : TA) : TI := fun σ H R => ta σ H fun vs H1 => tk σ H1 fun zs H2 => ∃ a b xs ys, vs = [.ref a, .ref b] ∧ zs = [.bl true] ∧ SqT K H2 a xs ∧ SqL K H2 b ys ∧ R (ItZ K a b) H2
theorem pi_zipS {X : Cx} {e e2 : Expr} {ta tk : TA} {p pos tpos : Pos} {elts : List Expr} {kk : Nat} {kws : List Keyword} (hg : Gl X "zip") (hm : X.mg "zip" = none) (ha : PA X [e, e2] ta) (hkw : PK X kws tk)
    (hall : (backToKw pos (keywordEach kws X.env)).all (·.1.isSome) = true := by rfl) (hks : (backToKw pos (keywordEach kws X.env)).filterMap (·.1) = [("strict" : Str)] := by rfl)
    (he : starEach [e, e2] X.env = (false, eval e X.env) :: starEach [e2] X.env := by rfl) (hpl : ((backTo pos (starEach [e, e2] X.env)).any (·.1) || (backToKw pos (keywordEach kws X.env)).any (·.1.isNone)) = false := by rfl) :
    PI X (.Tuple elts kk tpos) (.Call (.Name "zip" p) [e, e2] kws pos) (iZipS X.K ta tk) := by
  refine ⟨fun pins s σ H R I h => ?_⟩
  refine wpAny_Call_Name_kw (ld_blt I hg hm PyProof.Rows.boot_zip (callWith_typeK hall (thn (ha.run pos pins s σ H _ I h) fun us s1 ⟨vs, H1, I1, r1, q1⟩ => ?_) hpl he))
  refine thn (hkw.run pos pins s1 σ H1 _ I1 q1) fun ws s2 ⟨zs, H2, I2, rz, a, b, xs, ys, e1, e2, hqx, hqy, q⟩ => ?_
  subst e1 e2
  rw [hks]
  cases r1 with
  | cons r rr =>
    cases rr with
    | cons r' rr =>
      cases rr
      cases r
      cases r'
      cases rz with
      | cons rk rr =>
        cases rr
        cases rk
        obtain ⟨its, rv, p1, _⟩ := I2.tuple hqx
        obtain ⟨its2, rv2, p2, _⟩ := I2.list hqy
        obtain ⟨o1, ho1, _⟩ := id p1
        have la : a < s2.heap.objs.size := Heap.lt_size ho1
        have lb : b < s2.heap.objs.size := p2.lt
        refine zs_begins (begins_tuple a its.toArray) (begins_list b its2.toArray) p1 p2.isList fun h' hz hTI hTO h1 h2 hk => iter_zs hz ?_
        have I3 : Inv X pins σ H2 { s2 with heap := h' } := I2.kept (t' := s2.toks) hk
        refine ⟨s2.heap.objs.size + 4, [s2.heap.objs.size + 4, s2.heap.objs.size + 2, s2.heap.objs.size + 3, s2.heap.objs.size, s2.heap.objs.size + 1], _, _, H2, rfl, I3, turn_zs (sep_of s2.heap.objs.size a b la lb) (Nat.ne_of_lt la) (Nat.ne_of_lt (Nat.lt_succ_of_lt lb)), ⟨hz, hTI, ⟨_, _, hTO⟩, ⟨_, h1, rfl, rfl⟩, ⟨_, h2, rfl, rfl⟩⟩, fun c hcm => ?_, q⟩
        have e' : c = s2.heap.objs.size + 4 ∨ c = s2.heap.objs.size + 2 ∨ c = s2.heap.objs.size + 3 ∨ c = s2.heap.objs.size ∨ c = s2.heap.objs.size + 1 := by simpa using hcm
        have hle : s2.heap.objs.size ≤ c := by
          rcases e' with z | z | z | z | z
          · rw [z]; exact Nat.le_add_right _ _
          · rw [z]; exact Nat.le_add_right _ _
          · rw [z]; exact Nat.le_add_right _ _
          · rw [z]; exact Nat.le_refl _
          · rw [z]; exact Nat.le_add_right _ _
        exact I2.fpOk hle (I2.hok.fresh hle)
theorem walk_zs {K : PySem.W.Frag} {a b : Addr} {xs ys : List V} (hl : xs.length = ys.length) : Walk (ItZ K a b) xs.length (fun H => SqT K H a xs ∧ SqL K H b ys) (YPair (fun i => xs[i]?) (fun i => ys[i]?)) := by
  refine ⟨fun i _ hi q => ⟨xs, ys, xs[i], ys[i], q.1, q.2, hl, by simp [hi], by simp [← hl, hi]⟩, fun _ q => ⟨xs, ys, q.1, q.2, rfl, hl.symm⟩, fun i H v H' _ q y => ?_⟩
  obtain ⟨T, x, z, h1, h2, h3, h4, h5⟩ := y
  exact ⟨T, x, z, h1, h2, h3, h4 xs q.1, h5 ys q.2⟩
end WZs

set_option Elab.async false
set_option linter.all false
set_option maxRecDepth 100000
set_option maxHeartbeats 2000000
namespace WRu
open PySem PySem.Spec PyProof.Rows L2
/-- any statement that is never reached -/
theorem ps_dead {X : Cx} {s : Stmt} : PS X s (fun _ _ _ => False) := ⟨fun _ _ _ _ _ _ h => h.elim⟩
theorem pss_dead {X : Cx} {ss : List Stmt} : PSs X ss (fun _ _ _ => False) := ⟨fun _ _ _ _ _ _ h => h.elim⟩
theorem pe_dead {X : Cx} {e : Expr} : PE X e (fun _ _ _ => False) := ⟨fun _ _ _ _ _ _ h => h.elim⟩
/-- one of two readings -/
theorem pe_or {X : Cx} {e : Expr} {t1 t2 : TE} (h1 : PE X e t1) (h2 : PE X e t2) : PE X e (fun σ H Q => t1 σ H Q ∨ t2 σ H Q) := ⟨fun pins s σ H Q I h => by
  rcases h with h | h
  · exact h1.run pins s σ H Q I h
  · exact h2.run pins s σ H Q I h⟩
/-- a list against an empty one -/
def rEqN (K : PySem.W.Frag) : R2 := fun x y H Q => ∃ l b xs, x = .ref l ∧ y = .ref b ∧ SqL K H l xs ∧ SqL K H b [] ∧ Q (.bl (decide (xs = []))) H
def rNeN (K : PySem.W.Frag) : R2 := fun x y H Q => ∃ l b xs, x = .ref l ∧ y = .ref b ∧ SqL K H l xs ∧ SqL K H b [] ∧ Q (.bl (!decide (xs = []))) H
theorem op_eqN {X : Cx} (hu : X.A.units + 64 < cLine) : OpR X (compareOp .Eq) (rEqN X.K) := by
  intro pins s σ H x y v u Q I rx ry h
  obtain ⟨l, b, xs, rfl, rfl, hl, hb, q⟩ := h
  cases rx
  cases ry
  obtain ⟨its, r, p, _⟩ := I.list hl
  obtain ⟨its2, r2, p2, _⟩ := I.list hb
  cases r2
  cases r with
  | nil => exact SeqAt.eq_listAt (e := fun _ => true) p.isList p2.isList rfl (by omega) (fun j h1 => absurd h1 (by simp)) ⟨.bl true, H, I, rfl, q⟩
  | cons r1 r => exact SeqAt.eq_list_lengthsAt p.isList p2.isList (by simp) (by omega) ⟨.bl false, H, I, rfl, by simpa using q⟩
theorem op_neN {X : Cx} (hu : X.A.units + 64 < cLine) : OpR X (compareOp .NotEq) (rNeN X.K) := by
  intro pins s σ H x y v u Q I rx ry h
  obtain ⟨l, b, xs, rfl, rfl, hl, hb, q⟩ := h
  cases rx
  cases ry
  obtain ⟨its, r, p, _⟩ := I.list hl
  obtain ⟨its2, r2, p2, _⟩ := I.list hb
  cases r2
  cases r with
  | nil => exact SeqAt.RcNeAt.lists (e := fun _ => true) p.isList p2.isList rfl (by omega) (fun j h1 => absurd h1 (by simp)) X.prog X.w X.xe _ ⟨.bl false, H, I, rfl, q⟩
  | cons r1 r => exact SeqAt.RcNeAt.lists_lengths p.isList p2.isList (by simp) (by omega) X.prog X.w X.xe _ ⟨.bl true, H, I, rfl, by simpa using q⟩
/-- text * int -/
def repS (z : Str) (n : Nat) : Str := ⟨(List.replicate n z.cps).foldl (· ++ ·) #[]⟩
def rMulS : R2 := fun x y H Q => ∃ (z : Str) (k : Nat), x = .str z ∧ y = .int (k : Int) ∧ k ≤ 1000 ∧ z.length ≤ 1000 ∧ Q (.str (repS z k)) H
theorem op_mulS {X : Cx} : OpR X (binaryOp .Mult) rMulS := by
  intro pins s σ H x y v u Q I rx ry h
  obtain ⟨z, k, rfl, rfl, hk, hz, q⟩ := h
  obtain ⟨t, rfl⟩ := rx
  obtain ⟨t2, rfl⟩ := ry
  have h0 : ¬ ((k : Int) < -(2 ^ 63 : Int)) := by omega
  have h1 : ¬ ((k : Int) ≥ 2 ^ 63) := by omega
  have hlen : z.length * k ≤ 1000000 := Nat.mul_le_mul hz hk
  have hno : Builtin.Str.tooLong (z.length * k) = false := by
    unfold Builtin.Str.tooLong
    have : (1000000 : Nat) ≤ sizeLine := by decide
    simp
    omega
  refine PySem.P.mul_str (by rw [decide_eq_false h0, decide_eq_false h1]; rfl) (fun h2 _ h3 => ?_) (fun _ _ => ?_) ?_
  · have : (1000 : Int) ≤ (2 ^ 63 - 1) / (k : Int) := Int.le_ediv_of_mul_le (by omega) (by omega)
    omega
  · simp only [Int.toNat_natCast]
    exact hno
  · by_cases hk0 : (k : Int) < 1
    · rw [if_pos hk0]
      have e : k = 0 := by omega
      subst e
      exact ⟨by decide, .str _, H, I.tok _, ⟨_, rfl⟩, q⟩
    · rw [if_neg hk0]
      by_cases hk1 : ((k : Int) == 1 || z.length == 0) = true
      · rw [if_pos hk1]
        have e : repS z k = z := by
          rcases Bool.or_eq_true_iff.mp hk1 with e | e
          · have e' : k = 1 := by
              have := beq_iff_eq.mp e
              omega
            subst e'
            unfold repS
            simp
          · have e' : z.cps = #[] := Array.eq_empty_of_size_eq_zero (beq_iff_eq.mp e)
            unfold repS
            rw [e']
            have : ∀ n, (List.replicate n (#[] : Array Nat)).foldl (· ++ ·) #[] = #[] := fun n => by
              induction n with
              | zero => rfl
              | succ n ih => rw [List.replicate_succ, List.foldl_cons]; exact ih
            rw [this]
            obtain ⟨c⟩ := z
            simp at e'
            rw [e']
        rw [e] at q
        exact ⟨.str z, H, I, ⟨_, rfl⟩, q⟩
      · rw [if_neg hk1]
        simp only [Int.toNat_natCast]
        exact ⟨fits_reps hno, .str _, H, I.tok _, ⟨_, rfl⟩, q⟩
/-! ### own != -/
section
variable {prog : Program} {w : World} {A : Around} {E : Value → Shared → Prop} {s : Shared} {K : PySem.W.Frag} {x C f : Addr} {ox : Obj} {od : Option Obj} {b : Value}
theorem ne_own {Q : Value → Shared → Prop} (hu : A.units < cLine) (hu1 : A.in1.units < cLine) (X : K.In s.heap) (I : PySem.W.InstAt s.heap x ox C od) (hb : PySem.W.Looks (model prog w) s.heap (typeOf b) (.ref C))
    (hn : PySem.W.findIn K (.ref C) "__ne__" = some (some (.builtin "object.__ne__"))) (he : PySem.W.findIn K (.ref C) "__eq__" = some (some (.ref f))) (hf : PySem.W.isFn K (.ref f) = true) (hm : PySem.W.mroIn K C (.type "object") = some true)
    (h : wpAny (model prog w) A.in1 (call (.ref f) [.ref x, b]) (fun v s' => ∃ r, v = .bool r ∧ Q (.bool (!r)) s') E s) : wpAny (model prog w) A (richCompare .NotEq (.ref x) b) Q E s := by
  have body : codeAny (model prog w) A (.call (.builtin "object.__ne__") ⟨[.ref x, b], []⟩) (fun r s' => match r with | .ok (.ret v) => ∃ r, v = .bool (!r) ∧ Q (.bool (!r)) s' | .ok _ => False | .error e => E e s') s := by
    have sub : PySem.W.Looks (model prog w) s.heap (isInstance (.ref x) (.type "object")) true := I.type.andThen (PySem.W.looks_mroIn X hm)
    have SL := PySem.F.slot_object_ne
    refine codeAny_call_builtin SL.plain PySem.F.entry_object_ne ?_
    refine PySem.W.check_slot (n := "__ne__") (by decide +kernel) (by decide +kernel) sub (PySem.F.args_object_ne_2 _ _) ?_
    show wpAny _ _ (cRoomFor "comparison" [.ref x, b] >>= _) _ _ s
    refine wpAny_bind (wpAny_cRoomFor hu1 (wpAny_bind (PySem.W.ifBound_K X I he hf (wpAny_mono h (fun v s' hv => ?_) fun _ _ e => e))))
    obtain ⟨r, rfl, q⟩ := hv
    exact wpAny_bind (wpAny_truthy_bool (wpAny_pure ⟨r, rfl, q⟩))
  have one : wpAny (model prog w) A (tryCompare (.ref x) "__ne__" b) (fun r s' => ∃ v, r = some v ∧ Q v s') E s := by
    unfold tryCompare
    refine wpAny_bind ?_
    simp only [callSpecialIfBound?, bindSpecialIfBound?]
    refine wpAny_holding (wpAny_bind (wpAny_bind (wpAny_bind (I.type.here ((PySem.W.looks_findIn X hn).here ?_)))))
    refine wpAny_bind (wpAny_askSetting (wpAny_ite ?_))
    have hbi : bindSpecial (.builtin "object.__ne__") (.ref x) = pure (.builtin "object.__ne__", [.ref x]) := PySem.F.slot_object_ne.bind (.ref x)
    have fin : wpAny (model prog w) A (call (.builtin "object.__ne__") ([.ref x] ++ [b]) >>= fun v => pure (some v)) (fun a s' => wpAny (model prog w) A (match a with | some .notImplemented => pure none | none => pure none | some v => pure (some v)) (fun r s' => ∃ v, r = some v ∧ Q v s') E s') E s := by
      refine wpAny_bind (wpAny_mono (wpAny_call (codeAny_mono body fun r s' hr => ?_)) (Q := fun v s' => ∃ r, v = .bool (!r) ∧ Q (.bool (!r)) s') (fun v s' hv => ?_) fun _ _ e => e)
      · exact hr
      · obtain ⟨r, rfl, q⟩ := hv
        exact wpAny_pure (wpAny_pure ⟨_, rfl, q⟩)
    split
    · exact wpAny_bind (wpAny_of_eq hbi (wpAny_pure (by exact fin)))
    · exact wpAny_tryCatch (wpAny_bind (wpAny_of_eq hbi (wpAny_pure (by exact fin))))
  unfold richCompare
  simp only [PySem.oneThing_ref]
  refine wpAny_holding (wpAny_bind (wpAny_cRoomFor hu ?_))
  refine wpAny_bind (I.type.here (wpAny_bind (hb.here ?_)))
  rw [if_neg (by simp)]
  refine wpAny_bind (wpAny_pure ?_)
  rw [if_neg (by simp)]
  refine wpAny_bind (wpAny_mono one (fun r s' z => ?_) fun _ _ e => e)
  obtain ⟨v, rfl, hq⟩ := z
  exact wpAny_pure hq
end
/-- x != y, own ones that are equal -/
def rNeG (D : Eqv) : R2 := fun x y H Q => D x y H ∧ ∀ H', Ext H H' → Q (.bl false) H'
theorem op_neG {X : Cx} {CX : CXT} {n : Nat} {C f : Addr} {fd : FuncData} {ps : List Str} {R : Addr → Addr → Hp → Prop} {E : XK} (F : FnOk X.prog X.w X.K X.mg X.base CX n f fd ps (spEq R))
    (hn : PySem.W.findIn X.K (.ref C) "__ne__" = some (some (.builtin "object.__ne__"))) (hs : PySem.W.findIn X.K (.ref C) "__eq__" = some (some (.ref f))) (hf : PySem.W.isFn X.K (.ref f) = true) (hm : PySem.W.mroIn X.K C (.type "object") = some true)
    (hb : Binds X.K fd ps []) (hx : Passes CX X E) (hr : Room (n + 1) X.A) : OpR X (compareOp .NotEq) (rNeG (DIns C R)) := by
  intro pins s σ H x y v u Q I rx ry hq
  obtain ⟨⟨a, b, dx, dy, fs, gs, rfl, rfl, ha, hb', hR⟩, q⟩ := hq
  cases rx
  cases ry
  obtain ⟨mA, J, _⟩ := ins_get I.hok ha
  obtain ⟨mB, J', _⟩ := ins_get I.hok hb'
  obtain ⟨od, J, _⟩ := J.look
  obtain ⟨od', J', _⟩ := J'.look
  refine ne_own (Room.units0 hr) (Room.units0 hr.in1) I.kIn J J'.type hn hs hf hm ?_
  have hsp : spEq R [.ref a, .ref b] H (fun v H' => v = .bl true ∧ Ext H H') E := ⟨a, b, rfl, hR, fun H' e => ⟨rfl, e⟩⟩
  have r2 : Vals [V.ref a, V.ref b] [Value.ref a, Value.ref b] := .cons rfl (.cons rfl .nil)
  have hl := F.len _ _ _ _ hsp
  refine wpAny_call (codeAny_mono (F.run X.A.in1 X.stack s H ⟨[.ref a, .ref b], []⟩ [.ref a, .ref b] [.ref a, .ref b] _ E hr.in1 I.env0.in1 (by
    have := hb s [.ref a, .ref b] I.kIn (by simpa using hl)
    simpa using this) r2 hsp) fun r s' hq => ?_)
  cases r with
  | error e => exact hx pins σ H s e s' I hq
  | ok fl =>
    cases fl with
    | ret w =>
      obtain ⟨z, H', I', rz, ez, ex⟩ := I.after hq
      subst ez
      cases rz
      exact ⟨true, rfl, .bl false, H', I', rfl, q H' ex⟩
    | next => exact False.elim hq
    | brk => exact False.elim hq
    | cont => exact False.elim hq
/-- xs[i] of a list, ahead of xs[i] op= .. -/
theorem pget_list {X : Cx} : PGet X (rIxL X.K) := by
  intro pins s σ H x y v u Q I rx ry h
  obtain ⟨p, xs, i, z, rfl, rfl, hq, he, q⟩ := h
  cases rx
  obtain ⟨t, rfl⟩ := ry
  obtain ⟨its, r, pl, hz⟩ := I.list hq
  obtain ⟨j, h1, h2, h3, h4, h5⟩ := atI_get he
  obtain ⟨w, ew, rw'⟩ := r.get h2
  have hl := r.length
  have hn := line63
  have fin : EP X pins σ Q w s := ⟨z, H, I, rw', q⟩
  by_cases h0 : 0 ≤ i
  · have hj : i.toNat = j := by
      rw [seqIndex_of h0 h5] at h1
      exact Option.some.inj h1
    exact wpAny_getItem_list pl.isList h0 (by omega) (by rw [hj]; simpa using ew) fin
  · have hj : (i + (its.toArray.size : Int)).toNat = j := by
      rw [seqIndex_neg (by omega) h4] at h1
      rw [List.size_toArray, ← hl]
      exact Option.some.inj h1
    exact wpAny_getItem_list_neg pl.isList (by omega) (by rw [List.size_toArray] <;> omega) (by omega) (by rw [hj]; simpa using ew) fin
end WRu

set_option Elab.async false
set_option linter.all false
set_option maxRecDepth 100000
set_option maxHeartbeats 2000000
/-! readings, one value or one truth; comprehensions whose items are told -/
namespace WEb
open PySem PySem.Spec PyProof.Rows L2 WEv WRd WLf WPv WEn WRu StX WSt WDc
def Kp (H H' : Hp) : Prop := ∀ b o, H b = some o → (∀ xs, o ≠ .lst xs) → (∀ kvs, o ≠ .dK kvs) → H' b = some o
def MnK (P : HP V) : Prop := ∀ x H H', Kp H H' → P x H → P x H'
theorem Kp.trans {H H' H'' : Hp} (a : Kp H H') (b : Kp H' H'') : Kp H H'' := fun c o h h1 h2 => b c o (a c o h h1 h2) h1 h2
theorem Kp.same {H H' : Hp} (s : Same H H') : Kp H H' := fun b o h _ _ => s b o h
theorem Kp.lst {H : Hp} {l : Addr} {xs : List V} {x : HO} (hl : H l = some (.lst xs)) : Kp H (upd H l x) := fun b o h h1 _ => by
  rw [upd_ne (fun z => by rw [z, hl] at h; cases h; exact h1 _ rfl)]
  exact h
theorem mk_is {x : V} : MnK (Is x) := fun _ _ _ _ e => e
theorem fa_kp : ∀ {Ps : List (HP V)} {vs : List V} {H H' : Hp}, (∀ P ∈ Ps, MnK P) → Kp H H' → Fa Ps vs H → Fa Ps vs H'
  | [], [], _, _, _, _, _ => trivial
  | P :: _, _ :: _, _, _, m, s, h => ⟨m P List.mem_cons_self _ _ _ s h.1, fa_kp (fun Q hQ => m Q (List.mem_cons_of_mem _ hQ)) s h.2⟩
  | [], _ :: _, _, _, _, _, h => h.elim
  | _ :: _, [], _, _, _, _, h => h.elim
theorem mn_fa {Ps : List (HP V)} (m : ∀ P ∈ Ps, MnK P) : Mn (Fa Ps) := fun _ _ _ s h => fa_kp m (Kp.same s) h
theorem mk_iss {xs : List V} : ∀ P ∈ xs.map Is, MnK P := fun P hP => by
  obtain ⟨t, _, rfl⟩ := List.mem_map.mp hP
  exact mk_is
theorem fa_take {Ps : List (HP V)} {vs : List V} {H : Hp} {i : Nat} {P : HP V} {v : V} (h : Fa (Ps.take i) vs H) (e : Ps[i]? = some P) (p : P v H) : Fa (Ps.take (i + 1)) (vs ++ [v]) H := by
  rw [List.take_succ, e]
  exact h.app ⟨p, trivial⟩
section
variable {K : PySem.W.Frag} {σ : L2.St} {H : Hp} {te ta tb tc : TE} {tr : TA} {D : Ends} {P P' : HP V} {tt tu : TT} {a b : Bool} {v x : V} {i j k : Int}
theorem ev_ixT {n : Nat} {p : Addr} {xs : List V} (h : σ[n]? = some (some (.ref p))) (hp : SqT K H p xs) (e : atI xs j = some v) : Ev (tOp (rIxT K) (tVar n) (tC (.int j))) σ H v := fun Q q => ⟨_, h, p, xs, j, v, rfl, rfl, hp, e, q⟩
theorem evb_or (h : EvB tt σ H a) (g : a = false → EvB tu σ H b) : EvB (tOr tt tu) σ H (a || b) := fun Q q => h _ (by
  cases a with
  | true => exact q
  | false => exact g rfl _ q)
theorem ev_if (h : EvB tt σ H b) (g : if b = true then Ev ta σ H x else Ev tb σ H x) : Ev (tIf tt ta tb) σ H x := fun Q q => h _ (by
  cases b with
  | true => exact g _ q
  | false => exact g _ q)
theorem evb_isN (ha : Ev ta σ H x) : EvB (tTest (tOp (fun x y H Q => y = .non ∧ Q (.bl (decide (x = .non))) H) ta (tC .non))) σ H (decide (x = .non)) := fun Q q => ha _ ⟨rfl, _, rfl, q⟩
theorem st_nn {t : TS} (h : EvB tt σ H false) (k : D.nx σ H) : tIfS tt t tNext D σ H := h _ k
theorem st_ya {t u : TS} (h : EvB tt σ H true) (k : t D σ H) : tIfS tt t u D σ H := h _ k
theorem evb_not (h : EvB tt σ H b) : EvB (tNot tt) σ H (!b) := fun Q q => h _ q
theorem evb_B (h : Ev te σ H (.bl b)) : EvB (tB te) σ H b := fun Q q => h _ ⟨b, rfl, q⟩
theorem ev_isi {n : String} {t : Value} (ha : Ev ta σ H x) (ht : TyX K H x t) (hk : PySem.W.kitOne K t (.type n) = some b) : Ev (tCB (rIsi K) (tCons ta (tCons (tC (.ty n)) tNil))) σ H (.bl b) := fun Q q => ha _ ⟨x, .ty n, t, .type n, b, rfl, .ty _, ht, hk, q⟩
theorem ev_isiC {C : Addr} {t : Value} (ha : Ev ta σ H x) (ht : TyX K H x t) (hk : PySem.W.kitOne K t (.ref C) = some b) : Ev (tCB (rIsi K) (tCons ta (tCons (tC (.ref C)) tNil))) σ H (.bl b) := fun Q q => ha _ ⟨x, .ref C, t, .ref C, b, rfl, .own _, ht, hk, q⟩
theorem ev_lenS {z : Str} (ha : Ev ta σ H (.str z)) (hz : z.length ≤ sizeLine) : Ev (tCB (fun xs H Q => ∃ z, xs = [V.str z] ∧ z.length ≤ sizeLine ∧ Q (.int z.length) H) (tCons ta tNil)) σ H (.int (z.length : Int)) := fun Q q => ha _ ⟨z, rfl, hz, q⟩
theorem ev_lenT {p : Addr} {xs : List V} (ha : Ev ta σ H (.ref p)) (h : SqT K H p xs) : Ev (tCB (fun xs H Q => ∃ p ys, xs = [V.ref p] ∧ (SqL K H p ys ∨ SqT K H p ys) ∧ Q (.int ys.length) H) (tCons ta tNil)) σ H (.int (xs.length : Int)) := fun Q q => ha _ ⟨p, xs, rfl, .inr h, q⟩
theorem ev_chainB (ha : Ev ta σ H (.int i)) (hb : Ev tb σ H (.int j)) (hc : Ev tc σ H (.int k)) : Ev (tChain (rI0 fun i j => .bl (decide (i ≤ j))) (rI0 fun i j => .bl (decide (i ≤ j))) ta tb tc) σ H (.bl (decide (i ≤ j) && decide (j ≤ k))) := fun Q q =>
  ha _ (hb _ ⟨i, j, rfl, rfl, _, rfl, by
    by_cases h : i ≤ j
    · rw [if_pos (decide_eq_true h)]
      rw [decide_eq_true h, Bool.true_and] at q
      exact hc _ ⟨j, k, rfl, rfl, q⟩
    · rw [if_neg (by rw [decide_eq_false h]; exact Bool.false_ne_true)]
      rw [decide_eq_false h, Bool.false_and] at q
      exact q⟩)
theorem evb_cmpF {g : Int → Int → Bool} (ha : Ev ta σ H (.int i)) (hb : Ev tb σ H (.int j)) (h : g i j = b) : EvB (tTest (tOp (rI0 fun i j => .bl (g i j)) ta tb)) σ H b := fun Q q => ha _ (hb _ ⟨i, j, rfl, rfl, b, congrArg V.bl h, q⟩)
theorem evb_eqF (ha : Ev ta σ H x) (hb : Ev tb σ H v) (hs : scal x v = true) (h : decide (x = v) = b) : EvB (tTest (tOp rEq ta tb)) σ H b := fun Q q => ha _ (hb _ ⟨hs, b, congrArg V.bl h, q⟩)
theorem evb_neF (ha : Ev ta σ H x) (hb : Ev tb σ H v) (hs : scal x v = true) (h : decide (x ≠ v) = b) : EvB (tTest (tOp rNe ta tb)) σ H b := fun Q q => ha _ (hb _ ⟨hs, b, congrArg V.bl (by rw [← h]; simp), q⟩)
theorem ev_eq {y : V} (ha : Ev ta σ H x) (hb : Ev tb σ H y) (hs : scal x y = true) (e : decide (x = y) = b) : Ev (tOp rEq ta tb) σ H (.bl b) := fun Q q => ha _ (hb _ ⟨hs, by rw [e]; exact q⟩)
theorem ev_eqn {n m : Nat} (ha : Ev ta σ H (.int (n : Int))) (hb : Ev tb σ H (.int (m : Int))) : Ev (tOp rEq ta tb) σ H (.bl (decide (n = m))) := ev_eq ha hb rfl (by rw [Bool.eq_iff_iff]; simp; omega)
theorem ev_and (ha : Ev ta σ H (.bl true)) (hb : Ev tb σ H v) : Ev (tAndV ta tb) σ H v := fun Q q => ha _ ⟨true, rfl, hb _ q⟩
theorem ev_andF (ha : Ev ta σ H (.bl false)) : Ev (tAndV ta tb) σ H (.bl false) := fun Q q => ha _ ⟨false, rfl, q⟩
/-- a and b, both truths, b asked where a holds -/
theorem ev_andB (ha : Ev ta σ H (.bl a)) (hb : a = true → Ev tb σ H (.bl b)) : Ev (tAndV ta tb) σ H (.bl (a && b)) := by
  cases a with
  | true => exact ev_and ha (hb rfl)
  | false => exact ev_andF ha
theorem g_ev (h : ∀ H1, Same H H1 → Ev te σ H1 v) : G te σ H (Is v) := ev_g h
theorem g_andB (ha : G ta σ H (Is (.bl a))) (hb : a = true → G tb σ H (Is (.bl b))) : G (tAndV ta tb) σ H (Is (.bl (a && b))) := ⟨fun H1 e Q q => ha.ev H1 e _ fun x H2 s2 px => by
  cases px
  cases a with
  | true => exact ⟨true, rfl, (hb rfl).ev H2 (e.trans s2) _ fun y H3 s3 py => q y H3 (s2.trans s3) py⟩
  | false => exact ⟨false, rfl, q _ H2 s2 rfl⟩, mn_i⟩
theorem g_all {bs : List Bool} (h : G te σ H (LF ((bs.map V.bl).map Is))) : G (tCB (rAll K) (tCons te tNil)) σ H (Is (.bl (bs.all id))) := ⟨fun H1 e Q q => h.ev H1 e _ fun x H2 s2 px => by
  obtain ⟨p, xs, rfl, hp, fa⟩ := px
  obtain rfl := fa.is
  exact ⟨p, bs, rfl, .of hp, q _ _ s2 rfl⟩, mn_i⟩
theorem g_callL {sp : Sp} {E : XK} {vs : List V} (ha : ∀ H1, Same H H1 → EvL tr σ H1 vs) (hs : ∀ H1, Same H H1 → ∀ Q : VK, (∀ v H2, Same H1 H2 → P v H2 → Q v H2) → sp (vs ++ []) H1 Q E) (m : Mn P) : G (tCall sp [] E tr) σ H P :=
  ⟨fun H1 e Q q => ha H1 e _ (hs H1 e _ q), m⟩
/-- [e for v in xs], e only adds objects -/
theorem g_lcF {wi : TI} {J : It} {Gw : Hp → Prop} {v : Nat} {ys : List V} {Ps : List (HP V)} (hw : ∀ H1, Same H H1 → ∀ R : It → Hp → Prop, R J H1 → wi σ H1 R) (wk : Walk J ys.length Gw (YAt ys)) (hg : ∀ H1, Same H H1 → Gw H1)
    (hl : Ps.length = ys.length) (hz : ys.length ≤ 1000) (m : ∀ P ∈ Ps, MnK P)
    (h : ∀ (i : Nat) (x : V) (P : HP V) (H1 : Hp), ys[i]? = some x → Ps[i]? = some P → Same H H1 → ∀ Q : VK, (∀ y H2, Same H1 H2 → P y H2 → Q y H2) → te ((σ.set v none).set v (some x)) H1 Q) :
    G (tLc wi (gName v) tYes te [v]) σ H (LF Ps) := by
  refine ⟨fun H1 e Q q => ?_, mn_lf (mn_fa m)⟩
  refine hw H1 e _ ?_
  intro Dd hD
  show ∃ W, _
  refine lc_it wk (fun i H' => Same H1 H' ∧ ∃ acc, H' Dd = some (.lst acc) ∧ Fa (Ps.take i) acc H') ⟨same_new hD, [], upd_same, trivial⟩ (fun _ H' _ p => hg H' (e.trans p.1)) (fun i x H2 H3 hi p y => ?_) (fun H2 p => ?_)
  · obtain ⟨s2, acc, hd, fa⟩ := p
    obtain ⟨rfl, hx⟩ := y
    refine ⟨(List.set_set ..).trans (List.set_set ..), ?_⟩
    obtain ⟨P, hP⟩ : ∃ P, Ps[i]? = some P := ⟨_, List.getElem?_eq_getElem (by omega)⟩
    refine h i x P _ hx hP (e.trans s2) _ fun y H4 s4 py => ?_
    have hd4 := s4 _ _ hd
    have fa4 : Fa (Ps.take i) acc H4 := fa_kp (fun Q hQ => m Q (List.mem_of_mem_take hQ)) (Kp.same s4) fa
    have la := fa.len
    rw [List.length_take] at la
    refine ⟨acc, hd4, Nat.lt_of_le_of_lt (show acc.length ≤ 1000 by omega) (by decide), same_put (s2.trans s4) hD, acc ++ [y], upd_same, ?_⟩
    exact fa_kp (fun Q hQ => m Q (List.mem_of_mem_take hQ)) (Kp.lst hd4) (fa_take fa4 hP py)
  · obtain ⟨s2, acc, hd, fa⟩ := p
    rw [← hl, List.take_length] at fa
    exact q _ _ s2 ⟨Dd, acc, rfl, hd, fa⟩
/-- [e for v in t], t a tuple -/
theorem g_lcT {v : Nat} {q : Addr} {ys : List V} {Ps : List (HP V)} (h0 : ∀ H1, Same H H1 → Ev ta σ H1 (.ref q)) (hq : SqT K H q ys)
    (hl : Ps.length = ys.length) (hz : ys.length ≤ 1000) (m : ∀ P ∈ Ps, MnK P)
    (h : ∀ (i : Nat) (x : V) (P : HP V) (H1 : Hp), ys[i]? = some x → Ps[i]? = some P → Same H H1 → ∀ Q : VK, (∀ y H2, Same H1 H2 → P y H2 → Q y H2) → te ((σ.set v none).set v (some x)) H1 Q) :
    G (tLc (iTup K ta) (gName v) tYes te [v]) σ H (LF Ps) :=
  g_lcF (J := Itt K q) (fun H1 s R r => h0 H1 s _ ⟨q, rfl, ⟨ys, sqt_same s hq⟩, r⟩) walk_tup (fun H1 s => sqt_same s hq) hl hz m h
/-- a list comprehension over the signs of a text -/
theorem g_lcS {v n : Nat} {cs : List Nat} {Ps : List (HP V)} (h0 : σ[n]? = some (some (.str ⟨cs.toArray⟩)))
    (hl : Ps.length = cs.length) (hz : cs.length ≤ 1000) (m : ∀ P ∈ Ps, MnK P)
    (h : ∀ (i : Nat) (c : Nat) (P : HP V) (H1 : Hp), cs[i]? = some c → Ps[i]? = some P → Same H H1 → ∀ Q : VK, (∀ y H2, Same H1 H2 → P y H2 → Q y H2) → te ((σ.set v none).set v (some (.str ⟨#[c]⟩))) H1 Q) :
    G (tLc (iStr (tVar n)) (gName v) tYes te [v]) σ H (LF Ps) :=
  g_lcF (ys := cs.map fun c => .str ⟨#[c]⟩) (J := Its ⟨cs.toArray⟩) (Gw := fun _ => True) (fun H1 s R r => ⟨_, h0, _, rfl, r⟩) (by
    have := walk_str (z := ⟨cs.toArray⟩)
    rw [show (⟨cs.toArray⟩ : Str).cps.size = (cs.map fun c => V.str ⟨#[c]⟩).length by simp] at this
    exact this.mono (fun _ g => g) fun i H x H' hi g y => by
      obtain ⟨e, c, hc, ex⟩ := y
      refine ⟨e, ?_⟩
      rw [List.getElem?_map, show cs[i]? = some c by simpa using hc, ex]
      rfl) (fun _ _ => trivial) (by rw [hl, List.length_map]) (by rw [List.length_map]; exact hz) m fun i x P H1 hx hP s Q q => by
    rw [List.getElem?_map] at hx
    obtain ⟨c, hc, rfl⟩ := Option.map_eq_some_iff.mp hx
    exact h i c P H1 hc hP s Q q
/-- self.f = v at a new object -/
theorem st_fld {tv : TE} {x C dx : Addr} {fs : List (Str × V)} {f : Str} {v : V} (hv : Ev tv σ H v) (ha : Ev ta σ H (.ref x)) (hx : H x = some (.ins C dx fs)) (hc : Cls K C) (hn : NoAttr K C f) (hl : fs.length < 1000) (k : D.nx σ (upd H x (.ins C dx (putF f v fs)))) : sFld K ta tv f D σ H :=
  hv _ (ha _ ⟨x, C, dx, fs, rfl, hx, hc, hn, hl, k⟩)
end
end WEb

set_option Elab.async false
set_option linter.all false
set_option maxRecDepth 100000
set_option maxHeartbeats 2000000
/-! match over written texts: case "a" | "b": .. -/
namespace WMt
open PySem PySem.Spec PyProof.Rows L2
section
variable {X : Cx} {pos : Pos} {e : Expr} {te : TE}
structure PPat (X : Cx) (p : Pattern) (zs : List Str) : Prop where
  run : ∀ (pins : List (Addr × Obj)) (s : Shared) (σ : L2.St) (H : Hp) (x : V) (v : Value) (R : Option (List (Str × Value)) → Shared → Prop), Inv X pins σ H s → RelV x v → (zs.all fun z => scal x (.str z)) = true →
    (∀ s1, Inv X pins σ H s1 → R (if (zs.any fun z => decide (x = .str z)) = true then some [] else none) s1) → wpAny (model X.prog X.w) X.A (matchPattern p X.env v) R X.xe s
structure PFst (X : Cx) (ps : List Pattern) (zs : List Str) : Prop where
  run : ∀ (pins : List (Addr × Obj)) (s : Shared) (σ : L2.St) (H : Hp) (x : V) (v : Value) (R : Option (List (Str × Value)) → Shared → Prop), Inv X pins σ H s → RelV x v → (zs.all fun z => scal x (.str z)) = true →
    (∀ s1, Inv X pins σ H s1 → R (if (zs.any fun z => decide (x = .str z)) = true then some [] else none) s1) → wpAny (model X.prog X.w) X.A (matchFirst ps X.env v) R X.xe s
theorem pp_val {z : Str} {p1 : Pos} {k} : PPat X (.MatchValue (.Constant (.str z) k p1) pos) [z] := by
  refine ⟨fun pins s σ H x v R I r hs h => ?_⟩
  have hs : scal x (.str z) = true := by simpa using hs
  refine wpAny_matchPattern_Value (thn (pe_str.run pins s σ H (fun y H2 => y = .str z ∧ H2 = H) I ⟨rfl, rfl⟩) fun u s2 ⟨y, H2, I2, r2, e1, e2⟩ => ?_)
  subst e1 e2
  refine thn (op_eq pins s2 σ H2 x _ v u (fun w H3 => w = .bl (decide (x = .str z)) ∧ H3 = H2) I2 r r2 ⟨hs, rfl, rfl⟩) fun c s3 ⟨w, H3, I3, r3, e3, e4⟩ => ?_
  subst e3 e4
  cases r3
  refine wpAny_truthy_bool ?_
  have h3 := h s3 I3
  by_cases hx : x = .str z
  · simp [hx] at h3 ⊢
    exact h3
  · simp [hx] at h3 ⊢
    exact h3
theorem pf_nil : PFst X [] [] := ⟨fun pins s σ H x v R I r hs h => wpAny_matchFirst_nil (h s I)⟩
theorem pf_cons {p : Pattern} {ps : List Pattern} {zs ws : List Str} (h1 : PPat X p zs) (h2 : PFst X ps ws) : PFst X (p :: ps) (zs ++ ws) := by
  refine ⟨fun pins s σ H x v R I r hs h => ?_⟩
  rw [List.all_append, Bool.and_eq_true] at hs
  refine wpAny_matchFirst_cons (h1.run pins s σ H x v _ I r hs.1 fun s1 I1 => ?_)
  by_cases hz : (zs.any fun z => decide (x = .str z)) = true
  · rw [if_pos hz]
    have := h s1 I1
    rw [List.any_append, hz, Bool.true_or, if_pos rfl] at this
    exact this
  · rw [if_neg hz]
    refine h2.run pins s1 σ H x v R I1 r hs.2 fun s2 I2 => ?_
    have := h s2 I2
    rw [List.any_append, Bool.eq_false_iff.mpr hz, Bool.false_or] at this
    exact this
theorem pp_or {ps : List Pattern} {zs : List Str} (h1 : PFst X ps zs) : PPat X (.MatchOr ps pos) zs := by
  refine ⟨fun pins s σ H x v R I r hs h => ?_⟩
  refine wpAny_matchPattern_Or (h1.run pins s σ H x v _ I r hs fun s1 I1 => ?_)
  have := h s1 I1
  by_cases hz : (zs.any fun z => decide (x = .str z)) = true
  · rw [if_pos hz] at this ⊢
    show R (some ((namesOfAll (ps.take 1)).filterMap fun n => ((([] : List (Str × Value)).lookup n).map (n, ·)))) s1
    rw [show ((namesOfAll (ps.take 1)).filterMap fun n => ((([] : List (Str × Value)).lookup n).map (n, ·))) = [] by simp]
    exact this
  · rw [if_neg hz] at this ⊢
    exact this
def tCase (zs : List Str) (t : TS) (r : V → TS) : V → TS := fun x D σ H => (zs.all fun z => scal x (.str z)) = true ∧ if (zs.any fun z => decide (x = .str z)) = true then t D σ H else r x D σ H
def tNoCase : V → TS := fun _ D σ H => D.nx σ H
structure PCs (X : Cx) (cs : List MatchCase) (t : V → TS) : Prop where
  run : ∀ (pins : List (Addr × Obj)) (s : Shared) (σ : L2.St) (H : Hp) (D : Ends) (x : V) (v : Value) (first : Bool), Inv X pins σ H s → RelV x v → t x D σ H → wpAny (model X.prog X.w) X.A (matchCases cs X.env v first) (SP X pins D) X.xe s
theorem pc_nil : PCs X [] tNoCase := ⟨fun pins s σ H D x v first I r h => wpAny_matchCases_nil ⟨σ, H, I, h⟩⟩
theorem pc_cons {p : Pattern} {body : List Stmt} {cs : List MatchCase} {zs : List Str} {t : TS} {r : V → TS} (h1 : PPat X p zs) (h2 : PSs X body t) (h3 : PCs X cs r) : PCs X (⟨p, none, body⟩ :: cs) (tCase zs t r) := by
  refine ⟨fun pins s σ H D x v first I rx h => ?_⟩
  refine wpAny_matchCases_cons (h1.run pins s σ H x v _ I rx h.1 fun s1 I1 => ?_)
  have h := h.2
  by_cases hz : (zs.any fun z => decide (x = .str z)) = true
  · rw [if_pos hz] at h ⊢
    exact wpAny_assignInOrder_none (h2.run pins s1 σ H D I1 h)
  · rw [if_neg hz] at h ⊢
    exact h3.run pins s1 σ H D x v false I1 rx h
/-- match e: .. -/
def tMt (te : TE) (tc : V → TS) : TS := fun D σ H => te σ H fun x H1 => tc x D σ H1
theorem ps_match {cs : List MatchCase} {tc : V → TS} (he : PE X e te) (hc : PCs X cs tc) : PS X (.Match e cs pos) (tMt te tc) := by
  refine ⟨fun pins s σ H D I h => ?_⟩
  exact wpAny_Match (thn (he.run pins s σ H _ I h) fun v s1 ⟨x, H1, I1, r1, q1⟩ => hc.run pins s1 σ H1 D x v true I1 r1 q1)
end
end WMt

set_option Elab.async false
set_option linter.all false
set_option maxRecDepth 100000
set_option maxHeartbeats 4000000
namespace W02
open PySem PySem.Spec PyProof.Rows L2 WXG WEv WRd WLf WEn WZs WRu WSt StX WDc WPv WEb
/-! ### the program's tests of values -/
def spB (K : PySem.W.Frag) (f : Pv → Bool) : Sp := fun vs H Q _ => ∃ N p v, vs = [v] ∧ At K N p v H ∧ ∀ H', Same H H' → Q (.bl (f p)) H'
/-- the same where ok holds of the value -/
def spBo (K : PySem.W.Frag) (ok f : Pv → Bool) : Sp := fun vs H Q _ => ∃ N p v, vs = [v] ∧ At K N p v H ∧ ok p = true ∧ ∀ H', Same H H' → Q (.bl (f p)) H'
def spBet (K : PySem.W.Frag) : Sp := fun vs H Q _ => ∃ N p v, ∃ lo hi : Int, vs = [v, .int lo, .int hi] ∧ At K N p v H ∧ Q (.bl (isBetween lo hi p)) H
def spOneOf (K : PySem.W.Frag) : Sp := fun vs H Q _ => ∃ N p v a ws, vs = [v, .ref a] ∧ At K N p v H ∧ SqT K H a ws ∧ ws.all flatV = true ∧ Q (.bl (isOneOf ws p)) H
theorem str_of {s : Str} : ∃ cs : List Nat, s = ⟨cs.toArray⟩ := ⟨s.cps.toList, by cases s; simp⟩
section
variable {K : PySem.W.Frag} {σ : L2.St} {H : Hp} {ta : TE} {E : XK} {f ok : Pv → Bool} {N : Addr → Prop} {p : Pv} {v : V} {tt tu : TT} {a b : Bool}
theorem g_callB (ha : ∀ H1, Same H H1 → Ev ta σ H1 v) (hp : At K N p v H) : G (tCall (spB K f) [] E (tCons ta tNil)) σ H (Is (.bl (f p))) :=
  g_callL (vs := [v]) (fun H1 s => evl_cons (ha H1 s) evl_nil) (fun H1 s Q q => ⟨N, p, v, rfl, at_kn (Kn.same s) p hp, fun H' s' => q _ _ s' rfl⟩) mn_i
theorem g_callBo (ha : ∀ H1, Same H H1 → Ev ta σ H1 v) (hp : At K N p v H) (ho : ok p = true) : G (tCall (spBo K ok f) [] E (tCons ta tNil)) σ H (Is (.bl (f p))) :=
  g_callL (vs := [v]) (fun H1 s => evl_cons (ha H1 s) evl_nil) (fun H1 s Q q => ⟨N, p, v, rfl, at_kn (Kn.same s) p hp, ho, fun H' s' => q _ _ s' rfl⟩) mn_i
theorem g_callF (ha : ∀ H1, Same H H1 → Ev ta σ H1 v) (hp : At K N p v H) (hb : f p = b) : G (tCall (spB K f) [] E (tCons ta tNil)) σ H (Is (.bl b)) := hb ▸ g_callB ha hp
theorem g_callFo (ha : ∀ H1, Same H H1 → Ev ta σ H1 v) (hp : At K N p v H) (ho : ok p = true) (hb : f p = b) : G (tCall (spBo K ok f) [] E (tCons ta tNil)) σ H (Is (.bl b)) := hb ▸ g_callBo ha hp ho
theorem et_or (h : EvT tt σ H a) (g : a = false → EvT tu σ H b) : EvT (tOr tt tu) σ H (a || b) := fun H1 e Q q => h H1 e _ fun H2 s2 => by
  cases a with
  | true => exact q _ s2
  | false => exact g rfl _ (e.trans s2) _ fun H3 s3 => q _ (s2.trans s3)
theorem et_not (h : EvT tt σ H b) : EvT (tNot tt) σ H (!b) := fun H1 e Q q => h H1 e _ q
theorem et_ev (h : ∀ H1, Same H H1 → EvB tt σ H1 b) : EvT tt σ H b := fun H1 e Q q => h H1 e _ (q _ (Same.refl _))
end
section
variable {P : Program} {w : World} {K : PySem.W.Frag} {mg : Str → Option Value} {base : Heap}
theorem ok_is_word (T : Env K mg) : FnOk P w K mg base CX0 1 (d_is_word.loc K) T.fd_is_word ["value"] (spB K isWord) := by
  refine T.F_is_word.ok sc_is_word (fun vs H Q E h => ?_) (fun cdv A outer s H vs Q E hr h => ?_)
  · obtain ⟨N, p, v, rfl, _⟩ := h
    rfl
  · have nd := sc_is_word.nd
    have hu := hu_of hr
    obtain ⟨N, p, v, rfl, hp, k⟩ := h
    refine ⟨_, PSs.nox (pss_cons (ps_if (PW.pt (pw_or (pt_not (pt_val (pe_callB (isiK (K := K)) (by rfl) T.b_isinstance (by decide +kernel) (pa_cons (pv 0) (pa_cons (pe_bltnT (n := "str") (by rfl) T.b_str (by decide +kernel)) pa_nil))))) (pw_or (pt_not (pt_chain op_le op_le pe_int (pe_callB call_len_str (by rfl) T.b_len (by decide +kernel) (pa_cons (pv 0) pa_nil)) (C8.pe_gc (by rfl) T.c_MOST_SIGNS))) (pw_or1 (pt_cmpR op_notIn_sign (pe_ix ix_str (pv 0) pe_int (fun _ _ => rfl)) (C8.pe_gc (by rfl) T.c_LETTERS) (by rfl))))))
  (pss_one (ps_ret pe_bl))
  pss_nil)
 (pss_one (ps_ret (pe_callB (cr_all rfl) (by rfl) T.b_all (by decide +kernel) (pa_cons (pe_lc (own := [("sign", 1)]) (by rfl) nd (pi_str (pv 0)) (blkOk_by (N := ["value", "sign"]) (sc := defScope s_is_word) (by decide +kernel)) (fun _ _ _ _ _ => (pg_name (i := 1) nd rfl (Or.inl rfl))) (fun _ _ _ _ _ => pts_nil) (fun _ _ _ _ _ => (pe_cmpR op_in_sign (pv 1) (C8.pe_gc (by rfl) T.c_SIGNS) (by rfl)))) pa_nil))))), ?_⟩
    have ht := at_ty T.kt p hp
    have hk := kit_str T.kt p
    by_cases hs : isStr p = true
    · rw [hs] at hk
      obtain ⟨z, rfl⟩ : ∃ z, p = .str z := by cases p <;> first | exact ⟨_, rfl⟩ | exact absurd hs Bool.false_ne_true
      obtain ⟨rfl, hl⟩ := hp
      obtain ⟨cs, rfl⟩ := str_of (s := z)
      have hlen : (⟨cs.toArray⟩ : Str).length = cs.length := TL.len_tl _
      have kv : ∀ b, isWordS ⟨cs.toArray⟩ = b → ∀ H', Same H H' → Q (.bl b) H' := fun b e H' s' => by rw [← e]; exact k H' s'
      unfold isWordS at kv
      rw [hlen] at kv
      by_cases h12 : 1 ≤ cs.length ∧ cs.length ≤ 20
      · obtain ⟨c0, hc0⟩ : ∃ c, cs[0]? = some c := ⟨_, List.getElem?_eq_getElem (by omega)⟩
        rw [decide_eq_true h12.1, decide_eq_true h12.2, show (⟨cs.toArray⟩ : Str).cps.toList = cs from rfl, hc0] at kv
        refine st_if (b := !letter c0) (fun Q' q' => evb_or (a := false) (b := !letter c0) (evb_not (b := true) (evb_B (ev_isi (ev_var rfl) ht hk))) (fun _ => evb_or (a := false) (b := !letter c0) (evb_not (b := true) (evb_test (by
            have e := ev_chainB (σ := start ["value", "sign"] [V.str ⟨cs.toArray⟩]) (H := H) (ta := tC (.int 1)) (tc := tC (.int 20)) ev_c (ev_lenS (ev_var (n := 0) rfl) (by rw [hlen]; exact Nat.le_trans h12.2 (by decide))) ev_c
            rw [hlen, decide_eq_true (show (1 : Int) ≤ (cs.length : Int) by omega), decide_eq_true (show (cs.length : Int) ≤ 20 by omega)] at e
            exact e))) fun _ => evb_test (b := !letter c0) (fun Q q => ⟨_, rfl, _, 0, c0, rfl, rfl, by rw [hlen]; exact Nat.le_trans h12.2 (by decide), atI_nat (j := 0) hc0, c0, _, rfl, rfl, q⟩)) _ (by simpa using q')) ?_
        cases hc : letter c0 with
        | false => exact kv false (by simp [hc]) _ (Same.refl _)
        | true =>
          refine g_ret (g_all (bs := cs.map sign) (g_lcS rfl (by simp) (by omega) mk_iss fun i c P H1 hc hP s Q q => ?_)) fun v H1 s1 e => ?_
          · rw [List.getElem?_map, List.getElem?_map, List.getElem?_map, hc] at hP
            cases hP
            exact ⟨_, rfl, c, _, rfl, rfl, q _ _ (Same.refl _) rfl⟩
          · cases e
            exact kv _ (by simp [hc, List.all_map]) _ s1
      · refine st_ya (fun Q' q' => evb_or (a := false) (b := true) (evb_not (b := true) (evb_B (ev_isi (ev_var rfl) ht hk))) (fun _ => evb_or (a := true) (b := false) (evb_not (b := false) (evb_test (by
            have e := ev_chainB (σ := start ["value", "sign"] [V.str ⟨cs.toArray⟩]) (H := H) (ta := tC (.int 1)) (tc := tC (.int 20)) ev_c (ev_lenS (ev_var (n := 0) rfl) (by rw [hlen]; rw [hlen] at hl; exact Nat.le_trans hl (by decide))) ev_c
            rw [hlen, show (decide ((1 : Int) ≤ (cs.length : Int)) && decide ((cs.length : Int) ≤ 20)) = false by
              by_cases h : (1 : Int) ≤ (cs.length : Int)
              · rw [decide_eq_true h, decide_eq_false (by omega)]; rfl
              · rw [decide_eq_false h]; rfl] at e
            exact e))) fun z => nomatch z) _ q') ?_
        refine kv false ?_ _ (Same.refl _)
        by_cases h : 1 ≤ cs.length
        · rw [decide_eq_true h, decide_eq_false (by omega)]; rfl
        · rw [decide_eq_false h]; rfl
    · have hs' : isStr p = false := by simpa using hs
      rw [hs'] at hk
      refine st_ya (fun Q' q' => evb_or (a := true) (b := false) (evb_not (b := false) (evb_B (ev_isi (ev_var rfl) ht hk))) (fun z => nomatch z) _ q') ?_
      have e : isWord p = false := by cases p <;> first | rfl | exact absurd rfl hs
      rw [e] at k
      exact k _ (Same.refl _)
theorem wordNot_eq (l : List V) (p : Pv) : isWordNot l p = (isWord p && !(match p with | .str s => inV (.str s) l | _ => false)) := by cases p <;> rfl
theorem isWord_str {p : Pv} (h : isWord p = true) : ∃ z, p = .str z := by cases p <;> first | exact ⟨_, rfl⟩ | exact absurd h Bool.false_ne_true
theorem word_not {K : PySem.W.Frag} {N : Addr → Prop} {p : Pv} {v : V} {H : Hp} {Q : VK} {E : XK} {σ : L2.St} {a : Addr} {l : List V} (hσ : σ[0]? = some (some v)) (hp : At K N p v H) (hl : ∀ H, SqT K H a l) (hf : l.all flatV = true)
    (k : ∀ H', Same H H' → Q (.bl (isWordNot l p)) H') : tAndV (tCall (spB K isWord) [] E (tCons (tVar 0) tNil)) (tOp (rIn K true) (tVar 0) (tC (.ref a))) σ H Q := by
  refine (g_callB (E := E) (fun H1 s => ev_var hσ) hp).ev H (Same.refl _) _ fun x H1 s1 e => ?_
  cases e
  rw [wordNot_eq] at k
  cases hw : isWord p with
  | false =>
    rw [hw] at k
    exact ⟨false, rfl, k _ s1⟩
  | true =>
    rw [hw] at k
    obtain ⟨z, rfl⟩ := isWord_str hw
    obtain ⟨rfl, hz⟩ := hp
    refine ⟨true, rfl, _, hσ, a, l, rfl, .inr (hl _), rfl, hf, ?_⟩
    rw [if_pos rfl]
    exact k _ s1
theorem ok_is_name (T : Env K mg) : FnOk P w K mg base CX0 2 (d_is_name.loc K) T.fd_is_name ["value"] (spB K isName) := by
  have G_is_word : FnOk P w K mg base CX0 1 _ _ _ _ := ok_is_word T
  refine T.F_is_name.ok sc_is_name (fun vs H Q E h => ?_) (fun cdv A outer s H vs Q E hr h => ?_)
  · obtain ⟨N, p, v, rfl, _⟩ := h
    rfl
  · have nd := sc_is_name.nd
    have hu := hu_of hr
    obtain ⟨N, p, v, rfl, hp, k⟩ := h
    refine ⟨_, PSs.nox (pss_one (ps_ret (pe_and (pe_call G_is_word (hr.mono (by decide)) (by rfl) T.g_is_word T.F_is_word.kp T.bi_is_word .nil pass0 (pa_cons (pv 0) pa_nil)) (pe_one (pe_cmpR (op_notIn_seq) (pv 0) (pe_globR (by rfl) T.g_RESERVED) (by rfl)))))), ?_⟩
    exact word_not (E := E0) rfl hp T.q_RESERVED rfl k
theorem ok_is_failure (T : Env K mg) : FnOk P w K mg base CX0 2 (d_is_failure.loc K) T.fd_is_failure ["value"] (spB K isFailure) := by
  have G_is_word : FnOk P w K mg base CX0 1 _ _ _ _ := ok_is_word T
  refine T.F_is_failure.ok sc_is_failure (fun vs H Q E h => ?_) (fun cdv A outer s H vs Q E hr h => ?_)
  · obtain ⟨N, p, v, rfl, _⟩ := h
    rfl
  · have nd := sc_is_failure.nd
    have hu := hu_of hr
    obtain ⟨N, p, v, rfl, hp, k⟩ := h
    refine ⟨_, PSs.nox (pss_one (ps_ret (pe_and (pe_call G_is_word (hr.mono (by decide)) (by rfl) T.g_is_word T.F_is_word.kp T.bi_is_word .nil pass0 (pa_cons (pv 0) pa_nil)) (pe_one (pe_cmpR (op_notIn_seq) (pv 0) (pe_globR (by rfl) T.g_OWN_REASONS) (by rfl)))))), ?_⟩
    exact word_not (E := E0) rfl hp T.q_OWN_REASONS rfl k
theorem ok_is_free_word (T : Env K mg) : FnOk P w K mg base CX0 2 (d_is_free_word.loc K) T.fd_is_free_word ["value"] (spB K isFree) := by
  have G_is_word : FnOk P w K mg base CX0 1 _ _ _ _ := ok_is_word T
  refine T.F_is_free_word.ok sc_is_free_word (fun vs H Q E h => ?_) (fun cdv A outer s H vs Q E hr h => ?_)
  · obtain ⟨N, p, v, rfl, _⟩ := h
    rfl
  · have nd := sc_is_free_word.nd
    have hu := hu_of hr
    obtain ⟨N, p, v, rfl, hp, k⟩ := h
    refine ⟨_, PSs.nox (pss_one (ps_ret (pe_and (pe_call G_is_word (hr.mono (by decide)) (by rfl) T.g_is_word T.F_is_word.kp T.bi_is_word .nil pass0 (pa_cons (pv 0) pa_nil)) (pe_one (pe_cmpR (op_notIn_seq) (pv 0) (pe_globR (by rfl) T.g_OWN_WORDS) (by rfl)))))), ?_⟩
    exact word_not (E := E0) rfl hp T.q_OWN_WORDS rfl k
theorem ok_is_between (T : Env K mg) : FnOk P w K mg base CX0 1 (d_is_between.loc K) T.fd_is_between ["value", "low", "high"] (spBet K) := by
  refine T.F_is_between.ok sc_is_between (fun vs H Q E h => ?_) (fun cdv A outer s H vs Q E hr h => ?_)
  · obtain ⟨N, p, v, lo, hi, rfl, _⟩ := h
    rfl
  · have nd := sc_is_between.nd
    have hu := hu_of hr
    obtain ⟨N, p, v, lo, hi, rfl, hp, k⟩ := h
    refine ⟨_, PSs.nox (pss_one (ps_ret (pe_and (pe_callB (isiK (K := K)) (by rfl) T.b_isinstance (by decide +kernel) (pa_cons (pv 0) (pa_cons (pe_bltnT (n := "int") (by rfl) T.b_int (by decide +kernel)) pa_nil))) (pe_and (pe_not (pe_callB (isiK (K := K)) (by rfl) T.b_isinstance (by decide +kernel) (pa_cons (pv 0) (pa_cons (pe_bltnT (n := "bool") (by rfl) T.b_bool (by decide +kernel)) pa_nil)))) (pe_one (pe_chain op_le op_le (pv 1) (pv 0) (pv 2))))))), ?_⟩
    have ht := at_ty T.kt p hp
    have hk := kit_int T.kt p
    have hk2 := kit_bool T.kt p
    refine WRd.st_ret (v := .bl (isBetween lo hi p)) ?_ k
    have e : isBetween lo hi p = (isInt p && (!isBl p && (match p with | .int i => decide (lo ≤ i) && decide (i ≤ hi) | _ => false))) := by cases p <;> rfl
    rw [e]
    refine ev_andB (ev_isi (ev_var rfl) ht hk) fun h1 => ev_andB (fun Q q => ev_isi (ev_var rfl) ht hk2 _ ⟨isBl p, rfl, q⟩) fun h2 => ?_
    obtain ⟨i, rfl⟩ : ∃ i, p = .int i := by cases p <;> first | exact ⟨_, rfl⟩ | exact absurd h1 Bool.false_ne_true | exact absurd h2 Bool.false_ne_true
    cases (show v = V.int i from hp)
    exact ev_chainB (ev_var rfl) (ev_var rfl) (ev_var rfl)
theorem ok_is_one_of (T : Env K mg) : FnOk P w K mg base CX0 1 (d_is_one_of.loc K) T.fd_is_one_of ["value", "words"] (spOneOf K) := by
  refine T.F_is_one_of.ok sc_is_one_of (fun vs H Q E h => ?_) (fun cdv A outer s H vs Q E hr h => ?_)
  · obtain ⟨N, p, v, a, ws, rfl, _⟩ := h
    rfl
  · have nd := sc_is_one_of.nd
    have hu := hu_of hr
    obtain ⟨N, p, v, a, ws, rfl, hp, hS, hf, k⟩ := h
    refine ⟨_, PSs.nox (pss_one (ps_ret (pe_and (pe_callB (isiK (K := K)) (by rfl) T.b_isinstance (by decide +kernel) (pa_cons (pv 0) (pa_cons (pe_bltnT (n := "str") (by rfl) T.b_str (by decide +kernel)) pa_nil))) (pe_one (pe_cmpR (op_in_seq) (pv 0) (pv 1) (by rfl)))))), ?_⟩
    have ht := at_ty T.kt p hp
    have hk := kit_str T.kt p
    refine WRd.st_ret (v := .bl (isOneOf ws p)) ?_ k
    have e : isOneOf ws p = (isStr p && isOneOf ws p) := by cases p <;> rfl
    rw [e]
    refine ev_andB (ev_isi (ev_var rfl) ht hk) fun h1 => ?_
    obtain ⟨z, rfl⟩ : ∃ z, p = .str z := by cases p <;> first | exact ⟨_, rfl⟩ | exact absurd h1 Bool.false_ne_true
    obtain ⟨rfl, hl⟩ := hp
    refine fun Q q => ⟨_, rfl, _, rfl, a, ws, rfl, .inr hS, rfl, hf, ?_⟩
    rw [if_neg Bool.false_ne_true]
    exact q
theorem ok_is_deadline (T : Env K mg) : FnOk P w K mg base CX0 2 (d_is_deadline.loc K) T.fd_is_deadline ["value"] (spB K isDeadline) := by
  have G_is_between : FnOk P w K mg base CX0 1 _ _ _ _ := ok_is_between T
  refine T.F_is_deadline.ok sc_is_deadline (fun vs H Q E h => ?_) (fun cdv A outer s H vs Q E hr h => ?_)
  · obtain ⟨N, p, v, rfl, _⟩ := h
    rfl
  · have nd := sc_is_deadline.nd
    have hu := hu_of hr
    obtain ⟨N, p, v, rfl, hp, k⟩ := h
    refine ⟨_, PSs.nox (pss_one (ps_ret (pe_or (pe_cmpR op_isN (pv 0) pe_non (nomark _)) (pe_one (pe_call G_is_between (hr.mono (by decide)) (by rfl) T.g_is_between T.F_is_between.kp T.bi_is_between .nil pass0 (pa_cons (pv 0) (pa_cons pe_int (pa_cons (C8.pe_gc (by rfl) T.c_MOST_WAIT) pa_nil)))))))), ?_⟩
    by_cases hn : p = .non
    · subst hn
      cases (show v = V.non from hp)
      exact ⟨_, rfl, rfl, true, rfl, k _ (Same.refl _)⟩
    · have hv : v ≠ .non := fun e => by
        subst e
        cases p with
        | non => exact hn rfl
        | bl b => cases hp
        | int i => cases hp
        | str s => cases hp.1
        | dic => obtain ⟨_, e, _⟩ := hp; cases e
        | tup l => obtain ⟨_, _, e, _⟩ := hp; cases e
        | lst l => obtain ⟨_, _, e, _⟩ := hp; cases e
        | wrk l => obtain ⟨_, _, _, _, e, _⟩ := hp; cases e
        | sup n d => obtain ⟨_, _, _, _, e, _⟩ := hp; cases e
      have e : isDeadline p = isBetween 0 1000000000 p := by cases p <;> first | rfl | exact absurd rfl hn
      rw [e] at k
      exact ⟨_, rfl, rfl, false, congrArg V.bl (decide_eq_false hv), _, rfl, N, p, v, 0, 1000000000, rfl, hp, k _ (Same.refl _)⟩
theorem ok_is_value (T : Env K mg) : FnOk P w K mg base CX0 2 (d_is_value.loc K) T.fd_is_value ["value"] (spB K isValue) := by
  have G_is_between : FnOk P w K mg base CX0 1 _ _ _ _ := ok_is_between T
  refine T.F_is_value.ok sc_is_value (fun vs H Q E h => ?_) (fun cdv A outer s H vs Q E hr h => ?_)
  · obtain ⟨N, p, v, rfl, _⟩ := h
    rfl
  · have nd := sc_is_value.nd
    have hu := hu_of hr
    obtain ⟨N, p, v, rfl, hp, k⟩ := h
    refine ⟨_, PSs.nox (pss_one (ps_ret (pe_call G_is_between (hr.mono (by decide)) (by rfl) T.g_is_between T.F_is_between.kp T.bi_is_between .nil pass0 (pa_cons (pv 0) (pa_cons (pe_un un_neg (C8.pe_gc (by rfl) T.c_MOST_VALUE)) (pa_cons (C8.pe_gc (by rfl) T.c_MOST_VALUE) pa_nil)))))), ?_⟩
    exact ⟨_, rfl, _, rfl, N, p, v, -1000000000000, 1000000000000, rfl, hp, k _ (Same.refl _)⟩
end
end W02

set_option Elab.async false
set_option linter.all false
set_option maxRecDepth 100000
set_option maxHeartbeats 4000000
namespace W02
open PySem PySem.Spec PyProof.Rows L2 WXG WEv WRd WLf WEn WZs WRu WSt StX WDc WPv WEb
/-! ### scripts -/
def LB (b : Bool) : HP V := fun v H => ∃ l xs, v = .ref l ∧ H l = some (.lst xs) ∧ decide (xs = []) = b
theorem mn_lb {b : Bool} : Mn (LB b) := fun _ _ _ s ⟨l, xs, e, h, q⟩ => ⟨l, xs, e, s _ _ h, q⟩
section
variable {K : PySem.W.Frag} {σ : L2.St} {H : Hp} {ta te : TE} {tt : TT}
/-- [x for x in t if ..]: is it empty -/
theorem g_lcIf {v : Nat} {q : Addr} {ys : List V} {bs : List Bool} (h0 : ∀ H1, Same H H1 → Ev ta σ H1 (.ref q)) (hq : SqT K H q ys) (hl : bs.length = ys.length) (hz : ys.length ≤ 1000)
    (hv : ∀ x, ((σ.set v none).set v (some x))[v]? = some (some x)) (ht : ∀ (i : Nat) (x : V) (b : Bool) (H1 : Hp), ys[i]? = some x → bs[i]? = some b → Same H H1 → EvB tt ((σ.set v none).set v (some x)) H1 b) :
    G (tLc (iTup K ta) (gName v) tt (tVar v) [v]) σ H (LB (!bs.any id)) := by
  refine ⟨fun H1 e Q q' => h0 H1 e _ ⟨q, rfl, ⟨ys, sqt_same e hq⟩, ?_⟩, mn_lb⟩
  intro Dd hD
  show ∃ W, _
  refine lc_it (walk_tup (xs := ys)) (fun i H' => Same H1 H' ∧ ∃ acc, H' Dd = some (.lst acc) ∧ acc.length ≤ i ∧ decide (acc = []) = !((bs.take i).any id)) ⟨same_new hD, [], upd_same, Nat.le_refl _, rfl⟩ (fun _ H' _ p => sqt_same (e.trans p.1) hq) (fun i x H2 H3 hi p y => ?_) (fun H2 p => ?_)
  · obtain ⟨s2, acc, hd, hl', ha⟩ := p
    obtain ⟨rfl, hx⟩ := y
    refine ⟨(List.set_set ..).trans (List.set_set ..), ?_⟩
    obtain ⟨b, hb⟩ : ∃ b, bs[i]? = some b := ⟨_, List.getElem?_eq_getElem (by omega)⟩
    refine ht i x b _ hx hb (e.trans s2) _ ?_
    cases b with
    | true =>
      rw [if_pos rfl]
      refine ⟨_, hv _, acc, hd, Nat.lt_of_le_of_lt (show acc.length ≤ 1000 by omega) (by decide), same_put s2 hD, acc ++ [x], upd_same, by simp; omega, ?_⟩
      rw [List.take_succ, hb]
      simp
    | false =>
      rw [if_neg Bool.false_ne_true]
      refine ⟨s2, acc, hd, by omega, ?_⟩
      rw [ha, List.take_succ, hb]
      simp
  · obtain ⟨s2, acc, hd, hl', ha⟩ := p
    rw [← hl, List.take_length] at ha
    exact q' _ _ s2 ⟨Dd, acc, rfl, hd, ha⟩
end
theorem st_ne0 {σ : L2.St} {H : Hp} {K : PySem.W.Frag} {tl : TE} {t u : TS} {D : Ends} {b : Bool} (h : G tl σ H (LB b)) (k : ∀ H1, Same H H1 → if b = true then u D σ H1 else t D σ H1) : tIfS (tTest (tOp (rNeN K) tl (tLst tNil))) t u D σ H :=
  h.ev H (Same.refl _) _ fun v3 H3 s3 e3 => by
    obtain ⟨l3, xs3, rfl, hl3, hx3⟩ := e3
    refine ⟨Nat.zero_le _, fun b4 hb4 => ⟨l3, b4, xs3, rfl, rfl, .inl (.of ((same_new hb4) _ _ hl3)), .inl (.of upd_same), _, rfl, ?_⟩⟩
    rw [hx3]
    have z := k _ (s3.trans (same_new (o := .lst []) hb4))
    cases b with
    | true => exact z
    | false => exact z
theorem case_yes {c : Prop} [Decidable c] {a b : Prop} (h : c) (k : a) : ite c a b := (if_pos h).mpr k
theorem case_no {c : Prop} [Decidable c] {a b : Prop} (h : ¬ c) (k : b) : ite c a b := (if_neg h).mpr k
theorem any_take_succ {α : Type} {f : α → Bool} {l : List α} {i : Nat} {x : α} (h : l[i]? = some x) : (l.take (i + 1)).any f = ((l.take i).any f || f x) := by
  rw [List.take_succ, h]
  simp
theorem all_get {α : Type} {f : α → Bool} {l : List α} {i : Nat} {x : α} (h : l.all f = true) (hx : l[i]? = some x) : f x = true := List.all_eq_true.mp h x (List.mem_of_getElem? hx)
def isAddD : Pv → Bool
  | .tup (.str w :: _) => decide (w = ("add" : Str))
  | _ => false
def isStrD : Pv → Bool
  | .tup (.str _ :: _) => true
  | _ => false
theorem isStrD_of {p : Pv} (h : isStrD p = true) : ∃ w l, p = .tup (.str w :: l) := by
  cases p with
  | tup l =>
    cases l with
    | nil => exact absurd h Bool.false_ne_true
    | cons a l => cases a <;> first | exact ⟨_, _, rfl⟩ | exact absurd h Bool.false_ne_true
  | _ => exact absurd h Bool.false_ne_true
theorem addRow_eq {a b c : Pv} {ds : List Pv} : addRow (.tup [a, b, c, .tup ds]) = ds.any isAddD := rfl
theorem rowForm_of {p : Pv} (h : rowForm p = true) : ∃ a b c ds, p = .tup [a, b, c, .tup ds] ∧ ds.all isStrD = true := by
  unfold rowForm at h
  split at h
  · exact ⟨_, _, _, _, rfl, h⟩
  · cases h
def spScript (K : PySem.W.Frag) : Sp := fun vs H Q _ => ∃ N rs v, vs = [v] ∧ At K N (.tup rs) v H ∧ rs.all rowForm = true ∧ ∀ H', Same H H' → Q (.bl (hasAdd (.tup rs))) H'
/-- self.own_settings[j] -/
def spPr (K : PySem.W.Frag) (C : Addr) (j : Int) : Sp := fun vs H Q _ => ∃ (a dx q : Addr) (fs : List (Str × V)) (xs : List V) (x : V), vs = [.ref a] ∧ H a = some (.ins C dx fs) ∧ fs.lookup ("own_settings" : Str) = some (.ref q) ∧ SqT K H q xs ∧ atI xs j = some x ∧ Q x H
def spShape (K : PySem.W.Frag) : Sp := fun vs H Q _ => ∃ N w ps v, vs = [.str w, v] ∧ At K N (.tup ps) v H ∧ ps.all okDV = true ∧ ∀ H', Same H H' → Q (.bl (hasShape w ps)) H'
def wrV : Option Nat → V
  | some i => .int (i : Nat)
  | none => .non
def spWrong (K : PySem.W.Frag) : Sp := fun vs H Q _ => ∃ N rs v, vs = [v] ∧ At K N (.tup rs) v H ∧ rs.all okRow = true ∧ ∀ H', Same H H' → Q (wrV (wrongGo 0 [] rs)) H'
theorem at3 {xs : List V} {x : V} {n : Nat} (h : xs[n]? = some x) : atI xs (n : Int) = some x := atI_nat h
theorem g_bet {K : PySem.W.Frag} {σ : L2.St} {H : Hp} {ta : TE} {E : XK} {p : Pv} {lo hi : Int} (h : ∃ x N, At K N p x H ∧ ∀ H1, Same H H1 → Ev ta σ H1 x) : G (tCall (spBet K) [] E (tCons ta (tCons (tC (.int lo)) (tCons (tC (.int hi)) tNil)))) σ H (Is (.bl (isBetween lo hi p))) := by
  obtain ⟨x, N, px, ha⟩ := h
  exact g_callL (vs := [x, .int lo, .int hi]) (fun H1 s => evl_cons (ha H1 s) (evl_cons ev_c (evl_cons ev_c evl_nil))) (fun H1 s Q q => ⟨N, p, x, lo, hi, rfl, at_kn (Kn.same s) _ px, q _ _ (Same.refl _) rfl⟩) mn_i
theorem g_betF {K : PySem.W.Frag} {N : Addr → Prop} {σ : L2.St} {H : Hp} {ta : TE} {E : XK} {p : Pv} {lo hi : Int} {x : V} {b : Bool} (ha : ∀ H1, Same H H1 → Ev ta σ H1 x) (px : At K N p x H) (hb : isBetween lo hi p = b) : G (tCall (spBet K) [] E (tCons ta (tCons (tC (.int lo)) (tCons (tC (.int hi)) tNil)))) σ H (Is (.bl b)) := hb ▸ g_bet ⟨x, N, px, ha⟩
section
variable {P : Program} {w : World} {K : PySem.W.Frag} {mg : Str → Option Value} {base : Heap}
theorem ok_is_deed_value (T : Env K mg) : FnOk P w K mg base CX0 3 (d_is_deed_value.loc K) T.fd_is_deed_value ["value"] (spBo K okDV isDeedValue) := by
  have G_is_value : FnOk P w K mg base CX0 2 _ _ _ _ := ok_is_value T
  refine T.F_is_deed_value.ok sc_is_deed_value (fun vs H Q E h => ?_) (fun cdv A outer s H vs Q E hr h => ?_)
  · obtain ⟨N, p, v, rfl, _⟩ := h
    rfl
  · have nd := sc_is_deed_value.nd
    have hu := hu_of hr
    obtain ⟨N, p, v, rfl, hp, ho, k⟩ := h
    refine ⟨_, PSs.nox (pss_cons (ps_if (pt_val (pe_callB (isiK (K := K)) (by rfl) T.b_isinstance (by decide +kernel) (pa_cons (pv 0) (pa_cons (pe_bltnT (n := "tuple") (by rfl) T.b_tuple (by decide +kernel)) pa_nil))))
  (pss_one (ps_ret (pe_and (pe_cmpR op_eq (pe_callB call_len_seq (by rfl) T.b_len (by decide +kernel) (pa_cons (pv 0) pa_nil)) pe_int (nomark _)) (pe_and (pe_cmpR op_eq (pe_ix (ixtK (K := K)) (pv 0) pe_int (fun _ _ => rfl)) pe_str (nomark _)) (pe_one (pe_call G_is_value (hr.mono (by decide)) (by rfl) T.g_is_value T.F_is_value.kp T.bi_is_value .nil pass0 (pa_cons (pe_ix (ixtK (K := K)) (pv 0) pe_int (fun _ _ => rfl)) pa_nil)))))))
  pss_nil)
 (pss_one (ps_ret (pe_call G_is_value (hr.mono (by decide)) (by rfl) T.g_is_value T.F_is_value.kp T.bi_is_value .nil pass0 (pa_cons (pv 0) pa_nil))))), ?_⟩
    have ht := at_ty T.kt p hp
    have hk := kit_tup T.kt p
    by_cases hs : isTup p = true
    · rw [hs] at hk
      refine st_ya (evb_B (ev_isi (ev_var rfl) ht hk)) ?_
      obtain ⟨l, rfl⟩ : ∃ l, p = .tup l := by cases p <;> first | exact ⟨_, rfl⟩ | exact absurd hs Bool.false_ne_true
      obtain ⟨q, xs, rfl, hq, ha, _⟩ := hp
      have hl := ha.len
      by_cases h2 : l.length = 2
      · obtain ⟨a, b, rfl⟩ : ∃ a b, l = [a, b] := by
          match l, h2 with
          | [a, b], _ => exact ⟨a, b, rfl⟩
        obtain ⟨x, _, rfl, hx, y, _, rfl, hy, hn⟩ := ha
        cases (show _ = [] from hn)
        obtain ⟨z, rfl⟩ : ∃ z, a = .str z := by cases a <;> first | exact ⟨_, rfl⟩ | exact absurd ho Bool.false_ne_true
        obtain ⟨rfl, hz⟩ := hx
        have e : isDeedValue (.tup [.str z, b]) = (true && (decide (z = ("plus" : Str)) && isValue b)) := rfl
        rw [e] at k
        refine g_ret (g_andB (g_ev fun H1 s1 => ev_eqn (m := 2) (ev_lenT (ev_var rfl) (sqt_same s1 hq)) ev_c) fun _ => g_andB (g_ev fun H1 s1 => ev_eq (y := .str "plus") (b := decide (z = ("plus" : Str))) (ev_ixT rfl (sqt_same s1 hq) rfl) ev_c rfl (by simp)) fun _ => g_callB (p := b) (v := y) (fun H1 s1 => ev_ixT rfl (sqt_same s1 hq) rfl) hy) fun v H1 s1 e => by cases e; exact k _ s1
      · have e : isDeedValue (.tup l) = false := by
          match l, h2 with
          | [], _ => rfl
          | [a], _ => cases a <;> rfl
          | [a, b], h2 => exact absurd rfl h2
          | a :: b :: c :: r, _ => cases a <;> rfl
        rw [e] at k
        refine g_ret (g_andB (a := false) (b := true) (g_ev fun H1 s1 => ?_) fun z => nomatch z) fun v H1 s1 e => by cases e; exact k _ s1
        have e := ev_eqn (σ := start ["value"] [V.ref q]) (m := 2) (ev_lenT (ta := tVar 0) (ev_var rfl) (sqt_same s1 hq)) (ev_c (H := H1))
        rw [hl, decide_eq_false h2] at e
        exact e
    · have hs' : isTup p = false := by simpa using hs
      rw [hs'] at hk
      refine st_nn (evb_B (ev_isi (ev_var rfl) ht hk)) ?_
      have e : isDeedValue p = isValue p := by cases p <;> first | rfl | exact absurd rfl hs
      rw [e] at k
      refine g_ret (g_callB (fun H1 s1 => ev_var rfl) hp) fun v H1 s1 e => by cases e; exact k _ s1
theorem ok_WP_script (T : Env K mg) : FnOk P w K mg base CX0 1 (d_WorkerPlan_script.loc K) T.fd_WorkerPlan_script ["self"] (spPr K (CW K) 6) := by
  refine T.F_WorkerPlan_script.ok sc_WorkerPlan_script (fun vs H Q E h => ?_) (fun cdv A outer s H vs Q E hr h => ?_)
  · obtain ⟨a, dx, q, fs, xs, x, rfl, _⟩ := h
    rfl
  · have nd := sc_WorkerPlan_script.nd
    have hu := hu_of hr
    obtain ⟨a, dx, q, fs, xs, x, rfl, ha, hf, hq, hx, k⟩ := h
    refine ⟨_, PSs.nox (pss_one (ps_ret (pe_ix (ixtK (K := K)) (pe_fld (pv 0) rfl) pe_int (fun _ _ => rfl)))), ?_⟩
    exact ⟨_, rfl, a, _, dx, fs, _, rfl, ha, T.dc_WorkerPlan.cls, T.n_WorkerPlan_own_settings, hf, q, xs, 6, x, rfl, rfl, hq, hx, k⟩
theorem ok_has_add (T : Env K mg) : FnOk P w K mg base CX0 1 (d_has_add.loc K) T.fd_has_add ["script"] (spScript K) := by
  refine T.F_has_add.ok sc_has_add (fun vs H Q E h => ?_) (fun cdv A outer s H vs Q E hr h => ?_)
  · obtain ⟨N, rs, v, rfl, _⟩ := h
    rfl
  · have nd := sc_has_add.nd
    have hu := hu_of hr
    obtain ⟨N, rs, v, rfl, hp, hf, k⟩ := h
    refine ⟨_, PSs.nox (pss_cons (ps_for PassesOwn.never rfl (pi_tup (pv 0)) (pg_name (i := 1) nd rfl (Or.inl rfl))
  (pss_one (ps_if (pt_cmpR (op_neN hr.units) (pe_lc (own := [("deed", 2)]) (by rfl) nd (pi_tup (pe_ix (ixtK (K := K)) (pv 1) pe_int (fun _ _ => rfl))) (blkOk_by (N := ["script", "row", "deed"]) (sc := defScope s_has_add) (by decide +kernel)) (fun _ _ _ _ _ => (pg_name (i := 2) nd rfl (Or.inl rfl))) (fun _ _ _ _ _ => (pts_one (pt_cmpR op_eq (pe_ix (ixtK (K := K)) (pv 2) pe_int (fun _ _ => rfl)) pe_str (nomark _)))) (fun _ _ _ _ _ => (pv 2))) (pe_lst pa_nil) (nomark _))
  (pss_one (ps_ret pe_bl))
  pss_nil)))
 (pss_one (ps_ret pe_bl))), ?_⟩
    obtain ⟨q, xs, rfl, hq, ha, hz⟩ := hp
    have hl := ha.len
    refine ⟨_, rfl, q, rfl, ⟨xs, hq⟩, ?_⟩
    refine for_it (walk_tup (xs := xs)) (fun i σ H' => Same H H' ∧ (rs.take i).any addRow = false ∧ ∃ a1 a2, σ = [some (.ref q), a1, a2]) ⟨Same.refl _, rfl, _, _, rfl⟩ (fun i σ H' _ p => sqt_same p.1 hq) (fun i x σ H1 H2 hi p y => ?_) (fun σ H1 p => ?_)
    · obtain ⟨s1, hn, a1, a2, rfl⟩ := p
      obtain ⟨rfl, ex⟩ := y
      obtain ⟨r, hr', px⟩ := ha.get2 ex
      obtain ⟨a, b, c, ds, rfl, hds⟩ := rowForm_of (all_get hf hr')
      obtain ⟨rq, rx, rfl, hrq, hra, _⟩ := at_kn (Kn.same s1) _ px
      obtain ⟨d, hd, pd⟩ := hra.get (i := 3) rfl
      obtain ⟨dq, dxs, rfl, hdq, hda, hdz⟩ := pd
      have hdl := hda.len
      have e2 : addRow (.tup [a, b, c, .tup ds]) = ds.any isAddD := rfl
      show tIfS _ _ _ _ _ _
      refine st_ne0 (g_lcIf (bs := ds.map isAddD) (ys := dxs) (q := dq) (fun H3 s3 => ev_ixT rfl (sqt_same s3 hrq) (at3 hd)) hdq (by rw [List.length_map, hdl]) (by rw [hdl]; exact hdz) (fun _ => rfl) fun j y bb H3 hj hb s3 => ?_) fun H3 s3 => ?_
      · obtain ⟨p3, hp3, py⟩ := hda.get2 hj
        rw [List.getElem?_map, hp3] at hb
        cases hb
        obtain ⟨w1, l1, rfl⟩ := isStrD_of (all_get hds hp3)
        obtain ⟨q3, xs3, rfl, hq3, ha3, _⟩ := at_kn (Kn.same s3) _ py
        obtain ⟨y3, hy3, p3⟩ := ha3.get (i := 0) rfl
        obtain ⟨rfl, _⟩ := p3
        exact evb_eqF (ev_ixT rfl hq3 (at3 hy3)) ev_c rfl (by simp [isAddD])
      · have s4 := s1.trans s3
        rw [List.any_map]
        cases hx : ds.any (id ∘ isAddD) with
        | true =>
          have e5 : hasAdd (.tup rs) = true := List.any_eq_true.mpr ⟨_, List.mem_of_getElem? hr', by rw [e2]; exact hx⟩
          rw [e5] at k
          exact k _ s4
        | false =>
          refine ⟨s4, ?_, _, _, rfl⟩
          rw [any_take_succ hr', hn, e2]
          exact hx
    · obtain ⟨s1, hn, _⟩ := p
      rw [hl, List.take_length] at hn
      have e5 : hasAdd (.tup rs) = false := hn
      rw [e5] at k
      exact k _ s1
theorem ok_is_added (T : Env K mg) : FnOk P w K mg base CX0 3 (d_is_added_plan.loc K) T.fd_is_added_plan ["value"] (spB K isAdded) := by
  have G_has_add : FnOk P w K mg base CX0 1 _ _ _ _ := ok_has_add T
  have G_WorkerPlan_script : FnOk P w K mg base CX0 1 _ _ _ _ := ok_WP_script T
  refine T.F_is_added_plan.ok sc_is_added_plan (fun vs H Q E h => ?_) (fun cdv A outer s H vs Q E hr h => ?_)
  · obtain ⟨N, p, v, rfl, _⟩ := h
    rfl
  · have nd := sc_is_added_plan.nd
    have hu := hu_of hr
    obtain ⟨N, p, v, rfl, hp, k⟩ := h
    refine ⟨_, PSs.nox (pss_one (ps_ret (pe_and (pe_callB (isiK (K := K)) (by rfl) T.b_isinstance (by decide +kernel) (pa_cons (pv 0) (pa_cons (pe_globR (by rfl) T.g_BaseWorker) pa_nil))) (pe_one (pe_not (pe_call G_has_add (hr.mono (by decide)) (by rfl) T.g_has_add T.F_has_add.kp T.bi_has_add .nil pass0 (pa_cons (pe_prop (pv 0) T.dc_WorkerPlan.cls T.p_WorkerPlan_script G_WorkerPlan_script (hr.mono (by decide)) T.bi_WorkerPlan_script .nil pass0 rfl) pa_nil))))))), ?_⟩
    have ht := at_ty T.kt p hp
    have hk := kit_bw T.kt p
    by_cases hs : isWrk p = true
    · rw [hs] at hk
      obtain ⟨l, rfl⟩ : ∃ l, p = .wrk l := by cases p <;> first | exact ⟨_, rfl⟩ | exact absurd hs Bool.false_ne_true
      obtain ⟨a, dx, q, xs, rfl, h1, hq, ⟨a1, a2, a3, a4, a5, a6, s0, rfl, hsf⟩, ha⟩ := hp
      obtain ⟨x, hx, px⟩ := ha.get (i := 6) rfl
      obtain ⟨rs, rfl, hrs⟩ : ∃ rs, s0 = .tup rs ∧ rs.all rowForm = true := by cases s0 <;> first | exact ⟨_, rfl, hsf⟩ | exact absurd hsf Bool.false_ne_true
      refine ev_isiC (ev_var rfl) ht hk _ ⟨true, rfl, ?_⟩
      have e : isAdded (.wrk [a1, a2, a3, a4, a5, a6, .tup rs]) = !hasAdd (.tup rs) := rfl
      rw [e] at k
      refine ⟨_, rfl, a, dx, _, rfl, h1, a, dx, q, _, xs, x, rfl, h1, rfl, hq, at3 hx, N, rs, x, rfl, px, hrs, fun H' s' => ⟨_, rfl, k H' s'⟩⟩
    · have hs' : isWrk p = false := by simpa using hs
      rw [hs'] at hk
      have e : isAdded p = false := by cases p <;> first | rfl | exact absurd rfl hs
      rw [e] at k
      exact ev_isiC (ev_var rfl) ht hk _ ⟨false, rfl, k _ (Same.refl _)⟩
theorem ok_has_shape (T : Env K mg) : FnOk P w K mg base CX0 4 (d_has_shape.loc K) T.fd_has_shape ["word", "parts"] (spShape K) := by
  have G_is_word : FnOk P w K mg base CX0 1 _ _ _ _ := ok_is_word T
  have G_is_free_word : FnOk P w K mg base CX0 2 _ _ _ _ := ok_is_free_word T
  have G_is_failure : FnOk P w K mg base CX0 2 _ _ _ _ := ok_is_failure T
  have G_is_between : FnOk P w K mg base CX0 1 _ _ _ _ := ok_is_between T
  have G_is_deed_value : FnOk P w K mg base CX0 3 _ _ _ _ := ok_is_deed_value T
  have G_is_added_plan : FnOk P w K mg base CX0 3 _ _ _ _ := ok_is_added T
  refine T.F_has_shape.ok sc_has_shape (fun vs H Q E h => ?_) (fun cdv A outer s H vs Q E hr h => ?_)
  · obtain ⟨N, z, ps, v, rfl, _⟩ := h
    rfl
  · have nd := sc_has_shape.nd
    have hu := hu_of hr
    obtain ⟨N, z, ps, v, rfl, hp, ho, k⟩ := h
    refine ⟨_, PSs.nox (pss_cons (WMt.ps_match (pv 0) (WMt.pc_cons (WMt.pp_or (WMt.pf_cons WMt.pp_val (WMt.pf_cons WMt.pp_val (WMt.pf_cons WMt.pp_val (WMt.pf_cons WMt.pp_val (WMt.pf_cons WMt.pp_val (WMt.pf_cons WMt.pp_val (WMt.pf_cons WMt.pp_val (WMt.pf_cons WMt.pp_val WMt.pf_nil))))))))) (pss_one (ps_ret (pe_and (pe_cmpR op_eq (pe_callB call_len_seq (by rfl) T.b_len (by decide +kernel) (pa_cons (pv 1) pa_nil)) pe_int (nomark _)) (pe_one (pe_call G_is_word (hr.mono (by decide)) (by rfl) T.g_is_word T.F_is_word.kp T.bi_is_word .nil pass0 (pa_cons (pe_ix (ixtK (K := K)) (pv 1) pe_int (fun _ _ => rfl)) pa_nil))))))
  (WMt.pc_cons (WMt.pp_or (WMt.pf_cons WMt.pp_val (WMt.pf_cons WMt.pp_val WMt.pf_nil))) (pss_one (ps_ret (pe_and (pe_cmpR op_eq (pe_callB call_len_seq (by rfl) T.b_len (by decide +kernel) (pa_cons (pv 1) pa_nil)) pe_int (nomark _)) (pe_and (pe_call G_is_word (hr.mono (by decide)) (by rfl) T.g_is_word T.F_is_word.kp T.bi_is_word .nil pass0 (pa_cons (pe_ix (ixtK (K := K)) (pv 1) pe_int (fun _ _ => rfl)) pa_nil)) (pe_and (pe_call G_is_free_word (hr.mono (by decide)) (by rfl) T.g_is_free_word T.F_is_free_word.kp T.bi_is_free_word .nil pass0 (pa_cons (pe_ix (ixtK (K := K)) (pv 1) pe_int (fun _ _ => rfl)) pa_nil)) (pe_one (pe_call G_is_deed_value (hr.mono (by decide)) (by rfl) T.g_is_deed_value T.F_is_deed_value.kp T.bi_is_deed_value .nil pass0 (pa_cons (pe_ix (ixtK (K := K)) (pv 1) pe_int (fun _ _ => rfl)) pa_nil))))))))
  (WMt.pc_cons WMt.pp_val (pss_one (ps_ret (pe_and (pe_cmpR op_eq (pe_callB call_len_seq (by rfl) T.b_len (by decide +kernel) (pa_cons (pv 1) pa_nil)) pe_int (nomark _)) (pe_one (pe_call G_is_deed_value (hr.mono (by decide)) (by rfl) T.g_is_deed_value T.F_is_deed_value.kp T.bi_is_deed_value .nil pass0 (pa_cons (pe_ix (ixtK (K := K)) (pv 1) pe_int (fun _ _ => rfl)) pa_nil))))))
  (WMt.pc_cons WMt.pp_val (pss_cons (ps_set (i := 2) nd rfl (Or.inl rfl) (pe_and (pe_cmpR op_eq (pe_callB call_len_seq (by rfl) T.b_len (by decide +kernel) (pa_cons (pv 1) pa_nil)) pe_int (nomark _)) (pe_one (pe_call G_is_between (hr.mono (by decide)) (by rfl) T.g_is_between T.F_is_between.kp T.bi_is_between .nil pass0 (pa_cons (pe_ix (ixtK (K := K)) (pv 1) pe_int (fun _ _ => rfl)) (pa_cons pe_int (pa_cons (C8.pe_gc (by rfl) T.c_MOST_TICKS) pa_nil)))))))
 (pss_one (ps_ret (pe_and (pv 2) (pe_and (pe_call G_is_free_word (hr.mono (by decide)) (by rfl) T.g_is_free_word T.F_is_free_word.kp T.bi_is_free_word .nil pass0 (pa_cons (pe_ix (ixtK (K := K)) (pv 1) pe_int (fun _ _ => rfl)) pa_nil)) (pe_one (pe_call G_is_deed_value (hr.mono (by decide)) (by rfl) T.g_is_deed_value T.F_is_deed_value.kp T.bi_is_deed_value .nil pass0 (pa_cons (pe_ix (ixtK (K := K)) (pv 1) pe_int (fun _ _ => rfl)) pa_nil))))))))
  (WMt.pc_cons WMt.pp_val (pss_one (ps_ret (pe_and (pe_cmpR op_eq (pe_callB call_len_seq (by rfl) T.b_len (by decide +kernel) (pa_cons (pv 1) pa_nil)) pe_int (nomark _)) (pe_one (pe_callB (isiK (K := K)) (by rfl) T.b_isinstance (by decide +kernel) (pa_cons (pe_ix (ixtK (K := K)) (pv 1) pe_int (fun _ _ => rfl)) (pa_cons (pe_bltnT (n := "bool") (by rfl) T.b_bool (by decide +kernel)) pa_nil)))))))
  (WMt.pc_cons WMt.pp_val (pss_one (ps_ret (pe_and (pe_cmpR op_eq (pe_callB call_len_seq (by rfl) T.b_len (by decide +kernel) (pa_cons (pv 1) pa_nil)) pe_int (nomark _)) (pe_one (pe_call G_is_failure (hr.mono (by decide)) (by rfl) T.g_is_failure T.F_is_failure.kp T.bi_is_failure .nil pass0 (pa_cons (pe_ix (ixtK (K := K)) (pv 1) pe_int (fun _ _ => rfl)) pa_nil))))))
  (WMt.pc_cons WMt.pp_val (pss_one (ps_ret (pe_and (pe_cmpR op_eq (pe_callB call_len_seq (by rfl) T.b_len (by decide +kernel) (pa_cons (pv 1) pa_nil)) pe_int (nomark _)) (pe_and (pe_call G_is_word (hr.mono (by decide)) (by rfl) T.g_is_word T.F_is_word.kp T.bi_is_word .nil pass0 (pa_cons (pe_ix (ixtK (K := K)) (pv 1) pe_int (fun _ _ => rfl)) pa_nil)) (pe_one (pe_call G_is_added_plan (hr.mono (by decide)) (by rfl) T.g_is_added_plan T.F_is_added_plan.kp T.bi_is_added_plan .nil pass0 (pa_cons (pe_ix (ixtK (K := K)) (pv 1) pe_int (fun _ _ => rfl)) pa_nil)))))))
  WMt.pc_nil))))))))
 (pss_one (ps_ret pe_bl))), ?_⟩
    obtain ⟨q, xs, rfl, hq, ha, hz⟩ := hp
    have hl := ha.len
    have item : ∀ {n : Nat}, n < ps.length → ∃ x, xs[n]? = some x ∧ At K N (ps.getD n .non) x H := fun {n} hn => by
      obtain ⟨x, hx, px⟩ := ha.get (List.getElem?_eq_getElem hn)
      exact ⟨x, hx, by rw [List.getD_eq_getElem?_getD, List.getElem?_eq_getElem hn]; exact px⟩
    have okn : ∀ {n : Nat}, n < ps.length → okDV (ps.getD n .non) = true := fun {n} hn => by
      rw [List.getD_eq_getElem?_getD, List.getElem?_eq_getElem hn]
      exact all_get ho (List.getElem?_eq_getElem hn)
    have len : ∀ (m : Nat) (σ : L2.St), σ[1]? = some (some (.ref q)) → G (tOp rEq (tCB (fun xs H Q => ∃ p ys, xs = [V.ref p] ∧ (SqL K H p ys ∨ SqT K H p ys) ∧ Q (.int ys.length) H) (tCons (tVar 1) tNil)) (tC (.int (m : Int)))) σ H (Is (.bl (decide (ps.length = m)))) := fun m σ hσ => g_ev fun H1 s1 => by
      have e := ev_eqn (m := m) (tb := tC (.int (m : Int))) (ev_lenT (ta := tVar 1) (ev_var hσ) (sqt_same s1 hq)) ev_c
      rw [hl] at e
      exact e
    have arg : ∀ {n : Nat} {x : V} {σ : L2.St}, σ[1]? = some (some (.ref q)) → xs[n]? = some x → ∀ H1, Same H H1 → Ev (tOp (rIxT K) (tVar 1) (tC (.int (n : Int)))) σ H1 x := fun {n x σ} hσ hx H1 s1 => ev_ixT hσ (sqt_same s1 hq) (at3 hx)
    have fin : ∀ b, hasShape z ps = b → ∀ v H1, Same H H1 → Is (.bl b) v H1 → Q v H1 := fun b e v H1 s1 ev => by
      cases ev
      rw [← e]
      exact k _ s1
    unfold hasShape at fin
    refine ⟨_, rfl, rfl, ?_⟩
    by_cases c1 : hit words1 z = true
    · rw [if_pos c1] at fin
      refine case_yes c1 (g_ret (g_andB (len 1 _ rfl) fun h1 => ?_) (fin _ rfl))
      obtain ⟨x, hx, px⟩ := item (n := 0) (by have := of_decide_eq_true h1; omega)
      exact g_callB (arg (n := 0) rfl hx) px
    rw [if_neg c1] at fin
    refine case_no c1 ⟨rfl, ?_⟩
    by_cases c2 : hit ["send", "ask"] z = true
    · rw [if_pos c2] at fin
      refine case_yes c2 (g_ret (g_andB (len 3 _ rfl) fun h1 => ?_) (fin _ rfl))
      have hn := of_decide_eq_true h1
      obtain ⟨x, hx, px⟩ := item (n := 0) (by omega)
      obtain ⟨y, hy, py⟩ := item (n := 1) (by omega)
      obtain ⟨u, hu, pu⟩ := item (n := 2) (by omega)
      exact g_andB (g_callB (arg (n := 0) rfl hx) px) fun _ => g_andB (g_callB (arg (n := 1) rfl hy) py) fun _ => g_callBo (arg (n := 2) rfl hu) pu (okn (n := 2) (by omega))
    rw [if_neg c2] at fin
    refine case_no c2 ⟨rfl, ?_⟩
    by_cases c3 : hit ["reply"] z = true
    · rw [if_pos c3] at fin
      refine case_yes c3 (g_ret (g_andB (len 1 _ rfl) fun h1 => ?_) (fin _ rfl))
      have hn := of_decide_eq_true h1
      obtain ⟨x, hx, px⟩ := item (n := 0) (by omega)
      exact g_callBo (arg (n := 0) rfl hx) px (okn (n := 0) (by omega))
    rw [if_neg c3] at fin
    refine case_no c3 ⟨rfl, ?_⟩
    by_cases c4 : hit ["later"] z = true
    · rw [if_pos c4] at fin
      refine case_yes c4 ?_
      refine g_asg (g_andB (len 3 _ rfl) fun h1 => g_bet (p := ps.getD 0 .non) (lo := 1) (hi := 1000000000) ?_) fun v1 H1 s1 e1 => ?_
      · have hn := of_decide_eq_true h1
        obtain ⟨x, hx, px⟩ := item (n := 0) (by omega)
        exact ⟨x, N, px, arg (n := 0) rfl hx⟩
      · cases e1
        dsimp only
        show tRet _ _ _ _
        refine g_ret (P := Is _) (g_andB (a := decide (ps.length = 3) && isBetween 1 1000000000 (ps.getD 0 .non)) (g_ev fun H2 _ => ev_var rfl) fun h1 => ?_) fun v2 H2 s2 e2 => fin _ rfl v2 H2 (s1.trans s2) e2
        have hn : ps.length = 3 := of_decide_eq_true ((Bool.and_eq_true _ _).mp h1).1
        obtain ⟨y, hy, py⟩ := item (n := 1) (by omega)
        obtain ⟨u, hu, pu⟩ := item (n := 2) (by omega)
        exact g_andB (g_callB (fun H3 s3 => arg (n := 1) rfl hy H3 (s1.trans s3)) (at_kn (Kn.same s1) _ py)) fun _ => g_callBo (fun H3 s3 => arg (n := 2) rfl hu H3 (s1.trans s3)) (at_kn (Kn.same s1) _ pu) (okn (n := 2) (by omega))
    rw [if_neg c4] at fin
    refine case_no c4 ⟨rfl, ?_⟩
    by_cases c5 : hit ["trap"] z = true
    · rw [if_pos c5] at fin
      refine case_yes c5 (g_ret (g_andB (len 1 _ rfl) fun h1 => ?_) (fin _ rfl))
      have hn := of_decide_eq_true h1
      obtain ⟨x, hx, px⟩ := item (n := 0) (by omega)
      exact g_ev fun H1 s1 => ev_isi (arg (n := 0) rfl hx H1 s1) (at_ty T.kt _ (at_kn (Kn.same s1) _ px)) (kit_bool T.kt _)
    rw [if_neg c5] at fin
    refine case_no c5 ⟨rfl, ?_⟩
    by_cases c6 : hit ["end"] z = true
    · rw [if_pos c6] at fin
      refine case_yes c6 (g_ret (g_andB (len 1 _ rfl) fun h1 => ?_) (fin _ rfl))
      have hn := of_decide_eq_true h1
      obtain ⟨x, hx, px⟩ := item (n := 0) (by omega)
      exact g_callB (arg (n := 0) rfl hx) px
    rw [if_neg c6] at fin
    refine case_no c6 ⟨rfl, ?_⟩
    by_cases c7 : hit ["add"] z = true
    · rw [if_pos c7] at fin
      refine case_yes c7 (g_ret (g_andB (len 2 _ rfl) fun h1 => ?_) (fin _ rfl))
      have hn := of_decide_eq_true h1
      obtain ⟨x, hx, px⟩ := item (n := 0) (by omega)
      obtain ⟨y, hy, py⟩ := item (n := 1) (by omega)
      exact g_andB (g_callB (arg (n := 0) rfl hx) px) fun _ => g_callB (arg (n := 1) rfl hy) py
    rw [if_neg c7] at fin
    exact case_no c7 (fin _ rfl _ _ (Same.refl _) rfl)
end
end W02

set_option Elab.async false
set_option linter.all false
set_option maxRecDepth 100000
set_option maxHeartbeats 1000000
namespace W02
open PySem PySem.Spec PyProof.Rows L2 WXG WEv WRd WLf WEn WZs WRu WSt StX WDc WPv WEb
theorem cut1 {xs : List V} (h : 1 ≤ xs.length) : cutV xs (some 1) none = xs.drop 1 := by
  unfold cutV
  rw [show HT.sIx xs.length 0 (some 1) = min 1 xs.length from HT.sIx_nat _ _ 1, HT.sIx_none, Nat.min_eq_left h, List.take_of_length_le (by rw [List.length_drop]; omega)]
theorem cut1_ne {n : Nat} (h : 1 ≤ n) : ¬ (HT.sIx n 0 (some 1) = 0 ∧ HT.sIx n n none = n) := fun z => by
  have := z.1
  rw [show HT.sIx n 0 (some 1) = min 1 n from HT.sIx_nat _ _ 1, Nat.min_eq_left h] at this
  cases this
def knd (kn : List (Str × Str)) : List (List Key × V) := kn.map fun q => ([Sum.inr q.1, Sum.inr q.2], .bl true)
theorem knd_some (kn : List (Str × Str)) (a b : Str) : (valV (knd kn) [Sum.inr a, Sum.inr b]).isSome = decide ((a, b) ∈ kn) := by
  rw [← valV_any]
  unfold knd
  rw [List.any_map, Bool.eq_iff_iff]
  simp only [List.any_eq_true, Function.comp, decide_eq_true_eq]
  constructor
  · rintro ⟨q, hq, e⟩
    have e1 : Sum.inr q.1 = (Sum.inr a : Key) ∧ Sum.inr q.2 = (Sum.inr b : Key) := by simpa using e
    cases e1.1
    cases e1.2
    exact hq
  · intro h
    exact ⟨(a, b), h, rfl⟩
theorem knd_put {kn : List (Str × Str)} {a b : Str} (h : (a, b) ∉ kn) : putK (knd kn) [Sum.inr a, Sum.inr b] (.bl true) = knd (kn ++ [(a, b)]) := by
  unfold putK
  have e : ((knd kn).any fun kv => decide (kv.1 = [Sum.inr a, Sum.inr b])) = false := by
    rw [valV_any, knd_some]
    exact decide_eq_false h
  rw [if_neg (by rw [e]; exact Bool.false_ne_true)]
  unfold knd
  rw [List.map_append]
  rfl
theorem isRow_of {p : Pv} (h : isRow p = true) : ∃ a b c ds, p = .tup [.str a, .str b, c, .tup ds] := by
  unfold isRow at h
  split at h
  · rename_i a b c ds
    simp only [Bool.and_eq_true] at h
    obtain ⟨a, rfl⟩ := isWord_str h.1
    obtain ⟨b, rfl⟩ := isWord_str h.2.1
    exact ⟨_, _, _, _, rfl⟩
  · cases h
def rowD : Pv → Bool
  | .tup ds => decide (ds.length ≤ 8) && ds.all isDeed
  | _ => false
theorem isRow_eq (a b c d : Pv) : isRow (.tup [a, b, c, d]) = (isWord a && (isWord b && (isBetween 1 1000 c && rowD d))) := by
  cases d <;> first | rfl | simp [isRow, rowD]
theorem notTup {p : Pv} (h : isTup p = false) : isRow p = false ∧ isDeed p = false ∧ isScript p = false := by
  cases p <;> first | exact ⟨rfl, rfl, rfl⟩ | cases h
theorem tup_of {p : Pv} (h : isTup p = true) : ∃ l, p = .tup l := by cases p <;> first | exact ⟨_, rfl⟩ | cases h
section
variable {P : Program} {w : World} {K : PySem.W.Frag} {mg : Str → Option Value} {base : Heap}
theorem ok_is_deed (T : Env K mg) : FnOk P w K mg base CX0 5 (d_is_deed.loc K) T.fd_is_deed ["value"] (spBo K okDeed isDeed) := by
  have G_has_shape : FnOk P w K mg base CX0 4 _ _ _ _ := ok_has_shape T
  refine T.F_is_deed.ok sc_is_deed (fun vs H Q E h => ?_) (fun cdv A outer s H vs Q E hr h => ?_)
  · obtain ⟨N, p, v, rfl, _⟩ := h
    rfl
  · have nd := sc_is_deed.nd
    have hu := hu_of hr
    obtain ⟨N, p, v, rfl, hp, ho, k⟩ := h
    refine ⟨_, PSs.nox (pss_cons (ps_if (PW.pt (pw_or (pt_not (pt_val (pe_callB (isiK (K := K)) (by rfl) T.b_isinstance (by decide +kernel) (pa_cons (pv 0) (pa_cons (pe_bltnT (n := "tuple") (by rfl) T.b_tuple (by decide +kernel)) pa_nil))))) (pw_or (pt_cmpR op_lt (pe_callB call_len_seq (by rfl) T.b_len (by decide +kernel) (pa_cons (pv 0) pa_nil)) pe_int (nomark _)) (pw_or1 (pt_not (pt_val (pe_callB (isiK (K := K)) (by rfl) T.b_isinstance (by decide +kernel) (pa_cons (pe_ix (ixtK (K := K)) (pv 0) pe_int (fun _ _ => rfl)) (pa_cons (pe_bltnT (n := "str") (by rfl) T.b_str (by decide +kernel)) pa_nil)))))))))
  (pss_one (ps_ret pe_bl))
  pss_nil)
 (pss_one (ps_ret (pe_call G_has_shape (hr.mono (by decide)) (by rfl) T.g_has_shape T.F_has_shape.kp T.bi_has_shape .nil pass0 (pa_cons (pe_ix (ixtK (K := K)) (pv 0) pe_int (fun _ _ => rfl)) (pa_cons (pe_slice sl_tup (pv 0) (po_some pe_int) po_none) pa_nil)))))), ?_⟩
    have ht := at_ty T.kt p hp
    have hk := kit_tup T.kt p
    cases hs : isTup p with
    | false =>
      rw [hs] at hk
      rw [(notTup hs).2.1] at k
      exact st_ya (evb_or (a := true) (b := false) (evb_not (b := false) (evb_B (ev_isi (ev_var rfl) ht hk))) fun z => nomatch z) (k _ (Same.refl _))
    | true =>
      rw [hs] at hk
      obtain ⟨l, rfl⟩ := tup_of hs
      obtain ⟨q, xs, rfl, hq, ha, hz⟩ := hp
      have hl := ha.len
      by_cases h2 : l.length < 2
      · have e : isDeed (.tup l) = false := by
          match l, h2 with
          | [], _ => rfl
          | [a], _ => cases a <;> rfl
        rw [e] at k
        refine st_ya (evb_or (a := false) (b := true) (evb_not (b := true) (evb_B (ev_isi (ev_var rfl) ht hk))) fun _ => evb_or (a := true) (b := false) (evb_cmpF (ev_lenT (ev_var rfl) hq) ev_c (decide_eq_true (by omega))) fun z => nomatch z) (k _ (Same.refl _))
      · match l, ha, h2, hl, hz, ho, k, ht, hk with
        | [], _, h2, _, _, _, _, _, _ => exact absurd (by decide) h2
        | a :: r, ha, h2, hl, hz, ho, k, ht, hk =>
          obtain ⟨x, ys, rfl, px, hys⟩ := ha
          have hka := kit_str T.kt a
          have hta := at_ty T.kt a px
          have hl2 : 2 ≤ r.length + 1 := by simpa using h2
          have lenF : EvB (tTest (tOp (rI0 fun i j => .bl (decide (i < j))) (tCB (fun xs H Q => ∃ p ys, xs = [V.ref p] ∧ (SqL K H p ys ∨ SqT K H p ys) ∧ Q (.int ys.length) H) (tCons (tVar 0) tNil)) (tC (.int 2)))) (start ["value"] [V.ref q]) H false := evb_cmpF (ev_lenT (ev_var rfl) hq) ev_c (decide_eq_false (by omega))
          cases hsa : isStr a with
          | false =>
            rw [hsa] at hka
            have e : isDeed (.tup (a :: r)) = false := by cases a <;> first | rfl | cases hsa
            rw [e] at k
            exact st_ya (evb_or (a := false) (b := true) (evb_not (b := true) (evb_B (ev_isi (ev_var rfl) ht hk))) fun _ => evb_or (a := false) (b := true) lenF fun _ => evb_not (b := false) (evb_B (ev_isi (ev_ixT rfl hq (at3 (n := 0) rfl)) hta hka))) (k _ (Same.refl _))
          | true =>
            rw [hsa] at hka
            obtain ⟨z, rfl⟩ : ∃ z, a = .str z := by cases a <;> first | exact ⟨_, rfl⟩ | cases hsa
            obtain ⟨rfl, hzl⟩ := px
            have e : isDeed (.tup (.str z :: r)) = hasShape z r := by
              show (decide (1 ≤ r.length) && hasShape z r) = hasShape z r
              rw [decide_eq_true (by omega), Bool.true_and]
            rw [e] at k
            refine st_nn (evb_or (a := false) (b := false) (evb_not (b := true) (evb_B (ev_isi (ev_var rfl) ht hk))) fun _ => evb_or (a := false) (b := false) lenF fun _ => evb_not (b := true) (evb_B (ev_isi (ev_ixT rfl hq (at3 (n := 0) rfl)) hta hka))) ?_
            refine ev_ixT rfl hq (at3 (n := 0) rfl) _ ⟨_, rfl, 1, rfl, q, _, rfl, hq, cut1_ne (by rw [List.length_cons]; omega), fun t ht => ?_⟩
            rw [cut1 (by rw [List.length_cons]; omega)]
            refine ⟨N, z, r, .ref t, rfl, ⟨t, ys, rfl, .inl (.inl upd_same), mn_atl _ _ _ (same_new ht) hys, by rw [List.length_cons] at hz; omega⟩, List.all_eq_true.mpr (fun x hx => List.all_eq_true.mp (show (Pv.str z :: r).all okDV = true from ho) x (List.mem_cons_of_mem _ hx)), fun H' s' => k _ ((same_new ht).trans s')⟩
theorem ok_is_row (T : Env K mg) : FnOk P w K mg base CX0 6 (d_is_row.loc K) T.fd_is_row ["value"] (spBo K okRow isRow) := by
  have G_is_word : FnOk P w K mg base CX0 1 _ _ _ _ := ok_is_word T
  have G_is_between : FnOk P w K mg base CX0 1 _ _ _ _ := ok_is_between T
  have G_is_deed : FnOk P w K mg base CX0 5 _ _ _ _ := ok_is_deed T
  refine T.F_is_row.ok sc_is_row (fun vs H Q E h => ?_) (fun cdv A outer s H vs Q E hr h => ?_)
  · obtain ⟨N, p, v, rfl, _⟩ := h
    rfl
  · have nd := sc_is_row.nd
    have hu := hu_of hr
    obtain ⟨N, p, v, rfl, hp, ho, k⟩ := h
    refine ⟨_, PSs.nox (pss_cons (ps_if (PW.pt (pw_or (pt_not (pt_val (pe_callB (isiK (K := K)) (by rfl) T.b_isinstance (by decide +kernel) (pa_cons (pv 0) (pa_cons (pe_bltnT (n := "tuple") (by rfl) T.b_tuple (by decide +kernel)) pa_nil))))) (pw_or (pt_cmpR op_ne (pe_callB call_len_seq (by rfl) T.b_len (by decide +kernel) (pa_cons (pv 0) pa_nil)) pe_int (nomark _)) (pw_or (pt_not (pt_val (pe_call G_is_word (hr.mono (by decide)) (by rfl) T.g_is_word T.F_is_word.kp T.bi_is_word .nil pass0 (pa_cons (pe_ix (ixtK (K := K)) (pv 0) pe_int (fun _ _ => rfl)) pa_nil)))) (pw_or1 (pt_not (pt_val (pe_call G_is_word (hr.mono (by decide)) (by rfl) T.g_is_word T.F_is_word.kp T.bi_is_word .nil pass0 (pa_cons (pe_ix (ixtK (K := K)) (pv 0) pe_int (fun _ _ => rfl)) pa_nil)))))))))
  (pss_one (ps_ret pe_bl))
  pss_nil)
 (pss_cons (ps_if (PW.pt (pw_or (pt_not (pt_val (pe_call G_is_between (hr.mono (by decide)) (by rfl) T.g_is_between T.F_is_between.kp T.bi_is_between .nil pass0 (pa_cons (pe_ix (ixtK (K := K)) (pv 0) pe_int (fun _ _ => rfl)) (pa_cons pe_int (pa_cons (C8.pe_gc (by rfl) T.c_MOST_WORK) pa_nil)))))) (pw_or (pt_not (pt_val (pe_callB (isiK (K := K)) (by rfl) T.b_isinstance (by decide +kernel) (pa_cons (pe_ix (ixtK (K := K)) (pv 0) pe_int (fun _ _ => rfl)) (pa_cons (pe_bltnT (n := "tuple") (by rfl) T.b_tuple (by decide +kernel)) pa_nil))))) (pw_or1 (pt_cmpR op_gt (pe_callB call_len_seq (by rfl) T.b_len (by decide +kernel) (pa_cons (pe_ix (ixtK (K := K)) (pv 0) pe_int (fun _ _ => rfl)) pa_nil)) (C8.pe_gc (by rfl) T.c_MOST_DEEDS) (nomark _))))))
  (pss_one (ps_ret pe_bl))
  pss_nil)
 (pss_one (ps_ret (pe_callB (cr_all rfl) (by rfl) T.b_all (by decide +kernel) (pa_cons (pe_lc (own := [("deed", 1)]) (by rfl) nd (pi_tup (pe_ix (ixtK (K := K)) (pv 0) pe_int (fun _ _ => rfl))) (blkOk_by (N := ["value", "deed"]) (sc := defScope s_is_row) (by decide +kernel)) (fun _ _ _ _ _ => (pg_name (i := 1) nd rfl (Or.inl rfl))) (fun _ _ _ _ _ => pts_nil) (fun _ _ _ _ _ => (pe_call G_is_deed (hr.mono (by decide)) (by rfl) T.g_is_deed T.F_is_deed.kp T.bi_is_deed .nil pass0 (pa_cons (pv 1) pa_nil)))) pa_nil)))))), ?_⟩
    have ht := at_ty T.kt p hp
    have hk := kit_tup T.kt p
    cases hs : isTup p with
    | false =>
      rw [hs] at hk
      rw [(notTup hs).1] at k
      exact st_ya (evb_or (a := true) (b := false) (evb_not (b := false) (evb_B (ev_isi (ev_var rfl) ht hk))) fun z => nomatch z) (k _ (Same.refl _))
    | true =>
      rw [hs] at hk
      obtain ⟨l, rfl⟩ := tup_of hs
      obtain ⟨q, xs, rfl, hq, ha, hz⟩ := hp
      have hl := ha.len
      by_cases h4 : l.length = 4
      · obtain ⟨a, b, c, d, rfl⟩ : ∃ a b c d, l = [a, b, c, d] := by
          match l, h4 with
          | [a, b, c, d], _ => exact ⟨a, b, c, d, rfl⟩
        obtain ⟨xa, _, rfl, pa, xb, _, rfl, pb, xc, _, rfl, pc, xd, _, rfl, pd, hn⟩ := ha
        cases (show _ = [] from hn)
        have t1 : ∀ H1, Same H H1 → EvB (tNot (tB (tCB (rIsi K) (tCons (tVar 0) (tCons (tC (.ty "tuple")) tNil))))) (start ["value", "deed"] [V.ref q]) H1 false := fun H1 s1 => evb_not (b := true) (evb_B (ev_isi (ev_var rfl) (tyx_tup (sqt_same s1 hq)) kit_t))
        have t2 : ∀ H1, Same H H1 → EvB (tTest (tOp rNe (tCB (fun xs H Q => ∃ p ys, xs = [V.ref p] ∧ (SqL K H p ys ∨ SqT K H p ys) ∧ Q (.int ys.length) H) (tCons (tVar 0) tNil)) (tC (.int 4)))) (start ["value", "deed"] [V.ref q]) H1 false := fun H1 s1 => evb_neF (ev_lenT (ev_var rfl) (sqt_same s1 hq)) ev_c rfl (by simp)
        rw [isRow_eq] at k
        cases hwa : isWord a with
        | false =>
          rw [hwa] at k
          exact s_yes (et_or (a := false) (b := true) (et_ev t1) fun _ => et_or (a := false) (b := true) (et_ev t2) fun _ => et_or (a := true) (b := false) (et_not (b := false) (et_val (g_callF (fun H1 s => ev_ixT rfl (sqt_same s hq) rfl) pa hwa))) fun z => nomatch z) fun H1 s1 => k _ s1
        | true =>
        rw [hwa, Bool.true_and] at k
        cases hwb : isWord b with
        | false =>
          rw [hwb] at k
          exact s_yes (et_or (a := false) (b := true) (et_ev t1) fun _ => et_or (a := false) (b := true) (et_ev t2) fun _ => et_or (a := false) (b := true) (et_not (b := true) (et_val (g_callF (fun H1 s => ev_ixT rfl (sqt_same s hq) rfl) pa hwa))) fun _ => et_not (b := false) (et_val (g_callF (fun H1 s => ev_ixT rfl (sqt_same s hq) rfl) pb hwb))) fun H1 s1 => k _ s1
        | true =>
        rw [hwb, Bool.true_and] at k
        refine s_no (et_or (a := false) (b := false) (et_ev t1) fun _ => et_or (a := false) (b := false) (et_ev t2) fun _ => et_or (a := false) (b := false) (et_not (b := true) (et_val (g_callF (fun H1 s => ev_ixT rfl (sqt_same s hq) rfl) pa hwa))) fun _ => et_not (b := true) (et_val (g_callF (fun H1 s => ev_ixT rfl (sqt_same s hq) rfl) pb hwb))) fun H1 s1 => ?_
        have hq1 := sqt_same s1 hq
        have pc1 := at_kn (Kn.same s1) _ pc
        have pd1 := at_kn (Kn.same s1) _ pd
        have htd := fun {H2} (s : Same H1 H2) => at_ty T.kt _ (at_kn (Kn.same s) _ pd1)
        have hkd := kit_tup T.kt d
        clear t1 t2
        cases hc : isBetween 1 1000 c with
        | false =>
          rw [hc] at k
          exact s_yes (et_or (a := true) (b := false) (et_not (b := false) (et_val (g_betF (fun H2 s => ev_ixT rfl (sqt_same s hq1) rfl) pc1 hc))) fun z => nomatch z) fun H2 s2 => k _ (s1.trans s2)
        | true =>
        rw [hc, Bool.true_and] at k
        cases hd : isTup d with
        | false =>
          rw [hd] at hkd
          have e : rowD d = false := by cases d <;> first | rfl | cases hd
          rw [e] at k
          exact s_yes (et_or (a := false) (b := true) (et_not (b := true) (et_val (g_betF (fun H2 s => ev_ixT rfl (sqt_same s hq1) rfl) pc1 hc))) fun _ => et_or (a := true) (b := false) (et_ev fun H2 s => evb_not (b := false) (evb_B (ev_isi (ev_ixT rfl (sqt_same s hq1) rfl) (htd s) hkd))) fun z => nomatch z) fun H2 s2 => k _ (s1.trans s2)
        | true =>
        rw [hd] at hkd
        obtain ⟨ds, rfl⟩ := tup_of hd
        have e : rowD (.tup ds) = (decide (ds.length ≤ 8) && ds.all isDeed) := rfl
        rw [e] at k
        obtain ⟨dq, dxs, rfl, hdq, hda, hdz⟩ := pd1
        have hdl := hda.len
        have ho2 : ds.all okDeed = true := ((Bool.and_eq_true _ _).mp ho).2
        by_cases h8 : ds.length ≤ 8
        · rw [decide_eq_true h8, Bool.true_and] at k
          refine s_no (et_or (a := false) (b := false) (et_not (b := true) (et_val (g_betF (fun H2 s => ev_ixT rfl (sqt_same s hq1) rfl) pc1 hc))) fun _ => et_or (a := false) (b := false) (et_ev fun H2 s => evb_not (b := true) (evb_B (ev_isi (ev_ixT rfl (sqt_same s hq1) rfl) (htd s) hkd))) fun _ => et_ev fun H2 s => evb_cmpF (ev_lenT (ev_ixT rfl (sqt_same s hq1) rfl) (sqt_same s hdq)) ev_c (decide_eq_false (by omega))) fun H2 s2 => ?_
          refine g_ret (g_all (bs := ds.map isDeed) (g_lcT (q := dq) (ys := dxs) (fun H3 s3 => ev_ixT rfl (sqt_same (s2.trans s3) hq1) rfl) (sqt_same s2 hdq) (by simp [hdl]) (by omega) mk_iss fun i x P H3 hx hP s3 Q q => ?_)) fun v H3 s3 e3 => ?_
          · obtain ⟨p3, hp3, px⟩ := (atl_kn (Kn.same s2) _ hda).get2 hx
            rw [List.getElem?_map, List.getElem?_map, List.getElem?_map, hp3] at hP
            cases hP
            exact (g_callBo (p := p3) (fun H4 s4 => ev_var rfl) (at_kn (Kn.same s3) _ px) (all_get ho2 hp3)).ev _ (Same.refl _) _ q
          · cases e3
            rw [List.all_map]
            exact k _ ((s1.trans s2).trans s3)
        · rw [decide_eq_false h8, Bool.false_and] at k
          exact s_yes (et_or (a := false) (b := true) (et_not (b := true) (et_val (g_betF (fun H2 s => ev_ixT rfl (sqt_same s hq1) rfl) pc1 hc))) fun _ => et_or (a := false) (b := true) (et_ev fun H2 s => evb_not (b := true) (evb_B (ev_isi (ev_ixT rfl (sqt_same s hq1) rfl) (htd s) hkd))) fun _ => et_ev fun H2 s => evb_cmpF (ev_lenT (ev_ixT rfl (sqt_same s hq1) rfl) (sqt_same s hdq)) ev_c (decide_eq_true (by omega))) fun H2 s2 => k _ (s1.trans s2)
      · have e : isRow (.tup l) = false := by
          unfold isRow
          split
          · rename_i e
            cases e
            exact absurd rfl h4
          · rfl
        rw [e] at k
        exact st_ya (evb_or (a := false) (b := true) (evb_not (b := true) (evb_B (ev_isi (ev_var rfl) ht hk))) fun _ => evb_or (a := true) (b := false) (evb_neF (ev_lenT (ev_var rfl) hq) ev_c rfl (by rw [hl]; simpa using (by omega : ¬ ((l.length : Int) = 4)))) fun z => nomatch z) (k _ (Same.refl _))
theorem ok_wrong_row (T : Env K mg) : FnOk P w K mg base CX0 7 (d_wrong_row.loc K) T.fd_wrong_row ["script"] (spWrong K) := by
  have G_is_row : FnOk P w K mg base CX0 6 _ _ _ _ := ok_is_row T
  refine T.F_wrong_row.ok sc_wrong_row (fun vs H Q E h => ?_) (fun cdv A outer s H vs Q E hr h => ?_)
  · obtain ⟨N, rs, v, rfl, _⟩ := h
    rfl
  · have nd := sc_wrong_row.nd
    have hu := hu_of hr
    obtain ⟨N, rs, v, rfl, hp, ho, k⟩ := h
    refine ⟨_, PSs.nox (pss_cons (ps_if (pt_not (pt_val (pe_callB (isiK (K := K)) (by rfl) T.b_isinstance (by decide +kernel) (pa_cons (pv 0) (pa_cons (pe_bltnT (n := "tuple") (by rfl) T.b_tuple (by decide +kernel)) pa_nil)))))
  (pss_one ps_dead)
  pss_nil)
 (pss_cons (ps_set (i := 1) nd rfl (Or.inl rfl) pe_dnewT)
 (pss_cons (ps_for PassesOwn.never rfl (pi_enumT (by rfl) T.b_enumerate (pa_cons (pv 0) pa_nil)) (pg_tup rfl (pgs_cons (pg_name (i := 2) nd rfl (Or.inl rfl)) (pgs_cons (pg_name (i := 3) nd rfl (Or.inl rfl)) pgs_nil)))
  (pss_cons (ps_if (PW.pt (pw_or (pt_cmpR op_ge (pv 2) (C8.pe_gc (by rfl) T.c_MOST_ROWS) (nomark _)) (pw_or (pt_not (pt_val (pe_call G_is_row (hr.mono (by decide)) (by rfl) T.g_is_row T.F_is_row.kp T.bi_is_row .nil pass0 (pa_cons (pv 3) pa_nil)))) (pw_or1 (pt_cmp (pc_din hu (pe_tup (pa_cons (pe_ix (ixtK (K := K)) (pv 3) pe_int (fun _ _ => rfl)) (pa_cons (pe_ix (ixtK (K := K)) (pv 3) pe_int (fun _ _ => rfl)) pa_nil))) (pv 1)))))))
  (pss_one (ps_ret (pv 2)))
  pss_nil)
 (pss_one (ps_dput hu (pv 1) (pe_tup (pa_cons (pe_ix (ixtK (K := K)) (pv 3) pe_int (fun _ _ => rfl)) (pa_cons (pe_ix (ixtK (K := K)) (pv 3) pe_int (fun _ _ => rfl)) pa_nil))) pe_bl rfl))))
 (pss_one (ps_ret pe_non))))), ?_⟩
    obtain ⟨q, xs, rfl, hq, ha, hz⟩ := hp
    have hl := ha.len
    refine st_nn (evb_not (b := true) (evb_B (ev_isi (ev_var rfl) (tyx_tup hq) kit_t))) ?_
    refine fun kd hkd => ?_
    have s0 : Same H (upd H kd (.dT [])) := same_new hkd
    refine ⟨_, rfl, q, xs, rfl, sqt_same s0 hq, ?_⟩
    show ∃ W, _
    refine for_it (walk_enumC (K := K) (t := true) (c := 0) (a := q) (xs := xs)) (fun i σ H' => Same H H' ∧ ∃ kn a2 a3, σ = [some (.ref q), some (.ref kd), a2, a3] ∧ H' kd = some (.dT (knd kn)) ∧ kn.length ≤ 30 ∧ kn.length ≤ i ∧ wrongGo 0 [] rs = wrongGo i kn (rs.drop i)) ⟨s0, [], _, _, rfl, upd_same, Nat.zero_le _, Nat.zero_le _, rfl⟩ (fun i σ H' _ p => sqt_same p.1 hq) (fun i x σ H1 H2 hi p y => ?_) (fun σ H1 p => ?_)
    · obtain ⟨s1, kn, a2, a3, rfl, hk, hk30, hki, hgo⟩ := p
      obtain ⟨t, i', x', rfl, ht, rfl, hi', hx⟩ := y
      cases hi'
      obtain ⟨r, hr', px⟩ := ha.get2 hx
      have s2 : Same H1 (upd H1 t (.tup [.int ((0 : Int) + (i : Nat)), x'])) := same_new ht
      have hk2 := s2 _ _ hk
      have px2 := at_kn (Kn.same (s1.trans s2)) _ px
      have s12 := s1.trans s2
      have et : upd H1 t (.tup [.int ((0 : Int) + (i : Nat)), x']) t = some (.tup [.int ((0 : Int) + (i : Nat)), x']) := upd_same
      generalize upd H1 t (.tup [.int ((0 : Int) + (i : Nat)), x']) = H3 at *
      have hdrop : rs.drop i = r :: rs.drop (i + 1) := (List.getElem_cons_drop (h := (List.getElem?_eq_some_iff.mp hr').1)).symm.trans (by rw [(List.getElem?_eq_some_iff.mp hr').2])
      have hor : okRow r = true := all_get ho hr'
      refine ⟨t, _, rfl, .of et, rfl, _, _, rfl, _, _, rfl, rfl, ?_⟩
      have stop : (decide (30 ≤ i) || !isRow r || decide (keyOf r ∈ kn)) = true → ∀ H4, Same H H4 → Q (.int ((0 : Int) + (i : Nat))) H4 := fun hb H4 s4 => by
        have e : wrongGo 0 [] rs = some i := by rw [hgo, hdrop]; unfold wrongGo; rw [if_pos hb]
        rw [e] at k
        rw [Int.zero_add]
        exact k _ s4
      show tSeq _ _ _ _ _
      by_cases h30 : 30 ≤ i
      · exact st_ya (evb_or (a := true) (b := false) (evb_cmpF (g := fun i j => decide (i ≥ j)) (ev_var rfl) ev_c (decide_eq_true (by omega))) fun z => nomatch z) ⟨_, rfl, stop (by rw [decide_eq_true h30]; rfl) _ s12⟩
      · have t1 : ∀ H4, EvB (tTest (tOp (rI0 fun i j => .bl (decide (i ≥ j))) (tVar 2) (tC (.int 30)))) ((([some (V.ref q), some (V.ref kd), a2, a3] : L2.St).set 2 (some (.int ((0 : Int) + (i : Nat))))).set 3 (some x')) H4 false := fun H4 => evb_cmpF (g := fun i j => decide (i ≥ j)) (ev_var rfl) ev_c (decide_eq_false (by omega))
        cases hrow : isRow r with
        | false => exact s_yes (et_or (a := false) (b := true) (et_ev fun H4 _ => t1 H4) fun _ => et_or (a := true) (b := false) (et_not (b := false) (et_val (g_callFo (fun H4 s4 => ev_var rfl) px2 hor hrow))) fun z => nomatch z) fun H4 s4 => ⟨_, rfl, stop (by rw [hrow]; simp) _ (s12.trans s4)⟩
        | true =>
          obtain ⟨ka, kb, c, ds, rfl⟩ := isRow_of hrow
          obtain ⟨rq, rx, rfl, hrq, hra, _⟩ := px2
          obtain ⟨y0, _, rfl, p0, y1, _, rfl, p1, _⟩ := hra
          obtain ⟨rfl, _⟩ := p0
          obtain ⟨rfl, _⟩ := p1
          have ekey : keyOf (.tup [.str ka, .str kb, c, .tup ds]) = (ka, kb) := rfl
          have tk : EvT (tTest (tDIn (tTup (tCons (tOp (rIxT K) (tVar 3) (tC (.int 0))) (tCons (tOp (rIxT K) (tVar 3) (tC (.int 1))) tNil))) (tVar 1))) ((([some (V.ref q), some (V.ref kd), a2, a3] : L2.St).set 2 (some (.int ((0 : Int) + (i : Nat))))).set 3 (some (V.ref rq))) H3 (decide ((ka, kb) ∈ kn)) := fun H4 s4 Q4 q4 => by
            refine ev_ixT rfl (sqt_same s4 hrq) (at3 (n := 0) rfl) _ (ev_ixT rfl (sqt_same s4 hrq) (at3 (n := 1) rfl) _ ⟨(by decide : 2 ≤ sizeLine), fun t4 ht4 => ?_⟩)
            have s5 := same_new (o := .tup [.str ka, .str kb]) ht4
            refine ⟨_, rfl, kd, valV (knd kn) [Sum.inr ka, Sum.inr kb], rfl, DGet.t (s5 _ _ (s4 _ _ hk2)) upd_same, (valV (knd kn) [Sum.inr ka, Sum.inr kb]).isSome, rfl, ?_⟩
            rw [knd_some]
            exact q4 _ s5
          have t2 := et_not (b := true) (et_val (g_callFo (E := E0) (σ := (([some (V.ref q), some (V.ref kd), a2, a3] : L2.St).set 2 (some (.int ((0 : Int) + (i : Nat))))).set 3 (some (V.ref rq))) (ta := tVar 3) (H := H3) (f := isRow) (ok := okRow) (fun H4 s4 => ev_var rfl) (at_kn (Kn.same s12) _ px) hor hrow))
          cases hkn : decide ((ka, kb) ∈ kn) with
          | true =>
            rw [hkn] at tk
            exact s_yes (et_or (a := false) (b := true) (et_ev fun H4 _ => t1 H4) fun _ => et_or (a := false) (b := true) t2 fun _ => tk) fun H4 s4 => ⟨_, rfl, stop (by rw [ekey, hkn]; simp) _ (s12.trans s4)⟩
          | false =>
            rw [hkn] at tk
            refine s_no (et_or (a := false) (b := false) (et_ev fun H4 _ => t1 H4) fun _ => et_or (a := false) (b := false) t2 fun _ => tk) fun H4 s4 => ?_
            have hk4 := s4 _ _ hk2
            have hrq4 := sqt_same s4 hrq
            refine ⟨_, rfl, ev_ixT rfl hrq4 (at3 (n := 0) rfl) _ (ev_ixT rfl hrq4 (at3 (n := 1) rfl) _ ⟨(by decide : 2 ≤ sizeLine), fun t4 ht4 => ?_⟩)⟩
            have s5 := same_new (o := .tup [.str ka, .str kb]) ht4
            have hk5 := s5 _ _ hk4
            have hnk : kd ≠ t4 := fun z => by rw [z, ht4] at hk4; cases hk4
            refine ⟨kd, _, rfl, DPut.t (k := [Sum.inr ka, Sum.inr kb]) hk5 upd_same (by unfold knd; rw [List.length_map]; exact Nat.lt_of_le_of_lt hk30 (by decide)), ?_⟩
            rw [knd_put (of_decide_eq_false hkn)]
            refine ⟨same_put ((s12.trans s4).trans s5) hkd, kn ++ [(ka, kb)], _, _, rfl, upd_same, by simp; omega, by simp; omega, ?_⟩
            rw [hgo, hdrop]
            conv => lhs; unfold wrongGo
            rw [if_neg (by rw [hrow, ekey, hkn, decide_eq_false h30]; exact Bool.false_ne_true), ekey]
    · obtain ⟨s1, kn, a2, a3, rfl, hk, hk30, hki, hgo⟩ := p
      have e : wrongGo 0 [] rs = none := by
        rw [hgo, hl, List.drop_eq_nil_of_le (Nat.le_refl _)]
        rfl
      rw [e] at k
      exact k _ s1
def spScr (K : PySem.W.Frag) : Sp := spBo K okScr isScript
theorem ok_is_script (T : Env K mg) : FnOk P w K mg base CX0 8 (d_is_script.loc K) T.fd_is_script ["value"] (spBo K okScr isScript) := by
  have G_wrong_row : FnOk P w K mg base CX0 7 _ _ _ _ := ok_wrong_row T
  refine T.F_is_script.ok sc_is_script (fun vs H Q E h => ?_) (fun cdv A outer s H vs Q E hr h => ?_)
  · obtain ⟨N, p, v, rfl, _⟩ := h
    rfl
  · have nd := sc_is_script.nd
    have hu := hu_of hr
    obtain ⟨N, p, v, rfl, hp, ho, k⟩ := h
    refine ⟨_, PSs.nox (pss_one (ps_ret (pe_and (pe_callB (isiK (K := K)) (by rfl) T.b_isinstance (by decide +kernel) (pa_cons (pv 0) (pa_cons (pe_bltnT (n := "tuple") (by rfl) T.b_tuple (by decide +kernel)) pa_nil))) (pe_one (pe_cmpR op_isN (pe_call G_wrong_row (hr.mono (by decide)) (by rfl) T.g_wrong_row T.F_wrong_row.kp T.bi_wrong_row .nil pass0 (pa_cons (pv 0) pa_nil)) pe_non (nomark _)))))), ?_⟩
    have ht := at_ty T.kt p hp
    have hk := kit_tup T.kt p
    cases hs : isTup p with
    | false =>
      rw [hs] at hk
      rw [(notTup hs).2.2] at k
      exact ev_isi (ev_var rfl) ht hk _ ⟨false, rfl, k _ (Same.refl _)⟩
    | true =>
      rw [hs] at hk
      obtain ⟨l, rfl⟩ := tup_of hs
      refine ev_isi (ev_var rfl) ht hk _ ⟨true, rfl, _, rfl, N, l, v, rfl, hp, ho, fun H' s' => ⟨rfl, ?_⟩⟩
      have e : isScript (.tup l) = decide (wrV (wrongGo 0 [] l) = .non) := by
        show (wrongGo 0 [] l).isNone = _
        cases wrongGo 0 [] l with
        | none => rfl
        | some i => rfl
      rw [e] at k
      exact k _ s'
end
end W02

set_option Elab.async false
set_option linter.all false
set_option maxRecDepth 100000
set_option maxHeartbeats 1000000
namespace W02
open PySem PySem.Spec PyProof.Rows L2 WXG WEv WRd WLf WEn WZs WRu WSt StX WDc WPv WEb WXO WXE
abbrev BS (K : PySem.W.Frag) : Addr := He.ga K "BadSetting"
abbrev BC (K : PySem.W.Frag) : Addr := He.ga K "BadChild"
def ReqRow (s : Str) (b : Bool) : HP V := fun v H => ∃ p, v = .ref p ∧ H p = some (.tup [.str s, .bl b])
theorem mk_req {s : Str} {b : Bool} : MnK (ReqRow s b) := fun _ _ _ k ⟨p, e, h⟩ => ⟨p, e, k _ _ h (fun _ z => nomatch z) (fun _ z => nomatch z)⟩
def Rows (rows : List (Str × Bool)) : List (HP V) := rows.map fun r => ReqRow r.1 r.2
theorem mk_rows {rows : List (Str × Bool)} : ∀ P ∈ Rows rows, MnK P := fun P hP => by
  obtain ⟨r, _, rfl⟩ := List.mem_map.mp hP
  exact mk_req
/-- the first setting that is not valid -/
def firstBad : List (Str × Bool) → Option Str
  | [] => none
  | r :: rs => if r.2 = true then firstBad rs else some r.1
def spRequire (K : PySem.W.Frag) : Sp := fun vs H Q E => ∃ l rows xs, vs = [.ref l] ∧ H l = some (.lst xs) ∧ Fa (Rows rows) xs H ∧ (firstBad rows = none → Q .non H) ∧ ∀ f, firstBad rows = some f → Err H (BS K) "setting" (.str f) E
section
variable {P : Program} {w : World} {K : PySem.W.Frag} {mg : Str → Option Value} {base : Heap}
theorem ok_BadSetting (T : Env K mg) : FnOk P w K mg base CX0 1 (d_BadSetting__init.loc K) T.fd_BadSetting__init ["self", "setting"] (spI1 (BS K) "setting") := by
  refine T.F_BadSetting__init.ok sc_BadSetting__init (fun vs H Q E h => ?_) (fun cdv A outer s H vs Q E hr h => ?_)
  · obtain ⟨a, y, rfl, _⟩ := h
    rfl
  · have nd := sc_BadSetting__init.nd
    obtain ⟨a, y, rfl, ha, k⟩ := h
    refine ⟨_, PSs.nox (pss_cons (ps_expr (pe_xini (by rfl) T.g_PlanError T.r_PlanError T.s_PlanError T.v_PlanError (by decide +kernel) (pa_cons (pv 0) (pa_cons pe_str pa_nil))))
 (pss_one (ps_xst (pv 0) (pv 1)))), ?_⟩
    exact ⟨_, rfl, a, _, [_], _, _, _, rfl, (by decide : 1 ≤ 1000), T.x_BadSetting, ha, _, rfl, _, rfl, a, _, _, _, _, _, rfl, T.x_BadSetting, T.n_BadSetting, ha, k⟩
theorem ok_BadChild (T : Env K mg) : FnOk P w K mg base CX0 1 (d_BadChild__init.loc K) T.fd_BadChild__init ["self", "index"] (spI1 (BC K) "index") := by
  refine T.F_BadChild__init.ok sc_BadChild__init (fun vs H Q E h => ?_) (fun cdv A outer s H vs Q E hr h => ?_)
  · obtain ⟨a, y, rfl, _⟩ := h
    rfl
  · have nd := sc_BadChild__init.nd
    obtain ⟨a, y, rfl, ha, k⟩ := h
    refine ⟨_, PSs.nox (pss_cons (ps_expr (pe_xini (by rfl) T.g_PlanError T.r_PlanError T.s_PlanError T.v_PlanError (by decide +kernel) (pa_cons (pv 0) (pa_cons pe_str pa_nil))))
 (pss_one (ps_xst (pv 0) (pv 1)))), ?_⟩
    exact ⟨_, rfl, a, _, [_], _, _, _, rfl, (by decide : 1 ≤ 1000), T.x_BadChild, ha, _, rfl, _, rfl, a, _, _, _, _, _, rfl, T.x_BadChild, T.n_BadChild, ha, k⟩
theorem rows_get {rows : List (Str × Bool)} {xs : List V} {H : Hp} {i : Nat} {x : V} (h : Fa (Rows rows) xs H) (hx : xs[i]? = some x) : ∃ r, rows[i]? = some r ∧ ReqRow r.1 r.2 x H := by
  have hl := h.len
  unfold Rows at hl
  rw [List.length_map] at hl
  have hi : i < rows.length := by have := (List.getElem?_eq_some_iff.mp hx).1; omega
  obtain ⟨x', e, px⟩ := h.get (n := i) (P := ReqRow rows[i].1 rows[i].2) (by unfold Rows; rw [List.getElem?_map, List.getElem?_eq_getElem hi]; rfl)
  rw [hx] at e
  cases e
  exact ⟨_, List.getElem?_eq_getElem hi, px⟩
theorem ok_require (T : Env K mg) : FnOk P w K mg base (L2.CX P w) 3 (d_require.loc K) T.fd_require ["rows"] (spRequire K) := by
  have G_BadSetting__init : FnOk P w K mg base CX0 1 _ _ _ _ := ok_BadSetting T
  refine T.F_require.ok sc_require (fun vs H Q E h => ?_) (fun cdv A outer s H vs Q E hr h => ?_)
  · obtain ⟨l, rows, xs, rfl, _⟩ := h
    rfl
  · have nd := sc_require.nd
    have hu := hu_of hr
    obtain ⟨l, rows, xs, rfl, hl, fa, k, ke⟩ := h
    refine ⟨_, (pss_one (ps_for (passes_of rfl) rfl (pi_list (pv 0)) (pg_tup rfl (pgs_cons (pg_name (i := 1) nd rfl (Or.inl rfl)) (pgs_cons (pg_name (i := 2) nd rfl (Or.inl rfl)) pgs_nil)))
  (pss_one (ps_if (pt_not (pt_val (pv 2)))
  (pss_one (ps_raise rfl (takes_of (E := E) rfl rfl rfl rfl) (pmk_oex T.o_BadSetting T.i_BadSetting T.t_BadSetting G_BadSetting__init (hr.mono (by decide)) T.bi_BadSetting__init .nil pass0 (by rfl) T.g_BadSetting (pa_cons (pv 1) pa_nil))))
  pss_nil)))), ?_⟩
    have hln := fa.len
    unfold Rows at hln
    rw [List.length_map] at hln
    refine ⟨_, rfl, l, rfl, ⟨xs, .of hl⟩, ?_⟩
    refine for_it (walk_list (xs := xs)) (fun i σ H' => H' = H ∧ firstBad rows = firstBad (rows.drop i) ∧ ∃ a1 a2, σ = [some (.ref l), a1, a2]) ⟨rfl, rfl, _, _, rfl⟩ (fun i σ H' _ q => by rw [q.1]; exact .of hl) (fun i x σ H1 H2 hi q y => ?_) (fun σ H1 q => ?_)
    · obtain ⟨rfl, hd, a1, a2, rfl⟩ := q
      obtain ⟨rfl, ex⟩ := y
      obtain ⟨⟨f, b⟩, hr', p, rfl, hp⟩ := rows_get fa ex
      refine ⟨p, _, rfl, .of hp, rfl, _, _, rfl, _, _, rfl, rfl, ?_⟩
      have hdrop : rows.drop i = (f, b) :: rows.drop (i + 1) := (List.getElem_cons_drop (h := (List.getElem?_eq_some_iff.mp hr').1)).symm.trans (by rw [(List.getElem?_eq_some_iff.mp hr').2])
      rw [hdrop] at hd
      cases b with
      | true => exact st_nn (evb_not (b := true) (evb_B (ev_var rfl))) ⟨rfl, hd, _, _, rfl⟩
      | false => exact st_ya (evb_not (b := false) (evb_B (ev_var rfl))) (raise_of (E := E) (p_var rfl) (ke f hd))
    · obtain ⟨rfl, hd, _⟩ := q
      rw [List.drop_eq_nil_of_le (by omega)] at hd
      exact k hd
end
def InitEnd (x : Addr) (H : Hp) (o : HO) (H' : Hp) : Prop := (∀ b u, H b = some u → b ≠ x → H' b = some u) ∧ H' x = some o
def restarts : List V := [.str "permanent", .str "transient", .str "temporary"]
def strategies : List V := [.str "one", .str "rest", .str "all"]
def wRows (p1 p2 p3 p4 p5 p6 p7 : Pv) : List (Str × Bool) := [("name", isName p1), ("restart", isOneOf restarts p2), ("opening", isBetween 0 1000000000 p3), ("closing", isBetween 0 1000000000 p4), ("deadline", isDeadline p5), ("refused", isBetween 0 100 p6), ("script", isScript p7)]
def sRows (p1 p2 p3 p4 p5 p6 : Pv) : List (Str × Bool) := [("name", isName p1), ("restart", isOneOf restarts p2), ("strategy", isOneOf strategies p3), ("most", isBetween 0 20 p4), ("span", isBetween 1 1000000000 p5), ("deadline", isDeadline p6)]
def spWInit (K : PySem.W.Frag) : Sp := fun vs H Q E => ∃ N x dx p1 p2 p3 p4 p5 p6 p7 v1 v2 v3 v4 v5 v6 v7, vs = [.ref x, v1, v2, v3, v4, v5, v6, v7] ∧ AtL K N [p1, p2, p3, p4, p5, p6, p7] [v1, v2, v3, v4, v5, v6, v7] H ∧ okScr p7 = true ∧ H x = some (.ins (CW K) dx []) ∧
  (firstBad (wRows p1 p2 p3 p4 p5 p6 p7) = none → ∀ q H', InitEnd x H (WIns K dx q) H' → H' q = some (.tup [v1, v2, v3, v4, v5, v6, v7]) → Q .non H') ∧ ∀ f, firstBad (wRows p1 p2 p3 p4 p5 p6 p7) = some f → Err H (BS K) "setting" (.str f) E
section
variable {K : PySem.W.Frag} {σ : L2.St} {H0 H : Hp} {te : TE} {D : Ends} {l : Addr} {xs : List V}
theorem g_req {s : Str} {b : Bool} (h : G te σ H (Is (.bl b))) : G (tTup (tCons (tC (.str s)) (tCons te tNil))) σ H (ReqRow s b) := ⟨fun H1 e Q q => h.ev H1 e _ fun x H2 s2 px => by
  cases px
  exact ⟨(by decide : 2 ≤ sizeLine), fun p hp => q _ _ (s2.trans (same_new hp)) ⟨p, rfl, upd_same⟩⟩, fun _ _ _ k h => mk_req _ _ _ (Kp.same k) h⟩
theorem mn_req {s : Str} {b : Bool} : Mn (ReqRow s b) := fun _ _ _ k h => mk_req _ _ _ (Kp.same k) h
/-- rows.append((.., b)), rows a new list -/
theorem st_appR {i : Nat} {s : Str} {b : Bool} {rows : List (Str × Bool)} (s0 : Same H0 H) (hn : H0 l = none) (h0 : σ[i]? = some (some (.ref l))) (hl : H l = some (.lst xs)) (hx : Fa (Rows rows) xs H) (len : rows.length ≤ 20) (h : G te σ H (ReqRow s b))
    (k : ∀ H1 ys, Same H0 H1 → H1 l = some (.lst ys) → Fa (Rows (rows ++ [(s, b)])) ys H1 → D.nx σ H1) : tDrop (tBM K "list" rAppend (tVar i) (tCons te tNil)) D σ H := by
  refine ⟨_, h0, .inl ⟨rfl, _, .of hl⟩, h.ev H (Same.refl _) _ fun y H2 s2 py => ?_⟩
  have hln := hx.len
  unfold Rows at hln
  rw [List.length_map] at hln
  refine ⟨l, xs, y, rfl, rfl, s2 _ _ hl, Nat.lt_of_le_of_lt (show xs.length ≤ 20 by omega) (by decide), ?_⟩
  have kp : Kp H2 (upd H2 l (.lst (xs ++ [y]))) := Kp.lst (s2 _ _ hl)
  refine k _ (xs ++ [y]) (same_put (s0.trans s2) hn) upd_same ?_
  unfold Rows
  rw [List.map_append]
  exact (fa_kp mk_rows ((Kp.same s2).trans kp) hx).app ⟨mk_req _ _ _ kp py, trivial⟩
/-- rows = [(.., b), (.., c)] -/
theorem st_rows {i : Nat} {ta tb : TE} {s s' : Str} {b c : Bool} (ha : G ta σ H (ReqRow s b)) (hb : G tb σ H (ReqRow s' c)) (k : ∀ l ys H1, Same H H1 → H l = none → H1 l = some (.lst ys) → Fa (Rows [(s, b), (s', c)]) ys H1 → D.nx (σ.set i (some (.ref l))) H1) :
    tAsg (tLst (tCons ta (tCons tb tNil))) (gName i) D σ H := by
  refine ha.ev H (Same.refl _) _ fun v1 H1 s1 p1 => hb.ev H1 s1 _ fun v2 H2 s2 p2 => ⟨(by decide : 2 ≤ sizeLine), fun l hl => ?_⟩
  have s12 := s1.trans s2
  exact k l _ _ (s12.trans (same_new hl)) (Same.free s12 hl) upd_same ⟨mn_req _ _ _ (s2.trans (same_new hl)) p1, mn_req _ _ _ (same_new hl) p2, trivial⟩
theorem g_oneF {N : Addr → Prop} {E : XK} {p : Pv} {x : V} {a : Addr} {ws : List V} (ha : ∀ H1, Same H H1 → Ev te σ H1 x) (px : At K N p x H) (hw : ∀ H, SqT K H a ws) (hf : ws.all flatV = true) : G (tCall (spOneOf K) [] E (tCons te (tCons (tC (.ref a)) tNil))) σ H (Is (.bl (isOneOf ws p))) :=
  g_callL (vs := [x, .ref a]) (fun H1 s => evl_cons (ha H1 s) (evl_cons ev_c evl_nil)) (fun H1 s Q q => ⟨N, p, x, a, ws, rfl, at_kn (Kn.same s) _ px, hw _, hf, q _ _ (Same.refl _) rfl⟩) mn_i
end
section
variable {P : Program} {w : World} {K : PySem.W.Frag} {mg : Str → Option Value} {base : Heap}
theorem ok_winit (T : Env K mg) : FnOk P w K mg base (L2.CX P w) 9 (d_WorkerPlan__init.loc K) T.fd_WorkerPlan__init ["self", "name", "restart", "opening", "closing", "deadline", "refused", "script"] (spWInit K) := by
  have G_is_name : FnOk P w K mg base CX0 2 _ _ _ _ := ok_is_name T
  have G_is_one_of : FnOk P w K mg base CX0 1 _ _ _ _ := ok_is_one_of T
  have G_is_between : FnOk P w K mg base CX0 1 _ _ _ _ := ok_is_between T
  have G_is_deadline : FnOk P w K mg base CX0 2 _ _ _ _ := ok_is_deadline T
  have G_is_script : FnOk P w K mg base CX0 8 _ _ _ _ := ok_is_script T
  have G_require : FnOk P w K mg base (L2.CX P w) 3 _ _ _ _ := ok_require T
  refine T.F_WorkerPlan__init.ok sc_WorkerPlan__init (fun vs H Q E h => ?_) (fun cdv A outer s H vs Q E hr h => ?_)
  · obtain ⟨N, x, dx, p1, p2, p3, p4, p5, p6, p7, v1, v2, v3, v4, v5, v6, v7, rfl, _⟩ := h
    rfl
  · have nd := sc_WorkerPlan__init.nd
    have hu := hu_of hr
    obtain ⟨N, x, dx, p1, p2, p3, p4, p5, p6, p7, v1, v2, v3, v4, v5, v6, v7, rfl, hat, hos, hx, k, ke⟩ := h
    obtain ⟨_, _, e, a1, _, _, e', a2, _, _, e'', a3, _, _, e3, a4, _, _, e4, a5, _, _, e5, a6, _, _, e6, a7, _⟩ := hat
    cases e; cases e'; cases e''; cases e3; cases e4; cases e5; cases e6
    refine ⟨_, (pss_cons (ps_set (i := 8) nd rfl (Or.inl rfl) (pe_lst (pa_cons (pe_tup (pa_cons pe_str (pa_cons (pe_call G_is_name (hr.mono (by decide)) (by rfl) T.g_is_name T.F_is_name.kp T.bi_is_name .nil pass0 (pa_cons (pv 1) pa_nil)) pa_nil))) (pa_cons (pe_tup (pa_cons pe_str (pa_cons (pe_call G_is_one_of (hr.mono (by decide)) (by rfl) T.g_is_one_of T.F_is_one_of.kp T.bi_is_one_of .nil pass0 (pa_cons (pv 2) (pa_cons (pe_globR (by rfl) T.g_RESTARTS) pa_nil))) pa_nil))) pa_nil))))
 (pss_cons (ps_expr (pe_bm PySem.F.plainAttrs_list PySem.F.slot_list_append PySem.F.type_list_append mt_append (pv 8) (pa_cons (pe_tup (pa_cons pe_str (pa_cons (pe_call G_is_between (hr.mono (by decide)) (by rfl) T.g_is_between T.F_is_between.kp T.bi_is_between .nil pass0 (pa_cons (pv 3) (pa_cons pe_int (pa_cons (C8.pe_gc (by rfl) T.c_MOST_WAIT) pa_nil)))) pa_nil))) pa_nil)))
 (pss_cons (ps_expr (pe_bm PySem.F.plainAttrs_list PySem.F.slot_list_append PySem.F.type_list_append mt_append (pv 8) (pa_cons (pe_tup (pa_cons pe_str (pa_cons (pe_call G_is_between (hr.mono (by decide)) (by rfl) T.g_is_between T.F_is_between.kp T.bi_is_between .nil pass0 (pa_cons (pv 4) (pa_cons pe_int (pa_cons (C8.pe_gc (by rfl) T.c_MOST_WAIT) pa_nil)))) pa_nil))) pa_nil)))
 (pss_cons (ps_expr (pe_bm PySem.F.plainAttrs_list PySem.F.slot_list_append PySem.F.type_list_append mt_append (pv 8) (pa_cons (pe_tup (pa_cons pe_str (pa_cons (pe_call G_is_deadline (hr.mono (by decide)) (by rfl) T.g_is_deadline T.F_is_deadline.kp T.bi_is_deadline .nil pass0 (pa_cons (pv 5) pa_nil)) pa_nil))) pa_nil)))
 (pss_cons (ps_expr (pe_bm PySem.F.plainAttrs_list PySem.F.slot_list_append PySem.F.type_list_append mt_append (pv 8) (pa_cons (pe_tup (pa_cons pe_str (pa_cons (pe_call G_is_between (hr.mono (by decide)) (by rfl) T.g_is_between T.F_is_between.kp T.bi_is_between .nil pass0 (pa_cons (pv 6) (pa_cons pe_int (pa_cons pe_int pa_nil)))) pa_nil))) pa_nil)))
 (pss_cons (ps_expr (pe_bm PySem.F.plainAttrs_list PySem.F.slot_list_append PySem.F.type_list_append mt_append (pv 8) (pa_cons (pe_tup (pa_cons pe_str (pa_cons (pe_call G_is_script (hr.mono (by decide)) (by rfl) T.g_is_script T.F_is_script.kp T.bi_is_script .nil pass0 (pa_cons (pv 7) pa_nil)) pa_nil))) pa_nil)))
 (pss_cons (ps_expr (pe_call G_require (hr.mono (by decide)) (by rfl) T.g_require T.F_require.kp T.bi_require .nil (WXO.takes_e (E := E) rfl rfl rfl rfl) (pa_cons (pv 8) pa_nil)))
 (pss_cons (ps_fld (pv 0) (pe_tup (pa_cons (pv 1) (pa_cons (pv 2) (pa_cons (pv 3) (pa_cons (pv 4) (pa_cons (pv 5) (pa_cons (pv 6) (pa_cons (pv 7) pa_nil)))))))) rfl)
 (pss_cons (ps_fld (pv 0) pe_int rfl)
 (pss_one (ps_fld (pv 0) pe_int rfl))))))))))), ?_⟩
    refine st_rows (g_req (s := "name") (g_callB (fun H1 s => ev_var rfl) a1)) (g_req (s := "restart") (g_oneF (fun H1 s => ev_var rfl) a2 T.q_RESTARTS rfl)) fun l ys H3 sn hn el rq => ?_
    dsimp only
    show tSeq _ _ _ _ _
    refine st_appR sn hn rfl el rq (Nat.le_of_ble_eq_true rfl) (g_req (s := "opening") (g_betF (fun H1 s => ev_var rfl) (at_kn (Kn.same sn) _ a3) rfl)) fun H4 xs4 s4 el4 rq4 => ?_
    refine st_appR s4 hn rfl el4 rq4 (Nat.le_of_ble_eq_true rfl) (g_req (s := "closing") (g_betF (fun H1 s => ev_var rfl) (at_kn (Kn.same s4) _ a4) rfl)) fun H5 xs5 s5 el5 rq5 => ?_
    refine st_appR s5 hn rfl el5 rq5 (Nat.le_of_ble_eq_true rfl) (g_req (s := "deadline") (g_callB (fun H1 s => ev_var rfl) (at_kn (Kn.same s5) _ a5))) fun H6 xs6 s6 el6 rq6 => ?_
    refine st_appR s6 hn rfl el6 rq6 (Nat.le_of_ble_eq_true rfl) (g_req (s := "refused") (g_betF (fun H1 s => ev_var rfl) (at_kn (Kn.same s6) _ a6) rfl)) fun H7 xs7 s7 el7 rq7 => ?_
    refine st_appR s7 hn rfl el7 rq7 (Nat.le_of_ble_eq_true rfl) (g_req (s := "script") (g_callBo (fun H1 s => ev_var rfl) (at_kn (Kn.same s7) _ a7) hos)) fun H8 xs8 s8 el8 rq8 => ?_
    refine ⟨_, rfl, l, wRows p1 p2 p3 p4 p5 p6 p7, xs8, rfl, el8, rq8, fun hb => ?_, fun f hf => (ke f hf).mono s8⟩
    refine ⟨_, rfl, _, rfl, _, rfl, _, rfl, _, rfl, _, rfl, _, rfl, (by decide : 7 ≤ sizeLine), fun q hq => ?_⟩
    have hx8 := s8 _ _ hx
    have xq : x ≠ q := fun z => by rw [← z, hx8] at hq; cases hq
    have sq : Same H (upd H8 q (.tup [v1, v2, v3, v4, v5, v6, v7])) := s8.trans (same_new hq)
    have eq8 : upd H8 q (.tup [v1, v2, v3, v4, v5, v6, v7]) q = some (.tup [v1, v2, v3, v4, v5, v6, v7]) := upd_same
    refine ⟨_, rfl, x, CW K, dx, [], rfl, sq _ _ hx, T.dc_WorkerPlan.cls, T.n_WorkerPlan_own_settings, (by decide : 0 < 1000), ?_⟩
    refine ⟨_, rfl, x, CW K, dx, [("own_settings", .ref q)], rfl, upd_same, T.dc_WorkerPlan.cls, T.n_WorkerPlan_own_count, (by decide : 1 < 1000), ?_⟩
    refine ⟨_, rfl, x, CW K, dx, [("own_settings", .ref q), ("own_count", .int 1)], rfl, upd_same, T.dc_WorkerPlan.cls, T.n_WorkerPlan_own_depth, (by decide : 2 < 1000), ?_⟩
    refine k hb q _ ⟨fun b u hb ne => ?_, upd_same⟩ ?_
    · rw [upd_ne ne, upd_ne ne, upd_ne ne]
      exact sq _ _ hb
    · rw [upd_ne (Ne.symm xq), upd_ne (Ne.symm xq), upd_ne (Ne.symm xq)]
      exact eq8
end
end W02

set_option Elab.async false
set_option linter.all false
set_option maxRecDepth 100000
set_option maxHeartbeats 2000000
/-! def f(a, .., *v, k = .., ..) called with no keyword: the defaults are looked up -/
namespace WKd
open PySem PySem.Spec PyProof.Rows L2 StX WSt
def KwTo {α : Type} (D : Addr) : List (Str × Value) → Sem α → Sem α → Prop
  | [], t, r => t = r
  | q :: l, t, r => ∃ (β γ : Type) (k1 : Option Value → Sem β) (k2 : β → Sem γ) (k3 : γ → Sem α) (a : β), t = ((nsGet D q.1 >>= k1) >>= k2) >>= k3 ∧ k1 (some q.2) = pure a ∧ KwTo D l (k2 a >>= k3) r
theorem KwTo.run {α : Type} {K : PySem.W.Frag} {M : Model} {A : Around} {D : Addr} {Q : α → Shared → Prop} {E : Value → Shared → Prop} {s : Shared} (X : K.In s.heap) : ∀ {l : List (Str × Value)} {t r : Sem α}, (∀ q ∈ l, PySem.W.nsIn K D q.1 = some (some q.2)) → KwTo D l t r → wpAny M A r Q E s → wpAny M A t Q E s
  | [], t, r, _, e, h => by rw [show t = r from e]; exact h
  | q :: l, t, r, hl, e, h => by
    obtain ⟨β, γ, k1, k2, k3, a, e1, e2, e3⟩ := e
    have l1 : PySem.W.Looks M s.heap (nsGet D q.1 >>= k1) a := (PySem.W.looks_nsIn X (hl q (List.mem_cons_self ..))).andThen (PySem.W.Looks.of_pure e2)
    rw [e1, bind_assoc]
    exact wpAny_bind (l1.here (KwTo.run X (fun p hp => hl p (List.mem_cons_of_mem _ hp)) e3 h))
section
variable {CX : CXT} {P : Program} {w : World} {K : PySem.W.Frag} {mg : Str → Option Value} {base : Heap} {k n : Nat} {f D : Addr} {name qual : Str} {params : Arguments} {body : List Stmt} {scope : Scope} {dV doc pm cdv ct oc : Value} {an od : Option Addr}
  {osl : Array (Option Value)} {N ps : List Str} {sp : Sp} {ms : List (Str × V)}
theorem fn_starD {pv : Str} (lk : K.lookup f = some ⟨oc, od, .func (PySem.W.fnOf name qual params body scope dV (.ref D) doc pm an cdv ct), osl⟩) (hcd : PySem.W.codeIn K cdv qual = true) (S : FnScope N (ps ++ ms.map (·.1) ++ [pv]) scope) (hCX : CXUp CX)
    (hK : ∀ q ∈ ms, ∃ u, PySem.W.nsIn K D q.1 = some (some u) ∧ RelV q.2 u)
    (hb : ∀ us rest mv : List Value, us.length = ps.length → mv.length = (ms.map (·.1)).length → KwTo D ((ms.map (·.1)).zip mv) (bindArgs (PySem.W.fnOf name qual params body scope dV (.ref D) doc pm an cdv ct) ⟨us ++ rest, []⟩) (newTuple rest >>= fun t => pure ((ps ++ ms.map (·.1)).zip (us ++ mv) ++ [(pv, t)])))
    (hbody : ∀ (A : Around) (outer : List Env) (s : Shared) (H : Hp) (vs : List V) (Q : VK) (E : XK), Room k (A.deeper (envOfC qual scope s.heap.objs.size f cdv)) → sp vs H Q E →
      ∃ t, PSs (cxOf CX P w K mg base N qual scope f cdv A outer s H E) body t ∧ t { nx := fun _ H' => Q .non H', rt := Q } (start N vs) H) :
    FnK P w K mg base CX (k + 1) f [] (fun vs zs H Q E => ∃ as rest, vs = as ++ rest ∧ as.length = ps.length ∧ rest.length ≤ sizeLine ∧ ∀ p, H p = Option.none → sp (as ++ ms.map (·.2) ++ [V.ref p]) (upd H p (.tup rest)) Q E) := by
  intro A outer s H us ws vs zs Q E hr e0 r rz hlz hsp
  obtain ⟨as, rest, rfl, hl, hz, hq⟩ := hsp
  obtain ⟨u1, u2, rfl, r1, r2⟩ := vals_split r
  obtain ⟨mv, hml, rmv, hmv⟩ := kwd_vals hK
  have KX : K.In s.heap := e0.mod.kin.keeps fun b o h => (e0.bs b o h).1
  have hn : H s.heap.objs.size = Option.none := e0.hok.fresh (Nat.le_refl _)
  have hl1 : u1.length = ps.length := by rw [← r1.length]; exact hl
  have hl2 : u2.length ≤ sizeLine := by rw [← r2.length]; exact hz
  have hl3 : mv.length = (ms.map (·.1)).length := by rw [hml, List.length_map]
  refine run_bnd (ps := ps ++ ms.map (·.1) ++ [pv]) lk hcd S hr e0 (G := fun xs H2 => ∃ p, H p = Option.none ∧ xs = as ++ ms.map (·.2) ++ [V.ref p] ∧ H2 = upd H p (.tup rest)) (fun A' Ex Q' h => ?_) fun s2 H2 xs ⟨p, hp, ex, eH⟩ hr' => ?_
  · refine KwTo.run KX hmv (hb u1 u2 mv hl1 hl3) ?_
    refine wpAny_bind (wpAny_newTuple (wpAny_pure ?_) hl2)
    have new : ObjOk P w (upd H s.heap.objs.size (.tup rest)) (s.heap.push ({ cls := .type "tuple", data := .seq u2.toArray } : Obj)) s.heap.objs.size (.tup rest) := ⟨hz, u2, r2, ⟨_, Heap.get?_push_size _ rfl, rfl, _, rfl⟩⟩
    have un := un_laid (fs := frs outer) (s := s) (o := ({ cls := .type "tuple", data := .seq u2.toArray } : Obj)) (u := .tup rest) hn
    have z := h _ _ (as ++ ms.map (·.2) ++ [V.ref s.heap.objs.size]) (u1 ++ mv ++ [Value.ref s.heap.objs.size]) (env0_laid e0 new) un rfl (fun e s' => hCX outer s H _ _ E e s' un (fun b o q => Heap.get?_push_of_some _ q) rfl) ((r1.append rmv).append (.cons rfl .nil))
      (by simp only [List.length_append, List.length_cons, List.length_nil, hl, List.length_map]) ⟨_, hn, rfl, rfl⟩
    rw [List.zip_append (by rw [List.length_append, List.length_append, hl1, hl3])] at z
    exact z
  · subst ex eH
    exact hbody A outer s2 _ _ Q E hr' (hq p hp)
end
end WKd

set_option Elab.async false
set_option linter.all false
set_option maxRecDepth 100000
set_option maxHeartbeats 1000000
namespace W02
open PySem PySem.Spec PyProof.Rows L2 WXG WEv WRd WLf WEn WZs WRu WSt StX WDc WPv WEb WXO WXE WKd
/-- a plan's plans and levels -/
def kidOf : Pv → Option (Nat × Nat)
  | .wrk _ => some (1, 1)
  | .sup n d => some (n, d)
  | _ => none
def up (d h : Nat) : Nat := if d < h + 1 then h + 1 else d
/-- the first wrong child, its index from i on; c, d: plans and levels so far -/
def badChild : Nat → Nat → Nat → List Pv → Option Nat
  | _, _, _, [] => none
  | i, c, d, k :: ks => match kidOf k with
    | none => some i
    | some (n, h) => if 12 ≤ i then some i else if 200 < c + n ∨ 20 < up d h then some i else badChild (i + 1) (c + n) (up d h) ks
theorem badChild_cons (i c d : Nat) (k : Pv) (ks : List Pv) : badChild i c d (k :: ks) = (match kidOf k with
    | none => some i
    | some (n, h) => if 12 ≤ i then some i else if 200 < c + n ∨ 20 < up d h then some i else badChild (i + 1) (c + n) (up d h) ks) := rfl
def endCD : Nat → Nat → List Pv → Nat × Nat
  | c, d, [] => (c, d)
  | c, d, k :: ks => match kidOf k with
    | none => (c, d)
    | some (n, h) => endCD (c + n) (up d h) ks
theorem kid_at {K : PySem.W.Frag} {N : Addr → Prop} {p : Pv} {v : V} {H : Hp} {n h : Nat} (e : kidOf p = some (n, h)) (a : At K N p v H) : ∃ b C dy fs, v = .ref b ∧ H b = some (.ins C dy fs) ∧ (C = CW K ∨ C = CS K) ∧ fs.lookup ("own_count" : Str) = some (V.int n) ∧ fs.lookup ("own_depth" : Str) = some (V.int h) := by
  cases p with
  | wrk l =>
    cases e
    obtain ⟨b, dx, q, xs, rfl, h1, _⟩ := a
    exact ⟨b, _, dx, _, rfl, h1, .inl rfl, rfl, rfl⟩
  | sup n d =>
    cases e
    obtain ⟨b, dx, q, c, rfl, h1⟩ := a
    exact ⟨b, _, dx, _, rfl, h1, .inr rfl, rfl, rfl⟩
  | _ => cases e
theorem kid_plan (p : Pv) : (isWrk p || isSup p) = (kidOf p).isSome := by cases p <;> rfl
def spSInit (K : PySem.W.Frag) : Sp := fun vs H Q E => ∃ N M x dx c ks ys p1 p2 p3 p4 p5 p6 v1 v2 v3 v4 v5 v6, vs = [.ref x, v1, v2, v3, v4, v5, v6, .ref c] ∧ AtL K N [p1, p2, p3, p4, p5, p6] [v1, v2, v3, v4, v5, v6] H ∧ H c = some (.tup ys) ∧ AtL K M ks ys H ∧ H x = some (.ins (CS K) dx []) ∧
  (firstBad (sRows p1 p2 p3 p4 p5 p6) = none → (badChild 0 1 1 ks = none → ∀ q H', InitEnd x H (SIns K dx q c (endCD 1 1 ks).1 (endCD 1 1 ks).2) H' → H' q = some (.tup [v1, v2, v3, v4, v5, v6]) → Q .non H') ∧ ∀ i, badChild 0 1 1 ks = some i → Err H (BC K) "index" (.int (i : Nat)) E) ∧
  ∀ f, firstBad (sRows p1 p2 p3 p4 p5 p6) = some f → Err H (BS K) "setting" (.str f) E
section
variable {P : Program} {w : World} {K : PySem.W.Frag} {mg : Str → Option Value} {base : Heap}
theorem ok_sinit (T : Env K mg) {fa : Addr} {cdv : Value} (A : Around) (outer : List PySem.Env) (s : Shared) (H : Hp) (vs : List V) (Q : VK) (E : XK) (hr : Room 8 (A.deeper (envOfC d_SupervisorPlan__init.qual d_SupervisorPlan__init.scope s.heap.objs.size fa cdv))) (h : spSInit K vs H Q E) :
    ∃ t, PSs (cxOf (L2.CX P w) P w K mg base ["self", "name", "restart", "strategy", "most", "span", "deadline", "children", "rows", "count", "depth", "index", "child"] d_SupervisorPlan__init.qual d_SupervisorPlan__init.scope fa cdv A outer s H E) d_SupervisorPlan__init.body t ∧ t { nx := fun _ H' => Q .non H', rt := Q } (start ["self", "name", "restart", "strategy", "most", "span", "deadline", "children", "rows", "count", "depth", "index", "child"] vs) H := by
  have G_is_name : FnOk P w K mg base CX0 2 _ _ _ _ := ok_is_name T
  have G_is_one_of : FnOk P w K mg base CX0 1 _ _ _ _ := ok_is_one_of T
  have G_is_between : FnOk P w K mg base CX0 1 _ _ _ _ := ok_is_between T
  have G_is_deadline : FnOk P w K mg base CX0 2 _ _ _ _ := ok_is_deadline T
  have G_require : FnOk P w K mg base (L2.CX P w) 3 _ _ _ _ := ok_require T
  have G_BadChild__init : FnOk P w K mg base CX0 1 _ _ _ _ := ok_BadChild T
  have nd := sc_SupervisorPlan__init.nd
  have hu := hu_of hr
  obtain ⟨N, M, x, dx, c, ks, ys, p1, p2, p3, p4, p5, p6, v1, v2, v3, v4, v5, v6, rfl, hat, hc, hks, hx, kk, ke⟩ := h
  obtain ⟨_, _, e, a1, _, _, e', a2, _, _, e'', a3, _, _, e3, a4, _, _, e4, a5, _, _, e5, a6, _⟩ := hat
  cases e; cases e'; cases e''; cases e3; cases e4; cases e5
  refine ⟨_, (pss_cons (ps_set (i := 8) nd rfl (Or.inl rfl) (pe_lst (pa_cons (pe_tup (pa_cons pe_str (pa_cons (pe_call G_is_name (hr.mono (by decide)) (by rfl) T.g_is_name T.F_is_name.kp T.bi_is_name .nil pass0 (pa_cons (pv 1) pa_nil)) pa_nil))) (pa_cons (pe_tup (pa_cons pe_str (pa_cons (pe_call G_is_one_of (hr.mono (by decide)) (by rfl) T.g_is_one_of T.F_is_one_of.kp T.bi_is_one_of .nil pass0 (pa_cons (pv 2) (pa_cons (pe_globR (by rfl) T.g_RESTARTS) pa_nil))) pa_nil))) pa_nil))))
 (pss_cons (ps_expr (pe_bm PySem.F.plainAttrs_list PySem.F.slot_list_append PySem.F.type_list_append mt_append (pv 8) (pa_cons (pe_tup (pa_cons pe_str (pa_cons (pe_call G_is_one_of (hr.mono (by decide)) (by rfl) T.g_is_one_of T.F_is_one_of.kp T.bi_is_one_of .nil pass0 (pa_cons (pv 3) (pa_cons (pe_globR (by rfl) T.g_STRATEGIES) pa_nil))) pa_nil))) pa_nil)))
 (pss_cons (ps_expr (pe_bm PySem.F.plainAttrs_list PySem.F.slot_list_append PySem.F.type_list_append mt_append (pv 8) (pa_cons (pe_tup (pa_cons pe_str (pa_cons (pe_call G_is_between (hr.mono (by decide)) (by rfl) T.g_is_between T.F_is_between.kp T.bi_is_between .nil pass0 (pa_cons (pv 4) (pa_cons pe_int (pa_cons pe_int pa_nil)))) pa_nil))) pa_nil)))
 (pss_cons (ps_expr (pe_bm PySem.F.plainAttrs_list PySem.F.slot_list_append PySem.F.type_list_append mt_append (pv 8) (pa_cons (pe_tup (pa_cons pe_str (pa_cons (pe_call G_is_between (hr.mono (by decide)) (by rfl) T.g_is_between T.F_is_between.kp T.bi_is_between .nil pass0 (pa_cons (pv 5) (pa_cons pe_int (pa_cons (C8.pe_gc (by rfl) T.c_MOST_WAIT) pa_nil)))) pa_nil))) pa_nil)))
 (pss_cons (ps_expr (pe_bm PySem.F.plainAttrs_list PySem.F.slot_list_append PySem.F.type_list_append mt_append (pv 8) (pa_cons (pe_tup (pa_cons pe_str (pa_cons (pe_call G_is_deadline (hr.mono (by decide)) (by rfl) T.g_is_deadline T.F_is_deadline.kp T.bi_is_deadline .nil pass0 (pa_cons (pv 6) pa_nil)) pa_nil))) pa_nil)))
 (pss_cons (ps_expr (pe_call G_require (hr.mono (by decide)) (by rfl) T.g_require T.F_require.kp T.bi_require .nil (WXO.takes_e (E := E) rfl rfl rfl rfl) (pa_cons (pv 8) pa_nil)))
 (pss_cons (ps_asg (pe_tup (pa_cons pe_int (pa_cons pe_int pa_nil))) (pg_tup rfl (pgs_cons (pg_name (i := 9) nd rfl (Or.inl rfl)) (pgs_cons (pg_name (i := 10) nd rfl (Or.inl rfl)) pgs_nil))))
 (pss_cons (ps_for (passes_of rfl) rfl (pi_enumT (by rfl) T.b_enumerate (pa_cons (pv 7) pa_nil)) (pg_tup rfl (pgs_cons (pg_name (i := 11) nd rfl (Or.inl rfl)) (pgs_cons (pg_name (i := 12) nd rfl (Or.inl rfl)) pgs_nil)))
  (pss_cons (ps_if (PW.pt (pw_or (pt_not (pt_val (pe_callB (isiK (K := K)) (by rfl) T.b_isinstance (by decide +kernel) (pa_cons (pv 12) (pa_cons (pe_globR (by rfl) T.g_Plan) pa_nil))))) (pw_or1 (pt_cmpR op_ge (pv 11) (C8.pe_gc (by rfl) T.c_MOST_CHILDREN) (nomark _)))))
  (pss_one (ps_raise rfl (takes_of (E := E) rfl rfl rfl rfl) (pmk_oex T.o_BadChild T.i_BadChild T.t_BadChild G_BadChild__init (hr.mono (by decide)) T.bi_BadChild__init .nil pass0 (by rfl) T.g_BadChild (pa_cons (pv 11) pa_nil))))
  pss_nil)
 (pss_cons (ps_par (i := 9) (j := 10) (by rfl) nd rfl rfl (by decide) rfl rfl (pa_cons (pe_op op_add (pv 9) (pe_fld (pv 12) rfl)) (pa_cons (pe_callB (call_max2 rfl) (by rfl) T.b_max (by decide +kernel) (pa_cons (pv 10) (pa_cons (pe_op op_add (pe_fld (pv 12) rfl) pe_int) pa_nil))) pa_nil)) (by rfl))
 (pss_one (ps_if (PW.pt (pw_or (pt_cmpR op_gt (pv 9) (C8.pe_gc (by rfl) T.c_MOST_WHOLE) (nomark _)) (pw_or1 (pt_cmpR op_gt (pv 10) (C8.pe_gc (by rfl) T.c_MOST_DEPTH) (nomark _)))))
  (pss_one (ps_raise rfl (takes_of (E := E) rfl rfl rfl rfl) (pmk_oex T.o_BadChild T.i_BadChild T.t_BadChild G_BadChild__init (hr.mono (by decide)) T.bi_BadChild__init .nil pass0 (by rfl) T.g_BadChild (pa_cons (pv 11) pa_nil))))
  pss_nil)))))
 (pss_cons (ps_fld (pv 0) (pe_tup (pa_cons (pv 1) (pa_cons (pv 2) (pa_cons (pv 3) (pa_cons (pv 4) (pa_cons (pv 5) (pa_cons (pv 6) pa_nil))))))) rfl)
 (pss_cons (ps_fld (pv 0) (pv 7) rfl)
 (pss_cons (ps_fld (pv 0) (pv 9) rfl)
 (pss_one (ps_fld (pv 0) (pv 10) rfl))))))))))))), ?_⟩
  refine st_rows (g_req (s := "name") (g_callB (fun H1 s => ev_var rfl) a1)) (g_req (s := "restart") (g_oneF (fun H1 s => ev_var rfl) a2 T.q_RESTARTS rfl)) fun l ys3 H3 sn hn el rq => ?_
  dsimp only
  show tSeq _ _ _ _ _
  refine st_appR sn hn rfl el rq (Nat.le_of_ble_eq_true rfl) (g_req (s := "strategy") (g_oneF (fun H1 s => ev_var rfl) (at_kn (Kn.same sn) _ a3) T.q_STRATEGIES rfl)) fun H4 xs4 s4 el4 rq4 => ?_
  refine st_appR s4 hn rfl el4 rq4 (Nat.le_of_ble_eq_true rfl) (g_req (s := "most") (g_betF (fun H1 s => ev_var rfl) (at_kn (Kn.same s4) _ a4) rfl)) fun H5 xs5 s5 el5 rq5 => ?_
  refine st_appR s5 hn rfl el5 rq5 (Nat.le_of_ble_eq_true rfl) (g_req (s := "span") (g_betF (fun H1 s => ev_var rfl) (at_kn (Kn.same s5) _ a5) rfl)) fun H6 xs6 s6 el6 rq6 => ?_
  refine st_appR s6 hn rfl el6 rq6 (Nat.le_of_ble_eq_true rfl) (g_req (s := "deadline") (g_callB (fun H1 s => ev_var rfl) (at_kn (Kn.same s6) _ a6))) fun H8 xs8 s8 el8 rq8 => ?_
  refine ⟨_, rfl, l, sRows p1 p2 p3 p4 p5 p6, xs8, rfl, el8, rq8, fun hb => ?_, fun f hf => (ke f hf).mono s8⟩
  obtain ⟨k, kc⟩ := kk hb
  clear el rq el4 rq4 el5 rq5 el6 rq6 el8 rq8 sn s4 s5 s6
  refine ⟨(by decide : 2 ≤ sizeLine), fun p hp => ?_⟩
  refine ⟨p, _, rfl, .of upd_same, rfl, _, _, rfl, _, _, rfl, rfl, ?_⟩
  have s9 : Same H (upd H8 p (.tup [.int 1, .int 1])) := s8.trans (same_new hp)
  generalize upd H8 p (.tup [.int 1, .int 1]) = H9 at s9 ⊢
  have yl := hks.len
  refine ⟨_, rfl, c, ys, rfl, .of (s9 _ _ hc), ?_⟩
  show ∃ W, _
  refine for_it (walk_enumC (K := K) (t := true) (c := 0) (a := c) (xs := ys)) (fun i σ H' => Same H H' ∧ ∃ (a11 a12 : Option V) (cc dd : Nat), badChild 0 1 1 ks = badChild i cc dd (ks.drop i) ∧ endCD 1 1 ks = endCD cc dd (ks.drop i) ∧ σ = [some (.ref x), some v1, some v2, some v3, some v4, some v5, some v6, some (.ref c), some (.ref l), some (.int (cc : Nat)), some (.int (dd : Nat)), a11, a12])
    ⟨s9, none, none, 1, 1, rfl, rfl, rfl⟩ (fun i σ H' _ q => (show SqT K H' c ys from .of (q.1 _ _ hc))) (fun i y σ H1 H2 hi q yy => ?_) (fun σ H1 q => ?_)
  · obtain ⟨s10, a11, a12, cc, dd, hbc, hec, rfl⟩ := q
    obtain ⟨t0, u, g, rfl, ht0, rfl, eu, eg⟩ := yy
    cases eu
    obtain ⟨t, ht, px⟩ := hks.get2 eg
    have s11 := s10.trans (same_new (o := .tup [.int (0 + (i : Nat)), g]) ht0)
    refine ⟨t0, _, rfl, .of upd_same, rfl, _, _, rfl, _, _, rfl, rfl, ?_⟩
    generalize upd H1 t0 (.tup [.int (0 + (i : Nat)), g]) = H2 at s11 ⊢
    have hdrop : ks.drop i = t :: ks.drop (i + 1) := (List.getElem_cons_drop (h := (List.getElem?_eq_some_iff.mp ht).1)).symm.trans (by rw [(List.getElem?_eq_some_iff.mp ht).2])
    rw [hdrop] at hbc hec
    have px2 := at_kn (Kn.same s11) _ px
    have hty := at_ty T.kt _ px2
    have hkp := kit_plan T.kt t
    rw [kid_plan] at hkp
    have stop : badChild 0 1 1 ks = some i → ∀ {te : TE} {σ : L2.St}, σ[11]? = some (some (.int ((0 : Int) + (i : Nat)))) → tMkO (BC K) (spI1 (BC K) "index") [] (tCons (tVar 11) tNil) σ H2 E := fun e {te σ} hσ => by
      have := kc i e
      exact raise_of (E := E) (p_var hσ) (by rw [Int.zero_add]; exact this.mono s11)
    rw [badChild_cons] at hbc
    cases hk : kidOf t with
    | none =>
      rw [hk] at hbc hkp
      exact st_ya (evb_or (a := true) (b := false) (evb_not (b := false) (evb_B (ev_isiC (ev_var rfl) hty hkp))) fun z => nomatch z) (stop hbc (te := tVar 0) rfl)
    | some nh =>
      obtain ⟨n, h⟩ := nh
      rw [hk] at hbc hkp
      dsimp only at hbc
      by_cases h12 : 12 ≤ i
      · rw [if_pos h12] at hbc
        exact st_ya (evb_or (a := false) (b := true) (evb_not (b := true) (evb_B (ev_isiC (ev_var rfl) hty hkp))) fun _ => evb_cmpF (g := fun i j => decide (i ≥ j)) (ev_var rfl) ev_c (decide_eq_true (by omega))) (stop hbc (te := tVar 0) rfl)
      · rw [if_neg h12] at hbc
        refine st_nn (evb_or (a := false) (b := false) (evb_not (b := true) (evb_B (ev_isiC (ev_var rfl) hty hkp))) fun _ => evb_cmpF (g := fun i j => decide (i ≥ j)) (ev_var rfl) ev_c (decide_eq_false (by omega))) ?_
        obtain ⟨b, C, dy, fs, rfl, hb2, hC, l1, l2⟩ := kid_at hk px2
        have cl : Cls K C ∧ NoAttr K C "own_count" ∧ NoAttr K C "own_depth" := by
          rcases hC with rfl | rfl
          · exact ⟨T.dc_WorkerPlan.cls, T.n_WorkerPlan_own_count, T.n_WorkerPlan_own_depth⟩
          · exact ⟨T.dc_SupervisorPlan.cls, T.n_SupervisorPlan_own_count, T.n_SupervisorPlan_own_depth⟩
        refine ⟨_, rfl, _, rfl, b, C, dy, fs, _, rfl, hb2, cl.1, cl.2.1, l1, _, _, rfl, rfl, ?_⟩
        refine ⟨_, rfl, _, rfl, b, C, dy, fs, _, rfl, hb2, cl.1, cl.2.2, l2, _, _, rfl, rfl, _, _, rfl, ?_⟩
        refine ⟨_, _, rfl, ?_⟩
        have ec : ((cc : Nat) : Int) + (n : Nat) = ((cc + n : Nat) : Int) := by omega
        have ed : (if (h : Int) + 1 > (dd : Int) then (h : Int) + 1 else dd) = ((up dd h : Nat) : Int) := by
          unfold up
          split <;> split <;> omega
        dsimp only
        rw [ec, ed]
        by_cases h200 : 200 < cc + n
        · rw [if_pos (.inl h200)] at hbc
          exact st_ya (evb_or (a := true) (b := false) (evb_cmpF (g := fun i j => decide (i > j)) (ev_var rfl) ev_c (decide_eq_true (by omega))) fun z => nomatch z) (stop hbc (te := tVar 0) rfl)
        by_cases h20 : 20 < up dd h
        · rw [if_pos (.inr h20)] at hbc
          exact st_ya (evb_or (a := false) (b := true) (evb_cmpF (g := fun i j => decide (i > j)) (ev_var rfl) ev_c (decide_eq_false (by omega))) fun _ => evb_cmpF (g := fun i j => decide (i > j)) (ev_var rfl) ev_c (decide_eq_true (by omega))) (stop hbc (te := tVar 0) rfl)
        rw [if_neg (fun z => z.elim h200 h20)] at hbc
        refine st_nn (evb_or (a := false) (b := false) (evb_cmpF (g := fun i j => decide (i > j)) (ev_var rfl) ev_c (decide_eq_false (by omega))) fun _ => evb_cmpF (g := fun i j => decide (i > j)) (ev_var rfl) ev_c (decide_eq_false (by omega))) ?_
        refine ⟨s11, _, _, cc + n, up dd h, hbc, ?_, rfl⟩
        rw [hec]
        conv => lhs; unfold endCD
        rw [hk]
  · obtain ⟨s10, a11, a12, cc, dd, hbc, hec, rfl⟩ := q
    rw [yl, List.drop_eq_nil_of_le (Nat.le_refl _)] at hbc hec
    have k := k hbc
    rw [hec] at k
    change ∀ q H', InitEnd x H (SIns K dx q c cc dd) H' → _ at k
    refine ⟨_, rfl, _, rfl, _, rfl, _, rfl, _, rfl, _, rfl, (by decide : 6 ≤ sizeLine), fun q hq => ?_⟩
    have hx8 := s10 _ _ hx
    have xq : x ≠ q := fun z => by rw [← z, hx8] at hq; cases hq
    have sq : Same H (upd H1 q (.tup [v1, v2, v3, v4, v5, v6])) := s10.trans (same_new hq)
    have eq8 : upd H1 q (.tup [v1, v2, v3, v4, v5, v6]) q = some (.tup [v1, v2, v3, v4, v5, v6]) := upd_same
    refine ⟨_, rfl, x, CS K, dx, [], rfl, sq _ _ hx, T.dc_SupervisorPlan.cls, T.n_SupervisorPlan_own_settings, (by decide : 0 < 1000), ?_⟩
    refine ⟨_, rfl, _, rfl, x, CS K, dx, [("own_settings", .ref q)], rfl, upd_same, T.dc_SupervisorPlan.cls, T.n_SupervisorPlan_own_children, (by decide : 1 < 1000), ?_⟩
    refine ⟨_, rfl, _, rfl, x, CS K, dx, [("own_settings", .ref q), ("own_children", .ref c)], rfl, upd_same, T.dc_SupervisorPlan.cls, T.n_SupervisorPlan_own_count, (by decide : 2 < 1000), ?_⟩
    refine ⟨_, rfl, _, rfl, x, CS K, dx, [("own_settings", .ref q), ("own_children", .ref c), ("own_count", .int (cc : Nat))], rfl, upd_same, T.dc_SupervisorPlan.cls, T.n_SupervisorPlan_own_depth, (by decide : 3 < 1000), ?_⟩
    refine k q _ ⟨fun b u hb ne => ?_, upd_same⟩ ?_
    · rw [upd_ne ne, upd_ne ne, upd_ne ne, upd_ne ne]
      exact sq _ _ hb
    · rw [upd_ne (Ne.symm xq), upd_ne (Ne.symm xq), upd_ne (Ne.symm xq), upd_ne (Ne.symm xq)]
      exact eq8
/-! ### plans made by calls -/
/-- a worker's plan with these settings is made, or refused -/
def spkW (K : PySem.W.Frag) : SpK := fun vs zs H Q E => vs.length = 2 ∧ spWInit K (vs ++ zs) H Q E
theorem fk_worker (T : Env K mg) : FnK P w K mg base (L2.CX P w) 9 (He.fAd K ("WorkerPlan", some "__init__")) ["restart", "opening", "closing", "deadline", "refused", "script"] (spkW K) := by
  refine FnK.of_ok (g := fun us ws => us ++ ws) (gV := fun vs zs => vs ++ zs) (ok_winit T) ?_ fun e => e.mod.kin.keeps fun b o h => (e.bs b o h).1
  obtain ⟨oc, od, dV, kV, doc, pm, an, cdv, ct, osl, e, lk, hcd, hD, hK⟩ := T.F_WorkerPlan__init.ex
  obtain rfl : dV = .none := hD.elim (fun h => h.2) fun h => absurd rfl h.1
  refine ⟨fun s us ws X l1 l2 => ?_, fun r1 r2 => r1.append r2⟩
  rw [e]
  refine BindsTo.of_looks fun M => PySem.W.Looks.of_pure ?_
  match us, ws, l1, l2 with
  | [a, b], [c, d, e, f, g, h], _, _ => rfl
theorem F_w (T : Env K mg) : FunD K d_WorkerPlan__init.name d_WorkerPlan__init.qual d_WorkerPlan__init.params d_WorkerPlan__init.body d_WorkerPlan__init.scope [] (kwsV K kws_WorkerPlan__init) (d_WorkerPlan__init.loc K) T.fd_WorkerPlan__init := by
  obtain ⟨oc, od, dV, kV, doc, pm, an, cdv, ct, osl, e, lk, hcd, hD, _⟩ := T.F_WorkerPlan__init.ex
  have hK := T.kd_WorkerPlan__init oc od osl lk
  exact ⟨⟨oc, od, dV, kV, doc, pm, an, cdv, ct, osl, e, lk, hcd, hD, by rw [e] at hK; exact hK⟩, T.F_WorkerPlan__init.kp⟩
def spkWs (K : PySem.W.Frag) : SpK := fun vs zs H Q E => vs.length = 2 ∧ spWInit K (vs ++ [.str "permanent", .int 0, .int 0, .non, .int 0] ++ zs) H Q E
theorem fk_workerS (T : Env K mg) : FnK P w K mg base (L2.CX P w) 9 (He.fAd K ("WorkerPlan", some "__init__")) ["script"] (spkWs K) := by
  obtain ⟨mv, kb⟩ := (F_w T).kbinds0 (ps := ["self", "name", "restart", "opening", "closing", "deadline", "refused", "script"]) 2 ["script"] [("restart", .str "permanent"), ("opening", .int 0), ("closing", .int 0), ("deadline", .non), ("refused", .int 0)] (fun us mv ws => us ++ mv ++ ws) (fun z => nomatch z) (fun q hq => by
      simp only [List.mem_cons, List.not_mem_nil, or_false] at hq
      rcases hq with rfl | rfl | rfl | rfl | rfl <;> simp [kwsV, kws_WorkerPlan__init, He.Dv.v]) (fun r1 r2 r3 => (r1.append r2).append r3) (by
    intro D doc pm an cdv ct us mv ws h1 h2 h3
    match us, mv, ws, h1, h2, h3 with
    | [a, b], [c, d, e, f, g], [h], _, _, _ =>
      refine ⟨_, _, _, _, _, _, rfl, rfl, _, _, _, _, _, _, rfl, rfl, _, _, _, _, _, _, rfl, rfl, _, _, _, _, _, _, rfl, rfl, _, _, _, _, _, _, rfl, rfl, rfl⟩)
  exact FnK.of_ok (ok_winit T) kb fun e => e.mod.kin.keeps fun b o h => (e.bs b o h).1
abbrev sdA (K : PySem.W.Frag) : Addr := kwAt (fun K => He.fAd K ("WorkerPlan", some "__init__")) "script" K
def spkW0 (K : PySem.W.Frag) : SpK := fun vs zs H Q E => vs.length = 2 ∧ spWInit K (vs ++ [.str "permanent", .int 0, .int 0, .non, .int 0, .ref (sdA K)] ++ zs) H Q E
theorem fk_worker0 (T : Env K mg) : FnK P w K mg base (L2.CX P w) 9 (He.fAd K ("WorkerPlan", some "__init__")) [] (spkW0 K) := by
  obtain ⟨mv, kb⟩ := (F_w T).kbinds0 (ps := ["self", "name", "restart", "opening", "closing", "deadline", "refused", "script"]) 2 [] [("restart", .str "permanent"), ("opening", .int 0), ("closing", .int 0), ("deadline", .non), ("refused", .int 0), ("script", .ref (sdA K))] (fun us mv ws => us ++ mv ++ ws) (fun z => nomatch z) (fun q hq => by
      simp only [List.mem_cons, List.not_mem_nil, or_false] at hq
      rcases hq with rfl | rfl | rfl | rfl | rfl | rfl <;> simp [kwsV, kws_WorkerPlan__init, He.Dv.v]) (fun r1 r2 r3 => (r1.append r2).append r3) (by
    intro D doc pm an cdv ct us mv ws h1 h2 h3
    match us, mv, ws, h1, h2, h3 with
    | [a, b], [c, d, e, f, g, h], [], _, _, _ =>
      refine ⟨_, _, _, _, _, _, rfl, rfl, _, _, _, _, _, _, rfl, rfl, _, _, _, _, _, _, rfl, rfl, _, _, _, _, _, _, rfl, rfl, _, _, _, _, _, _, rfl, rfl, _, _, _, _, _, _, rfl, rfl, rfl⟩)
  exact FnK.of_ok (ok_winit T) kb fun e => e.mod.kin.keeps fun b o h => (e.bs b o h).1
def spkS (K : PySem.W.Frag) : SpK := fun vs zs H Q E => ∃ as rest, vs = as ++ rest ∧ as.length = 2 ∧ rest.length ≤ sizeLine ∧ ∀ p, H p = Option.none → spSInit K (as ++ zs ++ [V.ref p]) (upd H p (.tup rest)) Q E
theorem fk_super (T : Env K mg) : FnK P w K mg base (L2.CX P w) 9 (He.fAd K ("SupervisorPlan", some "__init__")) ["restart", "strategy", "most", "span", "deadline"] (spkS K) := by
  obtain ⟨oc, od, dV, kV, doc, pm, an, cdv, ct, osl, e, lk, hcd, hD, hK⟩ := T.F_SupervisorPlan__init.ex
  obtain rfl : dV = .none := hD.elim (fun h => h.2) fun h => absurd rfl h.1
  rw [e] at lk
  refine fn_starK (ps := ["self", "name"]) (ks := ["restart", "strategy", "most", "span", "deadline"]) (pv := "children") lk hcd sc_SupervisorPlan__init cxUp (fun us rest ws l1 l2 => ?_) (fun A outer s H vs Q E hr h => ok_sinit T A outer s H vs Q E hr h)
  match us, ws, rest, l1, l2 with
  | [a, b], [c, d, e, f, g], [], _, _ => rfl
  | [a, b], [c, d, e, f, g], r :: rs, _, _ => rfl
def spkS0 (K : PySem.W.Frag) : SpK := fun vs zs H Q E => ∃ as rest, vs = as ++ rest ∧ as.length = 2 ∧ rest.length ≤ sizeLine ∧ ∀ p, H p = Option.none → spSInit K (as ++ [.str "permanent", .str "one", .int 1, .int 10, .non] ++ [V.ref p]) (upd H p (.tup rest)) Q E
theorem fk_super0 (T : Env K mg) : FnK P w K mg base (L2.CX P w) 9 (He.fAd K ("SupervisorPlan", some "__init__")) [] (spkS0 K) := by
  obtain ⟨oc, od, dV, kV, doc, pm, an, cdv, ct, osl, e, lk, hcd, hD, _⟩ := T.F_SupervisorPlan__init.ex
  have hK := T.kd_SupervisorPlan__init oc od osl lk
  obtain rfl : dV = .none := hD.elim (fun h => h.2) fun h => absurd rfl h.1
  rw [e] at lk hK
  rcases hK with hK | ⟨D, rfl, hq⟩
  · cases hK
  refine fn_starD (ps := ["self", "name"]) (ms := [("restart", .str "permanent"), ("strategy", .str "one"), ("most", .int 1), ("span", .int 10), ("deadline", .non)]) (pv := "children") lk hcd sc_SupervisorPlan__init cxUp hq (fun us rest mv l1 l2 => ?_) (fun A outer s H vs Q E hr h => ok_sinit T A outer s H vs Q E hr h)
  match us, mv, rest, l1, l2 with
  | [a, b], [c, d, e, f, g], [], _, _ => exact ⟨_, _, _, _, _, _, rfl, rfl, _, _, _, _, _, _, rfl, rfl, _, _, _, _, _, _, rfl, rfl, _, _, _, _, _, _, rfl, rfl, _, _, _, _, _, _, rfl, rfl, rfl⟩
  | [a, b], [c, d, e, f, g], r :: rs, _, _ => exact ⟨_, _, _, _, _, _, rfl, rfl, _, _, _, _, _, _, rfl, rfl, _, _, _, _, _, _, rfl, rfl, _, _, _, _, _, _, rfl, rfl, _, _, _, _, _, _, rfl, rfl, rfl⟩
end
end W02

set_option Elab.async false
set_option linter.all false
set_option maxRecDepth 100000
set_option maxHeartbeats 2000000
/-! dict(zip(tuple, tuple, strict=True)) -/
namespace WZd
open PySem PySem.Spec PyProof.Rows L2 WEn WZs
/-- a strict zip whose tuple T is still out -/
abbrev ZSH (h : Heap) (z TI TO T : Addr) (f : Bool) : Prop := h.get? z = some { cls := .type "zip", dict := none, data := .fields #[rawInt T, .bool f, .bool true, .ref TI, .ref TO], slots := #[] }
section
variable {prog : Program} {w : World} {A : Around} {E : Value → Shared → Prop} {s : Shared} {z TI TO T i1 i2 : Addr} {fp1 fp2 : List Addr} {n i : Nat} {P1 P2 : Nat → Value → Prop} {St1 St2 : Nat → Heap → Prop} {a1 a2 : Value} {f : Bool} {oT : Obj}
theorem held_free {Q : Bool → Shared → Prop} (hz : ZSH s.heap z TI TO T f) (hT : s.heap.get? T = some oT)
    (h : ∀ h', ZSH h' z TI TO T true → Heap.SameBut z s.heap h' → Q false { s with heap := h' }) : wpAny (model prog w) A (Builtin.SmallTypes.ownedTupleIsFree (.ref z)) Q E s := by
  unfold Builtin.SmallTypes.ownedTupleIsFree
  refine wpAny_bind (wpAny_field hz rfl (x := rawInt T) rfl ?_)
  show wpAny _ _ (loadIfAlive ((T : Int).toNat) >>= _) _ _ _
  rw [Int.toNat_natCast]
  refine wpAny_bind (PySem.W.kdx_alive hT ?_)
  simp only [Option.isNone_some, Bool.false_eq_true, if_false]
  refine wpAny_bind (wpAny_field hz rfl (x := .bool f) rfl ?_)
  cases f with
  | true =>
    rw [if_neg (show ¬ ((Value.bool true != Value.bool true) = true) from Bool.false_ne_true)]
    exact wpAny_pure (h s.heap hz (Heap.SameBut.refl _ _))
  | false =>
    rw [if_pos (show (Value.bool false != Value.bool true) = true from rfl)]
    exact wpAny_bind (wpAny_setField_rec hz (by simp) fun h₁ hz₁ hs₁ => wpAny_pure (h h₁ hz₁ hs₁))
theorem zs_item_held {Q : Value → Shared → Prop} (S : ZipSep2 z TI TO i1 i2 fp1 fp2) (D1 : Draws prog w A i1 fp1 n P1 St1) (D2 : Draws prog w A i2 fp2 n P2 St2)
    (hz : ZSH s.heap z TI TO T f) (hT : s.heap.get? T = some oT) (hTI : IsTupOf2 s.heap TI (.ref i1) (.ref i2)) (st1 : St1 i s.heap) (st2 : St2 i s.heap) (hlt : i < n)
    (hQ : ∀ x1 x2 h' tk, P1 i x1 → P2 i x2 → ZSH h' z TI TO T true → St1 (i + 1) h' → St2 (i + 1) h' → IsTupOf2 h' s.heap.objs.size x1 x2 →
      (∀ c o, c ≠ z → c ≠ i1 → c ≠ i2 → s.heap.get? c = some o → h'.get? c = some o) → Q (.ref s.heap.objs.size) { s with heap := h', toks := tk }) :
    wpAny (model prog w) A (Builtin.«zip.__next__» ⟨[.ref z], []⟩) (fun fin s' => ∃ v, fin = .done (.ret v) ∧ Q v s') E s := by
  obtain ⟨hp, g, d, tk0, os⟩ := s
  show wpAny _ _ (field (.ref z) 2 >>= _) _ _ _
  refine wpAny_bind (wpAny_field hz rfl (x := .bool true) rfl ?_)
  show wpAny _ _ (field (.ref z) 3 >>= _) _ _ _
  refine wpAny_bind (wpAny_field hz rfl (x := .ref TI) rfl ?_)
  refine wpAny_bind (wpAny_seqItems hTI rfl ?_)
  show wpAny _ _ (Builtin.SmallTypes.ownedTupleIsFree (.ref z) >>= _) _ _ _
  refine wpAny_bind (held_free hz hT fun g0 hz0 hs0 => ?_)
  replace hs0 : Heap.SameBut z hp g0 := hs0
  simp only [Bool.false_eq_true, if_false]
  refine wpAny_bind ?_
  rw [← Array.forIn_toList]
  simp only [List.forIn_cons, List.forIn_nil]
  refine wpAny_bind (wpAny_bind (wpAny_holding ?_))
  show wpAny _ _ (Builtin.SmallTypes.nextOrEnd (.ref i1)) _ _ ⟨g0, g, d, tk0, os⟩
  refine draw_more (s := ⟨g0, g, d, tk0, os⟩) D1 (D1.over st1 hs0 S.zf1) hlt fun x1 p1 tk1 hx1 sn1 hp1 => ?_
  replace hp1 : Heap.SameBut i1 g0 p1 := hp1
  refine wpAny_pure ?_
  refine wpAny_bind (wpAny_bind (wpAny_holding ?_))
  show wpAny _ _ (Builtin.SmallTypes.nextOrEnd (.ref i2)) _ _ ⟨p1, g, d, tk1, os⟩
  refine draw_more (s := ⟨p1, g, d, tk1, os⟩) D2 (D2.over (D2.over st2 hs0 S.zf2) hp1 S.sep1_2) hlt fun x2 p2 tk2 hx2 sn2 hp2 => ?_
  replace hp2 : Heap.SameBut i2 p1 p2 := hp2
  refine wpAny_pure (wpAny_pure ?_)
  show wpAny _ _ (newTuple [x1, x2] >>= _) _ _ _
  refine wpAny_bind (wpAny_newTuple ?_)
  have hsz : p2.objs.size = hp.objs.size := by rw [hp2.1, hp1.1, hs0.1]
  have hzz : ZSH p2 z TI TO T true := hp2.extBut _ _ S.zi2 (hp1.extBut _ _ S.zi1 hz0)
  have hk : ∀ c o, c ≠ z → c ≠ i1 → c ≠ i2 → hp.get? c = some o → p2.get? c = some o := fun c o c1 c2 c3 e => hp2.extBut _ _ c3 (hp1.extBut _ _ c2 (hs0.extBut _ _ c1 e))
  have hj1 : St1 (i + 1) p2 := D1.over sn1 hp2 S.sep2_1
  refine wpAny_pure ⟨_, rfl, ?_⟩
  show Q (.ref p2.objs.size) ⟨p2.push { cls := .type "tuple", data := .seq #[x1, x2] }, g, d, tk2, os⟩
  have hp' : IsTupOf2 (p2.push { cls := .type "tuple", data := .seq #[x1, x2] }) p2.objs.size x1 x2 := Heap.get?_push_size _ rfl
  rw [hsz] at hp' ⊢
  exact hQ x1 x2 _ tk2 hx1 hx2 (Heap.get?_push_of_some _ hzz) (D1.frame _ _ _ hj1 fun b hb o e => Heap.get?_push_of_some _ e) (D2.frame _ _ _ sn2 fun b hb o e => Heap.get?_push_of_some _ e) hp' fun c o c1 c2 c3 e => Heap.get?_push_of_some _ (hk c o c1 c2 c3 e)
theorem zs_over_held {Q : Fin → Shared → Prop} (hh : A.handled = none) (S : ZipSep2 z TI TO i1 i2 fp1 fp2) (D1 : Draws prog w A i1 fp1 n P1 St1) (D2 : Draws prog w A i2 fp2 n P2 St2)
    (hz : ZSH s.heap z TI TO T f) (hT : s.heap.get? T = some oT) (hTI : IsTupOf2 s.heap TI (.ref i1) (.ref i2)) (st1 : St1 n s.heap) (st2 : St2 n s.heap)
    (hE : ∀ h' e, (∀ c o, c ≠ z → c ≠ i1 → c ≠ i2 → s.heap.get? c = some o → h'.get? c = some o) → (∃ o, h'.get? e = some o ∧ o.cls = .type "StopIteration") → E (.ref e) { s with heap := h' }) :
    wpAny (model prog w) A (Builtin.«zip.__next__» ⟨[.ref z], []⟩) Q E s := by
  obtain ⟨hp, g, d, tk0, os⟩ := s
  show wpAny _ _ (field (.ref z) 2 >>= _) _ _ _
  refine wpAny_bind (wpAny_field hz rfl (x := .bool true) rfl ?_)
  show wpAny _ _ (field (.ref z) 3 >>= _) _ _ _
  refine wpAny_bind (wpAny_field hz rfl (x := .ref TI) rfl ?_)
  refine wpAny_bind (wpAny_seqItems hTI rfl ?_)
  show wpAny _ _ (Builtin.SmallTypes.ownedTupleIsFree (.ref z) >>= _) _ _ _
  refine wpAny_bind (held_free hz hT fun g0 hz0 hs0 => ?_)
  replace hs0 : Heap.SameBut z hp g0 := hs0
  simp only [Bool.false_eq_true, if_false]
  refine wpAny_bind ?_
  rw [← Array.forIn_toList]
  simp only [List.forIn_cons, List.forIn_nil]
  refine wpAny_bind (wpAny_bind (wpAny_holding ?_))
  show wpAny _ _ (Builtin.SmallTypes.nextOrEnd (.ref i1)) _ _ ⟨g0, g, d, tk0, os⟩
  refine draw_over (s := ⟨g0, g, d, tk0, os⟩) D1 (D1.over st1 hs0 S.zf1) fun p1 hp1 => ?_
  replace hp1 : Heap.ExtBut i1 g0 p1 := hp1
  have st2' : St2 n p1 := D2.frame _ _ _ (D2.over st2 hs0 S.zf2) fun b hb o e => hp1 b o (fun q => S.sep1_2 (q ▸ hb)) e
  dsimp only
  refine wpAny_bind ?_
  refine wpAny_mono (Q := fun _ _ => False) ?_ (fun _ _ h => h.elim) fun _ _ h => h
  wp_delta
  iterate 2 wp_step
  rw [show (List.drop 1 [Value.ref i1, Value.ref i2]).zipIdx 1 = [(Value.ref i2, 1)] from rfl, List.forIn_cons]
  refine wpAny_bind ?_
  refine wpAny_bind (draw_over (s := ⟨p1, g, d, tk0, os⟩) D2 st2' fun h2 he2 => ?_)
  rw [if_neg (by simp)]
  refine wpAny_pure ?_
  dsimp only
  rw [List.forIn_nil]
  refine wpAny_pure ?_
  refine wpAny_bind (wpAny_rule ?_)
  have hk2 : ∀ c o, c ≠ z → c ≠ i1 → c ≠ i2 → hp.get? c = some o → h2.get? c = some o := fun c o cz c1 c2 e => he2 c o c2 (hp1 c o c1 (hs0.extBut c o cz e))
  show wpAny _ _ (newExc (.type "StopIteration") [] >>= _) _ _ _
  refine wpAny_bind ?_
  simp only [newExc, newTuple]
  refine wpAny_bind (wpAny_newObj_type ?_ (by size_fits))
  refine wpAny_bind (m := firstArgMember _ _) (wpAny_of_eq (a := Value.none) (by first | rfl | (simp only [firstArgMember]; rfl)) ?_)
  refine wpAny_newObj_type ?_ (by size_fits)
  simp only [raiseNew]
  refine wpAny_bind (wpAny_handled ?_)
  rw [hh]
  refine wpAny_bind (wpAny_pure (wpAny_throw ?_))
  exact hE _ _ (fun c o cz c1 c2 e => Heap.get?_push_of_some _ (Heap.get?_push_of_some _ (hk2 c o cz c1 c2 e))) ⟨_, Heap.get?_push_size _ rfl, rfl⟩
theorem next_zs_item_held {Q : Option Value → Shared → Prop} (S : ZipSep2 z TI TO i1 i2 fp1 fp2) (D1 : Draws prog w A.in1 i1 fp1 n P1 St1) (D2 : Draws prog w A.in1 i2 fp2 n P2 St2)
    (hz : ZSH s.heap z TI TO T f) (hT : s.heap.get? T = some oT) (hTI : IsTupOf2 s.heap TI (.ref i1) (.ref i2)) (st1 : St1 i s.heap) (st2 : St2 i s.heap) (hlt : i < n)
    (hQ : ∀ x1 x2 h' tk, P1 i x1 → P2 i x2 → ZSH h' z TI TO T true → St1 (i + 1) h' → St2 (i + 1) h' → IsTupOf2 h' s.heap.objs.size x1 x2 →
      (∀ c o, c ≠ z → c ≠ i1 → c ≠ i2 → s.heap.get? c = some o → h'.get? c = some o) → Q (some (.ref s.heap.objs.size)) { s with heap := h', toks := tk }) :
    wpAny (model prog w) A (pyNext (.ref z)) Q E s := by
  have hTy : s.TypeIs (.ref z) "zip" := ⟨_, hz, rfl⟩
  unfold pyNext
  exact wpAny_bind (wpAny_attempt (wpAny_callSpecial?_slot (name := Str.ofString "__next__") hTy F.slot_zip_next
    (wpAny_call_entry F.slot_zip_next hTy F.entry_zip_next (zs_item_held S D1 D2 hz hT hTI st1 st2 hlt fun x1 x2 h' tk b1 b2 b3 b4 b5 b6 b8 => wpAny_pure (hQ x1 x2 h' tk b1 b2 b3 b4 b5 b6 b8)) (F.args_zip_next_1 _))))
theorem next_zs_over_held {Q : Option Value → Shared → Prop} (hh : A.handled = none) (S : ZipSep2 z TI TO i1 i2 fp1 fp2) (D1 : Draws prog w A.in1 i1 fp1 n P1 St1) (D2 : Draws prog w A.in1 i2 fp2 n P2 St2)
    (hz : ZSH s.heap z TI TO T f) (hT : s.heap.get? T = some oT) (hTI : IsTupOf2 s.heap TI (.ref i1) (.ref i2)) (st1 : St1 n s.heap) (st2 : St2 n s.heap)
    (hQ : ∀ h', (∀ c o, c ≠ z → c ≠ i1 → c ≠ i2 → s.heap.get? c = some o → h'.get? c = some o) → Q none { s with heap := h' }) : wpAny (model prog w) A (pyNext (.ref z)) Q E s := by
  have hTy : s.TypeIs (.ref z) "zip" := ⟨_, hz, rfl⟩
  unfold pyNext
  refine wpAny_bind (wpAny_attempt (wpAny_callSpecial?_slot (name := Str.ofString "__next__") hTy F.slot_zip_next
    (wpAny_call_entry F.slot_zip_next hTy F.entry_zip_next (zs_over_held hh S D1 D2 hz hT hTI st1 st2 fun h' e hk he => ?_) (F.args_zip_next_1 _))))
  obtain ⟨o, ho, hc⟩ := he
  refine wpAny_bind (wpAny_isInstance (T := "StopIteration") (b := true) ⟨o, ho, hc⟩ isSubtype_stop ?_)
  exact wpAny_pure (hQ _ hk)
end
section
variable {prog : Program} {w : World}
theorem zs_no_keys {A : Around} {E : Value → Shared → Prop} {s : Shared} {z TI TO : Addr} {f0 : Value} {Q : Option Value → Shared → Prop} (hz : ZS s.heap z TI TO f0) (hA : A.handled = none)
    (h : ∀ h' tk, (∀ b o, s.heap.get? b = some o → h'.get? b = some o) → Q none { s with heap := h', toks := tk }) : wpAny (model prog w) A (getAttr? (.ref z) "keys") Q E s :=
  getAttrOr_miss_zip hz rfl rfl rfl zip_no_keys (by decide +kernel) hA h
/-- the strict zip of two tuples as the argument of dict() -/
theorem PairArg.zs (z TI TO i1 i2 a b : Addr) (ha : a ≠ i1) (hb : b ≠ i2) (S : ZipSep2 z TI TO i1 i2 [i1, a] [i2, b]) (xs ys : Array Value) (hl : xs.size = ys.size) :
    PairArg prog w "zip" z [z, TI, TO, i1, i2, a, b] [z, TO, i1, i2] xs.size (fun i k v => xs[i]? = some k ∧ ys[i]? = some v)
      (fun h => ZS h z TI TO .none ∧ IsTupOf2 h TI (.ref i1) (.ref i2) ∧ (∃ u v, IsTupOf2 h TO u v) ∧ (h.IsTupleIter i1 a 0 ∧ h.IsTuple a xs) ∧ (h.IsTupleIter i2 b 0 ∧ h.IsTuple b ys)) where
  type := fun s ok => ⟨_, ok.1, rfl⟩
  notDict := by decide
  keep := fun h h' ok hk => by
    obtain ⟨hz, hTI, ⟨u, v, hTO⟩, ⟨h1, h2⟩, ⟨h3, h4⟩⟩ := ok
    exact ⟨hk _ _ hz, hk _ _ hTI, ⟨u, v, hk _ _ hTO⟩, ⟨h1.at fun o e => hk _ o e, h2.at fun o e => hk _ o e⟩, h3.at fun o e => hk _ o e, h4.at fun o e => hk _ o e⟩
  there := fun h ok c hc => by
    obtain ⟨hz, hTI, ⟨u, v, hTO⟩, ⟨⟨o1, h1, _⟩, ⟨o2, h2, _⟩⟩, ⟨⟨o3, h3, _⟩, ⟨o4, h4, _⟩⟩⟩ := ok
    simp only [List.mem_cons, List.not_mem_nil, or_false] at hc
    rcases hc with rfl | rfl | rfl | rfl | rfl | rfl | rfl
    all_goals first | exact ⟨_, hz⟩ | exact ⟨_, hTI⟩ | exact ⟨_, hTO⟩ | exact ⟨_, h1⟩ | exact ⟨_, h2⟩ | exact ⟨_, h3⟩ | exact ⟨_, h4⟩
  sub := fun c hc => by simp at hc ⊢; rcases hc with rfl | rfl | rfl | rfl <;> simp
  noKeys := fun A s Q E hA ok h => zs_no_keys ok.1 hA h
  iter := fun A s d Q E hA ok hd hdf h => by
    obtain ⟨hz, hTI, ⟨u, v, hTO⟩, hs1, hs2⟩ := ok
    simp only [List.mem_cons, List.not_mem_nil, or_false, not_or] at hdf
    obtain ⟨dz, dTI, dTO, di1, di2, da, db⟩ := hdf
    have hA1 : A.in1.handled = none := hA
    have D1 : Draws prog w A.in1 i1 [i1, a] xs.size (fun i v => xs[i]? = some v) (fun i h => h.IsTupleIter i1 a i ∧ h.IsTuple a xs) := Draws.tuple hA1 i1 a ha xs
    have D2 : Draws prog w A.in1 i2 [i2, b] xs.size (fun i v => ys[i]? = some v) (fun i h => h.IsTupleIter i2 b i ∧ h.IsTuple b ys) := by
      rw [hl]
      exact Draws.tuple hA1 i2 b hb ys
    refine iter_zs hz (h z [z, TO, i1, i2] (fun i h => IsTupOf2 h TI (.ref i1) (.ref i2) ∧ (h.IsTupleIter i1 a i ∧ h.IsTuple a xs) ∧ (h.IsTupleIter i2 b i ∧ h.IsTuple b ys) ∧
      ((ZS h z TI TO .none ∧ ∃ u v, IsTupOf2 h TO u v) ∨ ∃ T f oT, ZSH h z TI TO T f ∧ h.get? T = some oT ∧ T ≠ z ∧ T ≠ i1 ∧ T ≠ i2 ∧ T ≠ d)) s.heap s.toks ?_
      ⟨hTI, hs1, hs2, .inl ⟨hz, u, v, hTO⟩⟩ (fun _ _ e => e) fun b hb => .inl hb)
    exact {
      off := fun hm => by
        simp only [List.mem_cons, List.not_mem_nil, or_false] at hm
        rcases hm with e | e | e | e
        · exact dz e
        · exact dTO e
        · exact di1 e
        · exact di2 e
      frame := fun i h₁ h₂ st hk => by
        obtain ⟨hTI, h1, h2, hz⟩ := st
        refine ⟨hk _ _ (Ne.symm dTI) hTI, D1.frame _ _ _ h1 (fun c hc o e => hk c o (fun q => ?_) e), D2.frame _ _ _ h2 (fun c hc o e => hk c o (fun q => ?_) e), ?_⟩
        · subst q
          simp only [List.mem_cons, List.not_mem_nil, or_false] at hc
          rcases hc with e | e
          · exact di1 e
          · exact da e
        · subst q
          simp only [List.mem_cons, List.not_mem_nil, or_false] at hc
          rcases hc with e | e
          · exact di2 e
          · exact db e
        · rcases hz with ⟨hz, u, v, hTO⟩ | ⟨T, f, oT, hz, hT, r1, r2, r3, r4⟩
          · exact .inl ⟨hk _ _ (Ne.symm dz) hz, u, v, hk _ _ (Ne.symm dTO) hTO⟩
          · exact .inr ⟨T, f, oT, hk _ _ (Ne.symm dz) hz, hk _ _ r4 hT, r1, r2, r3, r4⟩
      item := fun i s₁ Q₁ E₁ hi st hds hQ => by
        obtain ⟨hTI, h1, h2, hz⟩ := st
        have lt : ∀ {c o}, s₁.heap.get? c = some o → s₁.heap.objs.size ≠ c := fun e => Nat.ne_of_gt (Heap.lt_size e)
        have n1 : s₁.heap.objs.size ≠ i1 := let ⟨_, e⟩ := D1.live _ _ h1; lt e
        have n2 : s₁.heap.objs.size ≠ i2 := let ⟨_, e⟩ := D2.live _ _ h2; lt e
        rcases hz with ⟨hz, u, v, hTO⟩ | ⟨T, f, oT, hz, hT, r1, r2, r3, r4⟩
        · refine next_zs_item S D1 D2 hz hTI hTO h1 h2 hi fun x1 x2 h' tk p1 p2 a1 a2 a3 a4 a5 hk => ?_
          exact hQ s₁.heap.objs.size _ _ h' tk ⟨p1, p2⟩ (.inl ⟨_, a5, rfl, _, rfl⟩)
            ⟨hk _ _ S.TIz S.TITO S.TIi1 S.TIi2 hTI, a3, a4, .inr ⟨s₁.heap.objs.size, false, _, a1, a5, lt hz, n1, n2, Nat.ne_of_gt hds⟩⟩
            fun c o hc e => hk c o (fun x => hc (by simp [x])) (fun x => hc (by simp [x])) (fun x => hc (by simp [x])) (fun x => hc (by simp [x])) e
        · refine next_zs_item_held S D1 D2 hz hT hTI h1 h2 hi fun x1 x2 h' tk p1 p2 a1 a3 a4 a5 hk => ?_
          exact hQ s₁.heap.objs.size _ _ h' tk ⟨p1, p2⟩ (.inl ⟨_, a5, rfl, _, rfl⟩)
            ⟨hk _ _ S.TIz S.TIi1 S.TIi2 hTI, a3, a4, .inr ⟨T, true, oT, a1, hk _ _ r1 r2 r3 hT, r1, r2, r3, r4⟩⟩
            fun c o hc e => hk c o (fun x => hc (by simp [x])) (fun x => hc (by simp [x])) (fun x => hc (by simp [x])) e
      done := fun s₁ Q₁ E₁ st hQ => by
        obtain ⟨hTI, h1, h2, hz⟩ := st
        rcases hz with ⟨hz, u, v, hTO⟩ | ⟨T, f, oT, hz, hT, r1, r2, r3, r4⟩
        · exact next_zs_over hA S D1 D2 hz hTI hTO h1 h2 fun h' hk => hQ h' s₁.toks fun c o hc e => hk c o (fun x => hc (by simp [x])) (fun x => hc (by simp [x])) (fun x => hc (by simp [x])) (fun x => hc (by simp [x])) e
        · exact next_zs_over_held hA S D1 D2 hz hT hTI h1 h2 fun h' hk => hQ h' s₁.toks fun c o hc e => hk c o (fun x => hc (by simp [x])) (fun x => hc (by simp [x])) (fun x => hc (by simp [x])) e }
end
/-- dict(zip(names, values, strict=True)) -/
def zipK (ks : List Str) (ys : List V) : List (Key × V) := (ks.zip ys).map fun p => (Sum.inr p.1, p.2)
theorem kv_zip (P : Program) (w : World) : ∀ {ks : List Str} {ys : List V} {its its2 : List Value}, Vals (ks.map V.str) its → Vals ys its2 → ks.length = ys.length →
    ∃ prs : List (Key × Value), KV (zipK ks ys) prs ∧ prs.length = its.length ∧ ∀ (i : Nat) (u v : Value), its[i]? = some u → its2[i]? = some v → ∃ k : Key, prs[i]? = some (k, v) ∧ (mixKind P w).is k u = true
  | [], [], its, its2, r, r2, _ => by
    cases r
    cases r2
    exact ⟨[], .nil, rfl, fun i u v e _ => by simp at e⟩
  | k :: ks, y :: ys, its, its2, r, r2, hl => by
    cases r with
    | cons h t =>
      cases r2 with
      | cons h2 t2 =>
        obtain ⟨prs, rel, hl', hp⟩ := kv_zip P w t t2 (Nat.succ.inj hl)
        refine ⟨(Sum.inr k, _) :: prs, .cons ⟨rfl, h2⟩ rel, by rw [List.length_cons, List.length_cons, hl'], fun i u v e e2 => ?_⟩
        cases i with
        | zero =>
          cases e
          cases e2
          exact ⟨Sum.inr k, rfl, kV_is (k := Sum.inr k) h⟩
        | succ i => exact hp i u v (by simpa using e) (by simpa using e2)
  | [], _ :: _, _, _, _, _, hl => by cases hl
  | _ :: _, [], _, _, _, _, hl => by cases hl
def tDictZip (K : PySem.W.Frag) (ta tk : TA) : TE := fun σ H Q => ta σ H fun vs H1 => tk σ H1 fun zs H2 => ∃ a b ks ys, vs = [.ref a, .ref b] ∧ zs = [.bl true] ∧ SqT K H2 a (ks.map V.str) ∧ SqT K H2 b ys ∧ ks.length = ys.length ∧ ∀ p, H2 p = none → Q (.ref p) (upd H2 p (.dK (mergeK [] (zipK ks ys))))
theorem pe_dictZip {X : Cx} {e e2 : Expr} {ta tk : TA} {p p2 pos pos2 : Pos} {kws : List Keyword} (hcalm : X.calm = true) (hgd : Gl X "dict") (hmd : X.mg "dict" = none) (hg : Gl X "zip") (hm : X.mg "zip" = none) (ha : PA X [e, e2] ta) (hkw : PK X kws tk)
    (hall : (backToKw pos2 (keywordEach kws X.env)).all (·.1.isSome) = true := by rfl) (hks : (backToKw pos2 (keywordEach kws X.env)).filterMap (·.1) = [("strict" : Str)] := by rfl)
    (he : starEach [e, e2] X.env = (false, eval e X.env) :: starEach [e2] X.env := by rfl) (hpl : ((backTo pos2 (starEach [e, e2] X.env)).any (·.1) || (backToKw pos2 (keywordEach kws X.env)).any (·.1.isNone)) = false := by rfl)
    (hed : starEach [.Call (.Name "zip" p2) [e, e2] kws pos2] X.env = (false, eval (.Call (.Name "zip" p2) [e, e2] kws pos2) X.env) :: starEach [] X.env := by rfl) :
    PE X (.Call (.Name "dict" p) [.Call (.Name "zip" p2) [e, e2] kws pos2] [] pos) (tDictZip X.K ta tk) := by
  refine ⟨fun pins s σ H Q I h => ?_⟩
  refine wpAny_Call_Name_kw (ld_blt I hgd hmd (by decide +kernel : bootBuiltins "dict" = some (.type "dict")) ?_)
  refine PyProof.Rows.callWith_type1 ?_ hed rfl
  rw [hed]
  refine Calls.spliced_cons ?_
  refine wpAny_Call_Name_kw (ld_blt I hg hm PyProof.Rows.boot_zip (callWith_typeK hall (thn (ha.run pos2 pins s σ H _ I h) fun us s1 ⟨vs, H1, I1, r1, q1⟩ => ?_) hpl he))
  refine thn (hkw.run pos2 pins s1 σ H1 _ I1 q1) fun ws s2 ⟨zs, H2, I2, rz, a, b, ks, ys, e1, e2', hqx, hqy, hlen, q⟩ => ?_
  subst e1 e2'
  rw [hks]
  cases r1 with
  | cons r rr =>
    cases rr with
    | cons r' rr =>
      cases rr
      cases r
      cases r'
      cases rz with
      | cons rk rr =>
        cases rr
        cases rk
        obtain ⟨its, rv, p1, z1⟩ := I2.tuple hqx
        obtain ⟨its2, rv2, p2', _⟩ := I2.tuple hqy
        obtain ⟨o1, ho1, _⟩ := id p1
        obtain ⟨o2, ho2, _⟩ := id p2'
        have la : a < s2.heap.objs.size := Heap.lt_size ho1
        have lb : b < s2.heap.objs.size := Heap.lt_size ho2
        obtain ⟨prs, rel, hl1, hpr⟩ := kv_zip X.prog X.w rv rv2 hlen
        have l1 : its.length = ks.length := by
          have := rv.length
          rw [List.length_map] at this
          exact this.symm
        have l2 : its2.length = ys.length := rv2.length.symm
        rw [List.length_map] at z1
        refine zs_begins (begins_tuple a its.toArray) (begins_tuple b its2.toArray) p1 p2' fun h' hz hTI hTO h1 h2 hk => Calls.spliced_nil ?_
        have I3 : Inv X pins σ H2 { s2 with heap := h' } := I2.kept (t' := s2.toks) hk
        have PA1 := PairArg.zs (prog := X.prog) (w := X.w) (s2.heap.objs.size + 4) (s2.heap.objs.size + 2) (s2.heap.objs.size + 3) s2.heap.objs.size (s2.heap.objs.size + 1) a b (Nat.ne_of_lt la) (Nat.ne_of_lt (Nat.lt_succ_of_lt lb)) (sep_of s2.heap.objs.size a b la lb) its.toArray its2.toArray (by simp [l1, l2, hlen])
        have zlt : s2.heap.objs.size + 4 < h'.objs.size := Heap.lt_size hz
        refine PySem.call_dict_pairs (knd := mixKind X.prog X.w) (kvs := prs) PA1 (I.ok.hd hcalm) ⟨hz, hTI, ⟨_, _, hTO⟩, ⟨⟨_, h1, rfl, rfl⟩, (let ⟨o, e, r⟩ := p1; ⟨o, hk _ o e, r⟩)⟩, ⟨_, h2, rfl, rfl⟩, (let ⟨o, e, r⟩ := p2'; ⟨o, hk _ o e, r⟩)⟩ ⟨by rw [hl1, List.size_toArray], fun i key v e => hpr i key v (by simpa using e.1) (by simpa using e.2)⟩ (by rw [List.size_toArray, l1]; exact z1) fun h3 tk hd' hk' => ?_
        have hle : s2.heap.objs.size ≤ h'.objs.size := by
          have : s2.heap.objs.size + 4 < h'.objs.size := zlt
          omega
        have kk : ∀ b o, s2.heap.get? b = some o → h3.get? b = some o := fun c o e => hk' c o (fun hm => by
          have hc := Heap.lt_size e
          simp only [List.mem_cons, List.not_mem_nil, or_false] at hm
          rcases hm with z | z | z | z
          · rw [z] at hc; exact absurd hc (Nat.not_lt.mpr (Nat.le_add_right _ _))
          · rw [z] at hc; exact absurd hc (Nat.not_lt.mpr (Nat.le_add_right _ _))
          · rw [z] at hc; exact absurd hc (Nat.lt_irrefl _)
          · rw [z] at hc; exact absurd hc (Nat.not_lt.mpr (Nat.le_add_right _ _))) (hk c o e)
        have hms : (h'.objs.size == sysModules) = false := beq_eq_false_iff_ne.mpr (Nat.ne_of_gt (Nat.lt_of_lt_of_le I2.big hle))
        have hlen2 : (mergeK [] (zipK ks ys)).length ≤ sizeLine := by
          refine Nat.le_trans (length_mergeK (zipK ks ys) []) ?_
          rw [List.length_nil, Nat.zero_add, rel.length, hl1, l1]
          exact z1
        exact ⟨.ref h'.objs.size, upd H2 h'.objs.size (.dK (mergeK [] (zipK ks ys))), I2.laid (t' := tk) kk hle (show ObjOk X.prog X.w _ _ _ (.dK (mergeK [] (zipK ks ys))) from ⟨hlen2, hms, merged [] prs, KV.merge rel .nil, hd'⟩), rfl, q _ (I2.hok.fresh hle)⟩
end WZd

set_option Elab.async false
set_option linter.all false
set_option maxRecDepth 100000
set_option maxHeartbeats 4000000
namespace W02
open PySem PySem.Spec PyProof.Rows L2 WXG WEv WRd WLf WEn WZs WRu WSt StX WDc
/-! ### the source of draws -/
def src (s : Addr) (k l : Int) : List (Key × V) := [(Sum.inr "script", .ref s), (Sum.inr "at", .int k), (Sum.inr "left", .int l)]
theorem v_script {s : Addr} {k l : Int} : valV (src s k l) (Sum.inr "script") = some (.ref s) := rfl
theorem v_at {s : Addr} {k l : Int} : valV (src s k l) (Sum.inr "at") = some (.int k) := rfl
theorem v_left {s : Addr} {k l : Int} : valV (src s k l) (Sum.inr "left") = some (.int l) := rfl
theorem p_at {s : Addr} {k l x : Int} : putK (src s k l) (Sum.inr "at") (.int x) = src s x l := rfl
theorem p_left {s : Addr} {k l x : Int} : putK (src s k l) (Sum.inr "left") (.int x) = src s k x := rfl
/-- the source at m: it has drawn at most a times, and given c names -/
def SrcAt (K : PySem.W.Frag) (S : Addr × List Int) (H : Hp) (m : Addr) (a c : Nat) : Prop := ∃ (s : Addr) (cs : List Int) (k l : Int), H m = some (.dK (src s k l)) ∧ SqL K H s (cs.map V.int) ∧ cs.length ≤ 1000 ∧ 0 ≤ k ∧ k ≤ a ∧ (s, cs) = S
/-- all but what stands at m is as it was -/
def But (m : Addr) (H H' : Hp) : Prop := ∀ b o, H b = some o → b ≠ m → H' b = some o
theorem But.refl {m : Addr} {H : Hp} : But m H H := fun _ _ h _ => h
theorem But.trans {m : Addr} {H H' H'' : Hp} (h : But m H H') (g : But m H' H'') : But m H H'' := fun b o e n => g b o (h b o e n) n
theorem But.put {m : Addr} {H H' : Hp} {x : HO} (h : But m H H') : But m H (upd H' m x) := fun b o e n => by rw [upd_ne n]; exact h b o e n
theorem But.new {m p : Addr} {H H' : Hp} {x : HO} (h : But m H H') (hp : H' p = none) : But m H (upd H' p x) := fun b o e n => by
  have := h b o e n
  rw [upd_ne (fun z => by rw [z, hp] at this; cases this)]
  exact this
theorem But.seq {K : PySem.W.Frag} {m s : Addr} {H H' : Hp} {kvs : List (Key × V)} {xs : List V} (h : But m H H') (hm : H m = some (.dK kvs)) (q : SqL K H s xs) : SqL K H' s xs := by
  rcases q with (q | ⟨o, q⟩) | q
  · exact .inl (.inl (h _ _ q fun z => by rw [z, hm] at q; cases q))
  · exact .inl (.inr ⟨o, h _ _ q fun z => by rw [z, hm] at q; cases q⟩)
  · exact .inr q
theorem five {s : Addr} {k l : Int} : (src s k l).length < sizeLine := (by decide : 3 < sizeLine)
theorem fmod_nn {a b : Int} (h : 0 < b) : 0 ≤ a.fmod b ∧ a.fmod b < b := by
  rw [Int.fmod_eq_emod_of_nonneg a (Int.le_of_lt h)]
  exact ⟨Int.emod_nonneg a (by omega), Int.emod_lt_of_pos a h⟩
theorem st_any {te : TE} {σ : L2.St} {H : Hp} {D : Ends} {i : Nat} {R : V → Hp → Prop} (h : ∀ Q : VK, (∀ v H', R v H' → Q v H') → te σ H Q) (q : ∀ v H', R v H' → D.nx (σ.set i (some v)) H') : tAsg te (gName i) D σ H := h _ q
def spBegun (K : PySem.W.Frag) (S : Addr × List Int) : Sp := fun vs H Q _ => vs = [.ref S.1] ∧ SqL K H S.1 (S.2.map V.int) ∧ S.2.length ≤ 1000 ∧ ∀ m H', H m = none → Same H H' → SrcAt K S H' m 0 0 → Q (.ref m) H'
def spNext (K : PySem.W.Frag) (S : Addr × List Int) : Sp := fun vs H Q _ => ∃ (m : Addr) (b : Int) (a c : Nat), vs = [.ref m, .int b] ∧ 0 < b ∧ b ≤ 1000 ∧ SrcAt K S H m a c ∧ a ≤ 100000 ∧ ∀ r H', 0 ≤ r → r < b → But m H H' → SrcAt K S H' m (a + 1) c → Q (.int r) H'
section
variable {P : Program} {w : World} {K : PySem.W.Frag} {S : Addr × List Int} {mg : Str → Option Value} {base : Heap}
theorem ok_begun (T : Env K mg) : FnOk P w K mg base CX0 1 (d_L_begun.loc K) T.fd_L_begun ["cells"] (spBegun K S) := by
  refine T.F_L_begun.ok sc_L_begun (fun vs H Q E h => ?_) (fun cdv A outer s H vs Q E hr h => ?_)
  · obtain ⟨rfl, _⟩ := h
    rfl
  · have nd := sc_L_begun.nd
    have hu := hu_of hr
    obtain ⟨rfl, hS, hl, k⟩ := h
    refine ⟨_, PSs.nox (pss_one (ps_ret (pe_disp (pps_cons pe_str (pv 0) (pps_cons pe_str pe_int (pps_cons pe_str pe_int pps_nil))) (by rfl) (by rfl) (fun z => by cases z) (by decide)))), ?_⟩
    intro p hp
    have s1 : Same H (upd H p (.dK [])) := same_new hp
    refine ⟨_, rfl, upd_same, src S.1 0 0, rfl, (by decide : 3 ≤ 15), ?_⟩
    exact k p _ hp (same_put s1 hp) ⟨S.1, S.2, 0, 0, upd_same, (same_put s1 hp).seq hS, hl, by decide, by decide, rfl⟩
theorem ok_next (T : Env K mg) : FnOk P w K mg base CX0 1 (d_L_next.loc K) T.fd_L_next ["m", "total"] (spNext K S) := by
  refine T.F_L_next.ok sc_L_next (fun vs H Q E h => ?_) (fun cdv A outer s H vs Q E hr h => ?_)
  · obtain ⟨m, b, a, c, rfl, _⟩ := h
    rfl
  · have nd := sc_L_next.nd
    have hu := hu_of hr
    obtain ⟨m, b, a, c, rfl, hb0, hb1, hS, ha, k⟩ := h
    obtain ⟨s0, cs, kk, l, hm, hc, hlen, hk0, hka, hs0⟩ := hS
    refine ⟨_, PSs.nox (pss_cons (ps_if (pt_cmpR op_gt (pe_dget hu (pv 0) pe_str (fun _ _ => rfl)) pe_int (nomark _))
  (pss_cons (ps_set (i := 2) nd rfl (Or.inl rfl) (pe_op op_modN (pe_callTy call_int1 (by rfl) T.b_int (by decide +kernel) (pa_cons (pe_dget hu (pv 0) pe_str (fun _ _ => rfl)) pa_nil)) (pv 1)))
 (pss_cons (ps_dput hu (pv 0) pe_str (pe_op op_fdivN (pe_dget hu (pv 0) pe_str (fun _ _ => rfl)) (pv 1)) rfl)
 (pss_one (ps_ret (pv 2)))))
  pss_nil)
 (pss_cons (ps_set (i := 3) nd rfl (Or.inl rfl) (pe_dget hu (pv 0) pe_str (fun _ _ => rfl)))
 (pss_cons (ps_dput hu (pv 0) pe_str (pe_op op_add (pv 3) pe_int) rfl)
 (pss_cons (ps_set (i := 4) nd rfl (Or.inl rfl) (pe_ifExp (pt_cmpR (op_neN hr.units) (pe_dget hu (pv 0) pe_str (fun _ _ => rfl)) (pe_lst pa_nil) (nomark _)) (pe_ix (ixlK (K := K)) (pe_dget hu (pv 0) pe_str (fun _ _ => rfl)) (pe_op op_modN (pe_callTy call_int1 (by rfl) T.b_int (by decide +kernel) (pa_cons (pv 3) pa_nil)) (pe_callB call_len_seq (by rfl) T.b_len (by decide +kernel) (pa_cons (pe_dget hu (pv 0) pe_str (fun _ _ => rfl)) pa_nil))) (fun _ _ => rfl)) pe_int))
 (pss_cons (ps_if (PW.pt (pw_and (pt_cmpR op_ge (pv 4) (pe_op op_pow pe_int pe_int) (nomark _)) (pw_and1 (pt_cmpR op_lt (pv 3) (pe_callB call_len_seq (by rfl) T.b_len (by decide +kernel) (pa_cons (pe_dget hu (pv 0) pe_str (fun _ _ => rfl)) pa_nil)) (nomark _)))))
  (pss_cons (ps_dput hu (pv 0) pe_str (pe_op op_fdivN (pv 4) (pv 1)) rfl)
 (pss_one (ps_ret (pe_op op_modN (pe_callTy call_int1 (by rfl) T.b_int (by decide +kernel) (pa_cons (pv 4) pa_nil)) (pv 1)))))
  pss_nil)
 (pss_cons (ps_set (i := 5) nd rfl (Or.inl rfl) (pe_op op_add (pe_op op_mul (pe_op op_modN (pe_callTy call_int1 (by rfl) T.b_int (by decide +kernel) (pa_cons (pv 4) pa_nil)) pe_int) pe_int) (pe_op op_modN (pe_callTy call_int1 (by rfl) T.b_int (by decide +kernel) (pa_cons (pe_op op_fdivN (pv 4) pe_int) pa_nil)) pe_int)))
 (pss_cons (ps_set (i := 5) nd rfl (Or.inl rfl) (pe_op op_modN (pe_callTy call_int1 (by rfl) T.b_int (by decide +kernel) (pa_cons (pe_op op_add (pe_op op_add (pe_op op_add (pv 5) (pe_op op_mul (pe_op op_mul pe_int (pv 3)) (pv 3))) (pe_op op_mul pe_int (pv 3))) pe_int) pa_nil)) pe_int))
 (pss_cons (ps_set (i := 5) nd rfl (Or.inl rfl) (pe_op op_modN (pe_callTy call_int1 (by rfl) T.b_int (by decide +kernel) (pa_cons (pe_op op_mul (pe_op op_modN (pe_callTy call_int1 (by rfl) T.b_int (by decide +kernel) (pa_cons (pe_op op_mul (pv 5) (pv 5)) pa_nil)) pe_int) pe_int) pa_nil)) pe_int))
 (pss_one (ps_ret (pe_op op_modN (pe_callTy call_int1 (by rfl) T.b_int (by decide +kernel) (pa_cons (pe_op op_fdivN (pv 5) pe_int) pa_nil)) (pv 1)))))))))))), ?_⟩
    have fin : ∀ (z : Int) (H' : Hp) (k' l' : Int), H' m = some (.dK (src s0 k' l')) → But m H H' → 0 ≤ k' → k' ≤ a + 1 → Q (.int (z.fmod b)) H' := by
      intro z H' k' l' hm' hb' h0 h1
      exact k _ _ (fmod_nn hb0).1 (fmod_nn hb0).2 hb' ⟨s0, cs, k', l', hm', hb'.seq hm hc, hlen, h0, by omega, hs0⟩
    refine WRd.st_if (evb_cmp (ev_dget (ev_var rfl) ev_c hm (k := Sum.inr "left") v_left) ev_c) ?_
    split
    · refine WRd.st_asg (ev_iI (ev_int1 (evl_cons (ev_dget (ev_var rfl) ev_c hm (k := Sum.inr "left") v_left) evl_nil)) (ev_var rfl) (by omega)) ?_
      refine st_dput (k := Sum.inr "left") (ev_iI (ev_dget (ev_var rfl) ev_c hm (k := Sum.inr "left") v_left) (ev_var rfl) ⟨by omega, by omega⟩) (ev_var rfl) ev_c hm five ?_
      rw [p_left]
      refine WRd.st_ret (ev_var rfl) ?_
      exact fin _ _ _ _ upd_same But.refl.put hk0 (by omega)
    · refine WRd.st_asg (ev_dget (ev_var rfl) ev_c hm (k := Sum.inr "at") v_at) ?_
      refine st_dput (k := Sum.inr "at") (ev_i0 (ev_var rfl) ev_c) (ev_var rfl) ev_c hm five ?_
      rw [p_at]
      have m1 : upd H m (.dK (src s0 (kk + 1) l)) m = some (.dK (src s0 (kk + 1) l)) := upd_same
      have B1 : But m H (upd H m (.dK (src s0 (kk + 1) l))) := But.refl.put
      generalize upd H m (.dK (src s0 (kk + 1) l)) = H1 at m1 B1 ⊢
      have s1 := B1.seq hm hc
      dsimp only
      show tAsg _ (gName 4) _ _ _
      refine st_any (R := fun v H2 => ∃ cell, v = .int cell ∧ H2 m = some (.dK (src s0 (kk + 1) l)) ∧ But m H H2) (fun Q' q' => ?_) (fun v H2 ⟨cell, hv, m2, B2⟩ => ?_)
      · refine ev_dget (ev_var rfl) ev_c m1 (k := Sum.inr "script") v_script _ ?_
        refine ⟨(by decide : 0 ≤ sizeLine), fun p hp => ?_⟩
        have mp : m ≠ p := fun z => by rw [← z, m1] at hp; cases hp
        have B2 : But m H (upd H1 p (.lst [])) := B1.new hp
        have m2 : upd H1 p (.lst []) m = some (.dK (src s0 (kk + 1) l)) := by rw [upd_ne mp]; exact m1
        have s2 := B2.seq hm hc
        refine ⟨s0, p, cs.map V.int, rfl, rfl, s2, .inl (.of upd_same), ?_⟩
        refine ⟨_, rfl, ?_⟩
        generalize upd H1 p (.lst []) = H2 at B2 m2 s2 ⊢
        by_cases he : cs.map V.int = []
        · rw [decide_eq_true he]
          exact q' _ _ ⟨0, rfl, m2, B2⟩
        · rw [decide_eq_false he]
          have hL : 0 < (cs.length : Int) := by
            cases cs with
            | nil => exact absurd rfl he
            | cons x xs => simp only [List.length_cons]; omega
          have fm := fmod_nn (a := kk) hL
          obtain ⟨cell, hcell⟩ : ∃ cell, cs[(kk.fmod cs.length).toNat]? = some cell := ⟨_, List.getElem?_eq_getElem (by omega)⟩
          have hat : atI (cs.map V.int) (kk.fmod ((cs.map V.int).length : Int)) = some (.int cell) := by
            rw [List.length_map]
            have := atI_nat (xs := cs.map V.int) (j := (kk.fmod cs.length).toNat) (v := .int cell) (by rw [List.getElem?_map, hcell]; rfl)
            rw [Int.toNat_of_nonneg fm.1] at this
            exact this
          refine ev_op (v := .int cell) (ev_dget (ev_var rfl) ev_c m2 (k := Sum.inr "script") v_script)
            (ev_iI (ev_int1 (evl_cons (ev_var rfl) evl_nil)) (ev_cb (vs := [.ref s0]) (v := .int ((cs.map V.int).length : Int)) (evl_cons (ev_dget (ev_var rfl) ev_c m2 (k := Sum.inr "script") v_script) evl_nil) fun Q q => ⟨s0, _, rfl, .inl s2, q⟩)
              (by rw [List.length_map]; omega)) (fun Q q => ⟨s0, _, _, _, rfl, rfl, s2, hat, q⟩) _ (q' _ _ ⟨cell, rfl, m2, B2⟩)
      · subst hv
        have s2 := B2.seq hm hc
        refine WRd.st_if (evb_and (evb_cmp (ev_var rfl) (ev_iI ev_c ev_c ⟨by decide, by decide, by decide⟩)) fun _ => evb_cmp (ev_var rfl)
          (ev_cb (vs := [.ref s0]) (v := .int ((cs.map V.int).length : Int)) (evl_cons (ev_dget (ev_var rfl) ev_c m2 (k := Sum.inr "script") v_script) evl_nil) fun Q q => ⟨s0, _, rfl, .inl s2, q⟩)) ?_
        split
        · refine st_dput (k := Sum.inr "left") (ev_iI (ev_var rfl) (ev_var rfl) ⟨by omega, by omega⟩) (ev_var rfl) ev_c m2 five ?_
          rw [p_left]
          refine WRd.st_ret (ev_iI (ev_int1 (evl_cons (ev_var rfl) evl_nil)) (ev_var rfl) (by omega)) ?_
          exact fin _ _ _ _ upd_same B2.put (by omega) (by omega)
        · have f1 := fmod_nn (a := cell) (b := 1000003) (by decide)
          refine WRd.st_asg (ev_i0 (ev_iI (ev_iI (ev_int1 (evl_cons (ev_var rfl) evl_nil)) ev_c (by decide)) ev_c (.inr (by decide))) (ev_iI (ev_int1 (evl_cons (ev_iI (ev_var rfl) ev_c ⟨by decide, by decide⟩) evl_nil)) ev_c (by decide))) ?_
          generalize cell.fmod 1000003 * 48271 + (cell.fdiv 1000003).fmod 1000003 = z1
          refine WRd.st_asg (ev_iI (ev_int1 (evl_cons (ev_i0 (ev_i0 (ev_i0 (ev_var rfl) (ev_iI (ev_iI ev_c (ev_var rfl) (.inl (by decide))) (ev_var rfl) (.inr ⟨by omega, by omega⟩))) (ev_iI ev_c (ev_var rfl) (.inl (by decide)))) ev_c) evl_nil)) ev_c (by decide)) ?_
          generalize z1 + 7919 * kk * kk + 104729 * kk + 73 = z2
          have f2 := fmod_nn (a := z2) (b := 2147483647) (by decide)
          generalize z2.fmod 2147483647 = z3 at f2 ⊢
          refine WRd.st_asg (ev_iI (ev_int1 (evl_cons (ev_iI (ev_iI (ev_int1 (evl_cons (ev_iI (ev_var rfl) (ev_var rfl) (.inl ⟨by omega, by omega⟩)) evl_nil)) ev_c (by decide)) ev_c (.inr (by decide))) evl_nil)) ev_c (by decide)) ?_
          refine WRd.st_ret (ev_iI (ev_int1 (evl_cons (ev_iI (ev_var rfl) ev_c ⟨by decide, by decide⟩) evl_nil)) (ev_var rfl) (by omega)) ?_
          exact fin _ _ _ _ m2 B2 (by omega) (by omega)
end
end W02

set_option Elab.async false
set_option linter.all false
set_option maxRecDepth 100000
set_option maxHeartbeats 4000000
namespace W02
open PySem PySem.Spec PyProof.Rows L2 WXG WEv WRd WLf WEn WZs WRu WSt StX WDc
/-! ### readings that draw -/
theorem SrcAt.new {K : PySem.W.Frag} {S : Addr × List Int} {H : Hp} {m p : Addr} {a c : Nat} {x : HO} (h : SrcAt K S H m a c) (hp : H p = none) : SrcAt K S (upd H p x) m a c := by
  obtain ⟨s, cs, k, l, hm, hs, r⟩ := h
  have B : But m H (upd H p x) := But.refl.new hp
  exact ⟨s, cs, k, l, by rw [upd_ne (fun z => by rw [← z, hm] at hp; cases hp)]; exact hm, B.seq hm hs, r⟩
theorem SrcAt.mono {K : PySem.W.Frag} {S : Addr × List Int} {H : Hp} {m : Addr} {a a' c : Nat} (h : SrcAt K S H m a c) (ha : a ≤ a') : SrcAt K S H m a' c := by
  obtain ⟨s, cs, k, l, hm, hs, h1, h2, h3, h4⟩ := h
  exact ⟨s, cs, k, l, hm, hs, h1, h2, by omega, h4⟩
theorem SrcAt.ne {K : PySem.W.Frag} {S : Addr × List Int} {H : Hp} {m p : Addr} {a c : Nat} (h : SrcAt K S H m a c) (hp : H p = none) : p ≠ m := by
  obtain ⟨s, cs, k, l, hm, _⟩ := h
  exact fun z => by rw [z, hm] at hp; cases hp
abbrev VP := V → Hp → Prop
abbrev LP := List V → Hp → Prop
def MnB (m : Addr) (P : VP) : Prop := ∀ v H H', But m H H' → P v H → P v H'
def MnL (m : Addr) (P : LP) : Prop := ∀ v H H', But m H H' → P v H → P v H'
def Dr (K : PySem.W.Frag) (S : Addr × List Int) (m : Addr) (te : TE) (σ : L2.St) (n d : Nat) (P : VP) : Prop := ∀ (a c : Nat) (H : Hp), SrcAt K S H m a c → a + n ≤ 100000 → c + d ≤ 100000 → ∀ Q : VK, (∀ v H', But m H H' → SrcAt K S H' m (a + n) (c + d) → P v H' → Q v H') → te σ H Q
def DrA (K : PySem.W.Frag) (S : Addr × List Int) (m : Addr) (te : TA) (σ : L2.St) (n d : Nat) (P : LP) : Prop := ∀ (a c : Nat) (H : Hp), SrcAt K S H m a c → a + n ≤ 100000 → c + d ≤ 100000 → ∀ Q : List V → Hp → Prop, (∀ v H', But m H H' → SrcAt K S H' m (a + n) (c + d) → P v H' → Q v H') → te σ H Q
section
variable {K : PySem.W.Frag} {S : Addr × List Int} {m : Addr} {σ : L2.St} {n d n' d' : Nat} {te ta tb : TE} {tr : TA} {P P' : VP} {Ps Ps' : LP}
theorem mb_pure {p : V → Prop} : MnB m (fun v _ => p v) := fun _ _ _ _ h => h
theorem dr_c {v : V} : Dr K S m (tC v) σ 0 0 (fun x _ => x = v) := fun a c H hS _ _ Q q => q v H But.refl hS rfl
theorem dr_var {i : Nat} {v : V} (h : σ[i]? = some (some v)) : Dr K S m (tVar i) σ 0 0 (fun x _ => x = v) := fun a c H hS _ _ Q q => ⟨v, h, q v H But.refl hS rfl⟩
theorem Dr.imp (h : Dr K S m te σ n d P) (k : ∀ v H, P v H → P' v H) : Dr K S m te σ n d P' := fun a c H hS h1 h2 Q q => h a c H hS h1 h2 Q fun v H' b s p => q v H' b s (k v H' p)
theorem DrA.imp (h : DrA K S m tr σ n d Ps) (k : ∀ v H, Ps v H → Ps' v H) : DrA K S m tr σ n d Ps' := fun a c H hS h1 h2 Q q => h a c H hS h1 h2 Q fun v H' b s p => q v H' b s (k v H' p)
theorem dra_nil : DrA K S m tNil σ 0 0 (fun x _ => x = []) := fun a c H hS _ _ Q q => q [] H But.refl hS rfl
theorem dra_cons (h : Dr K S m te σ n d P) (g : DrA K S m tr σ n' d' Ps) (mP : MnB m P) : DrA K S m (tCons te tr) σ (n + n') (d + d') (fun vs H => ∃ x xs, vs = x :: xs ∧ P x H ∧ Ps xs H) :=
  fun a c H hS h1 h2 Q q => h a c H hS (by omega) (by omega) _ fun x H1 b1 s1 p1 => g (a + n) (c + d) H1 s1 (by omega) (by omega) _ fun xs H2 b2 s2 p2 =>
    q (x :: xs) H2 (b1.trans b2) (by rw [← Nat.add_assoc, ← Nat.add_assoc]; exact s2) ⟨x, xs, rfl, mP _ _ _ b2 p1, p2⟩
theorem dr_lst (h : DrA K S m tr σ n d Ps) (hl : ∀ xs H, Ps xs H → xs.length ≤ 1000) (mP : MnL m Ps) : Dr K S m (tLst tr) σ n d (fun v H => ∃ l xs, v = .ref l ∧ H l = some (.lst xs) ∧ l ≠ m ∧ Ps xs H) :=
  fun a c H hS h1 h2 Q q => h a c H hS h1 h2 _ fun xs H1 b1 s1 p1 => ⟨Nat.le_trans (hl _ _ p1) (by decide), fun l hn => q (.ref l) _ (b1.new hn) (s1.new hn) ⟨l, xs, rfl, upd_same, s1.ne hn, mP _ _ _ (But.refl.new hn) p1⟩⟩
theorem dr_op0 {i j : Int → Prop} {g : Int → Int → V} (h : Dr K S m ta σ n d (fun v _ => ∃ x, v = .int x ∧ i x)) (h' : Dr K S m tb σ n' d' (fun v _ => ∃ x, v = .int x ∧ j x)) :
    Dr K S m (tOp (rI0 g) ta tb) σ (n + n') (d + d') (fun v _ => ∃ x y, v = g x y ∧ i x ∧ j y) :=
  fun a c H hS h1 h2 Q q => h a c H hS (by omega) (by omega) _ fun x H1 b1 s1 ⟨x', ex, px⟩ => h' (a + n) (c + d) H1 s1 (by omega) (by omega) _ fun y H2 b2 s2 ⟨y', ey, py⟩ =>
    ⟨x', y', ex, ey, q _ H2 (b1.trans b2) (by rw [← Nat.add_assoc, ← Nat.add_assoc]; exact s2) ⟨x', y', rfl, px, py⟩⟩
theorem dr_pure {te : TE} {p : V → Prop} (h : ∀ H (Q : VK), (∀ v, p v → Q v H) → te σ H Q) : Dr K S m te σ 0 0 (fun v _ => p v) := fun a c H hS _ _ Q q => h H Q fun v pv => q v H But.refl hS pv
theorem dr_next {b : Int} {E : XK} (h : DrA K S m tr σ n d (fun vs _ => vs = [.ref m, .int b])) (h0 : 0 < b) (hb : b ≤ 1000) : Dr K S m (tCall (spNext K S) [] E tr) σ (n + 1) d (fun v _ => ∃ r, v = .int r ∧ 0 ≤ r ∧ r < b) :=
  fun a c H hS h1 h2 Q q => h a c H hS (by omega) h2 _ fun vs H1 b1 s1 e => ⟨m, b, a + n, c + d, by rw [e]; rfl, h0, hb, s1, by omega, fun r H2 r0 r1 b2 s2 => q _ H2 (b1.trans b2) s2 ⟨r, rfl, r0, r1⟩⟩
theorem dra_mi {b : Int} (hm : σ[0]? = some (some (.ref m))) : DrA K S m (tCons (tVar 0) (tCons (tC (.int b)) tNil)) σ 0 0 (fun vs _ => vs = [.ref m, .int b]) :=
  (dra_cons (dr_var hm) (dra_cons dr_c dra_nil mb_pure) mb_pure).imp fun v H ⟨x, xs, e, ex, y, ys, e2, ey, e3⟩ => by subst e e2 ex ey e3; rfl
theorem dr_next' {b : Int} {E : XK} (hm : σ[0]? = some (some (.ref m))) (h0 : 0 < b) (hb : b ≤ 1000) : Dr K S m (tCall (spNext K S) [] E (tCons (tVar 0) (tCons (tC (.int b)) tNil))) σ 1 0 (fun v _ => ∃ r, v = .int r ∧ 0 ≤ r ∧ r < b) := dr_next (n := 0) (dra_mi hm) h0 hb
end
def spOf (K : PySem.W.Frag) (S : Addr × List Int) : Sp := fun vs H Q _ => ∃ (m l : Addr) (xs : List V) (a c : Nat), vs = [.ref m, .ref l] ∧ H l = some (.lst xs) ∧ xs ≠ [] ∧ xs.length ≤ 1000 ∧ SrcAt K S H m a c ∧ a ≤ 100000 ∧ l ≠ m ∧
  ∀ v H', v ∈ xs → But m H H' → SrcAt K S H' m (a + 1) c → Q v H'
section
variable {P : Program} {w : World} {K : PySem.W.Frag} {S : Addr × List Int} {mg : Str → Option Value} {base : Heap}
theorem ok_of (T : Env K mg) : FnOk P w K mg base CX0 2 (d_L_of.loc K) T.fd_L_of ["m", "items"] (spOf K S) := by
  have G_L_next : FnOk P w K mg base CX0 1 _ _ _ _ := ok_next (S := S) T
  refine T.F_L_of.ok sc_L_of (fun vs H Q E h => ?_) (fun cdv A outer s H vs Q E hr h => ?_)
  · obtain ⟨m, l, xs, a, c, rfl, _⟩ := h
    rfl
  · have nd := sc_L_of.nd
    have hu := hu_of hr
    obtain ⟨m, l, xs, a, c, rfl, hl, hne, hlen, hS, ha, hlm, k⟩ := h
    refine ⟨_, PSs.nox (pss_one (ps_ret (pe_ix (ixlK (K := K)) (pv 1) (pe_call G_L_next (hr.mono (by decide)) (by rfl) T.g__law_next T.F_L_next.kp T.bi_L_next .nil pass0 (pa_cons (pv 0) (pa_cons (pe_callB call_len_seq (by rfl) T.b_len (by decide +kernel) (pa_cons (pv 1) pa_nil)) pa_nil))) (fun _ _ => rfl)))), ?_⟩
    have hx : 0 < xs.length := List.length_pos_iff.mpr hne
    refine ⟨.ref l, rfl, .ref m, rfl, .ref l, rfl, l, xs, rfl, .inl (.inl (.of hl)), ?_⟩
    refine ⟨m, (xs.length : Int), a, c, rfl, by omega, by omega, hS, ha, fun r H' h0 h1 hb hS' => ?_⟩
    obtain ⟨v, hv⟩ : ∃ v, xs[r.toNat]? = some v := ⟨_, List.getElem?_eq_getElem (by omega)⟩
    have hat := atI_nat hv
    rw [Int.toNat_of_nonneg h0] at hat
    exact ⟨l, xs, r, v, rfl, rfl, .inl (.of (hb _ _ hl hlm)), hat, k v H' (List.mem_of_getElem? hv) hb hS'⟩
end
end W02

set_option Elab.async false
set_option linter.all false
set_option maxRecDepth 100000
set_option maxHeartbeats 4000000
namespace W02
open PySem PySem.Spec PyProof.Rows L2 WXG WEv WRd WLf WEn WZs WRu WSt StX WDc
section
variable {K : PySem.W.Frag} {S : Addr × List Int} {m : Addr} {σ : L2.St} {n d n' d' k : Nat} {te ta tb : TE} {tr : TA} {p : V → Prop}
theorem dral_nil : DrA K S m tNil σ 0 0 (fun xs _ => xs.length = 0 ∧ ∀ x ∈ xs, p x) := dra_nil.imp fun v H e => by subst e; exact ⟨rfl, fun x hx => absurd hx (by simp)⟩
theorem dral_cons (h : Dr K S m te σ n d (fun v _ => p v)) (g : DrA K S m tr σ n' d' (fun xs _ => xs.length = k ∧ ∀ x ∈ xs, p x)) : DrA K S m (tCons te tr) σ (n + n') (d + d') (fun xs _ => xs.length = k + 1 ∧ ∀ x ∈ xs, p x) :=
  (dra_cons h g mb_pure).imp fun v H ⟨x, xs, e, px, hl, hp⟩ => by
    subst e
    refine ⟨by rw [List.length_cons, hl], fun y hy => ?_⟩
    rcases List.mem_cons.mp hy with e | hy
    · rw [e]; exact px
    · exact hp y hy
theorem ml_pure {p : List V → Prop} : MnL m (fun v _ => p v) := fun _ _ _ _ h => h
theorem dr_ev {v : V} (h : ∀ H, Ev te σ H v) (hp : p v) : Dr K S m te σ 0 0 (fun v _ => p v) := fun a c H hS _ _ Q q => h H Q (q v H But.refl hS hp)
theorem st_retD {a c : Nat} {H : Hp} {D : Ends} {P : VP} (h : Dr K S m te σ n d P) (hS : SrcAt K S H m a c) (h1 : a + n ≤ 100000) (h2 : c + d ≤ 100000) (q : ∀ v H', But m H H' → SrcAt K S H' m (a + n) (c + d) → P v H' → D.rt v H') : tRet te D σ H := h a c H hS h1 h2 _ q
theorem st_asgD {a c i : Nat} {H : Hp} {D : Ends} {P : VP} (h : Dr K S m te σ n d P) (hS : SrcAt K S H m a c) (h1 : a + n ≤ 100000) (h2 : c + d ≤ 100000) (q : ∀ v H', But m H H' → SrcAt K S H' m (a + n) (c + d) → P v H' → D.nx (σ.set i (some v)) H') : tAsg te (gName i) D σ H := h a c H hS h1 h2 _ q
theorem dr_ix {b : Int} {k : Nat} (h : Dr K S m ta σ n d (fun v H => ∃ l xs, v = .ref l ∧ H l = some (.lst xs) ∧ l ≠ m ∧ xs.length = k ∧ ∀ x ∈ xs, p x)) (g : Dr K S m tb σ n' d' (fun v _ => ∃ r, v = .int r ∧ 0 ≤ r ∧ r < b)) (hb : b ≤ k) : Dr K S m (tOp (rIxL K) ta tb) σ (n + n') (d + d') (fun v _ => p v) :=
  fun a c H hS h1 h2 Q q => h a c H hS (by omega) (by omega) _ fun v H1 b1 s1 ⟨l, xs, ev, hl, hlm, hlen, hp⟩ => g (a + n) (c + d) H1 s1 (by omega) (by omega) _ fun u H2 b2 s2 ⟨r, eu, h0, h1'⟩ => by
    subst ev eu
    obtain ⟨v, hv⟩ : ∃ v, xs[r.toNat]? = some v := ⟨_, List.getElem?_eq_getElem (by omega)⟩
    have hat := atI_nat hv
    rw [Int.toNat_of_nonneg h0] at hat
    exact ⟨l, xs, r, v, rfl, rfl, .inl (.of (b2 _ _ hl hlm)), hat, q v H2 (b1.trans b2) (by rw [← Nat.add_assoc, ← Nat.add_assoc]; exact s2) (hp v (List.mem_of_getElem? hv))⟩
theorem dr_int {z : Int} : Dr K S m (tC (.int z)) σ 0 0 (fun v _ => ∃ x, v = .int x ∧ x = z) := dr_ev (fun H => ev_c) ⟨z, rfl, rfl⟩
end
/-- 0 .. 10 ** 9 -/
def TkV (v : V) : Prop := ∃ i : Int, v = .int i ∧ 0 ≤ i ∧ i ≤ 1000000000
def LimV (v : V) : Prop := v = .non ∨ TkV v
end W02

set_option Elab.async false
set_option linter.all false
set_option maxRecDepth 100000
set_option maxHeartbeats 2000000
/-! displays of constants as values of any kind -/
namespace WGp
open PySem PySem.Spec PyProof.Rows L2 WEv WRd WLf WPv WEb WRu
mutual
theorem at_dom {K : PySem.W.Frag} {N : Addr → Prop} {H : Hp} : ∀ (p : Pv) {v : V}, At K N p v H → At K (fun a => N a ∧ H a ≠ none) p v H
  | .non, _, h => h
  | .bl _, _, h => h
  | .int _, _, h => h
  | .str _, _, h => h
  | .dic, _, ⟨p, e1, hn, h⟩ => ⟨p, e1, ⟨hn, by rw [h]; exact fun z => nomatch z⟩, h⟩
  | .tup l, _, ⟨p, xs, e1, h, a, z⟩ => ⟨p, xs, e1, h, atl_dom l a, z⟩
  | .lst l, _, ⟨p, xs, e1, hn, h, a, z⟩ => ⟨p, xs, e1, ⟨hn, by rw [h]; exact fun z => nomatch z⟩, h, atl_dom l a, z⟩
  | .wrk l, _, ⟨a, dx, q, xs, e1, h, h1, h2, h3⟩ => ⟨a, dx, q, xs, e1, h, h1, h2, atl_dom l h3⟩
  | .sup n d, _, ⟨a, dx, q, c, e1, h⟩ => ⟨a, dx, q, c, e1, h⟩
theorem atl_dom {K : PySem.W.Frag} {N : Addr → Prop} {H : Hp} : ∀ (l : List Pv) {xs : List V}, AtL K N l xs H → AtL K (fun a => N a ∧ H a ≠ none) l xs H
  | [], _, h => h
  | p :: l, _, ⟨y, ys, e1, h, h2⟩ => ⟨y, ys, e1, at_dom p h, atl_dom l h2⟩
end
/-- values that stood before l was made do not stand at l -/
theorem atl_ne {K : PySem.W.Frag} {N : Addr → Prop} {H : Hp} {l : Addr} {ps : List Pv} {xs : List V} (h : AtL K N ps xs H) (hl : H l = none) : AtL K (fun a => N a ∧ a ≠ l) ps xs H := atl_imp (fun a h => ⟨h.1, fun z => h.2 (by rw [z]; exact hl)⟩) _ (atl_dom _ h)
theorem at_ne {K : PySem.W.Frag} {N : Addr → Prop} {H : Hp} {l : Addr} {p : Pv} {v : V} (h : At K N p v H) (hl : H l = none) : At K (fun a => N a ∧ a ≠ l) p v H := at_imp (fun a h => ⟨h.1, fun z => h.2 (by rw [z]; exact hl)⟩) _ (at_dom _ h)
section
variable {K : PySem.W.Frag} {N : Addr → Prop} {σ : L2.St} {H : Hp} {te ta : TE} {tr : TA} {p : Pv} {ps : List Pv} {v : V} {i : Int} {D : Ends}
structure GL (K : PySem.W.Frag) (N : Addr → Prop) (tr : TA) (σ : L2.St) (H : Hp) (ps : List Pv) : Prop where
  ev : EvA tr σ H (AtL K N ps)
theorem gl_nil : GL K N tNil σ H [] := ⟨fun H1 _ _ q => q _ H1 (Same.refl H1) rfl⟩
theorem gl_cons (h : G te σ H (At K N p)) (g : GL K N tr σ H ps) : GL K N (tCons te tr) σ H (p :: ps) := ⟨fun H1 e Q q => h.ev H1 e _ fun x H2 s2 p2 => g.ev H2 (e.trans s2) _ fun xs H3 s3 p3 => q _ H3 (s2.trans s3) ⟨x, xs, rfl, mn_at _ _ _ s3 p2, p3⟩⟩
theorem g_non : G (tC .non) σ H (At K N .non) := ⟨fun H1 _ _ q => q _ H1 (Same.refl H1) rfl, mn_at⟩
theorem g_bl {b : Bool} : G (tC (.bl b)) σ H (At K N (.bl b)) := ⟨fun H1 _ _ q => q _ H1 (Same.refl H1) rfl, mn_at⟩
theorem g_int : G (tC (.int i)) σ H (At K N (.int i)) := ⟨fun H1 _ _ q => q _ H1 (Same.refl H1) rfl, mn_at⟩
theorem g_str {z : Str} (h : z.length ≤ 1000) : G (tC (.str z)) σ H (At K N (.str z)) := ⟨fun H1 _ _ q => q _ H1 (Same.refl H1) ⟨rfl, h⟩, mn_at⟩
theorem g_evI (h : ∀ H1, Same H H1 → Ev te σ H1 (.int i)) : G te σ H (At K N (.int i)) := ⟨fun H1 e _ q => h H1 e _ (q _ H1 (Same.refl H1) rfl), mn_at⟩
theorem g_evS {z : Str} (h : ∀ H1, Same H H1 → Ev te σ H1 (.str z)) (hz : z.length ≤ 1000) : G te σ H (At K N (.str z)) := ⟨fun H1 e _ q => h H1 e _ (q _ H1 (Same.refl H1) ⟨rfl, hz⟩), mn_at⟩
theorem g_varA {n : Nat} (h : σ[n]? = some (some v)) (a : At K N p v H) : G (tVar n) σ H (At K N p) := g_varP h a mn_at
theorem g_tupP (h : GL K N tr σ H ps) (hz : ps.length ≤ 1000) : G (tTup tr) σ H (At K N (.tup ps)) := ⟨fun H1 e _ q => h.ev H1 e _ fun xs H2 s2 p2 =>
  ⟨by rw [p2.len]; exact Nat.le_trans hz (by decide), fun t ht => q _ _ (s2.trans (same_new ht)) ⟨t, xs, rfl, .inl (.inl upd_same), mn_atl _ _ _ (same_new ht) p2, hz⟩⟩, mn_at⟩
theorem g_lstP (hN : ∀ t H1, Same H H1 → H1 t = none → N t) (h : GL K N tr σ H ps) (hz : ps.length ≤ 1000) : G (tLst tr) σ H (At K N (.lst ps)) := ⟨fun H1 e _ q => h.ev H1 e _ fun xs H2 s2 p2 =>
  ⟨by rw [p2.len]; exact Nat.le_trans hz (by decide), fun t ht => q _ _ (s2.trans (same_new ht)) ⟨t, xs, rfl, hN t _ (e.trans s2) ht, upd_same, mn_atl _ _ _ (same_new ht) p2, hz⟩⟩, mn_at⟩
theorem g_dicP (hN : ∀ t H1, Same H H1 → H1 t = none → N t) : G tDNewK σ H (At K N .dic) := ⟨fun H1 e _ q t ht => q _ _ (same_new ht) ⟨t, rfl, hN t _ e ht, upd_same⟩, mn_at⟩
theorem atl_rep {H : Hp} {xs : List V} (h : AtL K N ps xs H) : ∀ n, AtL K N (List.replicate n ps).flatten (List.replicate n xs).flatten H
  | 0 => rfl
  | n + 1 => by
    rw [List.replicate_succ, List.replicate_succ, List.flatten_cons, List.flatten_cons]
    exact h.app (atl_rep h n)
theorem g_repP {k : Nat} (h : G te σ H (At K N (.tup ps))) (hk : ps ≠ [] ∧ 2 ≤ k ∧ k ≤ 1000) (hz : (List.replicate k ps).flatten.length ≤ 1000) : G (tOp (rRepT K) te (tC (.int (k : Int)))) σ H (At K N (.tup (List.replicate k ps).flatten)) := ⟨fun H1 e _ q => h.ev H1 e _ fun x H2 s2 p2 => by
  obtain ⟨t, xs, rfl, ht, ha, hl⟩ := p2
  refine ⟨t, (k : Int), xs, rfl, rfl, ht, fun z => ?_, by omega, by omega, by rw [ha.len]; exact hl, fun r hr => ?_⟩
  · have := ha.len
    rw [z] at this
    exact hk.1 (List.length_eq_zero_iff.mp this.symm)
  · rw [Int.toNat_natCast]
    exact q _ _ (s2.trans (same_new hr)) ⟨r, _, rfl, .inl (.inl upd_same), mn_atl _ _ _ (same_new hr) (atl_rep ha k), hz⟩, mn_at⟩
theorem g_mulS {z : Str} {k : Nat} (hk : k ≤ 1000) (hz : z.length ≤ 1000) (h : (repS z k).length ≤ 1000) : G (tOp rMulS (tC (.str z)) (tC (.int (k : Int)))) σ H (At K N (.str (repS z k))) := ⟨fun H1 _ _ q => ⟨z, k, rfl, rfl, hk, hz, q _ H1 (Same.refl H1) ⟨rfl, h⟩⟩, mn_at⟩
theorem g_ifP {tt : TT} {b : Bool} (ht : ∀ H1, Same H H1 → EvB tt σ H1 b) (ha : G te σ H (At K N p)) (hb : G ta σ H (At K N p)) : G (tIf tt te ta) σ H (At K N p) := ⟨fun H1 e Q q => ht H1 e _ (by
  cases b with
  | true => exact ha.ev H1 e Q q
  | false => exact hb.ev H1 e Q q), mn_at⟩
/-- a + b, two lists -/
theorem g_catL {qs : List Pv} {tb : TE} (ha : G ta σ H (At K N (.lst ps))) (hb : G tb σ H (At K N (.lst qs))) (hN : ∀ t H1, Same H H1 → H1 t = none → N t) (hz : (ps ++ qs).length ≤ 1000) : G (tOp rCat ta tb) σ H (At K N (.lst (ps ++ qs))) := ⟨fun H1 e _ q =>
  ha.ev H1 e _ fun a H2 s2 pa => hb.ev H2 (e.trans s2) _ fun b H3 s3 pb => by
    obtain ⟨l, xs, rfl, _, hl, al, _⟩ := mn_at _ _ _ s3 pa
    obtain ⟨m, ys, rfl, _, hm, am, _⟩ := pb
    refine ⟨l, m, xs, ys, rfl, rfl, hl, hm, by rw [al.len, am.len, ← List.length_append]; exact Nat.le_trans hz (by decide), fun r hr => ?_⟩
    have s4 := same_new (o := .lst (xs ++ ys)) hr
    exact q _ _ ((s2.trans s3).trans s4) ⟨r, _, rfl, hN r _ (e.trans (s2.trans s3)) hr, upd_same, mn_atl _ _ _ s4 (al.app am), hz⟩, mn_at⟩
/-- a + b, two tuples -/
theorem g_catT {qs : List Pv} {tb : TE} (ha : G ta σ H (At K N (.tup ps))) (hb : G tb σ H (At K N (.tup qs))) (hp : ps ≠ [] ∧ qs ≠ []) (hz : (ps ++ qs).length ≤ 1000) : G (tOp (rCatT K) ta tb) σ H (At K N (.tup (ps ++ qs))) := ⟨fun H1 e _ q =>
  ha.ev H1 e _ fun a H2 s2 pa => hb.ev H2 (e.trans s2) _ fun b H3 s3 pb => by
    obtain ⟨l, xs, rfl, hl, al, _⟩ := mn_at _ _ _ s3 pa
    obtain ⟨m, ys, rfl, hm, am, _⟩ := pb
    have nx : xs ≠ [] := fun z => by have := al.len; rw [z] at this; exact hp.1 (List.length_eq_zero_iff.mp this.symm)
    have ny : ys ≠ [] := fun z => by have := am.len; rw [z] at this; exact hp.2 (List.length_eq_zero_iff.mp this.symm)
    refine ⟨l, m, xs, ys, rfl, rfl, hl, hm, nx, by rw [al.len, am.len, ← List.length_append]; exact Nat.le_trans hz (by decide), fun z => absurd z ny, fun _ r hr => ?_⟩
    have s4 := same_new (o := .tup (xs ++ ys)) hr
    exact q _ _ ((s2.trans s3).trans s4) ⟨r, _, rfl, .inl (.inl upd_same), mn_atl _ _ _ s4 (al.app am), hz⟩, mn_at⟩
/-- a list of values at l -/
def LAt (K : PySem.W.Frag) (N : Addr → Prop) (ps : List Pv) (l : Addr) (H : Hp) : Prop := ∃ xs, H l = some (.lst xs) ∧ AtL K N ps xs H
/-- some.append(e), some at l, its items elsewhere -/
theorem st_appP {n : Nat} {l : Addr} (h0 : σ[n]? = some (some (.ref l))) (hl : LAt K N ps l H) (hn : ¬ N l) (hz : ps.length ≤ 1000) (h : G te σ H (At K N p)) (k : ∀ H1, (∀ b o, H b = some o → b ≠ l → H1 b = some o) → LAt K N (ps ++ [p]) l H1 → D.nx σ H1) : tDrop (tBM K "list" rAppend (tVar n) (tCons te tNil)) D σ H := by
  obtain ⟨xs, hl, ha⟩ := hl
  refine ⟨_, h0, .inl ⟨rfl, _, .of hl⟩, h.ev H (Same.refl _) _ fun y H2 s2 py => ?_⟩
  have kn : Kn N H2 (upd H2 l (.lst (xs ++ [y]))) := Kn.lst (s2 _ _ hl) hn
  refine ⟨l, xs, y, rfl, rfl, s2 _ _ hl, Nat.lt_of_le_of_lt (show xs.length ≤ 1000 by rw [ha.len]; exact hz) (by decide), ?_⟩
  refine k _ (fun b o hb ne => by rw [upd_ne ne]; exact s2 _ _ hb) ⟨_, upd_same, (atl_kn ((Kn.same s2).trans kn) _ ha).app (AtL.one (at_kn kn _ py))⟩
end
end WGp

set_option Elab.async false
set_option linter.all false
set_option maxRecDepth 100000
set_option maxHeartbeats 1000000
namespace W02
open PySem PySem.Spec PyProof.Rows L2 WXG WEv WRd WLf WEn WZs WRu WSt StX WDc WPv WEb WXO WXE WKd WGp
/-! ### plans made, values drawn -/
theorem wrongGo_rows : ∀ (i : Nat) (kn : List (Str × Str)) (rs : List Pv), wrongGo i kn rs = none → rs.all isRow = true
  | _, _, [], _ => rfl
  | i, kn, r :: rs, h => by
    unfold wrongGo at h
    split at h
    · cases h
    · rename_i hc
      have h1 : isRow r = true := by
        cases e : isRow r with
        | true => rfl
        | false => exact absurd (by rw [e]; simp) hc
      rw [List.all_cons, h1, wrongGo_rows _ _ _ h]
      rfl
theorem row_form {p : Pv} (h : isRow p = true) : rowForm p = true := by
  obtain ⟨a, b, c, ds, rfl⟩ := isRow_of h
  rw [isRow_eq] at h
  have h1 : rowD (.tup ds) = true := by
    have := (Bool.and_eq_true _ _).mp h
    have := (Bool.and_eq_true _ _).mp this.2
    exact ((Bool.and_eq_true _ _).mp this.2).2
  have h2 : ds.all isDeed = true := ((Bool.and_eq_true _ _).mp h1).2
  show ds.all _ = true
  refine List.all_eq_true.mpr fun d hd => ?_
  have h3 := List.all_eq_true.mp h2 d hd
  unfold isDeed at h3
  split at h3
  · rfl
  · cases h3
theorem scr_form {p : Pv} (h : isScript p = true) : scrForm p = true := by
  cases p with
  | tup rs =>
    have h1 : (wrongGo 0 [] rs).isNone = true := h
    have h2 := wrongGo_rows 0 [] rs (Option.isNone_iff_eq_none.mp h1)
    exact List.all_eq_true.mpr fun r hr => row_form (List.all_eq_true.mp h2 r hr)
  | _ => cases h
theorem wRows_ok {p1 p2 p3 p4 p5 p6 p7 : Pv} (h : firstBad (wRows p1 p2 p3 p4 p5 p6 p7) = none) : isScript p7 = true := by
  unfold wRows firstBad at h
  split at h
  case isFalse => cases h
  unfold firstBad at h
  split at h
  case isFalse => cases h
  unfold firstBad at h
  split at h
  case isFalse => cases h
  unfold firstBad at h
  split at h
  case isFalse => cases h
  unfold firstBad at h
  split at h
  case isFalse => cases h
  unfold firstBad at h
  split at h
  case isFalse => cases h
  unfold firstBad at h
  split at h
  case isFalse => cases h
  rename_i h7
  exact h7
theorem same_two {H : Hp} {x dx : Addr} {o o' : HO} (hx : H x = none) (hdx : H dx = none) (ne : dx ≠ x) : Same H (upd (upd H dx o) x o') := (same_new hdx).trans (same_new (by rw [upd_ne (Ne.symm ne)]; exact hx))
section
variable {K : PySem.W.Frag} {N M : Addr → Prop} {σ : L2.St} {H : Hp} {Q : VK} {E : XK}
theorem w_init {x dx : Addr} {p1 p2 p3 p4 p5 p6 p7 : Pv} {v1 v2 v3 v4 v5 v6 v7 : V} (al : AtL K N [p1, p2, p3, p4, p5, p6, p7] [v1, v2, v3, v4, v5, v6, v7] H) (hos : okScr p7 = true) (hx : H x = none) (hdx : H dx = none) (ne : dx ≠ x)
    (k : firstBad (wRows p1 p2 p3 p4 p5 p6 p7) = none → ∀ H', Same H H' → At K N (.wrk [p1, p2, p3, p4, p5, p6, p7]) (.ref x) H' → Q (.ref x) H') (ke : ∀ f, firstBad (wRows p1 p2 p3 p4 p5 p6 p7) = some f → Err H (BS K) "setting" (.str f) E) :
    spWInit K [.ref x, v1, v2, v3, v4, v5, v6, v7] (upd (upd H dx (.own x)) x (.ins (CW K) dx [])) (fun v H3 => v = .non ∧ Q (.ref x) H3) E := by
  have sp := same_two (o := .own x) (o' := .ins (CW K) dx []) hx hdx ne
  refine ⟨N, x, dx, p1, p2, p3, p4, p5, p6, p7, v1, v2, v3, v4, v5, v6, v7, rfl, mn_atl _ _ _ sp al, hos, upd_same, fun hb q H' he hq => ⟨rfl, ?_⟩, fun f hf => (ke f hf).mono sp⟩
  have sH : Same H H' := fun b u hb => he.1 b u (sp _ _ hb) fun z => by rw [z, hx] at hb; cases hb
  exact k hb H' sH ⟨x, dx, q, _, rfl, he.2, .inl (.inl hq), ⟨_, _, _, _, _, _, _, rfl, scr_form (wRows_ok hb)⟩, mn_atl _ _ _ sH al⟩
theorem s_init {x dx : Addr} {ks : List Pv} {ys : List V} {p1 p2 p3 p4 p5 p6 : Pv} {v1 v2 v3 v4 v5 v6 : V} (al : AtL K N [p1, p2, p3, p4, p5, p6] [v1, v2, v3, v4, v5, v6] H) (ak : AtL K M ks ys H) (hx : H x = none) (hdx : H dx = none) (ne : dx ≠ x)
    (k : firstBad (sRows p1 p2 p3 p4 p5 p6) = none → badChild 0 1 1 ks = none → ∀ H', Same H H' → (∃ dx q c, H' x = some (SIns K dx q c (endCD 1 1 ks).1 (endCD 1 1 ks).2)) → Q (.ref x) H')
    (kc : firstBad (sRows p1 p2 p3 p4 p5 p6) = none → ∀ i, badChild 0 1 1 ks = some i → Err H (BC K) "index" (.int (i : Nat)) E) (ke : ∀ f, firstBad (sRows p1 p2 p3 p4 p5 p6) = some f → Err H (BS K) "setting" (.str f) E) :
    ∀ p, upd (upd H dx (.own x)) x (.ins (CS K) dx []) p = none → spSInit K [.ref x, v1, v2, v3, v4, v5, v6, .ref p] (upd (upd (upd H dx (.own x)) x (.ins (CS K) dx [])) p (.tup ys)) (fun v H3 => v = .non ∧ Q (.ref x) H3) E := by
  intro p hp
  have sp0 := same_two (o := .own x) (o' := .ins (CS K) dx []) hx hdx ne
  have e1 : upd (upd H dx (.own x)) x (.ins (CS K) dx []) x = some (.ins (CS K) dx []) := upd_same
  generalize upd (upd H dx (.own x)) x (.ins (CS K) dx []) = H2 at *
  have xp : x ≠ p := fun z => by rw [← z, e1] at hp; cases hp
  have sp := sp0.trans (same_new (o := .tup ys) hp)
  refine ⟨N, M, x, dx, p, ks, ys, p1, p2, p3, p4, p5, p6, v1, v2, v3, v4, v5, v6, rfl, mn_atl _ _ _ sp al, upd_same, mn_atl _ _ _ sp ak, (same_new hp) _ _ e1, fun hb => ⟨fun hc q H' he hq => ⟨rfl, ?_⟩, fun i hi => (kc hb i hi).mono sp⟩, fun f hf => (ke f hf).mono sp⟩
  have sH : Same H H' := fun b u hb => he.1 b u (sp _ _ hb) fun z => by rw [z, hx] at hb; cases hb
  exact k hb hc H' sH ⟨dx, q, p, he.2⟩
/-- WorkerPlan(z, script=s) -/
theorem g_mkWs {ts : TE} {z : Str} {s : Pv} (hz : isName (.str z) = true ∧ z.length ≤ 1000) (hs : G ts σ H (At K N s)) (h : isScript s = true ∧ okScr s = true) : G (tMkKF (CW K) (spkWs K) 1 E (tCons (tC (.str z)) tNil) (tCons ts tNil)) σ H (At K N (.wrk [.str z, .str "permanent", .int 0, .int 0, .non, .int 0, s])) := ⟨fun H1 e Q q => hs.ev H1 e _ fun v H2 s2 p2 =>
  ⟨rfl, fun x dx hx hdx ne => ⟨rfl, w_init (N := N) (Q := Q) (p1 := .str z) (p2 := .str "permanent") (p3 := .int 0) (p4 := .int 0) (p5 := .non) (p6 := .int 0) (p7 := s) ⟨_, _, rfl, ⟨rfl, hz.2⟩, _, _, rfl, ⟨rfl, Nat.le_of_ble_eq_true rfl⟩, _, _, rfl, rfl, _, _, rfl, rfl, _, _, rfl, rfl, _, _, rfl, rfl, _, _, rfl, p2, rfl⟩ h.2 hx hdx ne (fun _ H' s' a => q _ _ (s2.trans s') a) fun f hf => by
    have : firstBad (wRows (.str z) (.str "permanent") (.int 0) (.int 0) .non (.int 0) s) = none := by
      simp only [wRows, firstBad, hz.1, h.1, if_true]
      decide
    rw [this] at hf
    cases hf⟩⟩, mn_at⟩
/-- WorkerPlan(z) -/
theorem g_mkW0 (hsd : ∀ H, SqT K H (sdA K) []) {z : Str} (hz : isName (.str z) = true ∧ z.length ≤ 1000) : G (tMkKF (CW K) (spkW0 K) 0 E (tCons (tC (.str z)) tNil) tNil) σ H (At K N (.wrk [.str z, .str "permanent", .int 0, .int 0, .non, .int 0, .tup []])) := ⟨fun H2 e Q q =>
  ⟨rfl, fun x dx hx hdx ne => ⟨rfl, w_init (N := N) (Q := Q) (p1 := .str z) (p2 := .str "permanent") (p3 := .int 0) (p4 := .int 0) (p5 := .non) (p6 := .int 0) (p7 := .tup []) ⟨_, _, rfl, ⟨rfl, hz.2⟩, _, _, rfl, ⟨rfl, Nat.le_of_ble_eq_true rfl⟩, _, _, rfl, rfl, _, _, rfl, rfl, _, _, rfl, rfl, _, _, rfl, rfl, _, _, rfl, ⟨sdA K, [], rfl, hsd _, rfl, Nat.zero_le _⟩, rfl⟩ rfl hx hdx ne (fun _ H' s' a => q _ _ s' a) fun f hf => by
    have : firstBad (wRows (.str z) (.str "permanent") (.int 0) (.int 0) .non (.int 0) (.tup [])) = none := by
      simp only [wRows, firstBad, hz.1, if_true]
      decide
    rw [this] at hf
    cases hf⟩⟩, mn_at⟩
/-- SupervisorPlan(z, e, ..) -/
theorem g_mkS0 {tr : TA} {z : Str} {ks : List Pv} (hz : isName (.str z) = true ∧ z.length ≤ 1000) (hk : GL K M tr σ H ks) (hb : badChild 0 1 1 ks = none ∧ ks.length ≤ 1000) : G (tMkKF (CS K) (spkS0 K) 0 E (tCons (tC (.str z)) tr) tNil) σ H (At K N (.sup (endCD 1 1 ks).1 (endCD 1 1 ks).2)) := ⟨fun H1 e Q q => hk.ev H1 e _ fun ys H2 s2 p2 =>
  ⟨rfl, fun x dx hx hdx ne => ⟨[.ref x, .str z], ys, rfl, rfl, by rw [p2.len]; exact Nat.le_trans hb.2 (by decide), s_init (N := N) (Q := Q) (p1 := .str z) (p2 := .str "permanent") (p3 := .str "one") (p4 := .int 1) (p5 := .int 10) (p6 := .non) ⟨_, _, rfl, ⟨rfl, hz.2⟩, _, _, rfl, ⟨rfl, Nat.le_of_ble_eq_true rfl⟩, _, _, rfl, ⟨rfl, Nat.le_of_ble_eq_true rfl⟩, _, _, rfl, rfl, _, _, rfl, rfl, _, _, rfl, rfl, rfl⟩ p2 hx hdx ne (fun _ _ H' s' ⟨dx', q', c', a⟩ => q _ _ (s2.trans s') ⟨x, dx', q', c', rfl, a⟩) (fun _ i hi => by rw [hb.1] at hi; cases hi) fun f hf => by
    have : firstBad (sRows (.str z) (.str "permanent") (.str "one") (.int 1) (.int 10) .non) = none := by
      simp only [sRows, firstBad, hz.1, if_true]
      decide
    rw [this] at hf
    cases hf⟩⟩, mn_at⟩
end
end W02

set_option Elab.async false
set_option linter.all false
set_option maxRecDepth 100000
set_option maxHeartbeats 1000000
namespace W02
open PySem PySem.Spec PyProof.Rows L2 WXG WEv WRd WLf WEn WZs WRu WSt StX WDc WPv WEb WXO WXE WKd WGp
/-! ### scripts that are none -/
def numS (i : Int) : Str := Str.ofString (toString i)
def defs (s : Pv) : List Pv := [.str "x", .str "permanent", .int 0, .int 0, .non, .int 0, s]
def row0 : Pv := (.tup [(.str "first"), (.str "go"), (.int 1), (.tup [])])
def inner0 : Pv := .wrk (defs (.tup [(.tup [(.str "first"), (.str "go"), (.int 1), (.tup [])])]))
def adds0 : Pv := .wrk (defs (.tup [(.tup [(.str "first"), (.str "go"), (.int 1), (.tup [(.tup [(.str "add"), (.str "own"), inner0])])])]))
def rowK (k : Nat) : Pv := .tup [.str "first", .str (("w" : Str) ++ numS ((0 : Int) + (k : Nat))), .int 1, .tup []]
def rows31 : Pv := .tup ((List.range 31).map rowK)
def some0 : List Pv := [.non, (.lst []), (.str ""), (.str "go"), (.int 5), (.bl true), .dic, (.tup [(.int 1)]), (.tup [(.str "first")]), (.tup [(.lst [(.str "first"), (.str "go"), (.int 1), (.tup [])])]), (.tup [row0, row0]), rows31, (.lst [row0])]
def ones1 : List Pv := [(.tup [(.str "first"), (.str "go"), (.int 0), (.tup [])]), (.tup [(.str "first"), (.str "go"), (.int 1001), (.tup [])]), (.tup [(.str "first"), (.str "go"), (.bl true), (.tup [])]), (.tup [(.str "First"), (.str "go"), (.int 1), (.tup [])])]
def ones2 : List Pv := [(.tup [(.str "first"), (.str ""), (.int 1), (.tup [])]), (.tup [(.str "first"), (.str "go"), (.int 1), (.lst [])]), (.tup [(.str "first"), (.str "go"), (.int 1)]), (.tup [(.str "first"), (.str "go"), (.int 1), (.tup []), (.tup [])])]
def deeds0 : List Pv := [(.tup [(.str "say"), (.str "x")]), (.tup [(.str "note")]), (.tup [(.str "note"), (.str "X")]), (.lst [(.str "note"), (.str "x")]), (.tup [(.str "add"), (.str "own"), adds0]), (.str "note")]
def with1 (p : Pv) : Pv := (.tup [(.tup [(.str "first"), (.str "way"), (.int 1), (.tup [])]), p])
def with2 (p : Pv) : Pv := .tup [p]
def with3 (p : Pv) : Pv := (.tup [(.tup [(.str "first"), (.str "go"), (.int 1), (.tup [(.tup [(.str "note"), (.str "x")]), p])])])
def last0 : Pv := (.tup [(.tup [(.str "first"), (.str "go"), (.int 1), (.tup (List.replicate 9 [(.tup [(.str "note"), (.str "x")])]).flatten)])])
def oddScripts : List Pv := ((some0 ++ ones1.map with1) ++ ones2.map with2) ++ deeds0.map with3 ++ [last0]
theorem odd_scripts : oddScripts.all (fun p => !isScript p && okScr p) = true := by decide +kernel
theorem kn_but {N : Addr → Prop} {l : Addr} {H H' : Hp} {xs : List V} (hl : H l = some (.lst xs)) (hn : ¬ N l) (b : But l H H') : Kn N H H' := fun c o h h1 _ => b c o h fun z => by
  rw [z, hl] at h
  cases h
  exact hn (z ▸ h1 _ rfl)
section
variable {K : PySem.W.Frag} {N : Addr → Prop} {σ : L2.St} {H : Hp} {te ta tb : TE} {tr : TA} {D : Ends} {P P' : HP V} {ps : List Pv}
theorem g_par {i j : Nat} (ha : G ta σ H P) (hb : G tb σ H P') (k : ∀ v w H1, Same H H1 → P v H1 → P' w H1 → D.nx ((σ.set i (some v)).set j (some w)) H1) : tPar i j (tCons ta (tCons tb tNil)) D σ H :=
  ha.ev H (Same.refl H) _ fun v H1 s1 p1 => hb.ev H1 s1 _ fun w H2 s2 p2 => ⟨v, w, rfl, k v w H2 (s1.trans s2) (ha.mn _ _ _ s2 p1) p2⟩
/-- [e for v in range(m)], e a value without lists -/
theorem g_lcR {v m : Nat} (f : Nat → Pv) (hm : m ≤ 1000) (hN : ∀ t H1, Same H H1 → H1 t = none → N t) (h : ∀ i H1, i < m → Same H H1 → G te ((σ.set v none).set v (some (.int ((0 : Int) + (i : Nat))))) H1 (At K (fun _ => False) (f i))) :
    G (tLc (iRng1 (tCons (tC (.int (m : Int))) tNil)) (gName v) tYes te [v]) σ H (At K N (.lst ((List.range m).map f))) := by
  refine ⟨fun H1 e Q q => ?_, mn_at⟩
  refine ⟨m, rfl, by omega, by omega, fun D hD => ?_⟩
  show ∃ W, _
  refine lc_it (walk_range (lo := 0) (n := m)) (fun i H' => Same H1 H' ∧ ∃ xs, H' D = some (.lst xs) ∧ AtL K (fun _ => False) ((List.range i).map f) xs H') ⟨same_new hD, [], upd_same, rfl⟩ (fun _ _ _ _ => trivial) (fun i x H2 H3 hi p y => ?_) (fun H2 p => ?_)
  · obtain ⟨s2, xs, hd, ha⟩ := p
    obtain ⟨rfl, rfl⟩ := y
    refine ⟨(List.set_set ..).trans (List.set_set ..), ?_⟩
    refine (h i _ hi (e.trans s2)).ev _ (Same.refl _) _ fun y H4 s4 py => ?_
    have kn : Kn (fun _ => False) H4 (upd H4 D (.lst (xs ++ [y]))) := Kn.lst (s4 _ _ hd) id
    refine ⟨xs, s4 _ _ hd, ?_, same_put (s2.trans s4) hD, xs ++ [y], upd_same, ?_⟩
    · rw [ha.len, List.length_map, List.length_range]
      exact Nat.lt_of_lt_of_le hi (Nat.le_trans hm (by decide))
    · rw [List.range_succ, List.map_append]
      exact (atl_kn ((Kn.same s4).trans kn) _ ha).app (AtL.one (at_kn kn _ py))
  · obtain ⟨s2, xs, hd, ha⟩ := p
    exact q _ _ s2 ⟨D, xs, rfl, hN D _ e hD, hd, atl_imp (fun _ z => z.elim) _ ha, by rw [List.length_map, List.length_range]; exact hm⟩
theorem g_tupOf (h : G te σ H (At K N (.lst ps))) : G (tCB (fun xs H Q => ∃ p ys, xs = [.ref p] ∧ ((SqL K H p ys ∧ ∀ l, H l = none → Q (.ref l) (upd H l (.tup ys))) ∨ (SqT K H p ys ∧ Q (.ref p) H))) (tCons te tNil)) σ H (At K N (.tup ps)) := ⟨fun H1 e Q q => h.ev H1 e _ fun x H2 s2 px => by
  obtain ⟨p, xs, rfl, _, hp, ha, hz⟩ := px
  exact ⟨p, xs, rfl, .inl ⟨.of hp, fun l hl => q _ _ (s2.trans (same_new hl)) ⟨l, xs, rfl, .inl (.inl upd_same), mn_atl _ _ _ (same_new hl) ha, hz⟩⟩⟩, mn_at⟩
/-- t[:1] -/
theorem g_sl1 {n : Nat} {v : V} {a : Pv} {r : List Pv} (h0 : σ[n]? = some (some v)) (hp : At K N (.tup (a :: r)) v H) (hr : 1 ≤ r.length) : G (tSl (rSlT K) (tVar n) tNoPart (tPart (tC (.int 1)))) σ H (At K N (.tup [a])) := ⟨fun H1 e Q q => by
  obtain ⟨p, xs, rfl, hx, ha, hz⟩ := mn_at _ _ _ e hp
  have hl : xs.length = r.length + 1 := ha.len
  have e1 : HT.sIx xs.length xs.length (some 1) = 1 := by rw [show HT.sIx xs.length xs.length (some 1) = min 1 xs.length from HT.sIx_nat _ _ 1]; omega
  refine ⟨_, h0, 1, rfl, p, xs, rfl, hx, fun z => by have := z.2; rw [e1] at this; omega, fun t ht => ?_⟩
  obtain ⟨x, ys, rfl, px, py⟩ := ha
  have e2 : cutV (x :: ys) none (some 1) = [x] := by
    unfold cutV
    rw [e1, HT.sIx_none]
    rfl
  rw [e2]
  exact q _ _ (same_new ht) ⟨t, [x], rfl, .inl (.inl upd_same), AtL.one (mn_at _ _ _ (same_new ht) px), Nat.le_of_ble_eq_true rfl⟩, mn_at⟩
/-- x = [..] -/
theorem st_lstP {i : Nat} (h : GL K N tr σ H ps) (hz : ps.length ≤ 1000) (k : ∀ l H1, Same H H1 → H l = none → LAt K (fun a => N a ∧ a ≠ l) ps l H1 → (∀ p v, At K N p v H → At K (fun a => N a ∧ a ≠ l) p v H1) → D.nx (σ.set i (some (.ref l))) H1) : tAsg (tLst tr) (gName i) D σ H :=
  h.ev H (Same.refl _) _ fun xs H1 s1 p1 => ⟨by rw [p1.len]; exact Nat.le_trans hz (by decide), fun l hl => by
    have s2 := s1.trans (same_new (o := .lst xs) hl)
    exact k l _ s2 (Same.free s1 hl) ⟨xs, upd_same, mn_atl _ _ _ (same_new hl) (atl_ne p1 hl)⟩ fun p v a => mn_at _ _ _ s2 (at_ne a (Same.free s1 hl))⟩
/-- for x in [..]: some.append(e) -/
theorem loop_app {v n : Nat} {l : Addr} {base ones : List Pv} {f : Pv → Pv} (X : Hp → Prop) (hX : ∀ H1 H2, X H1 → But l H1 H2 → (∃ xs, H1 l = some (.lst xs)) → X H2) (hv : v ≠ n) (hvl : v < σ.length) (h0 : σ[n]? = some (some (.ref l))) (hn : ¬ N l) (x0 : X H) (hb : LAt K N base l H) (hz : base.length + ones.length ≤ 1000)
    (ho : GL K N tr σ H ones) (ht : ∀ (x : V) (one : Pv) (σ' : L2.St) (H' : Hp), (∀ j, j ≠ v → σ'[j]? = σ[j]?) → σ'[v]? = some (some x) → X H' → (∃ xs, H' l = some (.lst xs)) → At K N one x H' → G te σ' H' (At K N (f one)))
    (k : ∀ (σ' : L2.St) (H' : Hp), σ'.length = σ.length → (∀ j, j ≠ v → σ'[j]? = σ[j]?) → X H' → LAt K N (base ++ ones.map f) l H' → D.nx σ' H') :
    tFor (iList K (tLst tr)) (gName v) (tDrop (tBM K "list" rAppend (tVar n) (tCons te tNil))) D σ H :=
  ho.ev H (Same.refl _) _ fun xs H1 s1 p1 => ⟨by rw [p1.len]; exact Nat.le_trans (Nat.le_trans (Nat.le_add_left _ _) hz) (by decide), fun lo hlo => by
    have s2 := s1.trans (same_new (o := .lst xs) hlo)
    obtain ⟨bs, hbl, hba⟩ := hb
    have hl1 := s1 _ _ hbl
    have nlo : l ≠ lo := fun z => by rw [z, hlo] at hl1; cases hl1
    refine ⟨lo, rfl, ⟨xs, .of upd_same⟩, ?_⟩
    refine for_it (walk_list (xs := xs)) (fun i σ' H' => σ'.length = σ.length ∧ (∀ j, j ≠ v → σ'[j]? = σ[j]?) ∧ X H' ∧ LAt K N (base ++ (ones.take i).map f) l H' ∧ H' lo = some (.lst xs) ∧ AtL K N ones xs H') ⟨rfl, fun _ _ => rfl, hX _ _ x0 (fun b o hb _ => s2 _ _ hb) ⟨_, hbl⟩, ⟨bs, s2 _ _ hbl, by simpa using mn_atl _ _ _ s2 hba⟩, upd_same, mn_atl _ _ _ (same_new hlo) p1⟩ (fun i σ' H' _ p => .of p.2.2.2.2.1) (fun i x σ' H2 H3 hi p y => ?_) (fun σ' H2 p => ?_)
    · obtain ⟨hlen, hσ, hx, hla, hlo', hao⟩ := p
      obtain ⟨rfl, ex⟩ := y
      obtain ⟨one, h1, px⟩ := hao.get2 ex
      have hσ2 : ∀ j, j ≠ v → (σ'.set v (some x))[j]? = σ[j]? := fun j hj => by rw [List.getElem?_set_ne (Ne.symm hj)]; exact hσ j hj
      obtain ⟨ys, hly, hay⟩ := hla
      refine st_appP (p := f one) (by rw [hσ2 n (Ne.symm hv)]; exact h0) ⟨ys, hly, hay⟩ hn ?_ (ht x one _ H3 hσ2 (List.getElem?_set_self (by rw [hlen]; exact hvl)) hx ⟨_, hly⟩ px) fun H4 b4 la4 => ?_
      · rw [List.length_append, List.length_map, List.length_take]
        omega
      · have kn := kn_but hly hn b4
        refine ⟨by rw [List.length_set]; exact hlen, hσ2, hX _ _ hx b4 ⟨_, hly⟩, ?_, b4 _ _ hlo' (fun z => by rw [← z] at hly; exact nlo z.symm), atl_kn kn _ hao⟩
        rw [List.take_succ, h1, List.map_append, ← List.append_assoc]
        exact la4
    · obtain ⟨hlen, hσ, hx, hla, _⟩ := p
      rw [p1.len, List.take_length] at hla
      exact k σ' H2 hlen hσ hx hla⟩
end
def spScripts (K : PySem.W.Frag) : Sp := fun vs H Q _ => vs = [] ∧ ∀ l H', H l = none → Same H H' → LAt K (fun a => H a = none ∧ a ≠ l) oddScripts l H' → Q (.ref l) H'
theorem inner_ok : isScript (.tup [(.tup [(.str "first"), (.str "go"), (.int 1), (.tup [])])]) = true ∧ okScr (.tup [(.tup [(.str "first"), (.str "go"), (.int 1), (.tup [])])]) = true := by decide +kernel
theorem adds_ok : isScript (.tup [(.tup [(.str "first"), (.str "go"), (.int 1), (.tup [(.tup [(.str "add"), (.str "own"), inner0])])])]) = true ∧ okScr (.tup [(.tup [(.str "first"), (.str "go"), (.int 1), (.tup [(.tup [(.str "add"), (.str "own"), inner0])])])]) = true := by decide +kernel
theorem x_name : isName (.str "x") = true ∧ Str.length "x" ≤ 1000 := by decide +kernel
section
variable {P : Program} {w : World} {K : PySem.W.Frag} {mg : Str → Option Value} {base : Heap}
theorem ok_scripts (T : Env K mg) : FnOk P w K mg base CX0 11 (d_L_scripts.loc K) T.fd_L_scripts [] (spScripts K) := by
  have G_mkS_WorkerPlan : FnK P w K mg base (L2.CX P w) 9 _ _ _ := fk_workerS T
  refine T.F_L_scripts.ok sc_L_scripts (fun vs H Q E h => ?_) (fun cdv A outer s H vs Q E hr h => ?_)
  · obtain ⟨rfl, _⟩ := h
    rfl
  · have nd := sc_L_scripts.nd
    have hu := hu_of hr
    obtain ⟨rfl, k⟩ := h
    refine ⟨_, PSs.nox (pss_cons (ps_par (i := 0) (j := 1) (by rfl) nd rfl rfl (by decide) rfl rfl (pa_cons (pe_tup (pa_cons pe_str (pa_cons pe_str (pa_cons pe_int (pa_cons (pe_tup pa_nil) pa_nil))))) (pa_cons (pe_mkKF T.mk_WorkerPlan G_mkS_WorkerPlan (hr.mono (by decide)) (by rfl) T.g_WorkerPlan passL (pa_cons pe_str pa_nil) (pk_cons (pe_tup (pa_cons (pe_tup (pa_cons pe_str (pa_cons pe_str (pa_cons pe_int (pa_cons (pe_tup pa_nil) pa_nil))))) pa_nil)) pk_nil)) pa_nil)) (by rfl))
 (pss_cons (ps_set (i := 2) nd rfl (Or.inl rfl) (pe_mkKF T.mk_WorkerPlan G_mkS_WorkerPlan (hr.mono (by decide)) (by rfl) T.g_WorkerPlan passL (pa_cons pe_str pa_nil) (pk_cons (pe_tup (pa_cons (pe_tup (pa_cons pe_str (pa_cons pe_str (pa_cons pe_int (pa_cons (pe_tup (pa_cons (pe_tup (pa_cons pe_str (pa_cons pe_str (pa_cons (pv 1) pa_nil)))) pa_nil)) pa_nil))))) pa_nil)) pk_nil)))
 (pss_cons (ps_set (i := 3) nd rfl (Or.inl rfl) (pe_callTy call_tuple_of (by rfl) T.b_tuple (by decide +kernel) (pa_cons (pe_lc (own := [("k", 4)]) (by rfl) nd (pi_range1 (by rfl) T.b_range (pa_cons pe_int pa_nil)) (blkOk_by (N := ["row", "inner", "adds", "rows", "k", "some", "one", "deed"]) (sc := defScope s_L_scripts) (by decide +kernel)) (fun _ _ _ _ _ => (pg_name (i := 4) nd rfl (Or.inl rfl))) (fun _ _ _ _ _ => pts_nil) (fun _ _ _ _ _ => (pe_tup (pa_cons pe_str (pa_cons (pe_op op_add_str pe_str (pe_callTy call_str_int (by rfl) T.b_str (by decide +kernel) (pa_cons (pv 4) pa_nil))) (pa_cons pe_int (pa_cons (pe_tup pa_nil) pa_nil))))))) pa_nil)))
 (pss_cons (ps_set (i := 5) nd rfl (Or.inl rfl) (pe_lst (pa_cons pe_non (pa_cons (pe_lst pa_nil) (pa_cons pe_str (pa_cons pe_str (pa_cons pe_int (pa_cons pe_bl (pa_cons pe_dnewK (pa_cons (pe_tup (pa_cons pe_int pa_nil)) (pa_cons (pe_tup (pa_cons pe_str pa_nil)) (pa_cons (pe_tup (pa_cons (pe_lst (pa_cons pe_str (pa_cons pe_str (pa_cons pe_int (pa_cons (pe_tup pa_nil) pa_nil))))) pa_nil)) (pa_cons (pe_tup (pa_cons (pv 0) (pa_cons (pv 0) pa_nil))) (pa_cons (pv 3) (pa_cons (pe_lst (pa_cons (pv 0) pa_nil)) pa_nil)))))))))))))))
 (pss_cons (ps_for PassesOwn.never rfl (pi_list (pe_lst (pa_cons (pe_tup (pa_cons pe_str (pa_cons pe_str (pa_cons pe_int (pa_cons (pe_tup pa_nil) pa_nil))))) (pa_cons (pe_tup (pa_cons pe_str (pa_cons pe_str (pa_cons pe_int (pa_cons (pe_tup pa_nil) pa_nil))))) (pa_cons (pe_tup (pa_cons pe_str (pa_cons pe_str (pa_cons pe_bl (pa_cons (pe_tup pa_nil) pa_nil))))) (pa_cons (pe_tup (pa_cons pe_str (pa_cons pe_str (pa_cons pe_int (pa_cons (pe_tup pa_nil) pa_nil))))) pa_nil)))))) (pg_name (i := 6) nd rfl (Or.inl rfl))
  (pss_one (ps_expr (pe_bm PySem.F.plainAttrs_list PySem.F.slot_list_append PySem.F.type_list_append mt_append (pv 5) (pa_cons (pe_tup (pa_cons (pe_op op_catT (pe_slice sl_tup (pv 0) po_none (po_some pe_int)) (pe_tup (pa_cons pe_str (pa_cons pe_int (pa_cons (pe_tup pa_nil) pa_nil))))) (pa_cons (pv 6) pa_nil))) pa_nil)))))
 (pss_cons (ps_for PassesOwn.never rfl (pi_list (pe_lst (pa_cons (pe_tup (pa_cons pe_str (pa_cons pe_str (pa_cons pe_int (pa_cons (pe_tup pa_nil) pa_nil))))) (pa_cons (pe_tup (pa_cons pe_str (pa_cons pe_str (pa_cons pe_int (pa_cons (pe_lst pa_nil) pa_nil))))) (pa_cons (pe_tup (pa_cons pe_str (pa_cons pe_str (pa_cons pe_int pa_nil)))) (pa_cons (pe_tup (pa_cons pe_str (pa_cons pe_str (pa_cons pe_int (pa_cons (pe_tup pa_nil) (pa_cons (pe_tup pa_nil) pa_nil)))))) pa_nil)))))) (pg_name (i := 6) nd rfl (Or.inl rfl))
  (pss_one (ps_expr (pe_bm PySem.F.plainAttrs_list PySem.F.slot_list_append PySem.F.type_list_append mt_append (pv 5) (pa_cons (pe_tup (pa_cons (pv 6) pa_nil)) pa_nil)))))
 (pss_cons (ps_for PassesOwn.never rfl (pi_list (pe_lst (pa_cons (pe_tup (pa_cons pe_str (pa_cons pe_str pa_nil))) (pa_cons (pe_tup (pa_cons pe_str pa_nil)) (pa_cons (pe_tup (pa_cons pe_str (pa_cons pe_str pa_nil))) (pa_cons (pe_lst (pa_cons pe_str (pa_cons pe_str pa_nil))) (pa_cons (pe_tup (pa_cons pe_str (pa_cons pe_str (pa_cons (pv 2) pa_nil)))) (pa_cons pe_str pa_nil)))))))) (pg_name (i := 7) nd rfl (Or.inl rfl))
  (pss_one (ps_expr (pe_bm PySem.F.plainAttrs_list PySem.F.slot_list_append PySem.F.type_list_append mt_append (pv 5) (pa_cons (pe_tup (pa_cons (pe_tup (pa_cons pe_str (pa_cons pe_str (pa_cons pe_int (pa_cons (pe_tup (pa_cons (pe_tup (pa_cons pe_str (pa_cons pe_str pa_nil))) (pa_cons (pv 7) pa_nil))) pa_nil))))) pa_nil)) pa_nil)))))
 (pss_cons (ps_expr (pe_bm PySem.F.plainAttrs_list PySem.F.slot_list_append PySem.F.type_list_append mt_append (pv 5) (pa_cons (pe_tup (pa_cons (pe_tup (pa_cons pe_str (pa_cons pe_str (pa_cons pe_int (pa_cons (pe_op op_repT (pe_tup (pa_cons (pe_tup (pa_cons pe_str (pa_cons pe_str pa_nil))) pa_nil)) pe_int) pa_nil))))) pa_nil)) pa_nil)))
 (pss_one (ps_ret (pv 5))))))))))), ?_⟩
    have hN : ∀ {H0 : Hp}, Same H H0 → ∀ t H1, Same H0 H1 → H1 t = none → H t = none := fun s0 t H1 s1 h1 => Same.free (s0.trans s1) h1
    refine g_par (P := At K (fun a => H a = none) row0) (P' := At K (fun a => H a = none) inner0) (g_tupP (gl_cons (g_str (Nat.le_of_ble_eq_true rfl)) (gl_cons (g_str (Nat.le_of_ble_eq_true rfl)) (gl_cons g_int (gl_cons (g_tupP gl_nil (Nat.le_of_ble_eq_true rfl)) gl_nil)))) (Nat.le_of_ble_eq_true rfl)) (g_mkWs x_name (g_tupP (gl_cons (g_tupP (gl_cons (g_str (Nat.le_of_ble_eq_true rfl)) (gl_cons (g_str (Nat.le_of_ble_eq_true rfl)) (gl_cons g_int (gl_cons (g_tupP gl_nil (Nat.le_of_ble_eq_true rfl)) gl_nil)))) (Nat.le_of_ble_eq_true rfl)) gl_nil) (Nat.le_of_ble_eq_true rfl)) inner_ok) fun v0 v1 H1 s1 p0 p1 => ?_
    dsimp only
    show tSeq _ _ _ _ _
    refine g_asg (P := At K (fun a => H a = none) adds0) (g_mkWs x_name (g_tupP (gl_cons (g_tupP (gl_cons (g_str (Nat.le_of_ble_eq_true rfl)) (gl_cons (g_str (Nat.le_of_ble_eq_true rfl)) (gl_cons g_int (gl_cons (g_tupP (gl_cons (g_tupP (gl_cons (g_str (Nat.le_of_ble_eq_true rfl)) (gl_cons (g_str (Nat.le_of_ble_eq_true rfl)) (gl_cons (g_varA rfl p1) gl_nil))) (Nat.le_of_ble_eq_true rfl)) gl_nil) (Nat.le_of_ble_eq_true rfl)) gl_nil)))) (Nat.le_of_ble_eq_true rfl)) gl_nil) (Nat.le_of_ble_eq_true rfl)) adds_ok) fun v2 H2 s2 p2 => ?_
    dsimp only
    show tSeq _ _ _ _ _
    refine g_asg (P := At K (fun a => H a = none) rows31) (g_tupOf (g_lcR rowK (by decide) (fun t H1' s h => hN (s1.trans s2) t _ s h) fun i H3 hi s3 => ?_)) fun v3 H3 s3 p3 => ?_
    · have hlen : ∀ i : Fin 31, (("w" : Str) ++ numS ((0 : Int) + (i.val : Nat))).length ≤ 1000 := by decide +kernel
      have hlog : ∀ i : Fin 31, ((0 : Int) + (i.val : Nat)).natAbs.log2 < 1920 := by decide +kernel
      have hsz : ∀ i : Fin 31, Str.length "w" + (numS ((0 : Int) + (i.val : Nat))).length ≤ sizeLine := by decide +kernel
      refine g_tupP (gl_cons (g_str (Nat.le_of_ble_eq_true rfl)) (gl_cons (g_evS (fun H4 s4 Q4 q4 => ?_) (hlen ⟨i, hi⟩)) (gl_cons g_int (gl_cons (g_tupP gl_nil (Nat.le_of_ble_eq_true rfl)) gl_nil)))) (Nat.le_of_ble_eq_true rfl)
      refine ⟨_, rfl, ⟨_, rfl, (hlog ⟨i, hi⟩), _, _, rfl, rfl, hsz ⟨i, hi⟩, q4⟩⟩
    dsimp only
    show tSeq _ _ _ _ _
    have s3' := (s1.trans s2).trans s3
    have p0' := mn_at _ _ _ (s2.trans s3) p0
    have p2' := mn_at _ _ _ s3 p2
    clear p0 p1 p2
    have hN3 := hN s3'
    refine st_lstP (N := fun a => H a = none) (ps := some0) (by
      have hN := hN3
      exact (gl_cons g_non (gl_cons (g_lstP hN gl_nil (Nat.le_of_ble_eq_true rfl)) (gl_cons (g_str (Nat.le_of_ble_eq_true rfl)) (gl_cons (g_str (Nat.le_of_ble_eq_true rfl)) (gl_cons g_int (gl_cons g_bl (gl_cons (g_dicP hN) (gl_cons (g_tupP (gl_cons g_int gl_nil) (Nat.le_of_ble_eq_true rfl)) (gl_cons (g_tupP (gl_cons (g_str (Nat.le_of_ble_eq_true rfl)) gl_nil) (Nat.le_of_ble_eq_true rfl)) (gl_cons (g_tupP (gl_cons (g_lstP hN (gl_cons (g_str (Nat.le_of_ble_eq_true rfl)) (gl_cons (g_str (Nat.le_of_ble_eq_true rfl)) (gl_cons g_int (gl_cons (g_tupP gl_nil (Nat.le_of_ble_eq_true rfl)) gl_nil)))) (Nat.le_of_ble_eq_true rfl)) gl_nil) (Nat.le_of_ble_eq_true rfl)) (gl_cons (g_tupP (gl_cons (g_varA rfl p0') (gl_cons (g_varA rfl p0') gl_nil)) (Nat.le_of_ble_eq_true rfl)) (gl_cons (g_varA rfl p3) (gl_cons (g_lstP hN (gl_cons (g_varA rfl p0') gl_nil) (Nat.le_of_ble_eq_true rfl)) gl_nil)))))))))))))) (by decide) fun l H5 s5 hl3 p5 kp => ?_
    have q0 := kp _ _ p0'
    have q2 := kp _ _ p2'
    have S5 := s3'.trans s5
    have hl0 : H l = none := Same.free s3' hl3
    have hnl : ¬ (fun a => H a = none ∧ a ≠ l) l := fun z => z.2 rfl
    clear p0' p2' p3 kp hN3
    dsimp only
    show tSeq _ _ _ _ _
    have hNl : ∀ {H0 : Hp}, Same H H0 → (∃ xs, H0 l = some (.lst xs)) → ∀ t H1, Same H0 H1 → H1 t = none → H t = none ∧ t ≠ l := fun s0 ⟨xs, hx⟩ t H1 s1 h1 => ⟨Same.free (s0.trans s1) h1, fun z => by rw [z, s1 _ _ hx] at h1; cases h1⟩
    have XB : ∀ H1 H2 : Hp, (Same H H1 ∧ At K (fun a => H a = none ∧ a ≠ l) row0 v0 H1 ∧ At K (fun a => H a = none ∧ a ≠ l) adds0 v2 H1) → But l H1 H2 → (∃ xs, H1 l = some (.lst xs)) → (Same H H2 ∧ At K (fun a => H a = none ∧ a ≠ l) row0 v0 H2 ∧ At K (fun a => H a = none ∧ a ≠ l) adds0 v2 H2) := fun H1 H2 ⟨a, b, c⟩ bu ⟨xs, hx⟩ =>
      ⟨fun d o hd => bu d o (a _ _ hd) (fun z => by rw [z, hl0] at hd; cases hd), at_kn (kn_but hx hnl bu) _ b, at_kn (kn_but hx hnl bu) _ c⟩
    refine loop_app (v := 6) (n := 5) (l := l) (base := some0) (ones := ones1) (f := with1) (fun H' => Same H H' ∧ At K (fun a => H a = none ∧ a ≠ l) row0 v0 H' ∧ At K (fun a => H a = none ∧ a ≠ l) adds0 v2 H') XB (by decide) (Nat.le_of_ble_eq_true rfl) rfl hnl ⟨S5, q0, q2⟩ p5 (by decide) (by
      have hN := hNl S5 ⟨_, p5.choose_spec.1⟩
      exact (gl_cons (g_tupP (gl_cons (g_str (Nat.le_of_ble_eq_true rfl)) (gl_cons (g_str (Nat.le_of_ble_eq_true rfl)) (gl_cons g_int (gl_cons (g_tupP gl_nil (Nat.le_of_ble_eq_true rfl)) gl_nil)))) (Nat.le_of_ble_eq_true rfl)) (gl_cons (g_tupP (gl_cons (g_str (Nat.le_of_ble_eq_true rfl)) (gl_cons (g_str (Nat.le_of_ble_eq_true rfl)) (gl_cons g_int (gl_cons (g_tupP gl_nil (Nat.le_of_ble_eq_true rfl)) gl_nil)))) (Nat.le_of_ble_eq_true rfl)) (gl_cons (g_tupP (gl_cons (g_str (Nat.le_of_ble_eq_true rfl)) (gl_cons (g_str (Nat.le_of_ble_eq_true rfl)) (gl_cons g_bl (gl_cons (g_tupP gl_nil (Nat.le_of_ble_eq_true rfl)) gl_nil)))) (Nat.le_of_ble_eq_true rfl)) (gl_cons (g_tupP (gl_cons (g_str (Nat.le_of_ble_eq_true rfl)) (gl_cons (g_str (Nat.le_of_ble_eq_true rfl)) (gl_cons g_int (gl_cons (g_tupP gl_nil (Nat.le_of_ble_eq_true rfl)) gl_nil)))) (Nat.le_of_ble_eq_true rfl)) gl_nil))))) (fun x one σ' H' hσ hv ⟨a, b, c⟩ hl' px => ?_) fun σ6 H6 len6 hσ6 ⟨S6, r0, r2⟩ p6 => ?_
    · have h0 : σ'[0]? = some (some v0) := hσ 0 (by decide)
      exact g_tupP (gl_cons (g_catT (g_sl1 h0 b (by decide)) (ps := [.str "first"]) (qs := [.str "way", .int 1, .tup []]) (g_tupP (gl_cons (g_str (Nat.le_of_ble_eq_true rfl)) (gl_cons g_int (gl_cons (g_tupP gl_nil (Nat.le_of_ble_eq_true rfl)) gl_nil))) (Nat.le_of_ble_eq_true rfl)) (by decide) (by decide)) (gl_cons (g_varA hv px) gl_nil)) (Nat.le_of_ble_eq_true rfl)
    show tSeq _ _ _ _ _
    refine loop_app (v := 6) (n := 5) (l := l) (base := some0 ++ ones1.map with1) (ones := ones2) (f := with2) (fun H' => Same H H' ∧ At K (fun a => H a = none ∧ a ≠ l) row0 v0 H' ∧ At K (fun a => H a = none ∧ a ≠ l) adds0 v2 H') XB (by decide) (by rw [len6]; exact Nat.le_of_ble_eq_true rfl) (hσ6 5 (by decide)) hnl ⟨S6, r0, r2⟩ p6 (by decide) (by
      have hN := hNl S6 ⟨_, p6.choose_spec.1⟩
      exact (gl_cons (g_tupP (gl_cons (g_str (Nat.le_of_ble_eq_true rfl)) (gl_cons (g_str (Nat.le_of_ble_eq_true rfl)) (gl_cons g_int (gl_cons (g_tupP gl_nil (Nat.le_of_ble_eq_true rfl)) gl_nil)))) (Nat.le_of_ble_eq_true rfl)) (gl_cons (g_tupP (gl_cons (g_str (Nat.le_of_ble_eq_true rfl)) (gl_cons (g_str (Nat.le_of_ble_eq_true rfl)) (gl_cons g_int (gl_cons (g_lstP hN gl_nil (Nat.le_of_ble_eq_true rfl)) gl_nil)))) (Nat.le_of_ble_eq_true rfl)) (gl_cons (g_tupP (gl_cons (g_str (Nat.le_of_ble_eq_true rfl)) (gl_cons (g_str (Nat.le_of_ble_eq_true rfl)) (gl_cons g_int gl_nil))) (Nat.le_of_ble_eq_true rfl)) (gl_cons (g_tupP (gl_cons (g_str (Nat.le_of_ble_eq_true rfl)) (gl_cons (g_str (Nat.le_of_ble_eq_true rfl)) (gl_cons g_int (gl_cons (g_tupP gl_nil (Nat.le_of_ble_eq_true rfl)) (gl_cons (g_tupP gl_nil (Nat.le_of_ble_eq_true rfl)) gl_nil))))) (Nat.le_of_ble_eq_true rfl)) gl_nil))))) (fun x one σ' H' hσ hv ⟨a, b, c⟩ hl' px => g_tupP (gl_cons (g_varA hv px) gl_nil) (Nat.le_of_ble_eq_true rfl)) fun σ7 H7 len7 hσ7 ⟨S7, t0, t2⟩ p7 => ?_
    show tSeq _ _ _ _ _
    have g7 : ∀ j, j ≠ 6 → σ7[j]? = _ := fun j hj => (hσ7 j hj).trans (hσ6 j hj)
    refine loop_app (v := 7) (n := 5) (l := l) (base := (some0 ++ ones1.map with1) ++ ones2.map with2) (ones := deeds0) (f := with3) (fun H' => Same H H' ∧ At K (fun a => H a = none ∧ a ≠ l) row0 v0 H' ∧ At K (fun a => H a = none ∧ a ≠ l) adds0 v2 H') XB (by decide) (by rw [len7, len6]; exact Nat.le_of_ble_eq_true rfl) (g7 5 (by decide)) hnl ⟨S7, t0, t2⟩ p7 (by decide) (by
      have hN := hNl S7 ⟨_, p7.choose_spec.1⟩
      exact (gl_cons (g_tupP (gl_cons (g_str (Nat.le_of_ble_eq_true rfl)) (gl_cons (g_str (Nat.le_of_ble_eq_true rfl)) gl_nil)) (Nat.le_of_ble_eq_true rfl)) (gl_cons (g_tupP (gl_cons (g_str (Nat.le_of_ble_eq_true rfl)) gl_nil) (Nat.le_of_ble_eq_true rfl)) (gl_cons (g_tupP (gl_cons (g_str (Nat.le_of_ble_eq_true rfl)) (gl_cons (g_str (Nat.le_of_ble_eq_true rfl)) gl_nil)) (Nat.le_of_ble_eq_true rfl)) (gl_cons (g_lstP hN (gl_cons (g_str (Nat.le_of_ble_eq_true rfl)) (gl_cons (g_str (Nat.le_of_ble_eq_true rfl)) gl_nil)) (Nat.le_of_ble_eq_true rfl)) (gl_cons (g_tupP (gl_cons (g_str (Nat.le_of_ble_eq_true rfl)) (gl_cons (g_str (Nat.le_of_ble_eq_true rfl)) (gl_cons (g_varA (g7 2 (by decide)) t2) gl_nil))) (Nat.le_of_ble_eq_true rfl)) (gl_cons (g_str (Nat.le_of_ble_eq_true rfl)) gl_nil))))))) (fun x one σ' H' hσ hv ⟨a, b, c⟩ hl' px => (g_tupP (gl_cons (g_tupP (gl_cons (g_str (Nat.le_of_ble_eq_true rfl)) (gl_cons (g_str (Nat.le_of_ble_eq_true rfl)) (gl_cons g_int (gl_cons (g_tupP (gl_cons (g_tupP (gl_cons (g_str (Nat.le_of_ble_eq_true rfl)) (gl_cons (g_str (Nat.le_of_ble_eq_true rfl)) gl_nil)) (Nat.le_of_ble_eq_true rfl)) (gl_cons (g_varA hv px) gl_nil)) (Nat.le_of_ble_eq_true rfl)) gl_nil)))) (Nat.le_of_ble_eq_true rfl)) gl_nil) (Nat.le_of_ble_eq_true rfl))) fun σ8 H8 len8 hσ8 ⟨S8, u0, u2⟩ p8 => ?_
    show tSeq _ _ _ _ _
    refine st_appP ((hσ8 5 (by decide)).trans (g7 5 (by decide))) p8 hnl (by decide) (p := last0) (g_tupP (gl_cons (g_tupP (gl_cons (g_str (Nat.le_of_ble_eq_true rfl)) (gl_cons (g_str (Nat.le_of_ble_eq_true rfl)) (gl_cons g_int (gl_cons (g_repP (g_tupP (gl_cons (g_tupP (gl_cons (g_str (Nat.le_of_ble_eq_true rfl)) (gl_cons (g_str (Nat.le_of_ble_eq_true rfl)) gl_nil)) (Nat.le_of_ble_eq_true rfl)) gl_nil) (Nat.le_of_ble_eq_true rfl)) (by decide) (Nat.le_of_ble_eq_true rfl)) gl_nil)))) (Nat.le_of_ble_eq_true rfl)) gl_nil) (Nat.le_of_ble_eq_true rfl)) fun H9 b9 p9 => ?_
    refine ⟨_, (hσ8 5 (by decide)).trans (g7 5 (by decide)), ?_⟩
    exact k l H9 hl0 (fun d o hd => b9 d o (S8 _ _ hd) fun z => by rw [z, hl0] at hd; cases hd) p9
end
end W02

set_option Elab.async false
set_option linter.all false
set_option maxRecDepth 100000
set_option maxHeartbeats 1000000
namespace W02
open PySem PySem.Spec PyProof.Rows L2 WXG WEv WRd WLf WEn WZs WRu WSt StX WDc WPv WEb WXO WXE WKd WGp
/-! ### values of settings -/
inductive Fd where
  | name | restart | strategy | script | most | span | refused | deadline | opening | closing
deriving DecidableEq
def Fd.str : Fd → Str
  | .name => "name" | .restart => "restart" | .strategy => "strategy" | .script => "script" | .most => "most" | .span => "span" | .refused => "refused" | .deadline => "deadline" | .opening => "opening" | .closing => "closing"
def valid : Fd → Pv → Bool
  | .name => isName | .restart => isOneOf restarts | .strategy => isOneOf strategies | .script => isScript | .most => isBetween 0 20 | .span => isBetween 1 1000000000 | .refused => isBetween 0 100 | .deadline => isDeadline | .opening => isBetween 0 1000000000 | .closing => isBetween 0 1000000000
def odd1 : List Pv := [.non, (.int 5), (.bl true), (.str ""), (.str "A"), (.str "aB"), (.str "1a"), (.str "_a"), (.str "a b"), (.str "a-b"), (.str (repS "a" 21)), (.str "own"), (.str "sender"), (.str "about"), (.lst [(.str "a")])]
def odd2 : List Pv := [(.tup [(.str "a")]), (.str "a\n"), .dic, (.str " a")]
def oddT : List Pv := [(.int ((0 : Int) - (1 : Int))), (.int ((10 : Int) ^ (9 : Int).toNat + (1 : Int))), (.bl true), (.bl false), (.str "0"), (.lst [(.int 0)]), (.tup []), (.int ((10 : Int) ^ (20 : Int).toNat)), (.str "-"), .dic]
def odd_restart : List Pv := [(.str "Permanent"), (.str ""), .non, (.bl true), (.int 1), (.lst [(.str "permanent")]), (.str "perm"), (.str "one"), (.tup [(.str "permanent")]), .dic]
def odd_strategy : List Pv := [(.str "One"), (.str ""), .non, (.bl true), (.int 0), (.lst [(.str "one")]), (.str "permanent"), (.tup [(.str "one")]), (.str "on")]
def odd_most : List Pv := [(.int ((0 : Int) - (1 : Int))), (.int 21), (.bl true), (.bl false), .non, (.str "1"), (.lst [(.int 1)]), (.int ((10 : Int) ^ (20 : Int).toNat))]
def odd_span : List Pv := [(.int 0), (.int ((0 : Int) - (1 : Int))), (.int ((10 : Int) ^ (9 : Int).toNat + (1 : Int))), (.bl true), (.bl false), .non, (.str "10"), (.int ((10 : Int) ^ (20 : Int).toNat)), (.tup [])]
def odd_refused : List Pv := [(.int ((0 : Int) - (1 : Int))), (.int 101), (.bl true), (.bl false), .non, (.str "1"), (.lst [(.int 1)]), (.int ((10 : Int) ^ (20 : Int).toNat))]
def oddPs : Fd → List Pv
  | .name => odd1 ++ odd2 | .restart => odd_restart | .strategy => odd_strategy | .script => oddScripts | .most => odd_most | .span => odd_span | .refused => odd_refused | .deadline => oddT | .opening => oddT ++ [.non] | .closing => oddT ++ [.non]
def goodPs : Fd → List Pv
  | .name => [(.str "a"), (.str "z_9"), (.str "abcdefghij_123456789"), (.str "owner"), (.str "own_")]
  | .restart => [(.str "permanent"), (.str "transient"), (.str "temporary")]
  | .strategy => [(.str "one"), (.str "rest"), (.str "all")]
  | .script => [(.tup []), (.tup [(.tup [(.str "first"), (.str "start"), (.int 1000), (.tup (List.replicate 8 [(.tup [(.str "note"), (.str "x")])]).flatten)])])]
  | .most => [(.int 0), (.int 20), (.int 7)]
  | .span => [(.int 1), (.int ((10 : Int) ^ (9 : Int).toNat)), (.int 12)]
  | .refused => [(.int 0), (.int 100), (.int 3)]
  | .deadline => [(.int 0), (.int ((10 : Int) ^ (9 : Int).toNat)), (.int 44), .non]
  | .opening => [(.int 0), (.int ((10 : Int) ^ (9 : Int).toNat)), (.int 44), (.int 1)]
  | .closing => [(.int 0), (.int ((10 : Int) ^ (9 : Int).toNat)), (.int 44), (.int 1)]
theorem odd_bad (f : Fd) : (oddPs f).all (fun p => !valid f p) = true := by cases f <;> decide +kernel
theorem good_ok (f : Fd) : (goodPs f).all (fun p => valid f p) = true := by cases f <;> decide +kernel
theorem odd_scr : (oddPs .script).all okScr = true := by decide +kernel
theorem good_scr : (goodPs .script).all okScr = true := by decide +kernel
def spOdd (K : PySem.W.Frag) : Sp := fun vs H Q _ => ∃ f : Fd, vs = [.str f.str] ∧ ∀ l H', Same H H' → LAt K (fun a => H a = none) (oddPs f) l H' → Q (.ref l) H'
def spGood (K : PySem.W.Frag) (S : Addr × List Int) : Sp := fun vs H Q _ => ∃ (f : Fd) (m : Addr) (a c : Nat), vs = [.ref m, .str f.str] ∧ SrcAt K S H m a c ∧ a ≤ 100000 ∧ ∀ p v H', p ∈ goodPs f → At K (fun _ => False) p v H' → But m H H' → SrcAt K S H' m (a + 1) c → Q v H'
section
variable {K : PySem.W.Frag} {S : Addr × List Int} {N : Addr → Prop} {σ : L2.St} {H : Hp} {tr : TA} {ps : List Pv} {m : Addr} {a c : Nat}
theorem SrcAt.same {H' : Hp} (h : SrcAt K S H m a c) (s : Same H H') : SrcAt K S H' m a c := by
  obtain ⟨s0, cs, k, l, hm, hs, r⟩ := h
  exact ⟨s0, cs, k, l, s _ _ hm, s.seq hs, r⟩
theorem SrcAt.dict {H : Hp} (h : SrcAt K S H m a c) : ∃ kvs, H m = some (.dK kvs) ∧ kvs.length = 3 := by
  obtain ⟨s0, cs, k, l, hm, _⟩ := h
  exact ⟨_, hm, rfl⟩
theorem kn_butm {H H' : Hp} (h : SrcAt K S H m a c) (hn : ¬ N m) (b : But m H H') : Kn N H H' := fun d o e _ h2 => b d o e fun z => by
  obtain ⟨kvs, hm, _⟩ := h.dict
  rw [z, hm] at e
  cases e
  exact hn (z ▸ h2 _ rfl)
/-- _law_of(m, [..]) -/
theorem of_l {E : XK} {i : Nat} {Q : VK} (hm : σ[i]? = some (some (.ref m))) (hl : GL K N tr σ H ps) (hne : ps ≠ []) (hz : ps.length ≤ 1000) (hS : SrcAt K S H m a c) (ha : a ≤ 100000) (hn : ¬ N m) (k : ∀ p v H', p ∈ ps → At K N p v H' → But m H H' → SrcAt K S H' m (a + 1) c → Q v H') :
    tCall (spOf K S) [] E (tCons (tVar i) (tCons (tLst tr) tNil)) σ H Q := by
  refine ⟨_, hm, hl.ev H (Same.refl _) _ fun xs H1 s1 p1 => ⟨by rw [p1.len]; exact Nat.le_trans hz (by decide), fun l hl0 => ?_⟩⟩
  have s2 := s1.trans (same_new (o := .lst xs) hl0)
  have p2 := mn_atl _ _ _ (same_new (o := .lst xs) hl0) p1
  have hS2 := hS.same s2
  obtain ⟨kvs, hm1, _⟩ := (hS.same s1).dict
  refine ⟨m, l, xs, a, c, rfl, upd_same, fun z => hne (List.length_eq_zero_iff.mp (by rw [← p1.len, z]; rfl)), by rw [p1.len]; exact hz, hS2, ha, (fun z => by rw [z, hm1] at hl0; cases hl0), fun v H' hv b hS' => ?_⟩
  obtain ⟨i, hi, rfl⟩ := List.getElem_of_mem hv
  obtain ⟨p, hp, px⟩ := p2.get2 (List.getElem?_eq_getElem hi)
  exact k p _ H' (List.mem_of_getElem? hp) (at_kn (kn_butm hS2 hn b) _ px) (fun d o hd ne => b d o (s2 _ _ hd) ne) hS'
theorem evb_str {n : Nat} {x y : Str} {b : Bool} (h0 : σ[n]? = some (some (.str x))) (h : decide (V.str x = V.str y) = b) : EvB (tTest (tOp rEq (tVar n) (tC (.str y)))) σ H b := evb_eqF (ev_var h0) ev_c rfl h
end
theorem g_ifY {K : PySem.W.Frag} {N : Addr → Prop} {σ : L2.St} {H : Hp} {tt : TT} {ta tb : TE} {p : Pv} (ht : ∀ H1, Same H H1 → EvB tt σ H1 true) (ha : G ta σ H (At K N p)) : G (tIf tt ta tb) σ H (At K N p) := ⟨fun H1 e Q q => ht H1 e _ (ha.ev H1 e Q q), mn_at⟩
theorem g_ifNo {K : PySem.W.Frag} {N : Addr → Prop} {σ : L2.St} {H : Hp} {tt : TT} {ta tb : TE} {p : Pv} (ht : ∀ H1, Same H H1 → EvB tt σ H1 false) (ha : G tb σ H (At K N p)) : G (tIf tt ta tb) σ H (At K N p) := ⟨fun H1 e Q q => ht H1 e _ (ha.ev H1 e Q q), mn_at⟩
theorem st_ifv {σ : L2.St} {H : Hp} {tt : TT} {ta tb : TE} {Q : VK} (h : EvB tt σ H true) (k : ta σ H Q) : tIf tt ta tb σ H Q := h _ k
theorem st_ifn {σ : L2.St} {H : Hp} {tt : TT} {ta tb : TE} {D : Ends} (h : EvB tt σ H false) (k : tRet tb D σ H) : tRet (tIf tt ta tb) D σ H := h _ k
section
variable {P : Program} {w : World} {K : PySem.W.Frag} {S : Addr × List Int} {mg : Str → Option Value} {base : Heap}
theorem ok_odd (T : Env K mg) : FnOk P w K mg base CX0 12 (d_L_odd.loc K) T.fd_L_odd ["field"] (spOdd K) := by
  have G_L_scripts : FnOk P w K mg base CX0 11 _ _ _ _ := ok_scripts T
  refine T.F_L_odd.ok sc_L_odd (fun vs H Q E h => ?_) (fun cdv A outer s H vs Q E hr h => ?_)
  · obtain ⟨f, rfl, _⟩ := h
    rfl
  · have nd := sc_L_odd.nd
    have hu := hu_of hr
    obtain ⟨f, rfl, k⟩ := h
    refine ⟨_, PSs.nox (pss_cons (ps_if (pt_cmpR op_eq (pv 0) pe_str (nomark _))
  (pss_cons (ps_set (i := 1) nd rfl (Or.inl rfl) (pe_lst (pa_cons pe_non (pa_cons pe_int (pa_cons pe_bl (pa_cons pe_str (pa_cons pe_str (pa_cons pe_str (pa_cons pe_str (pa_cons pe_str (pa_cons pe_str (pa_cons pe_str (pa_cons (pe_op op_mulS pe_str pe_int) (pa_cons pe_str (pa_cons pe_str (pa_cons pe_str (pa_cons (pe_lst (pa_cons pe_str pa_nil)) pa_nil)))))))))))))))))
 (pss_one (ps_ret (pe_op op_cat (pv 1) (pe_lst (pa_cons (pe_tup (pa_cons pe_str pa_nil)) (pa_cons pe_str (pa_cons pe_dnewK (pa_cons pe_str pa_nil)))))))))
  pss_nil)
 (pss_cons (ps_if (pt_cmpR op_eq (pv 0) pe_str (nomark _))
  (pss_one (ps_ret (pe_lst (pa_cons pe_str (pa_cons pe_str (pa_cons pe_non (pa_cons pe_bl (pa_cons pe_int (pa_cons (pe_lst (pa_cons pe_str pa_nil)) (pa_cons pe_str (pa_cons pe_str (pa_cons (pe_tup (pa_cons pe_str pa_nil)) (pa_cons pe_dnewK pa_nil)))))))))))))
  pss_nil)
 (pss_cons (ps_if (pt_cmpR op_eq (pv 0) pe_str (nomark _))
  (pss_one (ps_ret (pe_lst (pa_cons pe_str (pa_cons pe_str (pa_cons pe_non (pa_cons pe_bl (pa_cons pe_int (pa_cons (pe_lst (pa_cons pe_str pa_nil)) (pa_cons pe_str (pa_cons (pe_tup (pa_cons pe_str pa_nil)) (pa_cons pe_str pa_nil))))))))))))
  pss_nil)
 (pss_cons (ps_if (pt_cmpR op_eq (pv 0) pe_str (nomark _))
  (pss_one (ps_ret (pe_call0 G_L_scripts (hr.mono (by decide)) (by rfl) T.g__law_scripts T.F_L_scripts.kp T.bi_L_scripts .nil pass0)))
  pss_nil)
 (pss_cons (ps_if (pt_cmpR op_eq (pv 0) pe_str (nomark _))
  (pss_one (ps_ret (pe_lst (pa_cons (pe_op op_sub pe_int pe_int) (pa_cons pe_int (pa_cons pe_bl (pa_cons pe_bl (pa_cons pe_non (pa_cons pe_str (pa_cons (pe_lst (pa_cons pe_int pa_nil)) (pa_cons (pe_op op_pow pe_int pe_int) pa_nil)))))))))))
  pss_nil)
 (pss_cons (ps_if (pt_cmpR op_eq (pv 0) pe_str (nomark _))
  (pss_one (ps_ret (pe_lst (pa_cons pe_int (pa_cons (pe_op op_sub pe_int pe_int) (pa_cons (pe_op op_add (pe_op op_pow pe_int pe_int) pe_int) (pa_cons pe_bl (pa_cons pe_bl (pa_cons pe_non (pa_cons pe_str (pa_cons (pe_op op_pow pe_int pe_int) (pa_cons (pe_tup pa_nil) pa_nil))))))))))))
  pss_nil)
 (pss_cons (ps_if (pt_cmpR op_eq (pv 0) pe_str (nomark _))
  (pss_one (ps_ret (pe_lst (pa_cons (pe_op op_sub pe_int pe_int) (pa_cons pe_int (pa_cons pe_bl (pa_cons pe_bl (pa_cons pe_non (pa_cons pe_str (pa_cons (pe_lst (pa_cons pe_int pa_nil)) (pa_cons (pe_op op_pow pe_int pe_int) pa_nil)))))))))))
  pss_nil)
 (pss_cons (ps_set (i := 1) nd rfl (Or.inl rfl) (pe_lst (pa_cons (pe_op op_sub pe_int pe_int) (pa_cons (pe_op op_add (pe_op op_pow pe_int pe_int) pe_int) (pa_cons pe_bl (pa_cons pe_bl (pa_cons pe_str (pa_cons (pe_lst (pa_cons pe_int pa_nil)) (pa_cons (pe_tup pa_nil) (pa_cons (pe_op op_pow pe_int pe_int) (pa_cons pe_str (pa_cons pe_dnewK pa_nil))))))))))))
 (pss_one (ps_ret (pe_ifExp (pt_cmpR op_eq (pv 0) pe_str (nomark _)) (pv 1) (pe_op op_cat (pv 1) (pe_lst (pa_cons pe_non pa_nil)))))))))))))), ?_⟩
    have hN : ∀ t H1, Same H H1 → H1 t = none → (fun a => H a = none) t := fun t H1 s h => Same.free s h
    have fin : ∀ v H1, Same H H1 → At K (fun a => H a = none) (.lst (oddPs f)) v H1 → Q v H1 := fun v H1 s a => by
      obtain ⟨l, xs, rfl, _, hl, ha, _⟩ := a
      exact k l H1 s ⟨xs, hl, ha⟩
    cases f with
    | name =>
      refine st_ya (evb_str rfl (by decide +kernel)) ?_
      refine g_asg (P := At K (fun a => H a = none) (.lst odd1)) (g_lstP hN (gl_cons g_non (gl_cons g_int (gl_cons g_bl (gl_cons (g_str (Nat.le_of_ble_eq_true rfl)) (gl_cons (g_str (Nat.le_of_ble_eq_true rfl)) (gl_cons (g_str (Nat.le_of_ble_eq_true rfl)) (gl_cons (g_str (Nat.le_of_ble_eq_true rfl)) (gl_cons (g_str (Nat.le_of_ble_eq_true rfl)) (gl_cons (g_str (Nat.le_of_ble_eq_true rfl)) (gl_cons (g_str (Nat.le_of_ble_eq_true rfl)) (gl_cons (g_mulS (z := "a") (k := 21) (Nat.le_of_ble_eq_true rfl) (Nat.le_of_ble_eq_true rfl) (Nat.le_of_ble_eq_true rfl)) (gl_cons (g_str (Nat.le_of_ble_eq_true rfl)) (gl_cons (g_str (Nat.le_of_ble_eq_true rfl)) (gl_cons (g_str (Nat.le_of_ble_eq_true rfl)) (gl_cons (g_lstP hN (gl_cons (g_str (Nat.le_of_ble_eq_true rfl)) gl_nil) (Nat.le_of_ble_eq_true rfl)) gl_nil))))))))))))))) (Nat.le_of_ble_eq_true rfl)) fun v H1 s1 p1 => ?_
      dsimp only
      show tRet _ _ _ _
      have hN1 : ∀ t H2, Same H1 H2 → H2 t = none → (fun a => H a = none) t := fun t H2 s h => Same.free (s1.trans s) h
      refine g_ret (g_catL (g_varA rfl p1) (by
        have hN := hN1
        exact (g_lstP hN (gl_cons (g_tupP (gl_cons (g_str (Nat.le_of_ble_eq_true rfl)) gl_nil) (Nat.le_of_ble_eq_true rfl)) (gl_cons (g_str (Nat.le_of_ble_eq_true rfl)) (gl_cons (g_dicP hN) (gl_cons (g_str (Nat.le_of_ble_eq_true rfl)) gl_nil)))) (Nat.le_of_ble_eq_true rfl))) hN1 (Nat.le_of_ble_eq_true rfl)) fun v H2 s2 p2 => fin v H2 (s1.trans s2) p2
    | restart =>
      refine st_nn (evb_str rfl (by decide +kernel)) ?_
      show tSeq _ _ _ _ _
      refine st_ya (evb_str rfl (by decide +kernel)) ?_
      exact g_ret (g_lstP hN (gl_cons (g_str (Nat.le_of_ble_eq_true rfl)) (gl_cons (g_str (Nat.le_of_ble_eq_true rfl)) (gl_cons g_non (gl_cons g_bl (gl_cons g_int (gl_cons (g_lstP hN (gl_cons (g_str (Nat.le_of_ble_eq_true rfl)) gl_nil) (Nat.le_of_ble_eq_true rfl)) (gl_cons (g_str (Nat.le_of_ble_eq_true rfl)) (gl_cons (g_str (Nat.le_of_ble_eq_true rfl)) (gl_cons (g_tupP (gl_cons (g_str (Nat.le_of_ble_eq_true rfl)) gl_nil) (Nat.le_of_ble_eq_true rfl)) (gl_cons (g_dicP hN) gl_nil)))))))))) (Nat.le_of_ble_eq_true rfl)) fin
    | strategy =>
      refine st_nn (evb_str rfl (by decide +kernel)) ?_
      show tSeq _ _ _ _ _
      refine st_nn (evb_str rfl (by decide +kernel)) ?_
      show tSeq _ _ _ _ _
      refine st_ya (evb_str rfl (by decide +kernel)) ?_
      exact g_ret (g_lstP hN (gl_cons (g_str (Nat.le_of_ble_eq_true rfl)) (gl_cons (g_str (Nat.le_of_ble_eq_true rfl)) (gl_cons g_non (gl_cons g_bl (gl_cons g_int (gl_cons (g_lstP hN (gl_cons (g_str (Nat.le_of_ble_eq_true rfl)) gl_nil) (Nat.le_of_ble_eq_true rfl)) (gl_cons (g_str (Nat.le_of_ble_eq_true rfl)) (gl_cons (g_tupP (gl_cons (g_str (Nat.le_of_ble_eq_true rfl)) gl_nil) (Nat.le_of_ble_eq_true rfl)) (gl_cons (g_str (Nat.le_of_ble_eq_true rfl)) gl_nil))))))))) (Nat.le_of_ble_eq_true rfl)) fin
    | script =>
      refine st_nn (evb_str rfl (by decide +kernel)) ?_
      show tSeq _ _ _ _ _
      refine st_nn (evb_str rfl (by decide +kernel)) ?_
      show tSeq _ _ _ _ _
      refine st_nn (evb_str rfl (by decide +kernel)) ?_
      show tSeq _ _ _ _ _
      refine st_ya (evb_str rfl (by decide +kernel)) ?_
      exact ⟨rfl, fun l H' hl s' ⟨xs, hx, ha⟩ => k l H' s' ⟨xs, hx, atl_imp (fun _ z => z.1) _ ha⟩⟩
    | most =>
      refine st_nn (evb_str rfl (by decide +kernel)) ?_
      show tSeq _ _ _ _ _
      refine st_nn (evb_str rfl (by decide +kernel)) ?_
      show tSeq _ _ _ _ _
      refine st_nn (evb_str rfl (by decide +kernel)) ?_
      show tSeq _ _ _ _ _
      refine st_nn (evb_str rfl (by decide +kernel)) ?_
      show tSeq _ _ _ _ _
      refine st_ya (evb_str rfl (by decide +kernel)) ?_
      exact g_ret (g_lstP hN (gl_cons (g_evI fun _ _ => (ev_i0 ev_c ev_c)) (gl_cons g_int (gl_cons g_bl (gl_cons g_bl (gl_cons g_non (gl_cons (g_str (Nat.le_of_ble_eq_true rfl)) (gl_cons (g_lstP hN (gl_cons g_int gl_nil) (Nat.le_of_ble_eq_true rfl)) (gl_cons (g_evI fun _ _ => (ev_iI ev_c ev_c ⟨by decide, by decide, by decide⟩)) gl_nil)))))))) (Nat.le_of_ble_eq_true rfl)) fin
    | span =>
      refine st_nn (evb_str rfl (by decide +kernel)) ?_
      show tSeq _ _ _ _ _
      refine st_nn (evb_str rfl (by decide +kernel)) ?_
      show tSeq _ _ _ _ _
      refine st_nn (evb_str rfl (by decide +kernel)) ?_
      show tSeq _ _ _ _ _
      refine st_nn (evb_str rfl (by decide +kernel)) ?_
      show tSeq _ _ _ _ _
      refine st_nn (evb_str rfl (by decide +kernel)) ?_
      show tSeq _ _ _ _ _
      refine st_ya (evb_str rfl (by decide +kernel)) ?_
      exact g_ret (g_lstP hN (gl_cons g_int (gl_cons (g_evI fun _ _ => (ev_i0 ev_c ev_c)) (gl_cons (g_evI fun _ _ => (ev_i0 (ev_iI ev_c ev_c ⟨by decide, by decide, by decide⟩) ev_c)) (gl_cons g_bl (gl_cons g_bl (gl_cons g_non (gl_cons (g_str (Nat.le_of_ble_eq_true rfl)) (gl_cons (g_evI fun _ _ => (ev_iI ev_c ev_c ⟨by decide, by decide, by decide⟩)) (gl_cons (g_tupP gl_nil (Nat.le_of_ble_eq_true rfl)) gl_nil))))))))) (Nat.le_of_ble_eq_true rfl)) fin
    | refused =>
      refine st_nn (evb_str rfl (by decide +kernel)) ?_
      show tSeq _ _ _ _ _
      refine st_nn (evb_str rfl (by decide +kernel)) ?_
      show tSeq _ _ _ _ _
      refine st_nn (evb_str rfl (by decide +kernel)) ?_
      show tSeq _ _ _ _ _
      refine st_nn (evb_str rfl (by decide +kernel)) ?_
      show tSeq _ _ _ _ _
      refine st_nn (evb_str rfl (by decide +kernel)) ?_
      show tSeq _ _ _ _ _
      refine st_nn (evb_str rfl (by decide +kernel)) ?_
      show tSeq _ _ _ _ _
      refine st_ya (evb_str rfl (by decide +kernel)) ?_
      exact g_ret (g_lstP hN (gl_cons (g_evI fun _ _ => (ev_i0 ev_c ev_c)) (gl_cons g_int (gl_cons g_bl (gl_cons g_bl (gl_cons g_non (gl_cons (g_str (Nat.le_of_ble_eq_true rfl)) (gl_cons (g_lstP hN (gl_cons g_int gl_nil) (Nat.le_of_ble_eq_true rfl)) (gl_cons (g_evI fun _ _ => (ev_iI ev_c ev_c ⟨by decide, by decide, by decide⟩)) gl_nil)))))))) (Nat.le_of_ble_eq_true rfl)) fin
    | deadline =>
      refine st_nn (evb_str rfl (by decide +kernel)) ?_
      show tSeq _ _ _ _ _
      refine st_nn (evb_str rfl (by decide +kernel)) ?_
      show tSeq _ _ _ _ _
      refine st_nn (evb_str rfl (by decide +kernel)) ?_
      show tSeq _ _ _ _ _
      refine st_nn (evb_str rfl (by decide +kernel)) ?_
      show tSeq _ _ _ _ _
      refine st_nn (evb_str rfl (by decide +kernel)) ?_
      show tSeq _ _ _ _ _
      refine st_nn (evb_str rfl (by decide +kernel)) ?_
      show tSeq _ _ _ _ _
      refine st_nn (evb_str rfl (by decide +kernel)) ?_
      show tSeq _ _ _ _ _
      refine g_asg (P := At K (fun a => H a = none) (.lst oddT)) (g_lstP hN (gl_cons (g_evI fun _ _ => (ev_i0 ev_c ev_c)) (gl_cons (g_evI fun _ _ => (ev_i0 (ev_iI ev_c ev_c ⟨by decide, by decide, by decide⟩) ev_c)) (gl_cons g_bl (gl_cons g_bl (gl_cons (g_str (Nat.le_of_ble_eq_true rfl)) (gl_cons (g_lstP hN (gl_cons g_int gl_nil) (Nat.le_of_ble_eq_true rfl)) (gl_cons (g_tupP gl_nil (Nat.le_of_ble_eq_true rfl)) (gl_cons (g_evI fun _ _ => (ev_iI ev_c ev_c ⟨by decide, by decide, by decide⟩)) (gl_cons (g_str (Nat.le_of_ble_eq_true rfl)) (gl_cons (g_dicP hN) gl_nil)))))))))) (Nat.le_of_ble_eq_true rfl)) fun v H1 s1 p1 => ?_
      dsimp only
      show tRet _ _ _ _
      exact st_ifv (evb_str rfl (by decide +kernel)) ⟨_, rfl, fin v H1 s1 p1⟩
    | opening =>
      refine st_nn (evb_str rfl (by decide +kernel)) ?_
      show tSeq _ _ _ _ _
      refine st_nn (evb_str rfl (by decide +kernel)) ?_
      show tSeq _ _ _ _ _
      refine st_nn (evb_str rfl (by decide +kernel)) ?_
      show tSeq _ _ _ _ _
      refine st_nn (evb_str rfl (by decide +kernel)) ?_
      show tSeq _ _ _ _ _
      refine st_nn (evb_str rfl (by decide +kernel)) ?_
      show tSeq _ _ _ _ _
      refine st_nn (evb_str rfl (by decide +kernel)) ?_
      show tSeq _ _ _ _ _
      refine st_nn (evb_str rfl (by decide +kernel)) ?_
      show tSeq _ _ _ _ _
      refine g_asg (P := At K (fun a => H a = none) (.lst oddT)) (g_lstP hN (gl_cons (g_evI fun _ _ => (ev_i0 ev_c ev_c)) (gl_cons (g_evI fun _ _ => (ev_i0 (ev_iI ev_c ev_c ⟨by decide, by decide, by decide⟩) ev_c)) (gl_cons g_bl (gl_cons g_bl (gl_cons (g_str (Nat.le_of_ble_eq_true rfl)) (gl_cons (g_lstP hN (gl_cons g_int gl_nil) (Nat.le_of_ble_eq_true rfl)) (gl_cons (g_tupP gl_nil (Nat.le_of_ble_eq_true rfl)) (gl_cons (g_evI fun _ _ => (ev_iI ev_c ev_c ⟨by decide, by decide, by decide⟩)) (gl_cons (g_str (Nat.le_of_ble_eq_true rfl)) (gl_cons (g_dicP hN) gl_nil)))))))))) (Nat.le_of_ble_eq_true rfl)) fun v H1 s1 p1 => ?_
      dsimp only
      show tRet _ _ _ _
      have hN1 : ∀ t H2, Same H1 H2 → H2 t = none → (fun a => H a = none) t := fun t H2 s h => Same.free (s1.trans s) h
      refine st_ifn (evb_str rfl (by decide +kernel)) (g_ret (g_catL (g_varA rfl p1) (by
        have hN := hN1
        exact (g_lstP hN (gl_cons g_non gl_nil) (Nat.le_of_ble_eq_true rfl))) hN1 (Nat.le_of_ble_eq_true rfl)) fun v H2 s2 p2 => fin v H2 (s1.trans s2) p2)
    | closing =>
      refine st_nn (evb_str rfl (by decide +kernel)) ?_
      show tSeq _ _ _ _ _
      refine st_nn (evb_str rfl (by decide +kernel)) ?_
      show tSeq _ _ _ _ _
      refine st_nn (evb_str rfl (by decide +kernel)) ?_
      show tSeq _ _ _ _ _
      refine st_nn (evb_str rfl (by decide +kernel)) ?_
      show tSeq _ _ _ _ _
      refine st_nn (evb_str rfl (by decide +kernel)) ?_
      show tSeq _ _ _ _ _
      refine st_nn (evb_str rfl (by decide +kernel)) ?_
      show tSeq _ _ _ _ _
      refine st_nn (evb_str rfl (by decide +kernel)) ?_
      show tSeq _ _ _ _ _
      refine g_asg (P := At K (fun a => H a = none) (.lst oddT)) (g_lstP hN (gl_cons (g_evI fun _ _ => (ev_i0 ev_c ev_c)) (gl_cons (g_evI fun _ _ => (ev_i0 (ev_iI ev_c ev_c ⟨by decide, by decide, by decide⟩) ev_c)) (gl_cons g_bl (gl_cons g_bl (gl_cons (g_str (Nat.le_of_ble_eq_true rfl)) (gl_cons (g_lstP hN (gl_cons g_int gl_nil) (Nat.le_of_ble_eq_true rfl)) (gl_cons (g_tupP gl_nil (Nat.le_of_ble_eq_true rfl)) (gl_cons (g_evI fun _ _ => (ev_iI ev_c ev_c ⟨by decide, by decide, by decide⟩)) (gl_cons (g_str (Nat.le_of_ble_eq_true rfl)) (gl_cons (g_dicP hN) gl_nil)))))))))) (Nat.le_of_ble_eq_true rfl)) fun v H1 s1 p1 => ?_
      dsimp only
      show tRet _ _ _ _
      have hN1 : ∀ t H2, Same H1 H2 → H2 t = none → (fun a => H a = none) t := fun t H2 s h => Same.free (s1.trans s) h
      refine st_ifn (evb_str rfl (by decide +kernel)) (g_ret (g_catL (g_varA rfl p1) (by
        have hN := hN1
        exact (g_lstP hN (gl_cons g_non gl_nil) (Nat.le_of_ble_eq_true rfl))) hN1 (Nat.le_of_ble_eq_true rfl)) fun v H2 s2 p2 => fin v H2 (s1.trans s2) p2)
theorem ok_good (T : Env K mg) : FnOk P w K mg base CX0 3 (d_L_good.loc K) T.fd_L_good ["m", "field"] (spGood K S) := by
  have G_L_of : FnOk P w K mg base CX0 2 _ _ _ _ := ok_of (S := S) T
  refine T.F_L_good.ok sc_L_good (fun vs H Q E h => ?_) (fun cdv A outer s H vs Q E hr h => ?_)
  · obtain ⟨f, m, a, c, rfl, _⟩ := h
    rfl
  · have nd := sc_L_good.nd
    have hu := hu_of hr
    obtain ⟨f, m, a, c, rfl, hS, ha, k⟩ := h
    refine ⟨_, PSs.nox (pss_cons (ps_if (pt_cmpR op_eq (pv 1) pe_str (nomark _))
  (pss_one (ps_ret (pe_call G_L_of (hr.mono (by decide)) (by rfl) T.g__law_of T.F_L_of.kp T.bi_L_of .nil pass0 (pa_cons (pv 0) (pa_cons (pe_lst (pa_cons pe_str (pa_cons pe_str (pa_cons pe_str (pa_cons pe_str (pa_cons pe_str pa_nil)))))) pa_nil)))))
  pss_nil)
 (pss_cons (ps_if (pt_cmpR op_eq (pv 1) pe_str (nomark _))
  (pss_one (ps_ret (pe_call G_L_of (hr.mono (by decide)) (by rfl) T.g__law_of T.F_L_of.kp T.bi_L_of .nil pass0 (pa_cons (pv 0) (pa_cons (pe_lst (pa_cons pe_str (pa_cons pe_str (pa_cons pe_str pa_nil)))) pa_nil)))))
  pss_nil)
 (pss_cons (ps_if (pt_cmpR op_eq (pv 1) pe_str (nomark _))
  (pss_one (ps_ret (pe_call G_L_of (hr.mono (by decide)) (by rfl) T.g__law_of T.F_L_of.kp T.bi_L_of .nil pass0 (pa_cons (pv 0) (pa_cons (pe_lst (pa_cons pe_str (pa_cons pe_str (pa_cons pe_str pa_nil)))) pa_nil)))))
  pss_nil)
 (pss_cons (ps_if (pt_cmpR op_eq (pv 1) pe_str (nomark _))
  (pss_one (ps_ret (pe_call G_L_of (hr.mono (by decide)) (by rfl) T.g__law_of T.F_L_of.kp T.bi_L_of .nil pass0 (pa_cons (pv 0) (pa_cons (pe_lst (pa_cons (pe_tup pa_nil) (pa_cons (pe_tup (pa_cons (pe_tup (pa_cons pe_str (pa_cons pe_str (pa_cons pe_int (pa_cons (pe_op op_repT (pe_tup (pa_cons (pe_tup (pa_cons pe_str (pa_cons pe_str pa_nil))) pa_nil)) pe_int) pa_nil))))) pa_nil)) pa_nil))) pa_nil)))))
  pss_nil)
 (pss_cons (ps_if (pt_cmpR op_eq (pv 1) pe_str (nomark _))
  (pss_one (ps_ret (pe_call G_L_of (hr.mono (by decide)) (by rfl) T.g__law_of T.F_L_of.kp T.bi_L_of .nil pass0 (pa_cons (pv 0) (pa_cons (pe_lst (pa_cons pe_int (pa_cons pe_int (pa_cons pe_int pa_nil)))) pa_nil)))))
  pss_nil)
 (pss_cons (ps_if (pt_cmpR op_eq (pv 1) pe_str (nomark _))
  (pss_one (ps_ret (pe_call G_L_of (hr.mono (by decide)) (by rfl) T.g__law_of T.F_L_of.kp T.bi_L_of .nil pass0 (pa_cons (pv 0) (pa_cons (pe_lst (pa_cons pe_int (pa_cons (pe_op op_pow pe_int pe_int) (pa_cons pe_int pa_nil)))) pa_nil)))))
  pss_nil)
 (pss_cons (ps_if (pt_cmpR op_eq (pv 1) pe_str (nomark _))
  (pss_one (ps_ret (pe_call G_L_of (hr.mono (by decide)) (by rfl) T.g__law_of T.F_L_of.kp T.bi_L_of .nil pass0 (pa_cons (pv 0) (pa_cons (pe_lst (pa_cons pe_int (pa_cons pe_int (pa_cons pe_int pa_nil)))) pa_nil)))))
  pss_nil)
 (pss_one (ps_ret (pe_call G_L_of (hr.mono (by decide)) (by rfl) T.g__law_of T.F_L_of.kp T.bi_L_of .nil pass0 (pa_cons (pv 0) (pa_cons (pe_lst (pa_cons pe_int (pa_cons (pe_op op_pow pe_int pe_int) (pa_cons pe_int (pa_cons (pe_ifExp (pt_cmpR op_eq (pv 1) pe_str (nomark _)) pe_non pe_int) pa_nil))))) pa_nil)))))))))))), ?_⟩
    cases f with
    | name =>
      refine st_ya (evb_str rfl (by decide +kernel)) ?_
      exact of_l rfl (gl_cons (g_str (Nat.le_of_ble_eq_true rfl)) (gl_cons (g_str (Nat.le_of_ble_eq_true rfl)) (gl_cons (g_str (Nat.le_of_ble_eq_true rfl)) (gl_cons (g_str (Nat.le_of_ble_eq_true rfl)) (gl_cons (g_str (Nat.le_of_ble_eq_true rfl)) gl_nil))))) (fun z => nomatch z) (by decide) hS ha id k
    | restart =>
      refine st_nn (evb_str rfl (by decide +kernel)) ?_
      show tSeq _ _ _ _ _
      refine st_ya (evb_str rfl (by decide +kernel)) ?_
      exact of_l rfl (gl_cons (g_str (Nat.le_of_ble_eq_true rfl)) (gl_cons (g_str (Nat.le_of_ble_eq_true rfl)) (gl_cons (g_str (Nat.le_of_ble_eq_true rfl)) gl_nil))) (fun z => nomatch z) (by decide) hS ha id k
    | strategy =>
      refine st_nn (evb_str rfl (by decide +kernel)) ?_
      show tSeq _ _ _ _ _
      refine st_nn (evb_str rfl (by decide +kernel)) ?_
      show tSeq _ _ _ _ _
      refine st_ya (evb_str rfl (by decide +kernel)) ?_
      exact of_l rfl (gl_cons (g_str (Nat.le_of_ble_eq_true rfl)) (gl_cons (g_str (Nat.le_of_ble_eq_true rfl)) (gl_cons (g_str (Nat.le_of_ble_eq_true rfl)) gl_nil))) (fun z => nomatch z) (by decide) hS ha id k
    | script =>
      refine st_nn (evb_str rfl (by decide +kernel)) ?_
      show tSeq _ _ _ _ _
      refine st_nn (evb_str rfl (by decide +kernel)) ?_
      show tSeq _ _ _ _ _
      refine st_nn (evb_str rfl (by decide +kernel)) ?_
      show tSeq _ _ _ _ _
      refine st_ya (evb_str rfl (by decide +kernel)) ?_
      exact of_l rfl (gl_cons (g_tupP gl_nil (Nat.le_of_ble_eq_true rfl)) (gl_cons (g_tupP (gl_cons (g_tupP (gl_cons (g_str (Nat.le_of_ble_eq_true rfl)) (gl_cons (g_str (Nat.le_of_ble_eq_true rfl)) (gl_cons g_int (gl_cons (g_repP (g_tupP (gl_cons (g_tupP (gl_cons (g_str (Nat.le_of_ble_eq_true rfl)) (gl_cons (g_str (Nat.le_of_ble_eq_true rfl)) gl_nil)) (Nat.le_of_ble_eq_true rfl)) gl_nil) (Nat.le_of_ble_eq_true rfl)) (by decide) (Nat.le_of_ble_eq_true rfl)) gl_nil)))) (Nat.le_of_ble_eq_true rfl)) gl_nil) (Nat.le_of_ble_eq_true rfl)) gl_nil)) (fun z => nomatch z) (by decide) hS ha id k
    | most =>
      refine st_nn (evb_str rfl (by decide +kernel)) ?_
      show tSeq _ _ _ _ _
      refine st_nn (evb_str rfl (by decide +kernel)) ?_
      show tSeq _ _ _ _ _
      refine st_nn (evb_str rfl (by decide +kernel)) ?_
      show tSeq _ _ _ _ _
      refine st_nn (evb_str rfl (by decide +kernel)) ?_
      show tSeq _ _ _ _ _
      refine st_ya (evb_str rfl (by decide +kernel)) ?_
      exact of_l rfl (gl_cons g_int (gl_cons g_int (gl_cons g_int gl_nil))) (fun z => nomatch z) (by decide) hS ha id k
    | span =>
      refine st_nn (evb_str rfl (by decide +kernel)) ?_
      show tSeq _ _ _ _ _
      refine st_nn (evb_str rfl (by decide +kernel)) ?_
      show tSeq _ _ _ _ _
      refine st_nn (evb_str rfl (by decide +kernel)) ?_
      show tSeq _ _ _ _ _
      refine st_nn (evb_str rfl (by decide +kernel)) ?_
      show tSeq _ _ _ _ _
      refine st_nn (evb_str rfl (by decide +kernel)) ?_
      show tSeq _ _ _ _ _
      refine st_ya (evb_str rfl (by decide +kernel)) ?_
      exact of_l rfl (gl_cons g_int (gl_cons (g_evI fun _ _ => (ev_iI ev_c ev_c ⟨by decide, by decide, by decide⟩)) (gl_cons g_int gl_nil))) (fun z => nomatch z) (by decide) hS ha id k
    | refused =>
      refine st_nn (evb_str rfl (by decide +kernel)) ?_
      show tSeq _ _ _ _ _
      refine st_nn (evb_str rfl (by decide +kernel)) ?_
      show tSeq _ _ _ _ _
      refine st_nn (evb_str rfl (by decide +kernel)) ?_
      show tSeq _ _ _ _ _
      refine st_nn (evb_str rfl (by decide +kernel)) ?_
      show tSeq _ _ _ _ _
      refine st_nn (evb_str rfl (by decide +kernel)) ?_
      show tSeq _ _ _ _ _
      refine st_nn (evb_str rfl (by decide +kernel)) ?_
      show tSeq _ _ _ _ _
      refine st_ya (evb_str rfl (by decide +kernel)) ?_
      exact of_l rfl (gl_cons g_int (gl_cons g_int (gl_cons g_int gl_nil))) (fun z => nomatch z) (by decide) hS ha id k
    | deadline =>
      refine st_nn (evb_str rfl (by decide +kernel)) ?_
      show tSeq _ _ _ _ _
      refine st_nn (evb_str rfl (by decide +kernel)) ?_
      show tSeq _ _ _ _ _
      refine st_nn (evb_str rfl (by decide +kernel)) ?_
      show tSeq _ _ _ _ _
      refine st_nn (evb_str rfl (by decide +kernel)) ?_
      show tSeq _ _ _ _ _
      refine st_nn (evb_str rfl (by decide +kernel)) ?_
      show tSeq _ _ _ _ _
      refine st_nn (evb_str rfl (by decide +kernel)) ?_
      show tSeq _ _ _ _ _
      refine st_nn (evb_str rfl (by decide +kernel)) ?_
      show tSeq _ _ _ _ _
      exact of_l rfl (gl_cons g_int (gl_cons (g_evI fun _ _ => (ev_iI ev_c ev_c ⟨by decide, by decide, by decide⟩)) (gl_cons g_int (gl_cons (g_ifY (fun H1 s1 => evb_str rfl (by decide +kernel)) g_non) gl_nil)))) (fun z => nomatch z) (by decide) hS ha id k
    | opening =>
      refine st_nn (evb_str rfl (by decide +kernel)) ?_
      show tSeq _ _ _ _ _
      refine st_nn (evb_str rfl (by decide +kernel)) ?_
      show tSeq _ _ _ _ _
      refine st_nn (evb_str rfl (by decide +kernel)) ?_
      show tSeq _ _ _ _ _
      refine st_nn (evb_str rfl (by decide +kernel)) ?_
      show tSeq _ _ _ _ _
      refine st_nn (evb_str rfl (by decide +kernel)) ?_
      show tSeq _ _ _ _ _
      refine st_nn (evb_str rfl (by decide +kernel)) ?_
      show tSeq _ _ _ _ _
      refine st_nn (evb_str rfl (by decide +kernel)) ?_
      show tSeq _ _ _ _ _
      exact of_l rfl (gl_cons g_int (gl_cons (g_evI fun _ _ => (ev_iI ev_c ev_c ⟨by decide, by decide, by decide⟩)) (gl_cons g_int (gl_cons (g_ifNo (fun H1 s1 => evb_str rfl (by decide +kernel)) g_int) gl_nil)))) (fun z => nomatch z) (by decide) hS ha id k
    | closing =>
      refine st_nn (evb_str rfl (by decide +kernel)) ?_
      show tSeq _ _ _ _ _
      refine st_nn (evb_str rfl (by decide +kernel)) ?_
      show tSeq _ _ _ _ _
      refine st_nn (evb_str rfl (by decide +kernel)) ?_
      show tSeq _ _ _ _ _
      refine st_nn (evb_str rfl (by decide +kernel)) ?_
      show tSeq _ _ _ _ _
      refine st_nn (evb_str rfl (by decide +kernel)) ?_
      show tSeq _ _ _ _ _
      refine st_nn (evb_str rfl (by decide +kernel)) ?_
      show tSeq _ _ _ _ _
      refine st_nn (evb_str rfl (by decide +kernel)) ?_
      show tSeq _ _ _ _ _
      exact of_l rfl (gl_cons g_int (gl_cons (g_evI fun _ _ => (ev_iI ev_c ev_c ⟨by decide, by decide, by decide⟩)) (gl_cons g_int (gl_cons (g_ifNo (fun H1 s1 => evb_str rfl (by decide +kernel)) g_int) gl_nil)))) (fun z => nomatch z) (by decide) hS ha id k
end
end W02

set_option Elab.async false
set_option linter.all false
set_option maxRecDepth 100000
set_option maxHeartbeats 1000000
namespace W02
open PySem PySem.Spec PyProof.Rows L2 WXG WEv WRd WLf WEn WZs WRu WSt StX WDc WPv WEb WXO WXE WKd WGp
/-! ### plans built by the law -/
theorem len0 {ys : List V} (h : ys.length = 0) : ys = [] := List.length_eq_zero_iff.mp h
theorem len1 : ∀ {ys : List V}, ys.length = 1 → ∃ y0 : V, ys = [y0]
  | [y0], _ => ⟨y0, rfl⟩
theorem len2 : ∀ {ys : List V}, ys.length = 2 → ∃ y0 y1 : V, ys = [y0, y1]
  | [y0, y1], _ => ⟨y0, y1, rfl⟩
theorem len3 : ∀ {ys : List V}, ys.length = 3 → ∃ y0 y1 y2 : V, ys = [y0, y1, y2]
  | [y0, y1, y2], _ => ⟨y0, y1, y2, rfl⟩
theorem len4 : ∀ {ys : List V}, ys.length = 4 → ∃ y0 y1 y2 y3 : V, ys = [y0, y1, y2, y3]
  | [y0, y1, y2, y3], _ => ⟨y0, y1, y2, y3, rfl⟩
theorem len5 : ∀ {ys : List V}, ys.length = 5 → ∃ y0 y1 y2 y3 y4 : V, ys = [y0, y1, y2, y3, y4]
  | [y0, y1, y2, y3, y4], _ => ⟨y0, y1, y2, y3, y4, rfl⟩
theorem len6 : ∀ {ys : List V}, ys.length = 6 → ∃ y0 y1 y2 y3 y4 y5 : V, ys = [y0, y1, y2, y3, y4, y5]
  | [y0, y1, y2, y3, y4, y5], _ => ⟨y0, y1, y2, y3, y4, y5, rfl⟩
theorem len7 : ∀ {ys : List V}, ys.length = 7 → ∃ y0 y1 y2 y3 y4 y5 y6 : V, ys = [y0, y1, y2, y3, y4, y5, y6]
  | [y0, y1, y2, y3, y4, y5, y6], _ => ⟨y0, y1, y2, y3, y4, y5, y6, rfl⟩
theorem len8 : ∀ {ys : List V}, ys.length = 8 → ∃ y0 y1 y2 y3 y4 y5 y6 y7 : V, ys = [y0, y1, y2, y3, y4, y5, y6, y7]
  | [y0, y1, y2, y3, y4, y5, y6, y7], _ => ⟨y0, y1, y2, y3, y4, y5, y6, y7, rfl⟩
theorem len9 : ∀ {ys : List V}, ys.length = 9 → ∃ y0 y1 y2 y3 y4 y5 y6 y7 y8 : V, ys = [y0, y1, y2, y3, y4, y5, y6, y7, y8]
  | [y0, y1, y2, y3, y4, y5, y6, y7, y8], _ => ⟨y0, y1, y2, y3, y4, y5, y6, y7, y8, rfl⟩
theorem len10 : ∀ {ys : List V}, ys.length = 10 → ∃ y0 y1 y2 y3 y4 y5 y6 y7 y8 y9 : V, ys = [y0, y1, y2, y3, y4, y5, y6, y7, y8, y9]
  | [y0, y1, y2, y3, y4, y5, y6, y7, y8, y9], _ => ⟨y0, y1, y2, y3, y4, y5, y6, y7, y8, y9, rfl⟩
theorem len11 : ∀ {ys : List V}, ys.length = 11 → ∃ y0 y1 y2 y3 y4 y5 y6 y7 y8 y9 y10 : V, ys = [y0, y1, y2, y3, y4, y5, y6, y7, y8, y9, y10]
  | [y0, y1, y2, y3, y4, y5, y6, y7, y8, y9, y10], _ => ⟨y0, y1, y2, y3, y4, y5, y6, y7, y8, y9, y10, rfl⟩
theorem len12 : ∀ {ys : List V}, ys.length = 12 → ∃ y0 y1 y2 y3 y4 y5 y6 y7 y8 y9 y10 y11 : V, ys = [y0, y1, y2, y3, y4, y5, y6, y7, y8, y9, y10, y11]
  | [y0, y1, y2, y3, y4, y5, y6, y7, y8, y9, y10, y11], _ => ⟨y0, y1, y2, y3, y4, y5, y6, y7, y8, y9, y10, y11, rfl⟩
theorem len13 : ∀ {ys : List V}, ys.length = 13 → ∃ y0 y1 y2 y3 y4 y5 y6 y7 y8 y9 y10 y11 y12 : V, ys = [y0, y1, y2, y3, y4, y5, y6, y7, y8, y9, y10, y11, y12]
  | [y0, y1, y2, y3, y4, y5, y6, y7, y8, y9, y10, y11, y12], _ => ⟨y0, y1, y2, y3, y4, y5, y6, y7, y8, y9, y10, y11, y12, rfl⟩
/-- what the making of a supervisor's plan leads to -/
def SupEnd (K : PySem.W.Frag) (p1 p2 p3 p4 p5 p6 : Pv) (ks : List Pv) (H : Hp) (Q : VK) (E : XK) : Prop :=
  (firstBad (sRows p1 p2 p3 p4 p5 p6) = none → badChild 0 1 1 ks = none → ∀ x H', Same H H' → (∃ dx q c, H' x = some (SIns K dx q c (endCD 1 1 ks).1 (endCD 1 1 ks).2)) → Q (.ref x) H') ∧
  (firstBad (sRows p1 p2 p3 p4 p5 p6) = none → ∀ i, badChild 0 1 1 ks = some i → Err H (BC K) "index" (.int (i : Nat)) E) ∧ ∀ f, firstBad (sRows p1 p2 p3 p4 p5 p6) = some f → Err H (BS K) "setting" (.str f) E
def spSupB (K : PySem.W.Frag) (lo : Nat) : Sp := fun vs H Q E => ∃ N M p1 p2 p3 p4 p5 p6 v1 v2 v3 v4 v5 v6 ks ys, ∃ l p : Addr, vs = [v1, .ref l, .ref p] ∧ H l = some (.lst ys) ∧ H p = some (.lst [v2, v3, v4, v5, v6]) ∧ AtL K N [p1, p2, p3, p4, p5, p6] [v1, v2, v3, v4, v5, v6] H ∧ AtL K M ks ys H ∧ lo ≤ ks.length ∧ ks.length ≤ 13 ∧ SupEnd K p1 p2 p3 p4 p5 p6 ks H Q E
section
variable {K : PySem.W.Frag} {σ : L2.St} {H : Hp} {ta tk : TA} {D : Ends} {E : XK}
theorem ev_ixl2 {n : Nat} {p : Addr} {xs : List V} {j : Int} {v : V} (h : σ[n]? = some (some (.ref p))) (hp : H p = some (.lst xs)) (e : atI xs j = some v) : Ev (tOp (rIxL K) (tVar n) (tC (.int j))) σ H v := fun Q q => ⟨_, h, p, xs, j, v, rfl, rfl, .of hp, e, q⟩
theorem st_mkSup {N M : Addr → Prop} {p1 p2 p3 p4 p5 p6 : Pv} {v1 v2 v3 v4 v5 v6 : V} {ks : List Pv} {ys : List V} (al : AtL K N [p1, p2, p3, p4, p5, p6] [v1, v2, v3, v4, v5, v6] H) (ak : AtL K M ks ys H) (hz : ks.length ≤ 13)
    (ha : EvL ta σ H (v1 :: ys)) (hk : EvL tk σ H [v2, v3, v4, v5, v6]) (k : SupEnd K p1 p2 p3 p4 p5 p6 ks H D.rt E) : tRet (tMkKF (CS K) (spkS K) 5 E ta tk) D σ H :=
  ha _ (hk _ ⟨rfl, fun x dx hx hdx ne => ⟨[.ref x, v1], ys, rfl, rfl, by rw [ak.len]; exact Nat.le_trans hz (by decide), s_init (Q := D.rt) al ak hx hdx ne (fun hb hc H' s' e => k.1 hb hc x H' s' e) k.2.1 k.2.2⟩⟩)
end
section
variable {P : Program} {w : World} {K : PySem.W.Frag} {mg : Str → Option Value} {base : Heap}
theorem ok_greatest (T : Env K mg) : FnOk P w K mg base (L2.CX P w) 11 (d_L_greatest.loc K) T.fd_L_greatest ["label", "c", "s"] (spSupB K 9) := by
  have G_mk_SupervisorPlan : FnK P w K mg base (L2.CX P w) 9 _ _ _ := fk_super T
  refine T.F_L_greatest.ok sc_L_greatest (fun vs H Q E h => ?_) (fun cdv A outer s H vs Q E hr h => ?_)
  · obtain ⟨N, M, p1, p2, p3, p4, p5, p6, v1, v2, v3, v4, v5, v6, ks, ys, l, p, rfl, _⟩ := h
    rfl
  · have nd := sc_L_greatest.nd
    have hu := hu_of hr
    obtain ⟨N, M, p1, p2, p3, p4, p5, p6, v1, v2, v3, v4, v5, v6, ks, ys, l, p, rfl, hl, hp, al, ak, hlo, hz, k⟩ := h
    have yl := ak.len
    refine ⟨_, (pss_cons (ps_asg (pv 2) (pg_lst rfl (pgs_cons (pg_name (i := 3) nd rfl (Or.inl rfl)) (pgs_cons (pg_name (i := 4) nd rfl (Or.inl rfl)) (pgs_cons (pg_name (i := 5) nd rfl (Or.inl rfl)) (pgs_cons (pg_name (i := 6) nd rfl (Or.inl rfl)) (pgs_cons (pg_name (i := 7) nd rfl (Or.inl rfl)) pgs_nil)))))))
 (pss_cons (ps_set (i := 8) nd rfl (Or.inl rfl) (pe_callB call_len_seq (by rfl) T.b_len (by decide +kernel) (pa_cons (pv 1) pa_nil)))
 (pss_cons (ps_if (pt_cmpR op_eq (pv 8) pe_int (nomark _))
  (pss_one (ps_ret (pe_mkKF T.mk_SupervisorPlan G_mk_SupervisorPlan (hr.mono (by decide)) (by rfl) T.g_SupervisorPlan (WXO.takes_e (E := E) rfl rfl rfl rfl) (pa_cons (pv 0) (pa_cons (pe_ix (ixlK (K := K)) (pv 1) pe_int (fun _ _ => rfl)) (pa_cons (pe_ix (ixlK (K := K)) (pv 1) pe_int (fun _ _ => rfl)) (pa_cons (pe_ix (ixlK (K := K)) (pv 1) pe_int (fun _ _ => rfl)) (pa_cons (pe_ix (ixlK (K := K)) (pv 1) pe_int (fun _ _ => rfl)) (pa_cons (pe_ix (ixlK (K := K)) (pv 1) pe_int (fun _ _ => rfl)) (pa_cons (pe_ix (ixlK (K := K)) (pv 1) pe_int (fun _ _ => rfl)) (pa_cons (pe_ix (ixlK (K := K)) (pv 1) pe_int (fun _ _ => rfl)) (pa_cons (pe_ix (ixlK (K := K)) (pv 1) pe_int (fun _ _ => rfl)) (pa_cons (pe_ix (ixlK (K := K)) (pv 1) pe_int (fun _ _ => rfl)) pa_nil)))))))))) (pk_cons (pv 3) (pk_cons (pv 4) (pk_cons (pv 5) (pk_cons (pv 6) (pk_cons (pv 7) pk_nil))))))))
  pss_nil)
 (pss_cons (ps_if (pt_cmpR op_eq (pv 8) pe_int (nomark _))
  (pss_one (ps_ret (pe_mkKF T.mk_SupervisorPlan G_mk_SupervisorPlan (hr.mono (by decide)) (by rfl) T.g_SupervisorPlan (WXO.takes_e (E := E) rfl rfl rfl rfl) (pa_cons (pv 0) (pa_cons (pe_ix (ixlK (K := K)) (pv 1) pe_int (fun _ _ => rfl)) (pa_cons (pe_ix (ixlK (K := K)) (pv 1) pe_int (fun _ _ => rfl)) (pa_cons (pe_ix (ixlK (K := K)) (pv 1) pe_int (fun _ _ => rfl)) (pa_cons (pe_ix (ixlK (K := K)) (pv 1) pe_int (fun _ _ => rfl)) (pa_cons (pe_ix (ixlK (K := K)) (pv 1) pe_int (fun _ _ => rfl)) (pa_cons (pe_ix (ixlK (K := K)) (pv 1) pe_int (fun _ _ => rfl)) (pa_cons (pe_ix (ixlK (K := K)) (pv 1) pe_int (fun _ _ => rfl)) (pa_cons (pe_ix (ixlK (K := K)) (pv 1) pe_int (fun _ _ => rfl)) (pa_cons (pe_ix (ixlK (K := K)) (pv 1) pe_int (fun _ _ => rfl)) (pa_cons (pe_ix (ixlK (K := K)) (pv 1) pe_int (fun _ _ => rfl)) pa_nil))))))))))) (pk_cons (pv 3) (pk_cons (pv 4) (pk_cons (pv 5) (pk_cons (pv 6) (pk_cons (pv 7) pk_nil))))))))
  pss_nil)
 (pss_cons (ps_if (pt_cmpR op_eq (pv 8) pe_int (nomark _))
  (pss_one (ps_ret (pe_mkKF T.mk_SupervisorPlan G_mk_SupervisorPlan (hr.mono (by decide)) (by rfl) T.g_SupervisorPlan (WXO.takes_e (E := E) rfl rfl rfl rfl) (pa_cons (pv 0) (pa_cons (pe_ix (ixlK (K := K)) (pv 1) pe_int (fun _ _ => rfl)) (pa_cons (pe_ix (ixlK (K := K)) (pv 1) pe_int (fun _ _ => rfl)) (pa_cons (pe_ix (ixlK (K := K)) (pv 1) pe_int (fun _ _ => rfl)) (pa_cons (pe_ix (ixlK (K := K)) (pv 1) pe_int (fun _ _ => rfl)) (pa_cons (pe_ix (ixlK (K := K)) (pv 1) pe_int (fun _ _ => rfl)) (pa_cons (pe_ix (ixlK (K := K)) (pv 1) pe_int (fun _ _ => rfl)) (pa_cons (pe_ix (ixlK (K := K)) (pv 1) pe_int (fun _ _ => rfl)) (pa_cons (pe_ix (ixlK (K := K)) (pv 1) pe_int (fun _ _ => rfl)) (pa_cons (pe_ix (ixlK (K := K)) (pv 1) pe_int (fun _ _ => rfl)) (pa_cons (pe_ix (ixlK (K := K)) (pv 1) pe_int (fun _ _ => rfl)) (pa_cons (pe_ix (ixlK (K := K)) (pv 1) pe_int (fun _ _ => rfl)) pa_nil)))))))))))) (pk_cons (pv 3) (pk_cons (pv 4) (pk_cons (pv 5) (pk_cons (pv 6) (pk_cons (pv 7) pk_nil))))))))
  pss_nil)
 (pss_cons (ps_if (pt_cmpR op_eq (pv 8) pe_int (nomark _))
  (pss_one (ps_ret (pe_mkKF T.mk_SupervisorPlan G_mk_SupervisorPlan (hr.mono (by decide)) (by rfl) T.g_SupervisorPlan (WXO.takes_e (E := E) rfl rfl rfl rfl) (pa_cons (pv 0) (pa_cons (pe_ix (ixlK (K := K)) (pv 1) pe_int (fun _ _ => rfl)) (pa_cons (pe_ix (ixlK (K := K)) (pv 1) pe_int (fun _ _ => rfl)) (pa_cons (pe_ix (ixlK (K := K)) (pv 1) pe_int (fun _ _ => rfl)) (pa_cons (pe_ix (ixlK (K := K)) (pv 1) pe_int (fun _ _ => rfl)) (pa_cons (pe_ix (ixlK (K := K)) (pv 1) pe_int (fun _ _ => rfl)) (pa_cons (pe_ix (ixlK (K := K)) (pv 1) pe_int (fun _ _ => rfl)) (pa_cons (pe_ix (ixlK (K := K)) (pv 1) pe_int (fun _ _ => rfl)) (pa_cons (pe_ix (ixlK (K := K)) (pv 1) pe_int (fun _ _ => rfl)) (pa_cons (pe_ix (ixlK (K := K)) (pv 1) pe_int (fun _ _ => rfl)) (pa_cons (pe_ix (ixlK (K := K)) (pv 1) pe_int (fun _ _ => rfl)) (pa_cons (pe_ix (ixlK (K := K)) (pv 1) pe_int (fun _ _ => rfl)) (pa_cons (pe_ix (ixlK (K := K)) (pv 1) pe_int (fun _ _ => rfl)) pa_nil))))))))))))) (pk_cons (pv 3) (pk_cons (pv 4) (pk_cons (pv 5) (pk_cons (pv 6) (pk_cons (pv 7) pk_nil))))))))
  pss_nil)
 (pss_one (ps_ret (pe_mkKF T.mk_SupervisorPlan G_mk_SupervisorPlan (hr.mono (by decide)) (by rfl) T.g_SupervisorPlan (WXO.takes_e (E := E) rfl rfl rfl rfl) (pa_cons (pv 0) (pa_cons (pe_ix (ixlK (K := K)) (pv 1) pe_int (fun _ _ => rfl)) (pa_cons (pe_ix (ixlK (K := K)) (pv 1) pe_int (fun _ _ => rfl)) (pa_cons (pe_ix (ixlK (K := K)) (pv 1) pe_int (fun _ _ => rfl)) (pa_cons (pe_ix (ixlK (K := K)) (pv 1) pe_int (fun _ _ => rfl)) (pa_cons (pe_ix (ixlK (K := K)) (pv 1) pe_int (fun _ _ => rfl)) (pa_cons (pe_ix (ixlK (K := K)) (pv 1) pe_int (fun _ _ => rfl)) (pa_cons (pe_ix (ixlK (K := K)) (pv 1) pe_int (fun _ _ => rfl)) (pa_cons (pe_ix (ixlK (K := K)) (pv 1) pe_int (fun _ _ => rfl)) (pa_cons (pe_ix (ixlK (K := K)) (pv 1) pe_int (fun _ _ => rfl)) (pa_cons (pe_ix (ixlK (K := K)) (pv 1) pe_int (fun _ _ => rfl)) (pa_cons (pe_ix (ixlK (K := K)) (pv 1) pe_int (fun _ _ => rfl)) (pa_cons (pe_ix (ixlK (K := K)) (pv 1) pe_int (fun _ _ => rfl)) (pa_cons (pe_ix (ixlK (K := K)) (pv 1) pe_int (fun _ _ => rfl)) pa_nil)))))))))))))) (pk_cons (pv 3) (pk_cons (pv 4) (pk_cons (pv 5) (pk_cons (pv 6) (pk_cons (pv 7) pk_nil)))))))))))))), ?_⟩
    refine ⟨_, rfl, p, _, rfl, .of hp, rfl, _, _, rfl, _, _, rfl, _, _, rfl, _, _, rfl, _, _, rfl, rfl, ?_⟩
    refine ⟨_, rfl, l, ys, rfl, .inl (.of hl), ?_⟩
    dsimp only
    show tSeq _ _ _ _ _
    have hk : ys.length = 9 ∨ ys.length = 10 ∨ ys.length = 11 ∨ ys.length = 12 ∨ ys.length = 13 := by omega
    rcases hk with h | h | h | h | h
    · obtain ⟨y0, y1, y2, y3, y4, y5, y6, y7, y8, rfl⟩ := len9 h
      refine st_ya (fun Q q => ⟨_, rfl, rfl, true, rfl, q⟩) ?_
      exact st_mkSup al ak (by omega) (evl_cons (ev_var rfl) (evl_cons (ev_ixl2 rfl hl rfl) (evl_cons (ev_ixl2 rfl hl rfl) (evl_cons (ev_ixl2 rfl hl rfl) (evl_cons (ev_ixl2 rfl hl rfl) (evl_cons (ev_ixl2 rfl hl rfl) (evl_cons (ev_ixl2 rfl hl rfl) (evl_cons (ev_ixl2 rfl hl rfl) (evl_cons (ev_ixl2 rfl hl rfl) (evl_cons (ev_ixl2 rfl hl rfl) evl_nil)))))))))) (evl_cons (ev_var rfl) (evl_cons (ev_var rfl) (evl_cons (ev_var rfl) (evl_cons (ev_var rfl) (evl_cons (ev_var rfl) (evl_nil)))))) k
    · obtain ⟨y0, y1, y2, y3, y4, y5, y6, y7, y8, y9, rfl⟩ := len10 h
      refine st_nn (fun Q q => ⟨_, rfl, rfl, false, rfl, q⟩) ?_
      dsimp only
      refine st_ya (fun Q q => ⟨_, rfl, rfl, true, rfl, q⟩) ?_
      exact st_mkSup al ak (by omega) (evl_cons (ev_var rfl) (evl_cons (ev_ixl2 rfl hl rfl) (evl_cons (ev_ixl2 rfl hl rfl) (evl_cons (ev_ixl2 rfl hl rfl) (evl_cons (ev_ixl2 rfl hl rfl) (evl_cons (ev_ixl2 rfl hl rfl) (evl_cons (ev_ixl2 rfl hl rfl) (evl_cons (ev_ixl2 rfl hl rfl) (evl_cons (ev_ixl2 rfl hl rfl) (evl_cons (ev_ixl2 rfl hl rfl) (evl_cons (ev_ixl2 rfl hl rfl) evl_nil))))))))))) (evl_cons (ev_var rfl) (evl_cons (ev_var rfl) (evl_cons (ev_var rfl) (evl_cons (ev_var rfl) (evl_cons (ev_var rfl) (evl_nil)))))) k
    · obtain ⟨y0, y1, y2, y3, y4, y5, y6, y7, y8, y9, y10, rfl⟩ := len11 h
      refine st_nn (fun Q q => ⟨_, rfl, rfl, false, rfl, q⟩) ?_
      dsimp only
      refine st_nn (fun Q q => ⟨_, rfl, rfl, false, rfl, q⟩) ?_
      dsimp only
      refine st_ya (fun Q q => ⟨_, rfl, rfl, true, rfl, q⟩) ?_
      exact st_mkSup al ak (by omega) (evl_cons (ev_var rfl) (evl_cons (ev_ixl2 rfl hl rfl) (evl_cons (ev_ixl2 rfl hl rfl) (evl_cons (ev_ixl2 rfl hl rfl) (evl_cons (ev_ixl2 rfl hl rfl) (evl_cons (ev_ixl2 rfl hl rfl) (evl_cons (ev_ixl2 rfl hl rfl) (evl_cons (ev_ixl2 rfl hl rfl) (evl_cons (ev_ixl2 rfl hl rfl) (evl_cons (ev_ixl2 rfl hl rfl) (evl_cons (ev_ixl2 rfl hl rfl) (evl_cons (ev_ixl2 rfl hl rfl) evl_nil)))))))))))) (evl_cons (ev_var rfl) (evl_cons (ev_var rfl) (evl_cons (ev_var rfl) (evl_cons (ev_var rfl) (evl_cons (ev_var rfl) (evl_nil)))))) k
    · obtain ⟨y0, y1, y2, y3, y4, y5, y6, y7, y8, y9, y10, y11, rfl⟩ := len12 h
      refine st_nn (fun Q q => ⟨_, rfl, rfl, false, rfl, q⟩) ?_
      dsimp only
      refine st_nn (fun Q q => ⟨_, rfl, rfl, false, rfl, q⟩) ?_
      dsimp only
      refine st_nn (fun Q q => ⟨_, rfl, rfl, false, rfl, q⟩) ?_
      dsimp only
      refine st_ya (fun Q q => ⟨_, rfl, rfl, true, rfl, q⟩) ?_
      exact st_mkSup al ak (by omega) (evl_cons (ev_var rfl) (evl_cons (ev_ixl2 rfl hl rfl) (evl_cons (ev_ixl2 rfl hl rfl) (evl_cons (ev_ixl2 rfl hl rfl) (evl_cons (ev_ixl2 rfl hl rfl) (evl_cons (ev_ixl2 rfl hl rfl) (evl_cons (ev_ixl2 rfl hl rfl) (evl_cons (ev_ixl2 rfl hl rfl) (evl_cons (ev_ixl2 rfl hl rfl) (evl_cons (ev_ixl2 rfl hl rfl) (evl_cons (ev_ixl2 rfl hl rfl) (evl_cons (ev_ixl2 rfl hl rfl) (evl_cons (ev_ixl2 rfl hl rfl) evl_nil))))))))))))) (evl_cons (ev_var rfl) (evl_cons (ev_var rfl) (evl_cons (ev_var rfl) (evl_cons (ev_var rfl) (evl_cons (ev_var rfl) (evl_nil)))))) k
    · obtain ⟨y0, y1, y2, y3, y4, y5, y6, y7, y8, y9, y10, y11, y12, rfl⟩ := len13 h
      refine st_nn (fun Q q => ⟨_, rfl, rfl, false, rfl, q⟩) ?_
      dsimp only
      refine st_nn (fun Q q => ⟨_, rfl, rfl, false, rfl, q⟩) ?_
      dsimp only
      refine st_nn (fun Q q => ⟨_, rfl, rfl, false, rfl, q⟩) ?_
      dsimp only
      refine st_nn (fun Q q => ⟨_, rfl, rfl, false, rfl, q⟩) ?_
      dsimp only
      exact st_mkSup al ak (by omega) (evl_cons (ev_var rfl) (evl_cons (ev_ixl2 rfl hl rfl) (evl_cons (ev_ixl2 rfl hl rfl) (evl_cons (ev_ixl2 rfl hl rfl) (evl_cons (ev_ixl2 rfl hl rfl) (evl_cons (ev_ixl2 rfl hl rfl) (evl_cons (ev_ixl2 rfl hl rfl) (evl_cons (ev_ixl2 rfl hl rfl) (evl_cons (ev_ixl2 rfl hl rfl) (evl_cons (ev_ixl2 rfl hl rfl) (evl_cons (ev_ixl2 rfl hl rfl) (evl_cons (ev_ixl2 rfl hl rfl) (evl_cons (ev_ixl2 rfl hl rfl) (evl_cons (ev_ixl2 rfl hl rfl) evl_nil)))))))))))))) (evl_cons (ev_var rfl) (evl_cons (ev_var rfl) (evl_cons (ev_var rfl) (evl_cons (ev_var rfl) (evl_cons (ev_var rfl) (evl_nil)))))) k
theorem ok_greater (T : Env K mg) : FnOk P w K mg base (L2.CX P w) 12 (d_L_greater.loc K) T.fd_L_greater ["label", "c", "s"] (spSupB K 5) := by
  have G_mk_SupervisorPlan : FnK P w K mg base (L2.CX P w) 9 _ _ _ := fk_super T
  have G_L_greatest : FnOk P w K mg base (L2.CX P w) 11 _ _ _ _ := ok_greatest T
  refine T.F_L_greater.ok sc_L_greater (fun vs H Q E h => ?_) (fun cdv A outer s H vs Q E hr h => ?_)
  · obtain ⟨N, M, p1, p2, p3, p4, p5, p6, v1, v2, v3, v4, v5, v6, ks, ys, l, p, rfl, _⟩ := h
    rfl
  · have nd := sc_L_greater.nd
    have hu := hu_of hr
    obtain ⟨N, M, p1, p2, p3, p4, p5, p6, v1, v2, v3, v4, v5, v6, ks, ys, l, p, rfl, hl, hp, al, ak, hlo, hz, k⟩ := h
    have yl := ak.len
    refine ⟨_, (pss_cons (ps_asg (pv 2) (pg_lst rfl (pgs_cons (pg_name (i := 3) nd rfl (Or.inl rfl)) (pgs_cons (pg_name (i := 4) nd rfl (Or.inl rfl)) (pgs_cons (pg_name (i := 5) nd rfl (Or.inl rfl)) (pgs_cons (pg_name (i := 6) nd rfl (Or.inl rfl)) (pgs_cons (pg_name (i := 7) nd rfl (Or.inl rfl)) pgs_nil)))))))
 (pss_cons (ps_set (i := 8) nd rfl (Or.inl rfl) (pe_callB call_len_seq (by rfl) T.b_len (by decide +kernel) (pa_cons (pv 1) pa_nil)))
 (pss_cons (ps_if (pt_cmpR op_gt (pv 8) pe_int (nomark _))
  (pss_one (ps_ret (pe_call G_L_greatest (hr.mono (by decide)) (by rfl) T.g__law_greatest T.F_L_greatest.kp T.bi_L_greatest .nil (WXO.takes_e (E := E) rfl rfl rfl rfl) (pa_cons (pv 0) (pa_cons (pv 1) (pa_cons (pv 2) pa_nil))))))
  pss_nil)
 (pss_cons (ps_if (pt_cmpR op_eq (pv 8) pe_int (nomark _))
  (pss_one (ps_ret (pe_mkKF T.mk_SupervisorPlan G_mk_SupervisorPlan (hr.mono (by decide)) (by rfl) T.g_SupervisorPlan (WXO.takes_e (E := E) rfl rfl rfl rfl) (pa_cons (pv 0) (pa_cons (pe_ix (ixlK (K := K)) (pv 1) pe_int (fun _ _ => rfl)) (pa_cons (pe_ix (ixlK (K := K)) (pv 1) pe_int (fun _ _ => rfl)) (pa_cons (pe_ix (ixlK (K := K)) (pv 1) pe_int (fun _ _ => rfl)) (pa_cons (pe_ix (ixlK (K := K)) (pv 1) pe_int (fun _ _ => rfl)) (pa_cons (pe_ix (ixlK (K := K)) (pv 1) pe_int (fun _ _ => rfl)) pa_nil)))))) (pk_cons (pv 3) (pk_cons (pv 4) (pk_cons (pv 5) (pk_cons (pv 6) (pk_cons (pv 7) pk_nil))))))))
  pss_nil)
 (pss_cons (ps_if (pt_cmpR op_eq (pv 8) pe_int (nomark _))
  (pss_one (ps_ret (pe_mkKF T.mk_SupervisorPlan G_mk_SupervisorPlan (hr.mono (by decide)) (by rfl) T.g_SupervisorPlan (WXO.takes_e (E := E) rfl rfl rfl rfl) (pa_cons (pv 0) (pa_cons (pe_ix (ixlK (K := K)) (pv 1) pe_int (fun _ _ => rfl)) (pa_cons (pe_ix (ixlK (K := K)) (pv 1) pe_int (fun _ _ => rfl)) (pa_cons (pe_ix (ixlK (K := K)) (pv 1) pe_int (fun _ _ => rfl)) (pa_cons (pe_ix (ixlK (K := K)) (pv 1) pe_int (fun _ _ => rfl)) (pa_cons (pe_ix (ixlK (K := K)) (pv 1) pe_int (fun _ _ => rfl)) (pa_cons (pe_ix (ixlK (K := K)) (pv 1) pe_int (fun _ _ => rfl)) pa_nil))))))) (pk_cons (pv 3) (pk_cons (pv 4) (pk_cons (pv 5) (pk_cons (pv 6) (pk_cons (pv 7) pk_nil))))))))
  pss_nil)
 (pss_cons (ps_if (pt_cmpR op_eq (pv 8) pe_int (nomark _))
  (pss_one (ps_ret (pe_mkKF T.mk_SupervisorPlan G_mk_SupervisorPlan (hr.mono (by decide)) (by rfl) T.g_SupervisorPlan (WXO.takes_e (E := E) rfl rfl rfl rfl) (pa_cons (pv 0) (pa_cons (pe_ix (ixlK (K := K)) (pv 1) pe_int (fun _ _ => rfl)) (pa_cons (pe_ix (ixlK (K := K)) (pv 1) pe_int (fun _ _ => rfl)) (pa_cons (pe_ix (ixlK (K := K)) (pv 1) pe_int (fun _ _ => rfl)) (pa_cons (pe_ix (ixlK (K := K)) (pv 1) pe_int (fun _ _ => rfl)) (pa_cons (pe_ix (ixlK (K := K)) (pv 1) pe_int (fun _ _ => rfl)) (pa_cons (pe_ix (ixlK (K := K)) (pv 1) pe_int (fun _ _ => rfl)) (pa_cons (pe_ix (ixlK (K := K)) (pv 1) pe_int (fun _ _ => rfl)) pa_nil)))))))) (pk_cons (pv 3) (pk_cons (pv 4) (pk_cons (pv 5) (pk_cons (pv 6) (pk_cons (pv 7) pk_nil))))))))
  pss_nil)
 (pss_one (ps_ret (pe_mkKF T.mk_SupervisorPlan G_mk_SupervisorPlan (hr.mono (by decide)) (by rfl) T.g_SupervisorPlan (WXO.takes_e (E := E) rfl rfl rfl rfl) (pa_cons (pv 0) (pa_cons (pe_ix (ixlK (K := K)) (pv 1) pe_int (fun _ _ => rfl)) (pa_cons (pe_ix (ixlK (K := K)) (pv 1) pe_int (fun _ _ => rfl)) (pa_cons (pe_ix (ixlK (K := K)) (pv 1) pe_int (fun _ _ => rfl)) (pa_cons (pe_ix (ixlK (K := K)) (pv 1) pe_int (fun _ _ => rfl)) (pa_cons (pe_ix (ixlK (K := K)) (pv 1) pe_int (fun _ _ => rfl)) (pa_cons (pe_ix (ixlK (K := K)) (pv 1) pe_int (fun _ _ => rfl)) (pa_cons (pe_ix (ixlK (K := K)) (pv 1) pe_int (fun _ _ => rfl)) (pa_cons (pe_ix (ixlK (K := K)) (pv 1) pe_int (fun _ _ => rfl)) pa_nil))))))))) (pk_cons (pv 3) (pk_cons (pv 4) (pk_cons (pv 5) (pk_cons (pv 6) (pk_cons (pv 7) pk_nil)))))))))))))), ?_⟩
    refine ⟨_, rfl, p, _, rfl, .of hp, rfl, _, _, rfl, _, _, rfl, _, _, rfl, _, _, rfl, _, _, rfl, rfl, ?_⟩
    refine ⟨_, rfl, l, ys, rfl, .inl (.of hl), ?_⟩
    dsimp only
    show tSeq _ _ _ _ _
    by_cases hb : 8 < ys.length
    · refine st_ya (evb_cmpF (g := fun i j => decide (i > j)) (ev_var rfl) ev_c (decide_eq_true (by omega))) ?_
      exact ⟨_, rfl, _, rfl, _, rfl, N, M, p1, p2, p3, p4, p5, p6, v1, v2, v3, v4, v5, v6, ks, ys, l, p, rfl, hl, hp, al, ak, by omega, hz, k⟩
    refine st_nn (evb_cmpF (g := fun i j => decide (i > j)) (ev_var rfl) ev_c (decide_eq_false (by omega))) ?_
    dsimp only
    show tSeq _ _ _ _ _
    have hk : ys.length = 5 ∨ ys.length = 6 ∨ ys.length = 7 ∨ ys.length = 8 := by omega
    rcases hk with h | h | h | h
    · obtain ⟨y0, y1, y2, y3, y4, rfl⟩ := len5 h
      refine st_ya (fun Q q => ⟨_, rfl, rfl, true, rfl, q⟩) ?_
      exact st_mkSup al ak (by omega) (evl_cons (ev_var rfl) (evl_cons (ev_ixl2 rfl hl rfl) (evl_cons (ev_ixl2 rfl hl rfl) (evl_cons (ev_ixl2 rfl hl rfl) (evl_cons (ev_ixl2 rfl hl rfl) (evl_cons (ev_ixl2 rfl hl rfl) evl_nil)))))) (evl_cons (ev_var rfl) (evl_cons (ev_var rfl) (evl_cons (ev_var rfl) (evl_cons (ev_var rfl) (evl_cons (ev_var rfl) (evl_nil)))))) k
    · obtain ⟨y0, y1, y2, y3, y4, y5, rfl⟩ := len6 h
      refine st_nn (fun Q q => ⟨_, rfl, rfl, false, rfl, q⟩) ?_
      dsimp only
      refine st_ya (fun Q q => ⟨_, rfl, rfl, true, rfl, q⟩) ?_
      exact st_mkSup al ak (by omega) (evl_cons (ev_var rfl) (evl_cons (ev_ixl2 rfl hl rfl) (evl_cons (ev_ixl2 rfl hl rfl) (evl_cons (ev_ixl2 rfl hl rfl) (evl_cons (ev_ixl2 rfl hl rfl) (evl_cons (ev_ixl2 rfl hl rfl) (evl_cons (ev_ixl2 rfl hl rfl) evl_nil))))))) (evl_cons (ev_var rfl) (evl_cons (ev_var rfl) (evl_cons (ev_var rfl) (evl_cons (ev_var rfl) (evl_cons (ev_var rfl) (evl_nil)))))) k
    · obtain ⟨y0, y1, y2, y3, y4, y5, y6, rfl⟩ := len7 h
      refine st_nn (fun Q q => ⟨_, rfl, rfl, false, rfl, q⟩) ?_
      dsimp only
      refine st_nn (fun Q q => ⟨_, rfl, rfl, false, rfl, q⟩) ?_
      dsimp only
      refine st_ya (fun Q q => ⟨_, rfl, rfl, true, rfl, q⟩) ?_
      exact st_mkSup al ak (by omega) (evl_cons (ev_var rfl) (evl_cons (ev_ixl2 rfl hl rfl) (evl_cons (ev_ixl2 rfl hl rfl) (evl_cons (ev_ixl2 rfl hl rfl) (evl_cons (ev_ixl2 rfl hl rfl) (evl_cons (ev_ixl2 rfl hl rfl) (evl_cons (ev_ixl2 rfl hl rfl) (evl_cons (ev_ixl2 rfl hl rfl) evl_nil)))))))) (evl_cons (ev_var rfl) (evl_cons (ev_var rfl) (evl_cons (ev_var rfl) (evl_cons (ev_var rfl) (evl_cons (ev_var rfl) (evl_nil)))))) k
    · obtain ⟨y0, y1, y2, y3, y4, y5, y6, y7, rfl⟩ := len8 h
      refine st_nn (fun Q q => ⟨_, rfl, rfl, false, rfl, q⟩) ?_
      dsimp only
      refine st_nn (fun Q q => ⟨_, rfl, rfl, false, rfl, q⟩) ?_
      dsimp only
      refine st_nn (fun Q q => ⟨_, rfl, rfl, false, rfl, q⟩) ?_
      dsimp only
      exact st_mkSup al ak (by omega) (evl_cons (ev_var rfl) (evl_cons (ev_ixl2 rfl hl rfl) (evl_cons (ev_ixl2 rfl hl rfl) (evl_cons (ev_ixl2 rfl hl rfl) (evl_cons (ev_ixl2 rfl hl rfl) (evl_cons (ev_ixl2 rfl hl rfl) (evl_cons (ev_ixl2 rfl hl rfl) (evl_cons (ev_ixl2 rfl hl rfl) (evl_cons (ev_ixl2 rfl hl rfl) evl_nil))))))))) (evl_cons (ev_var rfl) (evl_cons (ev_var rfl) (evl_cons (ev_var rfl) (evl_cons (ev_var rfl) (evl_cons (ev_var rfl) (evl_nil)))))) k
theorem ok_sup (T : Env K mg) : FnOk P w K mg base (L2.CX P w) 13 (d_L_sup.loc K) T.fd_L_sup ["label", "c", "s"] (spSupB K 0) := by
  have G_mk_SupervisorPlan : FnK P w K mg base (L2.CX P w) 9 _ _ _ := fk_super T
  have G_L_greater : FnOk P w K mg base (L2.CX P w) 12 _ _ _ _ := ok_greater T
  refine T.F_L_sup.ok sc_L_sup (fun vs H Q E h => ?_) (fun cdv A outer s H vs Q E hr h => ?_)
  · obtain ⟨N, M, p1, p2, p3, p4, p5, p6, v1, v2, v3, v4, v5, v6, ks, ys, l, p, rfl, _⟩ := h
    rfl
  · have nd := sc_L_sup.nd
    have hu := hu_of hr
    obtain ⟨N, M, p1, p2, p3, p4, p5, p6, v1, v2, v3, v4, v5, v6, ks, ys, l, p, rfl, hl, hp, al, ak, hlo, hz, k⟩ := h
    have yl := ak.len
    refine ⟨_, (pss_cons (ps_asg (pv 2) (pg_lst rfl (pgs_cons (pg_name (i := 3) nd rfl (Or.inl rfl)) (pgs_cons (pg_name (i := 4) nd rfl (Or.inl rfl)) (pgs_cons (pg_name (i := 5) nd rfl (Or.inl rfl)) (pgs_cons (pg_name (i := 6) nd rfl (Or.inl rfl)) (pgs_cons (pg_name (i := 7) nd rfl (Or.inl rfl)) pgs_nil)))))))
 (pss_cons (ps_set (i := 8) nd rfl (Or.inl rfl) (pe_callB call_len_seq (by rfl) T.b_len (by decide +kernel) (pa_cons (pv 1) pa_nil)))
 (pss_cons (ps_if (pt_cmpR op_gt (pv 8) pe_int (nomark _))
  (pss_one (ps_ret (pe_call G_L_greater (hr.mono (by decide)) (by rfl) T.g__law_greater T.F_L_greater.kp T.bi_L_greater .nil (WXO.takes_e (E := E) rfl rfl rfl rfl) (pa_cons (pv 0) (pa_cons (pv 1) (pa_cons (pv 2) pa_nil))))))
  pss_nil)
 (pss_cons (ps_if (pt_cmpR op_eq (pv 8) pe_int (nomark _))
  (pss_one (ps_ret (pe_mkKF T.mk_SupervisorPlan G_mk_SupervisorPlan (hr.mono (by decide)) (by rfl) T.g_SupervisorPlan (WXO.takes_e (E := E) rfl rfl rfl rfl) (pa_cons (pv 0) pa_nil) (pk_cons (pv 3) (pk_cons (pv 4) (pk_cons (pv 5) (pk_cons (pv 6) (pk_cons (pv 7) pk_nil))))))))
  pss_nil)
 (pss_cons (ps_if (pt_cmpR op_eq (pv 8) pe_int (nomark _))
  (pss_one (ps_ret (pe_mkKF T.mk_SupervisorPlan G_mk_SupervisorPlan (hr.mono (by decide)) (by rfl) T.g_SupervisorPlan (WXO.takes_e (E := E) rfl rfl rfl rfl) (pa_cons (pv 0) (pa_cons (pe_ix (ixlK (K := K)) (pv 1) pe_int (fun _ _ => rfl)) pa_nil)) (pk_cons (pv 3) (pk_cons (pv 4) (pk_cons (pv 5) (pk_cons (pv 6) (pk_cons (pv 7) pk_nil))))))))
  pss_nil)
 (pss_cons (ps_if (pt_cmpR op_eq (pv 8) pe_int (nomark _))
  (pss_one (ps_ret (pe_mkKF T.mk_SupervisorPlan G_mk_SupervisorPlan (hr.mono (by decide)) (by rfl) T.g_SupervisorPlan (WXO.takes_e (E := E) rfl rfl rfl rfl) (pa_cons (pv 0) (pa_cons (pe_ix (ixlK (K := K)) (pv 1) pe_int (fun _ _ => rfl)) (pa_cons (pe_ix (ixlK (K := K)) (pv 1) pe_int (fun _ _ => rfl)) pa_nil))) (pk_cons (pv 3) (pk_cons (pv 4) (pk_cons (pv 5) (pk_cons (pv 6) (pk_cons (pv 7) pk_nil))))))))
  pss_nil)
 (pss_cons (ps_if (pt_cmpR op_eq (pv 8) pe_int (nomark _))
  (pss_one (ps_ret (pe_mkKF T.mk_SupervisorPlan G_mk_SupervisorPlan (hr.mono (by decide)) (by rfl) T.g_SupervisorPlan (WXO.takes_e (E := E) rfl rfl rfl rfl) (pa_cons (pv 0) (pa_cons (pe_ix (ixlK (K := K)) (pv 1) pe_int (fun _ _ => rfl)) (pa_cons (pe_ix (ixlK (K := K)) (pv 1) pe_int (fun _ _ => rfl)) (pa_cons (pe_ix (ixlK (K := K)) (pv 1) pe_int (fun _ _ => rfl)) pa_nil)))) (pk_cons (pv 3) (pk_cons (pv 4) (pk_cons (pv 5) (pk_cons (pv 6) (pk_cons (pv 7) pk_nil))))))))
  pss_nil)
 (pss_one (ps_ret (pe_mkKF T.mk_SupervisorPlan G_mk_SupervisorPlan (hr.mono (by decide)) (by rfl) T.g_SupervisorPlan (WXO.takes_e (E := E) rfl rfl rfl rfl) (pa_cons (pv 0) (pa_cons (pe_ix (ixlK (K := K)) (pv 1) pe_int (fun _ _ => rfl)) (pa_cons (pe_ix (ixlK (K := K)) (pv 1) pe_int (fun _ _ => rfl)) (pa_cons (pe_ix (ixlK (K := K)) (pv 1) pe_int (fun _ _ => rfl)) (pa_cons (pe_ix (ixlK (K := K)) (pv 1) pe_int (fun _ _ => rfl)) pa_nil))))) (pk_cons (pv 3) (pk_cons (pv 4) (pk_cons (pv 5) (pk_cons (pv 6) (pk_cons (pv 7) pk_nil))))))))))))))), ?_⟩
    refine ⟨_, rfl, p, _, rfl, .of hp, rfl, _, _, rfl, _, _, rfl, _, _, rfl, _, _, rfl, _, _, rfl, rfl, ?_⟩
    refine ⟨_, rfl, l, ys, rfl, .inl (.of hl), ?_⟩
    dsimp only
    show tSeq _ _ _ _ _
    by_cases hb : 4 < ys.length
    · refine st_ya (evb_cmpF (g := fun i j => decide (i > j)) (ev_var rfl) ev_c (decide_eq_true (by omega))) ?_
      exact ⟨_, rfl, _, rfl, _, rfl, N, M, p1, p2, p3, p4, p5, p6, v1, v2, v3, v4, v5, v6, ks, ys, l, p, rfl, hl, hp, al, ak, by omega, hz, k⟩
    refine st_nn (evb_cmpF (g := fun i j => decide (i > j)) (ev_var rfl) ev_c (decide_eq_false (by omega))) ?_
    dsimp only
    show tSeq _ _ _ _ _
    have hk : ys.length = 0 ∨ ys.length = 1 ∨ ys.length = 2 ∨ ys.length = 3 ∨ ys.length = 4 := by omega
    rcases hk with h | h | h | h | h
    · obtain rfl := len0 h
      refine st_ya (fun Q q => ⟨_, rfl, rfl, true, rfl, q⟩) ?_
      exact st_mkSup al ak (by omega) (evl_cons (ev_var rfl) (evl_nil)) (evl_cons (ev_var rfl) (evl_cons (ev_var rfl) (evl_cons (ev_var rfl) (evl_cons (ev_var rfl) (evl_cons (ev_var rfl) (evl_nil)))))) k
    · obtain ⟨y0, rfl⟩ := len1 h
      refine st_nn (fun Q q => ⟨_, rfl, rfl, false, rfl, q⟩) ?_
      dsimp only
      refine st_ya (fun Q q => ⟨_, rfl, rfl, true, rfl, q⟩) ?_
      exact st_mkSup al ak (by omega) (evl_cons (ev_var rfl) (evl_cons (ev_ixl2 rfl hl rfl) evl_nil)) (evl_cons (ev_var rfl) (evl_cons (ev_var rfl) (evl_cons (ev_var rfl) (evl_cons (ev_var rfl) (evl_cons (ev_var rfl) (evl_nil)))))) k
    · obtain ⟨y0, y1, rfl⟩ := len2 h
      refine st_nn (fun Q q => ⟨_, rfl, rfl, false, rfl, q⟩) ?_
      dsimp only
      refine st_nn (fun Q q => ⟨_, rfl, rfl, false, rfl, q⟩) ?_
      dsimp only
      refine st_ya (fun Q q => ⟨_, rfl, rfl, true, rfl, q⟩) ?_
      exact st_mkSup al ak (by omega) (evl_cons (ev_var rfl) (evl_cons (ev_ixl2 rfl hl rfl) (evl_cons (ev_ixl2 rfl hl rfl) evl_nil))) (evl_cons (ev_var rfl) (evl_cons (ev_var rfl) (evl_cons (ev_var rfl) (evl_cons (ev_var rfl) (evl_cons (ev_var rfl) (evl_nil)))))) k
    · obtain ⟨y0, y1, y2, rfl⟩ := len3 h
      refine st_nn (fun Q q => ⟨_, rfl, rfl, false, rfl, q⟩) ?_
      dsimp only
      refine st_nn (fun Q q => ⟨_, rfl, rfl, false, rfl, q⟩) ?_
      dsimp only
      refine st_nn (fun Q q => ⟨_, rfl, rfl, false, rfl, q⟩) ?_
      dsimp only
      refine st_ya (fun Q q => ⟨_, rfl, rfl, true, rfl, q⟩) ?_
      exact st_mkSup al ak (by omega) (evl_cons (ev_var rfl) (evl_cons (ev_ixl2 rfl hl rfl) (evl_cons (ev_ixl2 rfl hl rfl) (evl_cons (ev_ixl2 rfl hl rfl) evl_nil)))) (evl_cons (ev_var rfl) (evl_cons (ev_var rfl) (evl_cons (ev_var rfl) (evl_cons (ev_var rfl) (evl_cons (ev_var rfl) (evl_nil)))))) k
    · obtain ⟨y0, y1, y2, y3, rfl⟩ := len4 h
      refine st_nn (fun Q q => ⟨_, rfl, rfl, false, rfl, q⟩) ?_
      dsimp only
      refine st_nn (fun Q q => ⟨_, rfl, rfl, false, rfl, q⟩) ?_
      dsimp only
      refine st_nn (fun Q q => ⟨_, rfl, rfl, false, rfl, q⟩) ?_
      dsimp only
      refine st_nn (fun Q q => ⟨_, rfl, rfl, false, rfl, q⟩) ?_
      dsimp only
      exact st_mkSup al ak (by omega) (evl_cons (ev_var rfl) (evl_cons (ev_ixl2 rfl hl rfl) (evl_cons (ev_ixl2 rfl hl rfl) (evl_cons (ev_ixl2 rfl hl rfl) (evl_cons (ev_ixl2 rfl hl rfl) evl_nil))))) (evl_cons (ev_var rfl) (evl_cons (ev_var rfl) (evl_cons (ev_var rfl) (evl_cons (ev_var rfl) (evl_cons (ev_var rfl) (evl_nil)))))) k
end
end W02

set_option Elab.async false
set_option linter.all false
set_option maxRecDepth 100000
set_option maxHeartbeats 2000000
/-! list.count over bools -/
namespace WCb
open PySem PySem.Spec PyProof.Rows L2
def eqb (k : Bool) (v : Value) : Bool := match v with
  | .bool n => n == k
  | _ => false
section
variable {X : Cx}
theorem bools_of : ∀ {bs : List Bool} {us : List Value}, Vals (bs.map V.bl) us → us = bs.map Value.bool
  | [], us, r => by cases r; rfl
  | b :: bs, us, r => by
    cases r with
    | cons h t =>
      cases h
      rw [bools_of t]
      rfl
theorem eqb_count (k : Bool) : ∀ bs : List Bool, (bs.map Value.bool).countP (eqb k) = bs.count k
  | [] => rfl
  | b :: bs => by
    have ih := eqb_count k bs
    rw [List.map_cons, List.countP_cons, List.count_cons, ih] <;> rfl
def rCntB (K : PySem.W.Frag) : V → List V → Hp → VK → Prop := fun x xs H Q => ∃ (p : Addr) (bs : List Bool) (k : Bool), x = .ref p ∧ xs = [.bl k] ∧ SqL K H p (bs.map V.bl) ∧ Q (.int (bs.count k : Nat)) H
theorem mt_lcountB : MtR X "list.count" (rCntB X.K) := by
  intro pins s σ H x xs v us Q I rx rxs h
  obtain ⟨p, bs, k, rfl, rfl, hs, q⟩ := h
  cases rx
  obtain ⟨u, rfl, ru⟩ := rxs.one
  cases ru
  obtain ⟨its, rv, ⟨⟨cls, dd, data, sl⟩, n, ho, hc, hdn, hd⟩, hlen⟩ := I.list hs
  simp only at hc hd
  subst hc hd
  have hi := bools_of rv
  refine call_meets PySem.F.slot_list_count ⟨_, ho, rfl⟩ PySem.F.entry_list_count (PySem.F.args_list_count_2 _ _)
    (SeqAt.list_countAt p its.toArray n dd sl (.bool k) (eqb k)) ⟨ho, fun y hy => ?_, ?_⟩
  · have hy : y ∈ its := by simpa using hy
    rw [hi] at hy
    obtain ⟨b, _, rfl⟩ := List.mem_map.mp hy
    exact SeqAt.EqAt.bool_bool b k
  have ec : its.toArray.toList.countP (eqb k) = bs.count k := by
    show its.countP _ = _
    rw [hi]
    exact eqb_count k bs
  refine ⟨.int (bs.count k : Nat), H, I.tok _, ⟨s.toks, ?_⟩, q⟩
  show Value.int ((its.toArray.toList.countP (eqb k) : Nat) : Int) s.toks = Value.int ((bs.count k : Nat) : Int) s.toks
  rw [ec]
end
end WCb

set_option Elab.async false
set_option linter.all false
set_option maxRecDepth 100000
set_option maxHeartbeats 1000000
namespace W02
open PySem PySem.Spec PyProof.Rows L2 WXG WEv WRd WLf WEn WZs WRu WSt StX WDc WPv WEb WXO WXE WKd WGp
/-! ### plans made, and what is told of it -/
def wKvs (v1 v2 v3 v4 v5 v6 v7 : V) : List (Key × V) := [(Sum.inr "name", v1), (Sum.inr "restart", v2), (Sum.inr "opening", v3), (Sum.inr "closing", v4), (Sum.inr "deadline", v5), (Sum.inr "refused", v6), (Sum.inr "script", v7)]
def sKvs (v1 v2 v3 v4 v5 v6 : V) : List (Key × V) := [(Sum.inr "name", v1), (Sum.inr "restart", v2), (Sum.inr "strategy", v3), (Sum.inr "most", v4), (Sum.inr "span", v5), (Sum.inr "deadline", v6)]
/-- what the making leads to: none, or the error's class, field and value -/
def wOut (p1 p2 p3 p4 p5 p6 p7 : Pv) : Option (Str × V) := (firstBad (wRows p1 p2 p3 p4 p5 p6 p7)).map fun f => ("setting", .str f)
def sOut (p1 p2 p3 p4 p5 p6 : Pv) (ks : List Pv) : Option (Str × V) := match firstBad (sRows p1 p2 p3 p4 p5 p6) with
  | some f => some ("setting", .str f)
  | none => (badChild 0 1 1 ks).map fun i => ("index", .int (i : Nat))
def errC (K : PySem.W.Frag) (f : Str) : Addr := if f = "setting" then BS K else BC K
/-- data of a plan that is to be made -/
def Data (K : PySem.W.Frag) (out : Option (Str × V)) : List V → Hp → Prop := fun vs H =>
  (∃ N p1 p2 p3 p4 p5 p6 p7 v1 v2 v3 v4 v5 v6 v7 c, ∃ m : Addr, vs = [.str "w", .ref m, c] ∧ H m = some (.dK (wKvs v1 v2 v3 v4 v5 v6 v7)) ∧ AtL K N [p1, p2, p3, p4, p5, p6, p7] [v1, v2, v3, v4, v5, v6, v7] H ∧ okScr p7 = true ∧ out = wOut p1 p2 p3 p4 p5 p6 p7) ∨
  (∃ N M p1 p2 p3 p4 p5 p6 v1 v2 v3 v4 v5 v6 ks ys, ∃ m l : Addr, vs = [.str "s", .ref m, .ref l] ∧ H m = some (.dK (sKvs v1 v2 v3 v4 v5 v6)) ∧ AtL K N [p1, p2, p3, p4, p5, p6] [v1, v2, v3, v4, v5, v6] H ∧ H l = some (.lst ys) ∧ AtL K M ks ys H ∧ ks.length ≤ 13 ∧ out = sOut p1 p2 p3 p4 p5 p6 ks)
def spMade (K : PySem.W.Frag) : Sp := fun vs H Q E => ∃ out, Data K out vs H ∧ (out = none → ∀ v H', Same H H' → Q v H') ∧ ∀ f y, out = some (f, y) → Err H (errC K f) f y E
theorem st_mkWrk {K : PySem.W.Frag} {σ : L2.St} {H : Hp} {ta tk : TA} {D : Ends} {E : XK} {N : Addr → Prop} {p1 p2 p3 p4 p5 p6 p7 : Pv} {v1 v2 v3 v4 v5 v6 v7 : V} (al : AtL K N [p1, p2, p3, p4, p5, p6, p7] [v1, v2, v3, v4, v5, v6, v7] H) (hos : okScr p7 = true)
    (ha : EvL ta σ H [v1]) (hk : EvL tk σ H [v2, v3, v4, v5, v6, v7]) (k : firstBad (wRows p1 p2 p3 p4 p5 p6 p7) = none → ∀ x H', Same H H' → At K N (.wrk [p1, p2, p3, p4, p5, p6, p7]) (.ref x) H' → D.rt (.ref x) H') (ke : ∀ f, firstBad (wRows p1 p2 p3 p4 p5 p6 p7) = some f → Err H (BS K) "setting" (.str f) E) :
    tRet (tMkKF (CW K) (spkW K) 6 E ta tk) D σ H :=
  ha _ (hk _ ⟨rfl, fun x dx hx hdx ne => ⟨rfl, w_init (Q := D.rt) al hos hx hdx ne (fun hb H' s' a => k hb x H' s' a) ke⟩⟩)
section
variable {P : Program} {w : World} {K : PySem.W.Frag} {mg : Str → Option Value} {base : Heap}
theorem ok_made (T : Env K mg) : FnOk P w K mg base (L2.CX P w) 14 (d_L_made.loc K) T.fd_L_made ["kind", "v", "c"] (spMade K) := by
  have G_mk_WorkerPlan : FnK P w K mg base (L2.CX P w) 9 _ _ _ := fk_worker T
  have G_L_sup : FnOk P w K mg base (L2.CX P w) 13 _ _ _ _ := ok_sup T
  refine T.F_L_made.ok sc_L_made (fun vs H Q E h => ?_) (fun cdv A outer s H vs Q E hr h => ?_)
  · obtain ⟨out, ⟨_, _, _, _, _, _, _, _, _, _, _, _, _, _, _, _, _, rfl, _⟩ | ⟨_, _, _, _, _, _, _, _, _, _, _, _, _, _, _, _, _, _, rfl, _⟩, _⟩ := h <;> rfl
  · have nd := sc_L_made.nd
    have hu := hu_of hr
    obtain ⟨out, hD, k, ke⟩ := h
    refine ⟨_, (pss_cons (ps_if (pt_cmpR op_eq (pv 0) pe_str (nomark _))
  (pss_one (ps_ret (pe_call G_L_sup (hr.mono (by decide)) (by rfl) T.g__law_sup T.F_L_sup.kp T.bi_L_sup .nil (WXO.takes_e (E := E) rfl rfl rfl rfl) (pa_cons (pe_dget hu (pv 1) pe_str (fun _ _ => rfl)) (pa_cons (pv 2) (pa_cons (pe_lst (pa_cons (pe_dget hu (pv 1) pe_str (fun _ _ => rfl)) (pa_cons (pe_dget hu (pv 1) pe_str (fun _ _ => rfl)) (pa_cons (pe_dget hu (pv 1) pe_str (fun _ _ => rfl)) (pa_cons (pe_dget hu (pv 1) pe_str (fun _ _ => rfl)) (pa_cons (pe_dget hu (pv 1) pe_str (fun _ _ => rfl)) pa_nil)))))) pa_nil))))))
  pss_nil)
 (pss_one (ps_ret (pe_mkKF T.mk_WorkerPlan G_mk_WorkerPlan (hr.mono (by decide)) (by rfl) T.g_WorkerPlan (WXO.takes_e (E := E) rfl rfl rfl rfl) (pa_cons (pe_dget hu (pv 1) pe_str (fun _ _ => rfl)) pa_nil) (pk_cons (pe_dget hu (pv 1) pe_str (fun _ _ => rfl)) (pk_cons (pe_dget hu (pv 1) pe_str (fun _ _ => rfl)) (pk_cons (pe_dget hu (pv 1) pe_str (fun _ _ => rfl)) (pk_cons (pe_dget hu (pv 1) pe_str (fun _ _ => rfl)) (pk_cons (pe_dget hu (pv 1) pe_str (fun _ _ => rfl)) (pk_cons (pe_dget hu (pv 1) pe_str (fun _ _ => rfl)) pk_nil)))))))))), ?_⟩
    rcases hD with ⟨N, p1, p2, p3, p4, p5, p6, p7, v1, v2, v3, v4, v5, v6, v7, c, m, rfl, hm, al, hos, rfl⟩ | ⟨N, M, p1, p2, p3, p4, p5, p6, v1, v2, v3, v4, v5, v6, ks, ys, m, l, rfl, hm, al, hl, ak, hz, rfl⟩
    · refine st_nn (evb_str rfl (by decide +kernel)) ?_
      have g : ∀ {f : Str} {v : V}, valV (wKvs v1 v2 v3 v4 v5 v6 v7) (Sum.inr f) = some v → Ev (tDGet (tVar 1) (tC (.str f))) (start ["kind", "v", "c"] [V.str "w", V.ref m, c]) H v := fun {f v} e => ev_dget (ev_var rfl) ev_c (k := Sum.inr f) hm e
      refine st_mkWrk al hos (evl_cons (g (f := "name") rfl) evl_nil) (evl_cons (g (f := "restart") rfl) (evl_cons (g (f := "opening") rfl) (evl_cons (g (f := "closing") rfl) (evl_cons (g (f := "deadline") rfl) (evl_cons (g (f := "refused") rfl) (evl_cons (g (f := "script") rfl) evl_nil)))))) (fun hb x H' s' _ => ?_) fun f hf => ?_
      · exact k (by unfold wOut; rw [hb]; rfl) _ _ s'
      · exact ke "setting" (.str f) (by unfold wOut; rw [hf]; rfl)
    · refine st_ya (evb_str rfl (by decide +kernel)) ?_
      have g : ∀ {f : Str} {v : V}, valV (sKvs v1 v2 v3 v4 v5 v6) (Sum.inr f) = some v → Ev (tDGet (tVar 1) (tC (.str f))) (start ["kind", "v", "c"] [V.str "s", V.ref m, V.ref l]) H v := fun {f v} e => ev_dget (ev_var rfl) ev_c (k := Sum.inr f) hm e
      refine g (f := "name") rfl _ ⟨_, rfl, ?_⟩
      show tCons _ _ _ _ _
      show tLst _ _ _ _
      show tCons _ _ _ _ _
      refine evl_cons (g (f := "restart") rfl) (evl_cons (g (f := "strategy") rfl) (evl_cons (g (f := "most") rfl) (evl_cons (g (f := "span") rfl) (evl_cons (g (f := "deadline") rfl) evl_nil)))) _ ⟨(by decide : 5 ≤ sizeLine), fun p hp => ?_⟩
      have s1 := same_new (o := .lst [v2, v3, v4, v5, v6]) hp
      refine ⟨N, M, p1, p2, p3, p4, p5, p6, v1, v2, v3, v4, v5, v6, ks, ys, l, p, rfl, s1 _ _ hl, upd_same, mn_atl _ _ _ s1 al, mn_atl _ _ _ s1 ak, Nat.zero_le _, hz, fun hb hc x H' s' _ => ?_, fun hb i hi => ?_, fun f hf => ?_⟩
      · exact k (by unfold sOut; rw [hb, hc]; rfl) _ _ (s1.trans s')
      · exact (ke "index" (.int (i : Nat)) (by unfold sOut; rw [hb, hi]; rfl)).mono s1
      · exact (ke "setting" (.str f) (by unfold sOut; rw [hf])).mono s1
/-- what is told of it -/
def toldOf : Option (Str × V) → Str × V
  | none => ("made", .non)
  | some (f, y) => (if f = "setting" then "setting" else "child", y)
/-- a list that is new, whose items are told -/
def LFN (H0 : Hp) (Ps : List (HP V)) : HP V := fun v H => ∃ p xs, v = .ref p ∧ H0 p = none ∧ H p = some (.lst xs) ∧ Fa Ps xs H
theorem g_catN {σ : L2.St} {H0 H : Hp} {ta tb : TE} {Ps Qs : List (HP V)} (s0 : Same H0 H) (ha : G ta σ H (LF Ps)) (hb : G tb σ H (LF Qs)) (ma : Mn (Fa Ps)) (mb : Mn (Fa Qs)) (hn : Ps.length + Qs.length ≤ 100000 := by exact Nat.le_of_ble_eq_true rfl) : G (tOp rCat ta tb) σ H (LFN H0 (Ps ++ Qs)) := ⟨fun H1 e _ q =>
  ha.ev H1 e _ fun a H2 s2 pa => hb.ev H2 (e.trans s2) _ fun b H3 s3 pb => by
    obtain ⟨p, xs, rfl, hp, fa⟩ := ha.mn _ _ _ s3 pa
    obtain ⟨p', zs, rfl, hp', fb⟩ := pb
    refine ⟨p, p', xs, zs, rfl, rfl, hp, hp', by rw [fa.len, fb.len]; exact Nat.le_trans hn (by decide), fun r hr => q _ _ ((s2.trans s3).trans (same_new hr)) ⟨r, _, rfl, Same.free (((s0.trans e).trans s2).trans s3) hr, upd_same, (ma _ _ _ (same_new hr) fa).app (mb _ _ _ (same_new hr) fb)⟩⟩, fun _ _ _ s ⟨p, xs, e, h0, h, q⟩ => ⟨p, xs, e, h0, s _ _ h, mn_app ma mb _ _ _ s q⟩⟩
theorem mn_kxt {H H' : Hp} {a C : Addr} {f : Str} {y : V} (s : Same H H') (h : KXt H a C f y) : KXt H' a C f y := by
  obtain ⟨dx, h1, h2⟩ := h
  exact ⟨dx, s _ _ h1, s _ _ h2⟩
theorem refs_vals : ∀ {as : List Addr} {us : List Value}, Vals (as.map V.ref) us → us = as.map Value.ref
  | [], _, r => by cases r; rfl
  | a :: as, _, r => by
    cases r with
    | cons h t =>
      cases h
      rw [refs_vals t]
      rfl
section
variable {K : PySem.W.Frag} {σ : L2.St} {H : Hp} {a C : Addr} {f : Str} {y : V} {B newId initId : String} {bmB : List Value} {b : Bool} {i : Nat} {c1 c2 c3 : Addr}
theorem ev_kiT {n : String} (hk : KXt H a C f y) (T : XC K C B newId initId bmB) (h : σ[i]? = some (some (.ref a))) (e : PySem.W.kitOne K (.ref C) (.type n) = some b) : Ev (tCB (rKi K) (tCons (tVar i) (tCons (tC (.ty n)) tNil))) σ H (.bl b) := fun Q q =>
  ⟨_, h, a, C, f, y, _, B, newId, initId, bmB, b, rfl, hk, T, .inl ⟨_, ty_cls, e⟩, q⟩
theorem g_ki (hk : KXt H a C f y) (T : XC K C B newId initId bmB) (h : σ[i]? = some (some (.ref a))) (e : PySem.W.kitOne K (.ref C) (.ref c1) = some b) : G (tCB (rKi K) (tCons (tVar i) (tCons (tC (.ref c1)) tNil))) σ H (Is (.bl b)) := ⟨fun H1 s Q q =>
  ⟨_, h, a, C, f, y, _, B, newId, initId, bmB, b, rfl, mn_kxt s hk, T, .inl ⟨_, ref_cls, e⟩, q _ _ (Same.refl _) rfl⟩, mn_i⟩
theorem g_ki2 (hk : KXt H a C f y) (T : XC K C B newId initId bmB) (h : σ[i]? = some (some (.ref a))) (e1 : PySem.W.kitOne K (.ref C) (.ref c1) = some false) (e2 : PySem.W.kitOne K (.ref C) (.ref c2) = some false) :
    G (tCB (rKi K) (tCons (tVar i) (tCons (tTup (tCons (tC (.ref c1)) (tCons (tC (.ref c2)) tNil))) tNil))) σ H (Is (.bl false)) := ⟨fun H1 s Q q =>
  ⟨_, h, (by decide : 2 ≤ sizeLine), fun p hp => ⟨a, C, f, y, _, B, newId, initId, bmB, false, rfl, mn_kxt (s.trans (same_new hp)) hk, T, .inr ⟨p, _, rfl, upd_same, fun us r => by
    rw [refs_vals (as := [c1, c2]) r]
    exact kitAny_cons e1 (fun _ => kitAny_cons e2 (fun _ => kitAny_nil) fun z => nomatch z) fun z => nomatch z⟩, q _ _ (same_new hp) rfl⟩⟩, mn_i⟩
theorem g_ki3 (hk : KXt H a C f y) (T : XC K C B newId initId bmB) (h : σ[i]? = some (some (.ref a))) (e1 : PySem.W.kitOne K (.ref C) (.ref c1) = some false) (e2 : PySem.W.kitOne K (.ref C) (.ref c2) = some false) (e3 : PySem.W.kitOne K (.ref C) (.ref c3) = some false) :
    G (tCB (rKi K) (tCons (tVar i) (tCons (tTup (tCons (tC (.ref c1)) (tCons (tC (.ref c2)) (tCons (tC (.ref c3)) tNil)))) tNil))) σ H (Is (.bl false)) := ⟨fun H1 s Q q =>
  ⟨_, h, (by decide : 3 ≤ sizeLine), fun p hp => ⟨a, C, f, y, _, B, newId, initId, bmB, false, rfl, mn_kxt (s.trans (same_new hp)) hk, T, .inr ⟨p, _, rfl, upd_same, fun us r => by
    rw [refs_vals (as := [c1, c2, c3]) r]
    exact kitAny_cons e1 (fun _ => kitAny_cons e2 (fun _ => kitAny_cons e3 (fun _ => kitAny_nil) fun z => nomatch z) fun z => nomatch z) fun z => nomatch z⟩, q _ _ (same_new hp) rfl⟩⟩, mn_i⟩
end
def spTold (K : PySem.W.Frag) : Sp := fun vs H Q _ => ∃ out, Data K out vs H ∧ ∀ p H', Same H H' → H' p = some (.tup [.str (toldOf out).1, (toldOf out).2]) → Q (.ref p) H'
theorem data_f {out : Option (Str × V)} {vs : List V} {H : Hp} (h : Data K out vs H) (f : Str) (y : V) (e : out = some (f, y)) : f = "setting" ∨ f = "index" := by
  rcases h with ⟨_, p1, p2, p3, p4, p5, p6, p7, _, _, _, _, _, _, _, _, _, _, _, _, _, rfl⟩ | ⟨_, _, p1, p2, p3, p4, p5, p6, _, _, _, _, _, _, ks, _, _, _, _, _, _, _, _, _, rfl⟩
  · unfold wOut at e
    cases h : firstBad (wRows p1 p2 p3 p4 p5 p6 p7) with
    | none => rw [h] at e; cases e
    | some g => rw [h] at e; cases e; exact .inl rfl
  · unfold sOut at e
    cases h : firstBad (sRows p1 p2 p3 p4 p5 p6) with
    | none =>
      rw [h] at e
      dsimp only at e
      cases h2 : badChild 0 1 1 ks with
      | none => rw [h2] at e; cases e
      | some i => rw [h2] at e; cases e; exact .inr rfl
    | some g => rw [h] at e; cases e; exact .inl rfl
theorem err_facts (T : Env K mg) {f : Str} (h : f = "setting" ∨ f = "index") : ∃ (C : Addr) (nm : Str) (b : Bool), errC K f = C ∧ XC K C "ValueError" "ValueError.__new__" "ValueError.__init__" bmVE ∧ PySem.W.findIn K (.ref C) f = some none ∧ PySem.W.exmOne K (.ref (errC K f)) (.ref (He.ga K "PlanError")) = some true ∧ PySem.W.kitOne K (.ref C) (.type "ValueError") = some true ∧
    (∀ y ∈ exNames, PySem.W.kitOne K (.ref C) (.ref (He.ga K y)) = some (decide (y = nm))) ∧ ((f = "setting" ∧ nm = "BadSetting" ∧ b = true) ∨ (f = "index" ∧ nm = "BadChild" ∧ b = false)) := by
  rcases h with rfl | rfl
  · have e : errC K "setting" = BS K := if_pos rfl
    exact ⟨BS K, "BadSetting", true, e, T.x_BadSetting, T.n_BadSetting, by rw [e]; exact T.e_BadSetting, T.vt_BadSetting, T.vx_BadSetting, .inl ⟨rfl, rfl, rfl⟩⟩
  · have e : errC K "index" = BC K := if_neg (by decide +kernel)
    exact ⟨BC K, "BadChild", false, e, T.x_BadChild, T.n_BadChild, by rw [e]; exact T.e_BadChild, T.vt_BadChild, T.vx_BadChild, .inr ⟨rfl, rfl, rfl⟩⟩
theorem ok_told (T : Env K mg) : FnOk P w K mg base CX0 15 (d_L_told.loc K) T.fd_L_told ["kind", "v", "c"] (spTold K) := by
  have G_L_made : FnOk P w K mg base (L2.CX P w) 14 _ _ _ _ := ok_made T
  refine T.F_L_told.ok sc_L_told (fun vs H Q E h => ?_) (fun cdv A outer s H vs Q E hr h => ?_)
  · obtain ⟨out, ⟨_, _, _, _, _, _, _, _, _, _, _, _, _, _, _, _, _, rfl, _⟩ | ⟨_, _, _, _, _, _, _, _, _, _, _, _, _, _, _, _, _, _, rfl, _⟩, _⟩ := h <;> rfl
  · have nd := sc_L_told.nd
    have hu := hu_of hr
    obtain ⟨out, hD, k⟩ := h
    obtain ⟨a, b, c, rfl⟩ : ∃ a b c, vs = [a, b, c] := by
      rcases hD with ⟨_, _, _, _, _, _, _, _, _, _, _, _, _, _, _, c, m, rfl, _⟩ | ⟨_, _, _, _, _, _, _, _, _, _, _, _, _, _, _, _, m, l, rfl, _⟩ <;> exact ⟨_, _, _, rfl⟩
    refine ⟨_, PSs.nox (pss_cons (ps_set (i := 3) nd rfl (Or.inl rfl) pe_non)
 (pss_cons (WKp.ps_try_keep (i := 4) (j := 3) rfl rfl rfl nd rfl rfl rfl rfl ⟨by rfl, by decide, .inl T.g_PlanError⟩ takes0 (fun W pn xe tk po => (pss_one (ps_expr (pe_callS G_L_made (show Room _ _ from hr.mono (by decide)) (by rfl) T.g__law_made T.F_L_made.kp T.bi_L_made (fun σ => passAt tk σ) (pa_cons (pv 0) (pa_cons (pv 1) (pa_cons (pv 2) pa_nil))))))) (fun a oe pn => pss_one (ps_set nd rfl (Or.inl rfl) (pv 4))))
 (pss_cons (ps_if (pt_cmpR op_isN (pv 3) pe_non (nomark _))
  (pss_one (ps_ret (pe_tup (pa_cons pe_str (pa_cons pe_non pa_nil)))))
  pss_nil)
 (pss_cons (ps_set (i := 5) nd rfl (Or.inl rfl) (pe_lst (pa_cons (pe_callB WXO.call_ki (by rfl) T.b_isinstance (by decide +kernel) (pa_cons (pv 3) (pa_cons (pe_globR (by rfl) T.g_BadSetting) pa_nil))) (pa_cons (pe_callB WXO.call_ki (by rfl) T.b_isinstance (by decide +kernel) (pa_cons (pv 3) (pa_cons (pe_globR (by rfl) T.g_BadChild) pa_nil))) (pa_cons (pe_callB WXO.call_ki (by rfl) T.b_isinstance (by decide +kernel) (pa_cons (pv 3) (pa_cons (pe_tup (pa_cons (pe_globR (by rfl) T.g_BadEntry) (pa_cons (pe_globR (by rfl) T.g_BadInput) pa_nil))) pa_nil))) pa_nil)))))
 (pss_cons (ps_set (i := 5) nd rfl (Or.inl rfl) (pe_op op_cat (pv 5) (pe_lst (pa_cons (pe_callB WXO.call_ki (by rfl) T.b_isinstance (by decide +kernel) (pa_cons (pv 3) (pa_cons (pe_tup (pa_cons (pe_globR (by rfl) T.g_BadReason) (pa_cons (pe_globR (by rfl) T.g_BadRoot) (pa_cons (pe_globR (by rfl) T.g_BadScript) pa_nil)))) pa_nil))) (pa_cons (pe_callB WXO.call_ki (by rfl) T.b_isinstance (by decide +kernel) (pa_cons (pv 3) (pa_cons (pe_tup (pa_cons (pe_globR (by rfl) T.g_BadText) (pa_cons (pe_globR (by rfl) T.g_BadTick) pa_nil))) pa_nil))) pa_nil)))))
 (pss_cons (ps_expr (pe_bm PySem.F.plainAttrs_list PySem.F.slot_list_append PySem.F.type_list_append mt_append (pv 5) (pa_cons (pe_callB WXO.call_ki (by rfl) T.b_isinstance (by decide +kernel) (pa_cons (pv 3) (pa_cons (pe_tup (pa_cons (pe_globR (by rfl) T.g_BadValue) (pa_cons (pe_globR (by rfl) T.g_BadWord) pa_nil))) pa_nil))) pa_nil)))
 (pss_cons (ps_if (PW.pt (pw_or (pt_cmpR op_ne (pe_bm PySem.F.plainAttrs_list PySem.F.slot_list_count PySem.F.type_list_count WCb.mt_lcountB (pv 5) (pa_cons pe_bl pa_nil)) pe_int (nomark _)) (pw_or (pt_not (pt_val (pe_callB WXO.call_ki (by rfl) T.b_isinstance (by decide +kernel) (pa_cons (pv 3) (pa_cons (pe_bltnT (n := "ValueError") (by rfl) T.b_ValueError (by decide +kernel)) pa_nil))))) (pw_or1 (pt_cmpR (op_in_seq) pe_bl (pe_slice sl_list (pv 5) (po_some pe_int) po_none) (by rfl))))))
  (pss_one (ps_ret (pe_tup (pa_cons pe_str (pa_cons pe_non pa_nil)))))
  pss_nil)
 (pss_one (ps_ret (pe_ifExp (pt_val (pe_ix (ixlK (K := K)) (pv 5) pe_int (fun _ _ => rfl))) (pe_tup (pa_cons pe_str (pa_cons (WXO.pe_kf (pv 3)) pa_nil))) (pe_tup (pa_cons pe_str (pa_cons (WXO.pe_kf (pv 3)) pa_nil))))))))))))), ?_⟩
    refine ⟨_, rfl, _, rfl, _, rfl, out, hD, fun ho v H1 s1 => ?_, fun f y ho d H1 s1 hd hx => ?_⟩
    · subst ho
      dsimp only
      exact ⟨_, rfl, rfl, true, rfl, (by decide : 2 ≤ sizeLine), fun p hp => k p _ (s1.trans (same_new hp)) upd_same⟩
    · obtain ⟨C, nm, b, hC, T1, hn, he, hv, hk, hf⟩ := err_facts T (data_f hD f y ho)
      refine ⟨true, he, fun _ => ⟨_, rfl, fun e he => ?_⟩, fun z => nomatch z⟩
      have hk0 : KXt (upd H1 e (WKp.exK e (errC K f) (some d))) e (errC K f) f y := ⟨d, upd_same, by rw [upd_ne (fun z => by rw [z, he] at hx; cases hx)]; exact hx⟩
      have s2 := s1.trans (same_new (o := WKp.exK e (errC K f) (some d)) he)
      generalize upd H1 e (WKp.exK e (errC K f) (some d)) = H2 at *
      rw [hC] at hk0
      dsimp only
      show tSeq _ _ _ _ _
      refine st_nn (fun Q q => ⟨_, rfl, rfl, false, rfl, q⟩) ?_
      show tSeq _ _ _ _ _
      have exs : ∀ y : Str, exNames.contains y = true → PySem.W.kitOne K (.ref C) (.ref (He.ga K y)) = some (decide (y = nm)) := fun y hy => hk y (List.contains_iff_mem.mp hy)
      have nb1 : decide (("BadSetting" : Str) = nm) = b := by rcases hf with ⟨_, rfl, rfl⟩ | ⟨_, rfl, rfl⟩ <;> decide +kernel
      have nb2 : decide (("BadChild" : Str) = nm) = !b := by rcases hf with ⟨_, rfl, rfl⟩ | ⟨_, rfl, rfl⟩ <;> decide +kernel
      have no : ∀ y : Str, (exNames.drop 2).contains y = true → PySem.W.kitOne K (.ref C) (.ref (He.ga K y)) = some false := fun y hy => by
        have hm : y ∈ exNames.drop 2 := List.contains_iff_mem.mp hy
        rw [hk y (List.mem_of_mem_drop hm)]
        refine congrArg some (decide_eq_false fun e => ?_)
        rw [e] at hm
        rcases hf with ⟨_, rfl, _⟩ | ⟨_, rfl, _⟩ <;> exact absurd hm (by decide +kernel)
      refine g_asg (P := LF (([b, !b, false].map V.bl).map Is)) (g_lst (ga_cons (g_ki hk0 T1 rfl ((exs "BadSetting" (by decide +kernel)).trans (congrArg some nb1))) (ga_cons (g_ki hk0 T1 rfl ((exs "BadChild" (by decide +kernel)).trans (congrArg some nb2))) (ga_cons (g_ki2 hk0 T1 rfl (no "BadEntry" (by decide +kernel)) (no "BadInput" (by decide +kernel))) ga_nil)))) fun v3 H3 s3 p3 => ?_
      dsimp only
      show tSeq _ _ _ _ _
      have hk3 := mn_kxt s3 hk0
      refine g_asg (P := LFN H (([b, !b, false, false, false].map V.bl).map Is)) (g_catN (s2.trans s3) (Ps := ([b, !b, false].map V.bl).map Is) (Qs := ([false, false].map V.bl).map Is) (g_varP rfl p3 (mn_lf mn_is)) (g_lst (ga_cons (g_ki3 hk3 T1 rfl (no "BadReason" (by decide +kernel)) (no "BadRoot" (by decide +kernel)) (no "BadScript" (by decide +kernel))) (ga_cons (g_ki2 hk3 T1 rfl (no "BadText" (by decide +kernel)) (no "BadTick" (by decide +kernel))) ga_nil))) mn_is mn_is) fun v4 H4 s4 p4 => ?_
      dsimp only
      show tSeq _ _ _ _ _
      have hk4 := mn_kxt s4 hk3
      obtain ⟨l, xs, rfl, hl1, hl, fa⟩ := p4
      obtain rfl := fa.is
      refine ⟨_, rfl, .inl ⟨rfl, _, .of hl⟩, (g_ki2 hk4 T1 rfl (no "BadValue" (by decide +kernel)) (no "BadWord" (by decide +kernel))).ev H4 (Same.refl _) _ fun u H5 s5 e5 => ?_⟩
      cases e5
      refine ⟨l, _, _, rfl, rfl, s5 _ _ hl, (by decide : 5 < sizeLine), ?_⟩
      have hk5 := mn_kxt s5 hk4
      have hl5 := s5 _ _ hl
      have S5 : Same H (upd H5 l (.lst (List.map V.bl [b, !b, false, false, false] ++ [V.bl false]))) := same_put (((s2.trans s3).trans s4).trans s5) hl1
      have e1 : upd H5 l (.lst (List.map V.bl [b, !b, false, false, false] ++ [V.bl false])) l = some (.lst (([b, !b, false, false, false, false]).map V.bl)) := upd_same
      have hk6 : KXt (upd H5 l (.lst (List.map V.bl [b, !b, false, false, false] ++ [V.bl false]))) e C f y := by
        obtain ⟨dx, h1, h2⟩ := hk5
        exact ⟨dx, by rw [upd_ne (fun z => by rw [z, hl5] at h1; exact absurd (Option.some.inj h1) (by intro q; cases q))]; exact h1, by rw [upd_ne (fun z => by rw [z, hl5] at h2; cases h2)]; exact h2⟩
      generalize upd H5 l (.lst (List.map V.bl [b, !b, false, false, false] ++ [V.bl false])) = H6 at *
      dsimp only
      show tSeq _ _ _ _ _
      refine s_no (et_or (a := false) (b := false) (et_ev fun H7 s7 Q q => ⟨_, rfl, .inl ⟨rfl, _, .of (s7 _ _ e1)⟩, l, [b, !b, false, false, false, false], true, rfl, rfl, .of (s7 _ _ e1), rfl, _, congrArg V.bl (by cases b <;> decide), q⟩) fun _ => et_or (a := false) (b := false) (et_not (b := true) (et_ev fun H7 s7 => evb_B (ev_kiT (mn_kxt s7 hk6) T1 rfl hv))) fun _ => ?_) fun H7 s7 => ?_
      · intro H7 s7 Q7 q7
        refine ⟨_, rfl, 2, rfl, l, _, rfl, .of (s7 _ _ e1), fun p hp => ⟨p, _, rfl, .inl (.of upd_same), rfl, by cases b <;> decide, ?_⟩⟩
        exact ⟨false, congrArg V.bl (by cases b <;> decide), q7 _ (same_new hp)⟩
      · have hk7 := mn_kxt s7 hk6
        have e7 := s7 _ _ e1
        have fin : ∀ z : Str, toldOf (some (f, y)) = (z, y) → ∀ p, H7 p = none → Q (.ref p) (upd H7 p (.tup [.str z, y])) := fun z hz p hp => k p _ ((S5.trans s7).trans (same_new hp)) (by rw [ho, hz]; exact upd_same)
        rcases hf with ⟨rfl, rfl, rfl⟩ | ⟨rfl, rfl, rfl⟩
        · refine ⟨_, rfl, l, _, 0, _, rfl, rfl, .of e7, rfl, true, rfl, ?_⟩
          exact ⟨_, rfl, e, C, y, _, _, _, _, rfl, hk7, T1, hn, (by decide : 2 ≤ sizeLine), fin "setting" rfl⟩
        · refine ⟨_, rfl, l, _, 0, _, rfl, rfl, .of e7, rfl, false, rfl, ?_⟩
          exact ⟨_, rfl, e, C, y, _, _, _, _, rfl, hk7, T1, hn, (by decide : 2 ≤ sizeLine), fin "child" (show ((if ("index" : Str) = "setting" then ("setting" : Str) else "child"), y) = _ from by rw [if_neg (by decide +kernel)])⟩
end
end W02

set_option Elab.async false
set_option linter.all false
set_option maxRecDepth 100000
set_option maxHeartbeats 1000000
namespace W02
open PySem PySem.Spec PyProof.Rows L2 WXG WEv WRd WLf WEn WZs WRu WSt StX WDc WPv WEb WXO WXE WKd WGp
/-! ### children -/
def wrk0 (z : Str) : Pv := .wrk [.str z, .str "permanent", .int 0, .int 0, .non, .int 0, .tup []]
theorem k_name : isName (.str "k") = true ∧ Str.length "k" ≤ 1000 := by decide +kernel
theorem a_name : isName (.str "a") = true ∧ Str.length "a" ≤ 1000 := by decide +kernel
theorem k2_name : isName (.str "k2") = true ∧ Str.length "k2" ≤ 1000 := by decide +kernel
def planD (i : Nat) : Pv := if i = 0 then wrk0 "k" else .sup (i + 1) (i + 1)
theorem planD_kid (i : Nat) : kidOf (planD i) = some (i + 1, i + 1) := by
  unfold planD
  split
  · rename_i h; subst h; rfl
  · rfl
theorem planD_ok {i : Nat} (h : i ≤ 18) : badChild 0 1 1 [planD i] = none ∧ endCD 1 1 [planD i] = (i + 2, i + 2) := by
  have e : up 1 (i + 1) = i + 2 := if_pos (by omega)
  constructor
  · rw [badChild_cons, planD_kid]
    dsimp only
    rw [e, if_neg (by omega), if_neg (by omega)]
    rfl
  · show (match kidOf (planD i) with | none => _ | some (n, h) => _) = _
    rw [planD_kid]
    dsimp only
    rw [e]
    show (1 + (i + 1), i + 2) = _
    rw [Nat.add_comm]
def spDeep (K : PySem.W.Frag) : Sp := fun vs H Q _ => ∃ d : Nat, vs = [.int ((d : Nat) : Int)] ∧ 2 ≤ d ∧ d ≤ 20 ∧ ∀ v H', Same H H' → (∀ N, At K N (.sup d d) v H') → Q v H'
def spBroad (K : PySem.W.Frag) : Sp := fun vs H Q _ => vs = [] ∧ ∀ v H', Same H H' → (∀ N, At K N (.sup 100 3) v H') → Q v H'
theorem at_any {K : PySem.W.Frag} {N N' : Addr → Prop} {n d : Nat} {v : V} {H : Hp} (h : At K N (.sup n d) v H) : At K N' (.sup n d) v H := h
section
variable {K : PySem.W.Frag} {N : Addr → Prop} {σ : L2.St} {H : Hp}
/-- _law_sup("k", [e] * n, row) -/
theorem g_supRep {te : TE} {E : XK} {p : Pv} {n j : Nat} {row : Addr} (hj : σ[j]? = some (some (.ref row))) (hrow : H row = some (.lst [.str "permanent", .str "one", .int 1, .int 1, .non])) (h : G te σ H (At K N p)) (hn : 1 ≤ n ∧ n ≤ 10) (hb : badChild 0 1 1 (List.replicate n p) = none) :
    G (tCall (spSupB K 0) [] E (tCons (tC (.str "k")) (tCons (tOp rRep (tLst (tCons te tNil)) (tC (.int (n : Int)))) (tCons (tVar j) tNil)))) σ H (At K N (.sup (endCD 1 1 (List.replicate n p)).1 (endCD 1 1 (List.replicate n p)).2)) := ⟨fun H1 e Q q => h.ev H1 e _ fun v H2 s2 pv => ⟨(by decide : 1 ≤ sizeLine), fun l hl => by
  have s3 := same_new (o := .lst [v]) hl
  refine ⟨l, (n : Int), [v], rfl, rfl, upd_same, by omega, by omega, ?_, fun r hr => ?_⟩
  · rw [Int.toNat_natCast]
    exact Nat.le_trans (show 1 * n ≤ 10 by omega) (by decide)
  rw [Int.toNat_natCast]
  have s4 := same_new (o := .lst (List.replicate n [v]).flatten) hr
  have s24 := (s2.trans s3).trans s4
  have ef : ∀ {α : Type} (x : α) (n : Nat), (List.replicate n [x]).flatten = List.replicate n x := fun x n => by
    induction n with
    | zero => rfl
    | succ n ih => rw [List.replicate_succ, List.flatten_cons, ih]; rfl
  have ak : AtL K N (List.replicate n p) (List.replicate n [v]).flatten (upd (upd H2 l (.lst [v])) r (.lst (List.replicate n [v]).flatten)) := by
    have := atl_rep (AtL.one (mn_at _ _ _ (s3.trans s4) pv)) n
    rwa [ef p n] at this
  refine ⟨_, hj, N, N, .str "k", .str "permanent", .str "one", .int 1, .int 1, .non, .str "k", .str "permanent", .str "one", .int 1, .int 1, .non, List.replicate n p, _, r, row, rfl, upd_same, s24 _ _ (e _ _ hrow), ?_, ak, Nat.zero_le _, by rw [List.length_replicate]; omega, fun _ _ x H' s' he => ?_, (fun _ i hi => by rw [hb] at hi; cases hi), fun f hf => ?_⟩
  · exact ⟨_, _, rfl, ⟨rfl, by decide⟩, _, _, rfl, ⟨rfl, by decide⟩, _, _, rfl, ⟨rfl, by decide⟩, _, _, rfl, rfl, _, _, rfl, rfl, _, _, rfl, rfl, rfl⟩
  · obtain ⟨dx, q', c, hx⟩ := he
    exact q _ _ (s24.trans s') ⟨x, dx, q', c, rfl, hx⟩
  · have : firstBad (sRows (.str "k") (.str "permanent") (.str "one") (.int 1) (.int 1) .non) = none := by decide +kernel
    rw [this] at hf
    cases hf⟩, mn_at⟩
end
section
variable {P : Program} {w : World} {K : PySem.W.Frag} {mg : Str → Option Value} {base : Heap}
theorem ok_deep (T : Env K mg) : FnOk P w K mg base CX0 11 (d_L_deep.loc K) T.fd_L_deep ["many"] (spDeep K) := by
  have G_mk0_WorkerPlan : FnK P w K mg base (L2.CX P w) 9 _ _ _ := fk_worker0 T
  have G_mk0_SupervisorPlan : FnK P w K mg base (L2.CX P w) 9 _ _ _ := fk_super0 T
  refine T.F_L_deep.ok sc_L_deep (fun vs H Q E h => ?_) (fun cdv A outer s H vs Q E hr h => ?_)
  · obtain ⟨d, rfl, _⟩ := h
    rfl
  · have nd := sc_L_deep.nd
    have hu := hu_of hr
    obtain ⟨d, rfl, hd, hd2, k⟩ := h
    refine ⟨_, PSs.nox (pss_cons (ps_set (i := 1) nd rfl (Or.inl rfl) (pe_mkKF T.mk_WorkerPlan G_mk0_WorkerPlan (hr.mono (by decide)) (by rfl) T.g_WorkerPlan passL (pa_cons pe_str pa_nil) pk_nil))
 (pss_cons (ps_for PassesOwn.never rfl (pi_range1 (by rfl) T.b_range (pa_cons (pe_op op_sub (pv 0) pe_int) pa_nil)) (pg_name (i := 2) nd rfl (Or.inl rfl))
  (pss_one (ps_set (i := 1) nd rfl (Or.inl rfl) (pe_mkKF T.mk_SupervisorPlan G_mk0_SupervisorPlan (hr.mono (by decide)) (by rfl) T.g_SupervisorPlan passL (pa_cons pe_str (pa_cons (pv 1) pa_nil)) pk_nil))))
 (pss_one (ps_ret (pv 1))))), ?_⟩
    refine g_asg (P := At K (fun _ => True) (wrk0 "k")) (g_mkW0 T.sd k_name) fun v0 H1 s1 p1 => ?_
    dsimp only
    show tSeq _ _ _ _ _
    refine ⟨_, rfl, _, _, rfl, rfl, ((d - 1 : Nat) : Int), congrArg (fun z : Int => [V.int z]) (show ((d : Nat) : Int) - 1 = ((d - 1 : Nat) : Int) by omega), by omega, by omega, ?_⟩
    rw [Int.toNat_natCast]
    refine for_it (walk_range (lo := 0) (n := d - 1)) (fun i σ H' => Same H H' ∧ ∃ v a, At K (fun _ => True) (planD i) v H' ∧ σ = [some (.int ((d : Nat) : Int)), some v, a]) ⟨s1, v0, _, p1, rfl⟩ (fun _ _ _ _ _ => trivial) (fun i x σ H2 H3 hi p y => ?_) (fun σ H2 p => ?_)
    · obtain ⟨s2, v, a, pv, rfl⟩ := p
      obtain ⟨rfl, rfl⟩ := y
      have ok := planD_ok (i := i) (by omega)
      refine g_asg (g_mkS0 (M := fun _ => True) (N := fun _ => True) k_name (gl_cons (g_varA rfl pv) gl_nil) ⟨ok.1, Nat.le_of_ble_eq_true rfl⟩) fun v' H4 s4 p4 => ?_
      rw [ok.2] at p4
      exact ⟨s2.trans s4, v', _, p4, rfl⟩
    · obtain ⟨s2, v, a, pv, rfl⟩ := p
      have e : planD (d - 1) = .sup d d := by
        unfold planD
        rw [if_neg (by omega), show d - 1 + 1 = d by omega]
      rw [e] at pv
      exact ⟨_, rfl, k v H2 s2 fun N => at_any pv⟩
theorem ok_broad (T : Env K mg) : FnOk P w K mg base CX0 14 (d_L_broad.loc K) T.fd_L_broad [] (spBroad K) := by
  have G_mk0_WorkerPlan : FnK P w K mg base (L2.CX P w) 9 _ _ _ := fk_worker0 T
  have G_L_sup : FnOk P w K mg base (L2.CX P w) 13 _ _ _ _ := ok_sup T
  refine T.F_L_broad.ok sc_L_broad (fun vs H Q E h => ?_) (fun cdv A outer s H vs Q E hr h => ?_)
  · obtain ⟨rfl, _⟩ := h
    rfl
  · have nd := sc_L_broad.nd
    have hu := hu_of hr
    obtain ⟨rfl, k⟩ := h
    refine ⟨_, PSs.nox (pss_cons (ps_set (i := 0) nd rfl (Or.inl rfl) (pe_lst (pa_cons pe_str (pa_cons pe_str (pa_cons pe_int (pa_cons pe_int (pa_cons pe_non pa_nil)))))))
 (pss_one (ps_ret (pe_call G_L_sup (hr.mono (by decide)) (by rfl) T.g__law_sup T.F_L_sup.kp T.bi_L_sup .nil passL (pa_cons pe_str (pa_cons (pe_op op_rep (pe_lst (pa_cons (pe_call G_L_sup (hr.mono (by decide)) (by rfl) T.g__law_sup T.F_L_sup.kp T.bi_L_sup .nil passL (pa_cons pe_str (pa_cons (pe_op op_rep (pe_lst (pa_cons (pe_mkKF T.mk_WorkerPlan G_mk0_WorkerPlan (hr.mono (by decide)) (by rfl) T.g_WorkerPlan passL (pa_cons pe_str pa_nil) pk_nil) pa_nil)) pe_int) (pa_cons (pv 0) pa_nil)))) pa_nil)) pe_int) (pa_cons (pv 0) pa_nil))))))), ?_⟩
    refine ⟨(by decide : 5 ≤ sizeLine), fun row hrow => ?_⟩
    have s1 := same_new (o := .lst [.str "permanent", .str "one", .int 1, .int 1, .non]) hrow
    have e1 : upd H row (.lst [.str "permanent", .str "one", .int 1, .int 1, .non]) row = some (.lst [.str "permanent", .str "one", .int 1, .int 1, .non]) := upd_same
    generalize upd H row (.lst [.str "permanent", .str "one", .int 1, .int 1, .non]) = H1 at *
    dsimp only
    show tRet _ _ _ _
    exact g_ret (P := At K (fun _ => True) (.sup 100 3)) (g_supRep (p := .sup 11 2) (n := 9) rfl e1 (g_supRep (p := wrk0 "k") (n := 10) rfl e1 (g_mkW0 T.sd k_name) (by decide) (by decide +kernel)) (by decide) (by decide +kernel)) fun v H2 s2 pv => k v H2 (s1.trans s2) fun N => at_any pv
end
end W02

set_option Elab.async false
set_option linter.all false
set_option maxRecDepth 100000
set_option maxHeartbeats 1000000
namespace W02
open PySem PySem.Spec PyProof.Rows L2 WXG WEv WRd WLf WEn WZs WRu WSt StX WDc WPv WEb WXO WXE WKd WGp
theorem badChild_app : ∀ (i c d : Nat) (ks : List Pv) (k : Pv), badChild i c d (ks ++ [k]) = (match badChild i c d ks with
    | some j => some j
    | none => badChild (i + ks.length) (endCD c d ks).1 (endCD c d ks).2 [k])
  | i, c, d, [], k => rfl
  | i, c, d, a :: ks, k => by
    rw [List.cons_append, badChild_cons, badChild_cons]
    unfold endCD
    cases ha : kidOf a with
    | none => rfl
    | some nh =>
      obtain ⟨n, h⟩ := nh
      dsimp only
      by_cases h12 : 12 ≤ i
      · rw [if_pos h12, if_pos h12]
      · rw [if_neg h12, if_neg h12]
        by_cases hh : 200 < c + n ∨ 20 < up d h
        · rw [if_pos hh, if_pos hh]
        · rw [if_neg hh, if_neg hh, badChild_app, List.length_cons, Nat.add_assoc i 1, Nat.add_comm 1]
theorem endCD_app : ∀ (c d : Nat) (ks : List Pv) (k : Pv) (i : Nat), badChild i c d ks = none → ∀ n h, kidOf k = some (n, h) → endCD c d (ks ++ [k]) = ((endCD c d ks).1 + n, up (endCD c d ks).2 h)
  | c, d, [], k, i, _, n, h, hk => by
    show (match kidOf k with | none => _ | some (n, h) => _) = _
    rw [hk]
    rfl
  | c, d, a :: ks, k, i, hb, n, h, hk => by
    rw [badChild_cons] at hb
    rw [List.cons_append]
    unfold endCD
    cases ha : kidOf a with
    | none => rw [ha] at hb; cases hb
    | some nh =>
      obtain ⟨n2, h2⟩ := nh
      rw [ha] at hb
      dsimp only at hb ⊢
      by_cases h12 : 12 ≤ i
      · rw [if_pos h12] at hb; cases hb
      · rw [if_neg h12] at hb
        by_cases hh : 200 < c + n2 ∨ 20 < up d h2
        · rw [if_pos hh] at hb; cases hb
        · rw [if_neg hh] at hb
          exact endCD_app _ _ ks k (i + 1) hb n h hk
theorem endCD_le : ∀ (c d : Nat) (ks : List Pv) (i : Nat), d ≤ 20 → badChild i c d ks = none → (endCD c d ks).2 ≤ 20
  | c, d, [], i, hd, _ => hd
  | c, d, a :: ks, i, hd, hb => by
    rw [badChild_cons] at hb
    unfold endCD
    cases ha : kidOf a with
    | none => rw [ha] at hb; cases hb
    | some nh =>
      obtain ⟨n2, h2⟩ := nh
      rw [ha] at hb
      dsimp only at hb ⊢
      by_cases h12 : 12 ≤ i
      · rw [if_pos h12] at hb; cases hb
      · rw [if_neg h12] at hb
        by_cases hh : 200 < c + n2 ∨ 20 < up d h2
        · rw [if_pos hh] at hb; cases hb
        · rw [if_neg hh] at hb
          exact endCD_le _ _ ks (i + 1) (by omega) hb
/-- a child, the plans and levels that the law gives it -/
def KidOk (p : Pv) (size height : Nat) : Prop := match kidOf p with
  | some (n, h) => size = n ∧ height = h
  | none => True
/-- the law's own count agrees -/
theorem bad_step {ks : List Pv} {p : Pv} {size height whole : Nat} (hk : KidOk p size height) (hw : badChild 0 1 1 ks = none → whole = (endCD 1 1 ks).1) :
    badChild 0 1 1 (ks ++ [p]) = (match badChild 0 1 1 ks with
      | some j => some j
      | none => if ((!(isWrk p || isSup p)) || (decide (11 < ks.length) || (decide (200 < whole + size) || decide (19 < height)))) = true then some ks.length else none) ∧
    (badChild 0 1 1 (ks ++ [p]) = none → whole + size = (endCD 1 1 (ks ++ [p])).1) := by
  rw [badChild_app]
  cases hb : badChild 0 1 1 ks with
  | some j => exact ⟨rfl, fun z => nomatch z⟩
  | none =>
    have hw := hw hb
    have hd := endCD_le 1 1 ks 0 (by decide) hb
    dsimp only
    rw [badChild_cons, Nat.zero_add, kid_plan]
    unfold KidOk at hk
    cases hp : kidOf p with
    | none => exact ⟨rfl, fun z => nomatch z⟩
    | some nh =>
      obtain ⟨n, h⟩ := nh
      rw [hp] at hk
      obtain ⟨rfl, rfl⟩ := hk
      have eh : up (endCD 1 1 ks).2 height > 20 ↔ 19 < height := by
        unfold up
        split <;> omega
      dsimp only
      have e2 : (if 12 ≤ ks.length then some ks.length else if 200 < (endCD 1 1 ks).1 + size ∨ 20 < up (endCD 1 1 ks).2 height then some ks.length else badChild (ks.length + 1) ((endCD 1 1 ks).1 + size) (up (endCD 1 1 ks).2 height) []) =
          if ((!(some (size, height)).isSome) || (decide (11 < ks.length) || (decide (200 < whole + size) || decide (19 < height)))) = true then some ks.length else none := by
        by_cases h12 : 12 ≤ ks.length
        · rw [if_pos h12, decide_eq_true (show 11 < ks.length by omega)]
          rfl
        · rw [if_neg h12, decide_eq_false (show ¬ 11 < ks.length by omega)]
          by_cases h200 : 200 < whole + size
          · rw [if_pos (.inl (by omega)), decide_eq_true h200]
            rfl
          · rw [decide_eq_false h200]
            by_cases h19 : 19 < height
            · rw [if_pos (.inr (eh.mpr h19)), decide_eq_true h19]
              rfl
            · rw [if_neg (fun z => z.elim (fun z => h200 (by omega)) fun z => h19 (eh.mp z)), decide_eq_false h19]
              rfl
      refine ⟨e2, fun _ => ?_⟩
      rw [endCD_app 1 1 ks p 0 hb _ _ hp, hw]
def kidPlans : List Pv := [wrk0 "k", .sup 1 1, wrk0 "a", wrk0 "k2"]
def kidOdd : List Pv := [.non, .str "a", .int 5, .tup [.str "w"], .lst [wrk0 "k"], .bl true, .dic, .tup []]
def spChildren (K : PySem.W.Frag) (S : Addr × List Int) : Sp := fun vs H Q _ => ∃ (m : Addr) (n a c : Nat), vs = [.ref m, .int ((n : Nat) : Int)] ∧ n ≤ 13 ∧ SrcAt K S H m a c ∧ a + 50 ≤ 100000 ∧
  ∀ p l ks ys a' H', But m H H' → SrcAt K S H' m a' c → a' ≤ a + 39 → H' p = some (.tup [.ref l, wrV (badChild 0 1 1 ks)]) → H' l = some (.lst ys) → AtL K (fun b => H b = none ∧ b ≠ l) ks ys H' → ks.length = n → Q (.ref p) H'
/-- what the loop over the children keeps -/
structure CI (K : PySem.W.Frag) (S : Addr × List Int) (H : Hp) (m lc lp lo : Addr) (xp xo : List V) (a c : Nat) (i : Nat) (first : V) (whole : Nat) (H' : Hp) : Prop where
  src : SrcAt K S H' m a c
  but : But m H H'
  pl : H' lp = some (.lst xp)
  pa : AtL K (fun b => H b = none ∧ b ≠ lc) kidPlans xp H'
  ol : H' lo = some (.lst xo)
  oa : AtL K (fun b => H b = none ∧ b ≠ lc) kidOdd xo H'
  cs : ∃ ks ys, H' lc = some (.lst ys) ∧ AtL K (fun b => H b = none ∧ b ≠ lc) ks ys H' ∧ ks.length = i ∧ first = wrV (badChild 0 1 1 ks) ∧ (badChild 0 1 1 ks = none → whole = (endCD 1 1 ks).1)
/-- behind draws and new objects -/
theorem kn_m {K : PySem.W.Frag} {S : Addr × List Int} {H0 H H' : Hp} {m lc : Addr} {a c a0 c0 : Nat} (h0 : SrcAt K S H0 m a0 c0) (h : SrcAt K S H m a c) (b : But m H H') : Kn (fun b => H0 b = none ∧ b ≠ lc) H H' := kn_butm h (fun z => by
  obtain ⟨kvs, hm, _⟩ := h0.dict
  rw [hm] at z
  cases z.1) b
theorem CI.move {K : PySem.W.Frag} {S : Addr × List Int} {H H1 H2 : Hp} {m lc lp lo : Addr} {xp xo : List V} {a a0 c0 a2 c i whole : Nat} {first : V} (h0 : SrcAt K S H m a0 c0) (ci : CI K S H m lc lp lo xp xo a c i first whole H1) (b : But m H1 H2) (s : SrcAt K S H2 m a2 c) : CI K S H m lc lp lo xp xo a2 c i first whole H2 := by
  have kn := kn_m (lc := lc) h0 ci.src b
  obtain ⟨kvs, hm, _⟩ := ci.src.dict
  have ne : ∀ {l : Addr} {xs : List V}, H1 l = some (.lst xs) → l ≠ m := fun {l xs} h z => by rw [z, hm] at h; cases h
  obtain ⟨ks, ys, h1, h2, h3⟩ := ci.cs
  exact ⟨s, ci.but.trans b, b _ _ ci.pl (ne ci.pl), atl_kn kn _ ci.pa, b _ _ ci.ol (ne ci.ol), atl_kn kn _ ci.oa, ks, ys, b _ _ h1 (ne h1), atl_kn kn _ h2, h3⟩
def restT (K : PySem.W.Frag) : TS := tSeq (tDrop (tBM K "list" rAppend (tVar 2) (tCons (tVar 9) tNil))) (tSeq (tAsg (tOp (rI0 fun i j => .int (i + j)) (tVar 4) (tVar 10)) (gName 4)) (tSeq (tAsg (tCB (rIsiT K) (tCons (tVar 9) (tCons (tTup (tCons (tC (.ref (CW K))) (tCons (tC (.ref (CS K))) tNil))) tNil))) (gName 12))
  (tIfS (tAnd (tTest (tOp (fun x y H Q => y = V.non ∧ Q (V.bl (decide (x = V.non))) H) (tVar 3) (tC .non))) (tOr (tNot (tB (tVar 12))) (tOr (tTest (tOp (rI0 fun i j => .bl (decide (i > j))) (tVar 7) (tC (.int 11)))) (tOr (tTest (tOp (rI0 fun i j => .bl (decide (i > j))) (tVar 4) (tC (.int 200)))) (tTest (tOp (rI0 fun i j => .bl (decide (i > j))) (tVar 11) (tC (.int 19)))))))) (tAsg (tVar 7) (gName 3)) tNext)))
theorem rest_ok {K : PySem.W.Frag} {S : Addr × List Int} {H H7 : Hp} {m lc lp lo : Addr} {xp xo : List V} {a a0 c0 c i whole size height n : Nat} {first v v8 : V} {p : Pv} {a12 : Option V} {D : Ends} (kt : Kt K) (h0 : SrcAt K S H m a0 c0) (hlc : H lc = none) (ci : CI K S H m lc lp lo xp xo a c i first whole H7) (hp : At K (fun b => H b = none ∧ b ≠ lc) p v H7) (hk : KidOk p size height) (hi : i ≤ 13)
    (hlp : lp ≠ lc) (hlo : lo ≠ lc) (k : ∀ H' first' whole' a12', CI K S H m lc lp lo xp xo a c (i + 1) first' whole' H' → D.nx [some (.ref m), some (.int ((n : Nat) : Int)), some (.ref lc), some first', some (.int ((whole' : Nat) : Int)), some (.ref lp), some (.ref lo), some (.int ((0 : Int) + (i : Nat))), some v8, some v, some (.int ((size : Nat) : Int)), some (.int ((height : Nat) : Int)), a12'] H') :
    restT K D [some (.ref m), some (.int ((n : Nat) : Int)), some (.ref lc), some first, some (.int ((whole : Nat) : Int)), some (.ref lp), some (.ref lo), some (.int ((0 : Int) + (i : Nat))), some v8, some v, some (.int ((size : Nat) : Int)), some (.int ((height : Nat) : Int)), a12] H7 := by
  obtain ⟨hS, bu, h1, h2, h3, h4, ks, ys, hl, hka, hkl, rfl, hw⟩ := ci
  have hyl := hka.len
  refine ⟨_, rfl, .inl ⟨rfl, _, .of hl⟩, _, rfl, lc, ys, v, rfl, rfl, hl, Nat.lt_of_le_of_lt (show ys.length ≤ 13 by omega) (by decide), ?_⟩
  have nl : ¬ (fun b => H b = none ∧ b ≠ lc) lc := fun z => z.2 rfl
  have kn : Kn (fun b => H b = none ∧ b ≠ lc) H7 (upd H7 lc (.lst (ys ++ [v]))) := Kn.lst hl nl
  have lm : m ≠ lc := fun z => by
    obtain ⟨kvs, hm, _⟩ := h0.dict
    rw [z, hlc] at hm
    cases hm
  have b8 : But m H (upd H7 lc (.lst (ys ++ [v]))) := fun b o hb ne => by rw [upd_ne (fun z => by rw [z, hlc] at hb; cases hb)]; exact bu b o hb ne
  have hS8 : SrcAt K S (upd H7 lc (.lst (ys ++ [v]))) m a c := by
    obtain ⟨s0, cs, _, _, hm0, hq, hcl, _, _, e0⟩ := h0
    obtain ⟨s', cs', kk, ll, hm7, _, _, h5, h6, e7⟩ := hS
    obtain ⟨rfl, rfl⟩ : s' = s0 ∧ cs' = cs := by
      have := e7.trans e0.symm
      exact ⟨congrArg Prod.fst this, congrArg Prod.snd this⟩
    exact ⟨s', cs', kk, ll, by rw [upd_ne lm]; exact hm7, But.seq b8 hm0 hq, hcl, h5, h6, e7⟩
  have st := bad_step (p := p) hk hw
  have ci8 : ∀ first', first' = wrV (badChild 0 1 1 (ks ++ [p])) → CI K S H m lc lp lo xp xo a c (i + 1) first' (whole + size) (upd H7 lc (.lst (ys ++ [v]))) := fun first' e =>
    ⟨hS8, fun b o hb ne => by rw [upd_ne (fun z => by rw [z, hlc] at hb; cases hb)]; exact bu b o hb ne, by rw [upd_ne hlp]; exact h1, atl_kn kn _ h2, by rw [upd_ne hlo]; exact h3, atl_kn kn _ h4, ks ++ [p], ys ++ [v], upd_same, (atl_kn kn _ hka).app (AtL.one (at_kn kn _ hp)), by rw [List.length_append, hkl]; rfl, e, st.2⟩
  have ht := at_ty kt _ (at_kn kn _ hp)
  generalize upd H7 lc (.lst (ys ++ [v])) = H8 at *
  refine ⟨_, rfl, _, rfl, _, _, rfl, rfl, ?_⟩
  refine ⟨_, rfl, (by decide : 2 ≤ sizeLine), fun t ht0 => ?_⟩
  have kp : PySem.W.kitAny K (WPv.tyV K p) [.ref (CW K), .ref (CS K)] = some (isWrk p || isSup p) := by
    refine kitAny_cons (kit_wrk kt p) (fun e => kitAny_cons (kit_sup kt p) (fun e2 => ?_) fun e2 => ?_) fun e => ?_
    · rw [e, e2]; rfl
    · rw [e, e2]; rfl
    · rw [e]; rfl
  have b9 : But m H8 (upd H8 t (.tup [.ref (CW K), .ref (CS K)])) := But.refl.new ht0
  have hS9 := hS8.new (x := .tup [.ref (CW K), .ref (CS K)]) ht0
  refine ⟨v, t, _, _, _, isWrk p || isSup p, rfl, upd_same, .cons (.own _) (.cons (.own _) .nil), at_ty kt _ (at_kn (kn_m (lc := lc) h0 hS8 b9) _ (at_kn kn _ hp)), kp, ?_⟩
  have ci9 : ∀ first', first' = wrV (badChild 0 1 1 (ks ++ [p])) → CI K S H m lc lp lo xp xo a c (i + 1) first' (whole + size) (upd H8 t (.tup [.ref (CW K), .ref (CS K)])) := fun f e => (ci8 f e).move h0 b9 hS9
  generalize upd H8 t (.tup [.ref (CW K), .ref (CS K)]) = H9 at *
  dsimp only
  have ew : ((whole : Nat) : Int) + (size : Nat) = ((whole + size : Nat) : Int) := by omega
  rw [ew]
  have hb := st.1
  have tst : EvB (tOr (tNot (tB (tVar 12))) (tOr (tTest (tOp (rI0 fun i j => .bl (decide (i > j))) (tVar 7) (tC (.int 11)))) (tOr (tTest (tOp (rI0 fun i j => .bl (decide (i > j))) (tVar 4) (tC (.int 200)))) (tTest (tOp (rI0 fun i j => .bl (decide (i > j))) (tVar 11) (tC (.int 19))))))) [some (.ref m), some (.int ((n : Nat) : Int)), some (.ref lc), some (wrV (badChild 0 1 1 ks)), some (.int ((whole + size : Nat) : Int)), some (.ref lp), some (.ref lo), some (.int ((0 : Int) + (i : Nat))), some v8, some v, some (.int ((size : Nat) : Int)), some (.int ((height : Nat) : Int)), some (.bl (isWrk p || isSup p))] H9
      ((!(isWrk p || isSup p)) || (decide (11 < ks.length) || (decide (200 < whole + size) || decide (19 < height)))) :=
    evb_or (evb_not (evb_B (ev_var rfl))) fun _ => evb_or (evb_cmpF (g := fun i j => decide (i > j)) (ev_var rfl) ev_c (by rw [hkl, Bool.eq_iff_iff]; simp only [decide_eq_true_eq]; omega)) fun _ => evb_or (evb_cmpF (g := fun i j => decide (i > j)) (ev_var rfl) ev_c (by rw [Bool.eq_iff_iff]; simp only [decide_eq_true_eq]; omega)) fun _ => evb_cmpF (g := fun i j => decide (i > j)) (ev_var rfl) ev_c (by rw [Bool.eq_iff_iff]; simp only [decide_eq_true_eq]; omega)
  cases hbk : badChild 0 1 1 ks with
  | some j =>
    rw [hbk] at hb
    refine st_nn (evb_and (a := false) (b := false) (fun Q q => ⟨_, rfl, rfl, false, congrArg V.bl (decide_eq_false (by intro z; cases z)), q⟩) fun z => nomatch z) ?_
    exact k _ _ _ _ (ci9 _ (by rw [hb]))
  | none =>
    rw [hbk] at hb tst
    refine WRd.st_if (b := _) (evb_and (a := true) (fun Q q => ⟨_, rfl, rfl, true, congrArg V.bl (decide_eq_true rfl), q⟩) fun _ => tst) ?_
    rw [Bool.true_and]
    dsimp only at hb
    split
    · rename_i hc
      rw [if_pos hc] at hb
      refine ⟨_, rfl, ?_⟩
      have := k _ _ _ (some (.bl (isWrk p || isSup p))) (ci9 (.int ((0 : Int) + (i : Nat))) (by rw [hb, Int.zero_add, hkl]; rfl))
      exact this
    · rename_i hc
      rw [if_neg hc] at hb
      exact k _ _ _ _ (ci9 _ (by rw [hb]))
section
variable {P : Program} {w : World} {K : PySem.W.Frag} {S : Addr × List Int} {mg : Str → Option Value} {base : Heap}
theorem ok_children (T : Env K mg) : FnOk P w K mg base CX0 15 (d_L_children.loc K) T.fd_L_children ["m", "many"] (spChildren K S) := by
  have G_mk0_WorkerPlan : FnK P w K mg base (L2.CX P w) 9 _ _ _ := fk_worker0 T
  have G_mk0_SupervisorPlan : FnK P w K mg base (L2.CX P w) 9 _ _ _ := fk_super0 T
  have G_L_next : FnOk P w K mg base CX0 1 _ _ _ _ := ok_next (S := S) T
  have G_L_of : FnOk P w K mg base CX0 2 _ _ _ _ := ok_of (S := S) T
  have G_L_deep : FnOk P w K mg base CX0 11 _ _ _ _ := ok_deep T
  have G_L_broad : FnOk P w K mg base CX0 14 _ _ _ _ := ok_broad T
  refine T.F_L_children.ok sc_L_children (fun vs H Q E h => ?_) (fun cdv A outer s H vs Q E hr h => ?_)
  · obtain ⟨m, n, a, c, rfl, _⟩ := h
    rfl
  · have nd := sc_L_children.nd
    have hu := hu_of hr
    obtain ⟨m, n, a, c, rfl, hn, hS, ha, k⟩ := h
    refine ⟨_, PSs.nox (pss_cons (ps_par3 (i := 2) (j := 3) (l := 4) (by rfl) nd rfl rfl rfl (by decide) (by decide) (by decide) rfl rfl rfl (pa_cons (pe_lst pa_nil) (pa_cons pe_non (pa_cons pe_int pa_nil))) (by rfl))
 (pss_cons (ps_set (i := 5) nd rfl (Or.inl rfl) (pe_lst (pa_cons (pe_mkKF T.mk_WorkerPlan G_mk0_WorkerPlan (hr.mono (by decide)) (by rfl) T.g_WorkerPlan passL (pa_cons pe_str pa_nil) pk_nil) (pa_cons (pe_mkKF T.mk_SupervisorPlan G_mk0_SupervisorPlan (hr.mono (by decide)) (by rfl) T.g_SupervisorPlan passL (pa_cons pe_str pa_nil) pk_nil) (pa_cons (pe_mkKF T.mk_WorkerPlan G_mk0_WorkerPlan (hr.mono (by decide)) (by rfl) T.g_WorkerPlan passL (pa_cons pe_str pa_nil) pk_nil) (pa_cons (pe_mkKF T.mk_WorkerPlan G_mk0_WorkerPlan (hr.mono (by decide)) (by rfl) T.g_WorkerPlan passL (pa_cons pe_str pa_nil) pk_nil) pa_nil))))))
 (pss_cons (ps_set (i := 6) nd rfl (Or.inl rfl) (pe_lst (pa_cons pe_non (pa_cons pe_str (pa_cons pe_int (pa_cons (pe_tup (pa_cons pe_str pa_nil)) (pa_cons (pe_lst (pa_cons (pe_mkKF T.mk_WorkerPlan G_mk0_WorkerPlan (hr.mono (by decide)) (by rfl) T.g_WorkerPlan passL (pa_cons pe_str pa_nil) pk_nil) pa_nil)) (pa_cons pe_bl (pa_cons pe_dnewK (pa_cons (pe_tup pa_nil) pa_nil))))))))))
 (pss_cons (ps_for PassesOwn.never rfl (pi_range1 (by rfl) T.b_range (pa_cons (pv 1) pa_nil)) (pg_name (i := 7) nd rfl (Or.inl rfl))
  (pss_cons (ps_set (i := 8) nd rfl (Or.inl rfl) (pe_call G_L_next (hr.mono (by decide)) (by rfl) T.g__law_next T.F_L_next.kp T.bi_L_next .nil pass0 (pa_cons (pv 0) (pa_cons pe_int pa_nil))))
 (pss_cons (ps_par3 (i := 9) (j := 10) (l := 11) (by rfl) nd rfl rfl rfl (by decide) (by decide) (by decide) rfl rfl rfl (pa_cons (pe_call G_L_of (hr.mono (by decide)) (by rfl) T.g__law_of T.F_L_of.kp T.bi_L_of .nil pass0 (pa_cons (pv 0) (pa_cons (pv 5) pa_nil))) (pa_cons pe_int (pa_cons pe_int pa_nil))) (by rfl))
 (pss_cons (ps_if (pt_cmpR op_eq (pv 8) pe_int (nomark _))
  (pss_cons (ps_set (i := 11) nd rfl (Or.inl rfl) (pe_call G_L_of (hr.mono (by decide)) (by rfl) T.g__law_of T.F_L_of.kp T.bi_L_of .nil pass0 (pa_cons (pv 0) (pa_cons (pe_lst (pa_cons pe_int (pa_cons pe_int pa_nil))) pa_nil))))
 (pss_one (ps_par (i := 9) (j := 10) (by rfl) nd rfl rfl (by decide) rfl rfl (pa_cons (pe_call G_L_deep (hr.mono (by decide)) (by rfl) T.g__law_deep T.F_L_deep.kp T.bi_L_deep .nil pass0 (pa_cons (pv 11) pa_nil)) (pa_cons (pv 11) pa_nil)) (by rfl))))
  (pss_one (ps_if (pt_cmpR op_lt (pv 8) pe_int (nomark _))
  (pss_one (ps_par3 (i := 9) (j := 10) (l := 11) (by rfl) nd rfl rfl rfl (by decide) (by decide) (by decide) rfl rfl rfl (pa_cons (pe_call0 G_L_broad (hr.mono (by decide)) (by rfl) T.g__law_broad T.F_L_broad.kp T.bi_L_broad .nil pass0) (pa_cons pe_int (pa_cons pe_int pa_nil))) (by rfl)))
  (pss_one (ps_if (pt_cmpR op_lt (pv 8) pe_int (nomark _))
  (pss_one (ps_set (i := 9) nd rfl (Or.inl rfl) (pe_call G_L_of (hr.mono (by decide)) (by rfl) T.g__law_of T.F_L_of.kp T.bi_L_of .nil pass0 (pa_cons (pv 0) (pa_cons (pv 6) pa_nil)))))
  pss_nil)))))
 (pss_cons (ps_expr (pe_bm PySem.F.plainAttrs_list PySem.F.slot_list_append PySem.F.type_list_append mt_append (pv 2) (pa_cons (pv 9) pa_nil)))
 (pss_cons (ps_set (i := 4) nd rfl (Or.inl rfl) (pe_op op_add (pv 4) (pv 10)))
 (pss_cons (ps_set (i := 12) nd rfl (Or.inl rfl) (pe_callB call_isiT (by rfl) T.b_isinstance (by decide +kernel) (pa_cons (pv 9) (pa_cons (pe_tup (pa_cons (pe_globR (by rfl) T.g_WorkerPlan) (pa_cons (pe_globR (by rfl) T.g_SupervisorPlan) pa_nil))) pa_nil))))
 (pss_one (ps_if (PW.pt (pw_and (pt_cmpR op_isN (pv 3) pe_non (nomark _)) (pw_and1 (PW.pt (pw_or (pt_not (pt_val (pv 12))) (pw_or (pt_cmpR op_gt (pv 7) pe_int (nomark _)) (pw_or (pt_cmpR op_gt (pv 4) pe_int (nomark _)) (pw_or1 (pt_cmpR op_gt (pv 11) pe_int (nomark _))))))))))
  (pss_one (ps_set (i := 3) nd rfl (Or.inl rfl) (pv 7)))
  pss_nil)))))))))
 (pss_one (ps_ret (pe_tup (pa_cons (pv 2) (pa_cons (pv 3) pa_nil))))))))), ?_⟩
    refine ⟨Nat.zero_le _, fun lc hlc => ⟨_, _, _, rfl, ?_⟩⟩
    have s1 := same_new (o := .lst []) hlc
    have e1 : upd H lc (.lst []) lc = some (.lst []) := upd_same
    generalize upd H lc (.lst []) = H1 at *
    dsimp only
    show tSeq _ _ _ _ _
    have hN : ∀ {H0 : Hp}, Same H1 H0 → ∀ t H2, Same H0 H2 → H2 t = none → (fun b => H b = none ∧ b ≠ lc) t := fun s0 t H2 s2 h2 => ⟨Same.free ((s1.trans s0).trans s2) h2, fun z => by rw [z, s2 _ _ (s0 _ _ e1)] at h2; cases h2⟩
    refine g_asg (P := At K (fun b => H b = none ∧ b ≠ lc) (.lst kidPlans)) (g_lstP (hN (Same.refl _)) (gl_cons (g_mkW0 T.sd k_name) (gl_cons (g_mkS0 (ks := []) (M := fun _ => True) k_name gl_nil ⟨rfl, by decide⟩) (gl_cons (g_mkW0 T.sd a_name) (gl_cons (g_mkW0 T.sd k2_name) gl_nil)))) (Nat.le_of_ble_eq_true rfl)) fun v2 H2 s2 p2 => ?_
    dsimp only
    show tSeq _ _ _ _ _
    refine g_asg (P := At K (fun b => H b = none ∧ b ≠ lc) (.lst kidOdd)) (g_lstP (hN s2) (gl_cons g_non (gl_cons (g_str (Nat.le_of_ble_eq_true rfl)) (gl_cons g_int (gl_cons (g_tupP (gl_cons (g_str (Nat.le_of_ble_eq_true rfl)) gl_nil) (Nat.le_of_ble_eq_true rfl)) (gl_cons (g_lstP (hN s2) (gl_cons (g_mkW0 T.sd k_name) gl_nil) (Nat.le_of_ble_eq_true rfl)) (gl_cons g_bl (gl_cons (g_dicP (hN s2)) (gl_cons (g_tupP gl_nil (Nat.le_of_ble_eq_true rfl)) gl_nil)))))))) (Nat.le_of_ble_eq_true rfl)) fun v3 H3 s3 p3 => ?_
    dsimp only
    show tSeq _ _ _ _ _
    obtain ⟨lp, xp, rfl, _, hlp, hpa, _⟩ := mn_at _ _ _ s3 p2
    obtain ⟨lo, xo, rfl, _, hlo, hoa, _⟩ := p3
    have s13 := (s1.trans s2).trans s3
    refine ⟨_, rfl, ((n : Nat) : Int), rfl, by omega, by omega, ?_⟩
    rw [Int.toNat_natCast]
    have c0 : CI K S H m lc lp lo xp xo a c 0 .non 1 H3 := ⟨hS.same s13, fun b o hb _ => s13 _ _ hb, hlp, hpa, hlo, hoa, ⟨[], [], (s2.trans s3) _ _ e1, rfl, rfl, rfl, fun _ => rfl⟩⟩
    refine for_it (walk_range (lo := 0) (n := n)) (fun i σ H' => ∃ a' first whole a7 a8 a9 a10 a11 a12, a' ≤ a + 3 * i ∧ CI K S H m lc lp lo xp xo a' c i first whole H' ∧ σ = [some (.ref m), some (.int ((n : Nat) : Int)), some (.ref lc), some first, some (.int ((whole : Nat) : Int)), some (.ref lp), some (.ref lo), a7, a8, a9, a10, a11, a12]) ⟨a, _, _, _, _, _, _, _, _, Nat.le_refl _, c0, rfl⟩ (fun _ _ _ _ _ => trivial) (fun i x σ H4 H5 hi p y => ?_) (fun σ H4 p => ?_)
    · obtain ⟨a', first, whole, a7, a8, a9, a10, a11, a12, ha', ci, rfl⟩ := p
      obtain ⟨rfl, rfl⟩ := y
      have nlp : lp ≠ lc := fun z => by
        rw [z] at hlp
        have := (s2.trans s3) _ _ e1
        rw [hlp] at this
        cases this
        cases hpa.len
      have nlo : lo ≠ lc := fun z => by
        rw [z] at hlo
        have := (s2.trans s3) _ _ e1
        rw [hlo] at this
        cases this
        cases hoa.len
      have hok : ∀ {D : Ends} {a2 : Nat} {H7 : Hp} {v v8 : V} {p : Pv} {size height : Nat} {x12 : Option V}, CI K S H m lc lp lo xp xo a2 c i first whole H7 → At K (fun b => H b = none ∧ b ≠ lc) p v H7 → KidOk p size height →
          (∀ H' first' whole' a12', CI K S H m lc lp lo xp xo a2 c (i + 1) first' whole' H' → D.nx [some (.ref m), some (.int ((n : Nat) : Int)), some (.ref lc), some first', some (.int ((whole' : Nat) : Int)), some (.ref lp), some (.ref lo), some (.int ((0 : Int) + (i : Nat))), some v8, some v, some (.int ((size : Nat) : Int)), some (.int ((height : Nat) : Int)), a12'] H') →
          restT K D [some (.ref m), some (.int ((n : Nat) : Int)), some (.ref lc), some first, some (.int ((whole : Nat) : Int)), some (.ref lp), some (.ref lo), some (.int ((0 : Int) + (i : Nat))), some v8, some v, some (.int ((size : Nat) : Int)), some (.int ((height : Nat) : Int)), x12] H7 :=
        fun ci7 hp hk k => rest_ok T.kt hS hlc ci7 hp hk (by omega) nlp nlo k
      refine ⟨_, rfl, m, 24, a', c, rfl, by decide, by decide, ci.src, by omega, fun r H6 r0 r1 b6 s6 => ?_⟩
      have ci6 := ci.move hS b6 s6
      dsimp only
      show tSeq _ _ _ _ _
      obtain ⟨kvs, hm6, _⟩ := s6.dict
      have nxp : xp ≠ [] := fun z => by
        rw [z] at hpa
        cases hpa.len
      have lxp : xp.length ≤ 1000 := by rw [hpa.len]; decide
      have nxo : xo ≠ [] := fun z => by
        rw [z] at hoa
        cases hoa.len
      have lxo : xo.length ≤ 1000 := by rw [hoa.len]; decide
      have nlm : ∀ {l : Addr} {xs : List V}, H6 l = some (.lst xs) → l ≠ m := fun {l xs} h z => by
        rw [z, hm6] at h
        cases h
      refine ⟨_, rfl, _, rfl, m, lp, xp, a' + 1, c, rfl, ci6.pl, nxp, lxp, s6, by omega, nlm ci6.pl, fun v H7 hv b7 s7 => ⟨_, _, _, rfl, ?_⟩⟩
      have ci7 := ci6.move hS b7 s7
      obtain ⟨p, hp, px⟩ : ∃ p, KidOk p 1 1 ∧ At K (fun b => H b = none ∧ b ≠ lc) p v H7 := by
        obtain ⟨j, hj, rfl⟩ := List.getElem_of_mem hv
        obtain ⟨p, hp, px⟩ := ci6.pa.get2 (List.getElem?_eq_getElem hj)
        have hm := List.mem_of_getElem? hp
        refine ⟨p, ?_, at_kn (kn_m (lc := lc) hS s6 b7) _ px⟩
        simp only [kidPlans, List.mem_cons, List.not_mem_nil, or_false] at hm
        rcases hm with rfl | rfl | rfl | rfl <;> exact ⟨rfl, rfl⟩
      have nx : ∀ {a2 : Nat} {H' : Hp} {first' v v8 : V} {whole' size height : Nat} {a12' : Option V}, a2 ≤ a + 3 * (i + 1) → CI K S H m lc lp lo xp xo a2 c (i + 1) first' whole' H' → ∃ a' first whole a7 a8 a9 a10 a11 a12, a' ≤ a + 3 * (i + 1) ∧ CI K S H m lc lp lo xp xo a' c (i + 1) first whole H' ∧ [some (V.ref m), some (.int ((n : Nat) : Int)), some (.ref lc), some first', some (.int ((whole' : Nat) : Int)), some (.ref lp), some (.ref lo), some (.int ((0 : Int) + (i : Nat))), some v8, some v, some (.int ((size : Nat) : Int)), some (.int ((height : Nat) : Int)), a12'] = [some (.ref m), some (.int ((n : Nat) : Int)), some (.ref lc), some first, some (.int ((whole : Nat) : Int)), some (.ref lp), some (.ref lo), a7, a8, a9, a10, a11, a12] := fun {a2 H' first' v v8 whole' size height a12'} h ci => ⟨a2, first', whole', _, _, _, _, _, _, h, ci, rfl⟩
      dsimp only
      show tSeq _ _ _ _ _
      by_cases h0 : r = 0
      · subst h0
        refine st_ya (evb_eqF (ev_var rfl) ev_c rfl (decide_eq_true rfl)) ?_
        refine of_l (N := fun b => H b = none ∧ b ≠ lc) (ps := [.int 19, .int 20]) rfl (gl_cons g_int (gl_cons g_int gl_nil)) (fun z => nomatch z) (by decide) s7 (by omega) (fun z => by obtain ⟨kv, hm, _⟩ := hS.dict; rw [hm] at z; cases z.1) fun q u H8 hq hu b8 s8 => ?_
        obtain ⟨d, rfl, d2, d20⟩ : ∃ d : Nat, u = .int ((d : Nat) : Int) ∧ 2 ≤ d ∧ d ≤ 20 := by
          simp only [List.mem_cons, List.not_mem_nil, or_false] at hq
          rcases hq with rfl | rfl
          · exact ⟨19, hu, by decide, by decide⟩
          · exact ⟨20, hu, by decide, by decide⟩
        dsimp only
        refine ⟨_, rfl, d, rfl, d2, d20, fun v9 H9 s9 h9 => ⟨_, rfl, _, _, rfl, ?_⟩⟩
        have ci9 := (ci7.move hS b8 s8).move hS (a2 := a' + 1 + 1 + 1) (fun b o hb _ => s9 b o hb) (s8.same s9)
        dsimp only
        show restT K _ _ _
        exact hok (p := .sup d d) ci9 (h9 _) ⟨rfl, rfl⟩ fun H' f' w' x' ci' => nx (by omega) ci'
      refine WRd.st_if (b := false) (evb_eqF (ev_var rfl) ev_c rfl (decide_eq_false (by intro z; cases z; exact h0 rfl))) ?_
      rw [if_neg Bool.false_ne_true]
      by_cases h3 : r < 3
      · refine st_ya (evb_cmpF (g := fun i j => decide (i < j)) (ev_var rfl) ev_c (decide_eq_true h3)) ?_
        refine ⟨rfl, fun v9 H9 s9 h9 => ⟨_, _, _, rfl, ?_⟩⟩
        have ci9 := ci7.move hS (a2 := a' + 1 + 1) (fun b o hb _ => s9 b o hb) (s7.same s9)
        dsimp only
        show restT K _ _ _
        exact hok (p := .sup 100 3) (size := 100) (height := 3) ci9 (h9 _) ⟨rfl, rfl⟩ fun H' f' w' x' ci' => nx (by omega) ci'
      refine WRd.st_if (b := false) (evb_cmpF (g := fun i j => decide (i < j)) (ev_var rfl) ev_c (decide_eq_false h3)) ?_
      rw [if_neg Bool.false_ne_true]
      by_cases h6 : r < 6
      · refine st_ya (evb_cmpF (g := fun i j => decide (i < j)) (ev_var rfl) ev_c (decide_eq_true h6)) ?_
        refine ⟨_, rfl, _, rfl, m, lo, xo, a' + 1 + 1, c, rfl, ci7.ol, nxo, lxo, s7, by omega, fun z => ?_, fun v9 H9 hv9 b9 s9 => ?_⟩
        · obtain ⟨kv, hm7, _⟩ := s7.dict
          have := ci7.ol
          rw [z, hm7] at this
          cases this
        · have ci9 := ci7.move hS b9 s9
          obtain ⟨p, hp, px⟩ : ∃ p, KidOk p 1 1 ∧ At K (fun b => H b = none ∧ b ≠ lc) p v9 H9 := by
            obtain ⟨j, hj, rfl⟩ := List.getElem_of_mem hv9
            obtain ⟨p, hp, px⟩ := ci7.oa.get2 (List.getElem?_eq_getElem hj)
            have hm := List.mem_of_getElem? hp
            refine ⟨p, ?_, at_kn (kn_m (lc := lc) hS s7 b9) _ px⟩
            simp only [kidOdd, List.mem_cons, List.not_mem_nil, or_false] at hm
            rcases hm with rfl | rfl | rfl | rfl | rfl | rfl | rfl | rfl <;> exact trivial
          dsimp only
          show restT K _ _ _
          exact hok (size := 1) (height := 1) ci9 px hp fun H' f' w' x' ci' => nx (by omega) ci'
      refine st_nn (evb_cmpF (g := fun i j => decide (i < j)) (ev_var rfl) ev_c (decide_eq_false h6)) ?_
      dsimp only
      show restT K _ _ _
      exact hok (size := 1) (height := 1) ci7 px hp fun H' f' w' x' ci' => nx (by omega) ci'
    · obtain ⟨a', first, whole, a7, a8, a9, a10, a11, a12, ha', ci, rfl⟩ := p
      obtain ⟨hS', bu, _, _, _, _, ks, ys, hl, hk, hkl, rfl, _⟩ := ci
      refine ⟨_, rfl, _, rfl, (by decide : 2 ≤ sizeLine), fun p hp => ?_⟩
      exact k p lc ks ys a' _ (bu.new hp) (hS'.new hp) (by omega) upd_same ((same_new hp) _ _ hl) (mn_atl _ _ _ (same_new hp) hk) hkl
end
end W02

set_option Elab.async false
set_option linter.all false
set_option maxRecDepth 100000
set_option maxHeartbeats 2000000
/-! errors as values in comprehensions; lists compared -/
namespace WXO2
open PySem PySem.Spec PyProof.Rows L2 WEv WRd WLf WXE WEb
section
variable {X : Cx} {K : PySem.W.Frag} {e : Expr} {te : TE} {f : Str} {pos : Pos}
theorem pe_xfldK (he : PE X e te) (h : X.K = K := by rfl) (hb : attributeBase e f X.env (eval e X.env) = eval e X.env := by rfl) : PE X (.Attribute e f pos) (tXfld K f te) := h ▸ pe_xfld he hb
theorem xisK (h : X.K = K := by rfl) : CallR X (.builtin "isinstance") (rXis K) := h ▸ call_xis
end
section
variable {K : PySem.W.Frag} {σ : L2.St} {H : Hp} {te ta tb : TE} {tr : TA} {D : Ends} {P P' : HP V} {Ps Qs : List (HP V)} {b : Bool} {v x : V}
/-- [e for v in a new sequence] -/
theorem g_lcG {wi : TI} {v : Nat} {Qs : List (HP V)} {Ps : List (HP V)} (hw : ∀ H1, Same H H1 → ∀ R : It → Hp → Prop, (∀ (J : It) (Gw : Hp → Prop) (ys : List V) (H2 : Hp), Same H1 H2 → Walk J ys.length Gw (YAt ys) → (∀ H3, Same H2 H3 → Gw H3) → Fa Qs ys H2 → R J H2) → wi σ H1 R) (mq : Mn (Fa Qs))
    (hl : Ps.length = Qs.length) (hz : Qs.length ≤ 1000) (m : ∀ P ∈ Ps, MnK P)
    (h : ∀ (i : Nat) (x : V) (P P' : HP V) (H1 : Hp), Qs[i]? = some P' → P' x H1 → Ps[i]? = some P → Same H H1 → ∀ Q : VK, (∀ y H2, Same H1 H2 → P y H2 → Q y H2) → te ((σ.set v none).set v (some x)) H1 Q) :
    G (tLc wi (gName v) tYes te [v]) σ H (LF Ps) := by
  refine ⟨fun H1 e Q q => ?_, mn_lf (mn_fa m)⟩
  refine hw H1 e _ ?_
  intro J Gw ys H0 s0 wk hg fq
  intro Dd hD
  show ∃ W, _
  have lq := fq.len
  refine lc_it wk (fun i H' => Same H0 H' ∧ ∃ acc, H' Dd = some (.lst acc) ∧ Fa (Ps.take i) acc H') ⟨same_new hD, [], upd_same, trivial⟩ (fun _ H' _ p => hg H' p.1) (fun i x H2 H3 hi p y => ?_) (fun H2 p => ?_)
  · obtain ⟨s2, acc, hd, fa⟩ := p
    obtain ⟨rfl, hx⟩ := y
    refine ⟨(List.set_set ..).trans (List.set_set ..), ?_⟩
    obtain ⟨P, hP⟩ : ∃ P, Ps[i]? = some P := ⟨_, List.getElem?_eq_getElem (by omega)⟩
    obtain ⟨P', hP'⟩ : ∃ P, Qs[i]? = some P := ⟨_, List.getElem?_eq_getElem (by omega)⟩
    obtain ⟨x', ex', px'⟩ := (mq _ _ _ s2 fq).get hP'
    rw [hx] at ex'
    cases ex'
    refine h i x P P' _ hP' px' hP ((e.trans s0).trans s2) _ fun y H4 s4 py => ?_
    have hd4 := s4 _ _ hd
    have fa4 : Fa (Ps.take i) acc H4 := fa_kp (fun Q hQ => m Q (List.mem_of_mem_take hQ)) (Kp.same s4) fa
    have la := fa.len
    rw [List.length_take] at la
    refine ⟨acc, hd4, Nat.lt_of_le_of_lt (show acc.length ≤ 1000 by omega) (by decide), same_put (s2.trans s4) hD, acc ++ [y], upd_same, ?_⟩
    exact fa_kp (fun Q hQ => m Q (List.mem_of_mem_take hQ)) (Kp.lst hd4) (fa_take fa4 hP py)
  · obtain ⟨s2, acc, hd, fa⟩ := p
    rw [lq, ← hl, List.take_length] at fa
    exact q _ _ (s0.trans s2) ⟨Dd, acc, rfl, hd, fa⟩
/-- what a for over the value of e needs -/
theorem w_lst (h : G te σ H (LF Qs)) : ∀ H1, Same H H1 → ∀ R : It → Hp → Prop, (∀ (J : It) (Gw : Hp → Prop) (ys : List V) (H2 : Hp), Same H1 H2 → Walk J ys.length Gw (YAt ys) → (∀ H3, Same H2 H3 → Gw H3) → Fa Qs ys H2 → R J H2) → iList K te σ H1 R := fun H1 s R r =>
  h.ev H1 s _ fun v H2 s2 p2 => by
    obtain ⟨l, ys, rfl, hl, fa⟩ := p2
    exact ⟨l, rfl, ⟨ys, .of hl⟩, r (Itl K l) _ ys H2 s2 (walk_list (xs := ys)) (fun H3 s3 => .of (s3 _ _ hl)) fa⟩
theorem lf_dpG {xs : List V} {ds : List PyData} {v : V} {H : Hp} (h : LF (xs.map Is) v H) (hd : DpAll K H xs ds) : Dp K H v (.list ds) := by
  obtain ⟨p, ys, rfl, hp, fa⟩ := h
  obtain rfl := fa.is
  exact .lst (.of hp) hd
theorem et_neD {xs : List V} {ds : List PyData} (ha : G ta σ H (LF (xs.map Is))) (hb : G tb σ H (LF (xs.map Is))) (hd : ∀ H, DpAll K H xs ds) (hs : SeqAt.shaped (.list ds) = true) : EvT (tTest (tOp (rNeD K) ta tb)) σ H false := fun H1 e _ q =>
  ha.ev H1 e _ fun a H2 s2 pa => hb.ev H2 (e.trans s2) _ fun c H3 s3 pc => by
    refine ⟨_, _, lf_dpG (ha.mn _ _ _ s3 pa) (hd _), lf_dpG pc (hd _), hs, hs, ?_⟩
    rw [SeqAt.eqv_refl _ (SeqAt.canLay_of_shaped hs)]
    exact ⟨false, rfl, q _ (s2.trans s3)⟩
/-- [x] * 2 -/
theorem g_two (h : G te σ H (Is x)) : G (tOp rRep (tLst (tCons te tNil)) (tC (.int 2))) σ H (LF ([x, x].map Is)) := ⟨fun H1 e Q q => h.ev H1 e _ fun v H2 s2 pv => by
  obtain rfl : v = x := pv
  refine ⟨(by decide : 1 ≤ sizeLine), fun l hl => ⟨l, 2, [v], rfl, rfl, upd_same, by decide, by decide, ?_, fun r hr => ?_⟩⟩
  · show 1 * 2 ≤ sizeLine
    decide
  · exact q _ _ ((s2.trans (same_new hl)).trans (same_new hr)) ⟨r, _, rfl, upd_same, rfl, rfl, trivial⟩, mn_lf mn_is⟩
end
end WXO2

set_option Elab.async false
set_option linter.all false
set_option maxRecDepth 100000
set_option maxHeartbeats 1000000
namespace W02
open PySem PySem.Spec PyProof.Rows L2 WXG WEv WRd WLf WEn WZs WRu WSt StX WDc WPv WEb WXO WXE WKd WXO2
def spFields (K : PySem.W.Frag) : Sp := fun vs H Q _ => ∃ z n, vs = [.str z, .int n] ∧ SeqAt.shaped (.list [.str z, .str z]) = true ∧ ∀ H', Same H H' → Q (.bl true) H'
section
variable {P : Program} {w : World} {K : PySem.W.Frag} {mg : Str → Option Value} {base : Heap}
theorem ok_fields (T : Env K mg) : FnOk P w K mg base CX0 3 (d_L_fields_right.loc K) T.fd_L_fields_right ["field", "number_now"] (spFields K) := by
  have G_BadSetting : FnOk P w K mg base CX0 1 _ _ _ _ := ok_BadSetting T
  have G_BadChild : FnOk P w K mg base CX0 1 _ _ _ _ := ok_BadChild T
  refine T.F_L_fields_right.ok sc_L_fields_right (fun vs H Q E h => ?_) (fun cdv A outer s H vs Q E hr h => ?_)
  · obtain ⟨z, n, rfl, _⟩ := h
    rfl
  · have nd := sc_L_fields_right.nd
    have hu := hu_of hr
    obtain ⟨z, n, rfl, hz, k⟩ := h
    refine ⟨_, PSs.nox (pss_cons (ps_set (i := 2) nd rfl (Or.inl rfl) (pe_lst (pa_cons (pe_xmk T.x_BadSetting T.i_BadSetting T.t_BadSetting G_BadSetting (hr.mono (by decide)) (by rfl) T.g_BadSetting T.kb_BadSetting pass0 (pa_cons (pv 0) pa_nil)) (pa_cons (pe_xmkK T.x_BadSetting T.i_BadSetting T.t_BadSetting G_BadSetting (hr.mono (by decide)) (by rfl) T.g_BadSetting T.kw_BadSetting pass0 (pk_cons (pv 0) pk_nil)) pa_nil))))
 (pss_cons (ps_set (i := 3) nd rfl (Or.inl rfl) (pe_lst (pa_cons (pe_xmk T.x_BadChild T.i_BadChild T.t_BadChild G_BadChild (hr.mono (by decide)) (by rfl) T.g_BadChild T.kb_BadChild pass0 (pa_cons (pv 1) pa_nil)) (pa_cons (pe_xmkK T.x_BadChild T.i_BadChild T.t_BadChild G_BadChild (hr.mono (by decide)) (by rfl) T.g_BadChild T.kw_BadChild pass0 (pk_cons (pv 1) pk_nil)) pa_nil))))
 (pss_cons (ps_if (PW.pt (pw_or (pt_cmpR (op_neD hr.units) (pe_lc (own := [("error", 4)]) (by rfl) nd (pi_list (pv 2)) (blkOk_by (N := ["field", "number_now", "some", "others", "error"]) (sc := defScope s_L_fields_right) (by decide +kernel)) (fun _ _ _ _ _ => (pg_name (i := 4) nd rfl (Or.inl rfl))) (fun _ _ _ _ _ => pts_nil) (fun _ _ _ _ _ => (WXO2.pe_xfldK (K := K) (pv 4)))) (pe_op op_rep (pe_lst (pa_cons (pv 0) pa_nil)) pe_int) (nomark _)) (pw_or1 (pt_cmpR (op_neD hr.units) (pe_lc (own := [("error", 4)]) (by rfl) nd (pi_list (pv 3)) (blkOk_by (N := ["field", "number_now", "some", "others", "error"]) (sc := defScope s_L_fields_right) (by decide +kernel)) (fun _ _ _ _ _ => (pg_name (i := 4) nd rfl (Or.inl rfl))) (fun _ _ _ _ _ => pts_nil) (fun _ _ _ _ _ => (WXO2.pe_xfldK (K := K) (pv 4)))) (pe_op op_rep (pe_lst (pa_cons (pv 1) pa_nil)) pe_int) (nomark _)))))
  (pss_one (ps_ret pe_bl))
  pss_nil)
 (pss_one (ps_ret (pe_callB (cr_all rfl) (by rfl) T.b_all (by decide +kernel) (pa_cons (pe_lc (own := [("error", 4)]) (by rfl) nd (pi_list (pe_op op_cat (pv 2) (pv 3))) (blkOk_by (N := ["field", "number_now", "some", "others", "error"]) (sc := defScope s_L_fields_right) (by decide +kernel)) (fun _ _ _ _ _ => (pg_name (i := 4) nd rfl (Or.inl rfl))) (fun _ _ _ _ _ => pts_nil) (fun _ _ _ _ _ => (pe_and (pe_callB (WXO2.xisK (K := K)) (by rfl) T.b_isinstance (by decide +kernel) (pa_cons (pv 4) (pa_cons (pe_globR (by rfl) T.g_PlanError) pa_nil))) (pe_one (pe_callB (WXO2.xisK (K := K)) (by rfl) T.b_isinstance (by decide +kernel) (pa_cons (pv 4) (pa_cons (pe_bltnT (n := "ValueError") (by rfl) T.b_ValueError (by decide +kernel)) pa_nil))))))) pa_nil))))))), ?_⟩
    show tSeq _ _ _ _ _
    refine g_asg (P := LF [XF (BS K) "setting" (.str z), XF (BS K) "setting" (.str z)]) (g_lst (ga_cons (g_mk1 (g_var rfl)) (ga_cons (g_mkK (g_var rfl)) ga_nil))) fun v2 H2 s2 p2 => ?_
    dsimp only
    show tSeq _ _ _ _ _
    refine g_asg (P := LF [XF (BC K) "index" (.int n), XF (BC K) "index" (.int n)]) (g_lst (ga_cons (g_mk1 (g_var rfl)) (ga_cons (g_mkK (g_var rfl)) ga_nil))) fun v3 H3 s3 p3 => ?_
    dsimp only
    show tSeq _ _ _ _ _
    have m2 : Mn (LF [XF (BS K) "setting" (.str z), XF (BS K) "setting" (.str z)]) := mn_lf (mn_cons mn_xf (mn_cons mn_xf mn_nil))
    have m3 : Mn (LF [XF (BC K) "index" (.int n), XF (BC K) "index" (.int n)]) := mn_lf (mn_cons mn_xf (mn_cons mn_xf mn_nil))
    have p2 := m2 _ _ _ s3 p2
    have two : ∀ {α : Type} {a b x : α} {i : Nat}, [a, b][i]? = some x → x = a ∨ x = b := fun {α a b x i} h => by
      have := List.mem_of_getElem? h
      simpa using this
    refine s_no (et_or0 (et_neD (xs := [.str z, .str z]) (ds := [.str z, .str z]) (g_lcG (Qs := [XF (BS K) "setting" (.str z), XF (BS K) "setting" (.str z)]) (w_lst (g_varP rfl p2 m2)) (mn_cons mn_xf (mn_cons mn_xf mn_nil)) rfl (Nat.le_of_ble_eq_true rfl) (fun P hP => ?_) fun i x P P' H4 hq px hp s4 Q q => ?_) (g_two (g_var rfl)) (fun _ => .cons (.str _) (.cons (.str _) .nil)) hz)
      (et_neD (xs := [.int n, .int n]) (ds := [.int n, .int n]) (g_lcG (Qs := [XF (BC K) "index" (.int n), XF (BC K) "index" (.int n)]) (w_lst (g_varP rfl (m3 _ _ _ (Same.refl _) p3) m3)) (mn_cons mn_xf (mn_cons mn_xf mn_nil)) rfl (Nat.le_of_ble_eq_true rfl) (fun P hP => ?_) fun i x P P' H4 hq px hp s4 Q q => ?_) (g_two (g_var rfl)) (fun _ => .cons (.int _) (.cons (.int _) .nil)) (by rfl))) fun H4 s4 => ?_
    · rcases List.mem_map.mp hP with ⟨_, _, rfl⟩
      exact fun _ _ _ _ e => e
    · obtain rfl : P' = XF (BS K) "setting" (.str z) := by rcases two hq with e | e <;> exact e
      obtain rfl : P = Is (.str z) := by rcases two hp with e | e <;> exact e
      exact (g_fld T.x_BadSetting T.n_BadSetting (g_varP rfl px mn_xf)).ev H4 (Same.refl _) Q fun y H5 s5 py => q y H5 s5 py
    · rcases List.mem_map.mp hP with ⟨_, _, rfl⟩
      exact fun _ _ _ _ e => e
    · obtain rfl : P' = XF (BC K) "index" (.int n) := by rcases two hq with e | e <;> exact e
      obtain rfl : P = Is (.int n) := by rcases two hp with e | e <;> exact e
      exact (g_fld T.x_BadChild T.n_BadChild (g_varP rfl px mn_xf)).ev H4 (Same.refl _) Q fun y H5 s5 py => q y H5 s5 py
    · have q2 := m2 _ _ _ s4 p2
      have q3 := m3 _ _ _ s4 p3
      have isx : ∀ {C : Addr} {f : Str} {y : V} {B newId initId : String} {bm : List Value} {x : V} {H5 : Hp} {σ : L2.St}, XC K C B newId initId bm → XF C f y x H5 → σ[4]? = some (some x) → PySem.W.kitOne K (.ref C) (.ref (He.ga K "PlanError")) = some true → PySem.W.kitOne K (.ref C) (.type "ValueError") = some true →
          G (tAndV (tCB (rXis K) (tCons (tVar 4) (tCons (tC (.ref (He.ga K "PlanError"))) tNil))) (tCB (rXis K) (tCons (tVar 4) (tCons (tC (.ty "ValueError")) tNil)))) σ H5 (Is (.bl true)) := fun {C f y B newId initId bm x H5 σ} X hx e k1 k2 => by
        obtain ⟨a, dx, rfl, h1, h2⟩ := hx
        exact g_andB (a := true) (b := true) (g_xis e (.inr ⟨dx, _, h1, h2⟩) X ref_cls k1) fun _ => g_xis e (.inr ⟨dx, _, h1, h2⟩) X ty_cls k2
      refine g_ret (P := Is (.bl true)) (g_all (bs := [true, true, true, true]) (g_lcG (Qs := [XF (BS K) "setting" (.str z), XF (BS K) "setting" (.str z)] ++ [XF (BC K) "index" (.int n), XF (BC K) "index" (.int n)]) (w_lst (g_cat (g_varP rfl q2 m2) (g_varP rfl q3 m3) (mn_cons mn_xf (mn_cons mn_xf mn_nil)) (mn_cons mn_xf (mn_cons mn_xf mn_nil)))) (mn_cons mn_xf (mn_cons mn_xf (mn_cons mn_xf (mn_cons mn_xf mn_nil)))) rfl (Nat.le_of_ble_eq_true rfl) (fun P hP => ?_) fun i x P P' H5 hq px hp s5 Q q => ?_)) fun v H5 s5 e => ?_
      · rcases List.mem_map.mp hP with ⟨_, _, rfl⟩
        exact fun _ _ _ _ e => e
      · obtain rfl : P = Is (.bl true) := by
          have := List.mem_of_getElem? hp
          simpa using this
        have hq : P' = XF (BS K) "setting" (.str z) ∨ P' = XF (BC K) "index" (.int n) := by
          have := List.mem_of_getElem? hq
          simpa using this
        rcases hq with rfl | rfl
        · exact (isx T.x_BadSetting px rfl T.vp_BadSetting T.vt_BadSetting).ev H5 (Same.refl _) Q fun y H6 s6 py => q y H6 s6 py
        · exact (isx T.x_BadChild px rfl T.vp_BadChild T.vt_BadChild).ev H5 (Same.refl _) Q fun y H6 s6 py => q y H6 s6 py
      · cases e
        exact k _ (((s2.trans s3).trans s4).trans s5)
end
end W02

set_option Elab.async false
set_option linter.all false
set_option maxRecDepth 100000
set_option maxHeartbeats 1000000
namespace W02
open PySem PySem.Spec PyProof.Rows L2 WXG WEv WRd WLf WEn WZs WRu WSt StX WDc WPv WEb WXO WXE WKd WGp
/-! ### what the law itself keeps -/
def kF : Bool → List Fd
  | false => [.name, .restart, .opening, .closing, .deadline, .refused, .script]
  | true => [.name, .restart, .strategy, .most, .span, .deadline]
def kS : Bool → Str
  | false => "w" | true => "s"
def fV (f : Fd) : V := .str f.str
def fds : List Fd := [.name, .restart, .strategy, .script, .most, .span, .refused, .deadline, .opening, .closing]
theorem str_inj {f g : Fd} (h : f.str = g.str) : f = g := by
  have : ∀ f ∈ fds, ∀ g ∈ fds, f.str = g.str → f = g := by decide +kernel
  exact this f (by cases f <;> decide) g (by cases g <;> decide) h
theorem in_fds (f : Fd) : ∀ ws : List Fd, inV (.str f.str) (ws.map fV) = ws.contains f
  | [] => rfl
  | g :: ws => by
    show (eqV (fV g) (.str f.str) || inV (.str f.str) (ws.map fV)) = _
    rw [in_fds f ws, List.contains_cons]
    congr 1
    show (g.str == f.str) = (f == g)
    rw [Bool.eq_iff_iff, beq_iff_eq, beq_iff_eq]
    exact ⟨fun h => str_inj h.symm, fun h => by rw [h]⟩
theorem flat_fV : ∀ ws : List Fd, (ws.map fV).all flatV = true
  | [] => rfl
  | g :: ws => flat_fV ws
theorem kF_nodup (b : Bool) : (kF b).Nodup := by cases b <;> decide
theorem kF_len (b : Bool) : (kF b).length ≤ 7 ∧ 0 < (kF b).length := by cases b <;> decide
/-- one setting's value as it was drawn -/
def One (ws : List Fd) (f : Fd) (p : Pv) : Prop := valid f p = (!ws.contains f) ∧ (f = .script → okScr p = true)
def Tl (ws : List Fd) : List Fd → List Pv → Prop
  | [], [] => True
  | f :: fs, p :: ps => One ws f p ∧ Tl ws fs ps
  | _, _ => False
theorem Tl.app {ws : List Fd} {f : Fd} {p : Pv} (h : One ws f p) : ∀ {fs : List Fd} {ps : List Pv}, Tl ws fs ps → Tl ws (fs ++ [f]) (ps ++ [p])
  | [], [], _ => ⟨h, trivial⟩
  | _ :: _, _ :: _, ⟨a, b⟩ => ⟨a, Tl.app h b⟩
theorem Tl.len {ws : List Fd} : ∀ {fs : List Fd} {ps : List Pv}, Tl ws fs ps → ps.length = fs.length
  | [], [], _ => rfl
  | _ :: _, _ :: _, ⟨_, b⟩ => congrArg (· + 1) (Tl.len b)
def kvsOf : List Fd → List V → List (Key × V)
  | f :: fs, x :: xs => (Sum.inr f.str, x) :: kvsOf fs xs
  | _, _ => []
theorem kvs_app {f : Fd} {x : V} : ∀ {fs : List Fd} {xs : List V}, xs.length = fs.length → kvsOf (fs ++ [f]) (xs ++ [x]) = kvsOf fs xs ++ [(Sum.inr f.str, x)]
  | [], [], _ => rfl
  | _ :: fs, _ :: xs, h => congrArg (_ :: ·) (kvs_app (Nat.succ.inj h))
theorem kvs_key {k : Key × V} : ∀ {fs : List Fd} {xs : List V}, k ∈ kvsOf fs xs → ∃ f ∈ fs, k.1 = Sum.inr f.str
  | f :: fs, x :: xs, h => by
    rcases List.mem_cons.mp h with rfl | h
    · exact ⟨f, List.mem_cons_self, rfl⟩
    · obtain ⟨g, hg, e⟩ := kvs_key h
      exact ⟨g, List.mem_cons_of_mem _ hg, e⟩
theorem kvs_len : ∀ {fs : List Fd} {xs : List V}, (kvsOf fs xs).length ≤ fs.length
  | [], _ => Nat.zero_le _
  | _ :: _, [] => Nat.zero_le _
  | _ :: fs, _ :: xs => Nat.succ_le_succ kvs_len
theorem put_new {fs : List Fd} {xs : List V} {f : Fd} {x : V} (h : f ∉ fs) (hl : xs.length = fs.length) : putK (kvsOf fs xs) (Sum.inr f.str) x = kvsOf (fs ++ [f]) (xs ++ [x]) := by
  rw [kvs_app hl]
  unfold putK
  refine if_neg fun z => ?_
  obtain ⟨k, hk, e⟩ := List.any_eq_true.mp z
  obtain ⟨g, hg, e2⟩ := kvs_key hk
  have e := of_decide_eq_true e
  rw [e2] at e
  exact h (str_inj (Sum.inr.inj e) ▸ hg)
theorem take_next {b : Bool} {i : Nat} {f : Fd} (h : (kF b)[i]? = some f) : (kF b).take (i + 1) = (kF b).take i ++ [f] ∧ f ∉ (kF b).take i ∧ i < (kF b).length := by
  have hi := (List.getElem?_eq_some_iff.mp h).1
  have e : (kF b).take (i + 1) = (kF b).take i ++ [f] := by rw [List.take_succ, h]; rfl
  refine ⟨e, fun z => ?_, hi⟩
  have nd : ((kF b).take (i + 1)).Nodup := (List.take_sublist _ _).nodup (kF_nodup b)
  rw [e] at nd
  exact (List.nodup_append.mp nd).2.2 f z f (List.mem_singleton.mpr rfl) rfl
def rowsOf : List Fd → List Pv → List (Str × Bool)
  | f :: fs, p :: ps => (f.str, valid f p) :: rowsOf fs ps
  | _, _ => []
theorem first_of {ws : List Fd} : ∀ {fs : List Fd} {ps : List Pv}, Tl ws fs ps → firstBad (rowsOf fs ps) = ((fs.filter ws.contains).head?).map Fd.str
  | [], [], _ => rfl
  | f :: fs, p :: ps, ⟨⟨a, _⟩, b⟩ => by
    show (if valid f p = true then firstBad (rowsOf fs ps) else some f.str) = _
    rw [a, List.filter_cons]
    cases h : ws.contains f with
    | true => rfl
    | false => exact first_of b
/-- what is due -/
def dueOf : Option Fd → Option Nat → Str × V
  | some f, _ => ("setting", .str f.str)
  | none, some i => ("child", .int (i : Nat))
  | none, none => ("made", .non)
def dueD : Option Fd → Option Nat → PyData
  | some f, _ => .tuple [.str "setting", .str f.str]
  | none, some i => .tuple [.str "child", .int (i : Nat)]
  | none, none => .tuple [.str "made", .none]
def okDue (d : PyData) : Bool := d.showable && (decide (d.depth ≤ 60) && decide (d.shown.length ≤ 100))
theorem due_ok (f : Option Fd) {b : Option Nat} (h : ∀ i, b = some i → i < 13) : okDue (dueD f b) = true := by
  cases f with
  | some f =>
    have : ∀ f ∈ fds, okDue (.tuple [.str "setting", .str f.str]) = true := by decide +kernel
    exact this f (by cases f <;> decide)
  | none =>
    cases b with
    | none => exact (by decide +kernel : okDue (.tuple [.str "made", .none]) = true)
    | some i =>
      have : ∀ i < 13, okDue (.tuple [.str "child", .int ((i : Nat) : Int)]) = true := by decide +kernel
      exact this i (h i rfl)
theorem due_facts {f : Option Fd} {b : Option Nat} (h : ∀ i, b = some i → i < 13) : (dueD f b).showable = true ∧ (dueD f b).depth ≤ 60 ∧ (dueD f b).shown.length ≤ sizeLine := by
  have := due_ok f h
  unfold okDue at this
  rw [Bool.and_eq_true, Bool.and_eq_true, decide_eq_true_eq, decide_eq_true_eq] at this
  exact ⟨this.1, this.2.1, Nat.le_trans this.2.2 (by decide)⟩
theorem due_dq {K : PySem.W.Frag} {H : Hp} {p : Addr} {f : Option Fd} {b : Option Nat} (h : H p = some (.tup [.str (dueOf f b).1, (dueOf f b).2])) : Dq K H (.ref p) (dueD f b) := by
  cases f with
  | some f => exact .tup (.of h) (.cons (.str _) (.cons (.str _) .nil))
  | none =>
    cases b with
    | none => exact .tup (.of h) (.cons (.str _) (.cons .non .nil))
    | some i => exact .tup (.of h) (.cons (.str _) (.cons (.int _) .nil))
theorem bad_lt : ∀ (i c d : Nat) (ks : List Pv) (j : Nat), badChild i c d ks = some j → j < i + ks.length
  | _, _, _, [], _, h => nomatch h
  | i, c, d, k :: ks, j, h => by
    rw [badChild_cons] at h
    rw [List.length_cons]
    cases hk : kidOf k with
    | none => rw [hk] at h; cases h; omega
    | some nh =>
      obtain ⟨n, hh⟩ := nh
      rw [hk] at h
      dsimp only at h
      split at h
      · cases h; omega
      · split at h
        · cases h; omega
        · have := bad_lt _ _ _ _ _ h
          omega
/-- the first setting of the order that is wrong -/
def firstF (b : Bool) (ws : List Fd) : Option Fd := ((kF b).filter ws.contains).head?
theorem w_due {ws : List Fd} {ps : List Pv} (h : Tl ws (kF false) ps) : ∃ p1 p2 p3 p4 p5 p6 p7, ps = [p1, p2, p3, p4, p5, p6, p7] ∧ okScr p7 = true ∧ toldOf (wOut p1 p2 p3 p4 p5 p6 p7) = dueOf (firstF false ws) none := by
  have hl := h.len
  match ps, hl with
  | [p1, p2, p3, p4, p5, p6, p7], _ =>
    refine ⟨p1, p2, p3, p4, p5, p6, p7, rfl, h.2.2.2.2.2.2.1.2 rfl, ?_⟩
    have e : firstBad (wRows p1 p2 p3 p4 p5 p6 p7) = (firstF false ws).map Fd.str := first_of h
    unfold wOut
    rw [e]
    cases firstF false ws <;> rfl
theorem s_due {ws : List Fd} {ps ks : List Pv} (h : Tl ws (kF true) ps) : ∃ p1 p2 p3 p4 p5 p6, ps = [p1, p2, p3, p4, p5, p6] ∧ toldOf (sOut p1 p2 p3 p4 p5 p6 ks) = dueOf (firstF true ws) (badChild 0 1 1 ks) := by
  have hl := h.len
  match ps, hl with
  | [p1, p2, p3, p4, p5, p6], _ =>
    refine ⟨p1, p2, p3, p4, p5, p6, rfl, ?_⟩
    have e : firstBad (sRows p1 p2 p3 p4 p5 p6) = (firstF true ws).map Fd.str := first_of h
    unfold sOut
    rw [e]
    cases firstF true ws with
    | some f => rfl
    | none =>
      show toldOf ((badChild 0 1 1 ks).map _) = _
      cases badChild 0 1 1 ks with
      | none => rfl
      | some i => exact congrArg (fun z => (z, V.int (i : Nat))) (if_neg (by decide +kernel))
end W02

set_option Elab.async false
set_option linter.all false
set_option maxRecDepth 100000
set_option maxHeartbeats 1000000
namespace W02
open PySem PySem.Spec PyProof.Rows L2 WXG WEv WRd WLf WEn WZs WRu WSt StX WDc WPv WEb WXO WXE WKd WGp
/-! ### parts of the law's turn -/
def Far (K : PySem.W.Frag) (l : Addr) (S : Addr × List Int) : Prop := ∀ (H : Hp) (x : HO), SqL K H S.1 (S.2.map V.int) → SqL K (upd H l x) S.1 (S.2.map V.int)
section
variable {K : PySem.W.Frag} {S : Addr × List Int} {m : Addr} {σ : L2.St} {H : Hp} {D : Ends} {E : XK} {a c : Nat}
theorem SrcAt.far {l : Addr} (h : SrcAt K S H m a c) (hl : H l = none) : Far K l S := by
  obtain ⟨s, cs, k, z, hm, hs, h1, h2, h3, rfl⟩ := h
  intro H' x q
  rcases hs with hs | hs
  · have ne : s ≠ l := fun e => by
      rcases hs with q | ⟨o, q⟩ <;> (rw [e, hl] at q; cases q)
    rcases q with (q | ⟨o, q⟩) | q
    · exact .inl (.inl (by rw [upd_ne ne]; exact q))
    · exact .inl (.inr ⟨o, by rw [upd_ne ne]; exact q⟩)
    · exact .inr q
  · exact .inr hs
theorem SrcAt.put {l : Addr} {x : HO} (h : SrcAt K S H m a c) (hn : Far K l S) (ne : l ≠ m) : SrcAt K S (upd H l x) m a c := by
  obtain ⟨s, cs, k, z, hm, hs, h1, h2, h3, rfl⟩ := h
  exact ⟨s, cs, k, z, by rw [upd_ne (fun e => ne e.symm)]; exact hm, hn _ _ hs, h1, h2, h3, rfl⟩
theorem But.sm {H' : Hp} (s : Same H H') : But m H H' := fun b o e _ => s b o e
theorem SrcAt.nel {l : Addr} {xs : List V} (h : SrcAt K S H m a c) (hl : H l = some (.lst xs)) : l ≠ m := by
  obtain ⟨kvs, hm, _⟩ := h.dict
  exact fun z => by rw [z, hm] at hl; cases hl
/-- [e for _ in range(..)], drawn -/
theorem lcD {te : TE} {wi : TI} {v : Nat} {P : V → Prop} {Q : VK}
    (hw : ∀ R : It → Hp → Prop, (∀ (n : Nat) (H2 : Hp), n ≤ 3 → But m H H2 → SrcAt K S H2 m (a + 1) c → R (Itr 0 n) H2) → wi σ H R)
    (hb : a + 10 ≤ 90000)
    (h : ∀ x a' H1, But m H H1 → SrcAt K S H1 m a' c → a' ≤ 90000 → ∀ Q : VK, (∀ y H2, But m H1 H2 → SrcAt K S H2 m (a' + 1) c → P y → Q y H2) → te ((σ.set v none).set v (some x)) H1 Q)
    (k : ∀ l acc H1, H1 l = some (.lst acc) → (∀ y ∈ acc, P y) → But m H H1 → SrcAt K S H1 m (a + 4) c → Q (.ref l) H1) : tLc wi (gName v) tYes te [v] σ H Q := by
  refine hw _ fun n H2 hn b2 hS2 => ?_
  intro Dd hD
  show ∃ W, _
  have far : Far K Dd S := hS2.far hD
  have ne := hS2.ne hD
  refine lc_it (walk_range (lo := 0) (n := n)) (fun i H' => But m H2 H' ∧ SrcAt K S H' m (a + 1 + i) c ∧ ∃ acc, H' Dd = some (.lst acc) ∧ acc.length = i ∧ ∀ y ∈ acc, P y) ⟨But.refl.new hD, hS2.new hD, [], upd_same, rfl, by simp⟩ (fun _ H' _ p => trivial) (fun i x H3 H4 hi p y => ?_) (fun H3 p => ?_)
  · obtain ⟨b3, s3, acc, hd, la, pa⟩ := p
    obtain ⟨rfl, rfl⟩ := y
    refine ⟨(List.set_set ..).trans (List.set_set ..), ?_⟩
    refine h _ _ _ (b2.trans b3) s3 (by omega) _ fun y H5 b5 s5 py => ?_
    have hd5 := b5 _ _ hd ne
    refine ⟨acc, hd5, Nat.lt_of_le_of_lt (show acc.length ≤ 3 by omega) (by decide), fun b o e n => ?_, s5.put far ne, acc ++ [y], upd_same, by rw [List.length_append, la]; rfl, fun x hx => ?_⟩
    · rw [upd_ne (fun z => by rw [z, hD] at e; cases e)]
      exact b5 _ _ (b3 _ _ e n) n
    · rcases List.mem_append.mp hx with hx | hx
      · exact pa x hx
      · cases List.mem_singleton.mp hx
        exact py
  · obtain ⟨b3, s3, acc, hd, la, pa⟩ := p
    exact k Dd acc H3 hd pa (b2.trans b3) (s3.mono (by omega))
theorem fds_of {kd : Bool} : ∀ {acc : List V}, (∀ y ∈ acc, ∃ f ∈ kF kd, y = fV f) → ∃ ws : List Fd, acc = ws.map fV
  | [], _ => ⟨[], rfl⟩
  | y :: acc, h => by
    obtain ⟨ws, rfl⟩ := fds_of (acc := acc) fun y hy => h y (List.mem_cons_of_mem _ hy)
    obtain ⟨f, _, rfl⟩ := h y List.mem_cons_self
    exact ⟨f :: ws, rfl⟩
theorem kF_pick {kd : Bool} {v : V} (h : v ∈ (kF kd).map fV) : ∃ f ∈ kF kd, v = fV f := by
  obtain ⟨f, hf, e⟩ := List.mem_map.mp h
  exact ⟨f, hf, e.symm⟩
theorem kF_list (kd : Bool) : (kF kd).map fV ≠ [] ∧ ((kF kd).map fV).length ≤ 1000 := by cases kd <;> exact ⟨(fun z => nomatch z), by decide⟩
/-- what the loop over the order keeps -/
structure LI (K : PySem.W.Frag) (S : Addr × List Int) (m lo lw pv : Addr) (kd : Bool) (ws : List Fd) (a c i : Nat) (H : Hp) : Prop where
  src : SrcAt K S H m a c
  far : Far K pv S
  ne : pv ≠ m
  lo : H lo = some (.lst ((kF kd).map fV))
  lw : H lw = some (.lst (ws.map fV))
  v : ∃ ps xs, H pv = some (.dK (kvsOf ((kF kd).take i) xs)) ∧ AtL K (fun b => b ≠ m ∧ b ≠ pv) ps xs H ∧ Tl ws ((kF kd).take i) ps
variable {lo lw pv : Addr} {kd : Bool} {ws : List Fd} {i : Nat}
theorem LI.move {H' : Hp} {a' : Nat} (l : LI K S m lo lw pv kd ws a c i H) (b : But m H H') (s : SrcAt K S H' m a' c) : LI K S m lo lw pv kd ws a' c i H' := by
  obtain ⟨ps, xs, h1, h2, h3⟩ := l.v
  exact ⟨s, l.far, l.ne, b _ _ l.lo (l.src.nel l.lo), b _ _ l.lw (l.src.nel l.lw), ps, xs, b _ _ h1 l.ne, atl_kn (kn_butm l.src (fun z => z.1 rfl) b) _ h2, h3⟩
theorem odd_len (f : Fd) : 0 < (oddPs f).length ∧ (oddPs f).length ≤ 1000 := by cases f <;> exact ⟨by decide +kernel, by decide +kernel⟩
theorem all_mem {α : Type} {f : α → Bool} {l : List α} {x : α} (h : l.all f = true) (hx : x ∈ l) : f x = true := List.all_eq_true.mp h x hx
/-- one value, drawn -/
theorem val_ok {f : Fd} {Q : VK} (l : LI K S m lo lw pv kd ws a c i H) (ha : a ≤ 90000) (h1 : σ[1]? = some (some (.ref m))) (h5 : σ[5]? = some (some (.ref lw))) (h8 : σ[8]? = some (some (.str f.str)))
    (k : ∀ p v H', One ws f p → At K (fun b => b ≠ m ∧ b ≠ pv) p v H' → But m H H' → SrcAt K S H' m (a + 1) c → Q v H') :
    tIf (tTest (tOp (rIn K false) (tVar 8) (tVar 5))) (tCall (spOf K S) [] E (tCons (tVar 1) (tCons (tCall (spOdd K) [] E (tCons (tVar 8) tNil)) tNil))) (tCall (spGood K S) [] E (tCons (tVar 1) (tCons (tVar 8) tNil))) σ H Q := by
  refine ⟨_, h8, _, h5, lw, ws.map fV, rfl, .inl (.of l.lw), rfl, flat_fV ws, _, rfl, ?_⟩
  rw [in_fds]
  show if ws.contains f = true then _ else _
  cases hc : ws.contains f with
  | true =>
    rw [if_pos rfl]
    refine ⟨_, h1, _, h8, f, rfl, fun l0 H1 s1 ⟨xs, hl, hx⟩ => ?_⟩
    have xl := hx.len
    have ol := odd_len f
    have hS1 := l.src.same s1
    obtain ⟨ps, vs, hp, _⟩ := l.v
    refine ⟨m, l0, xs, a, c, rfl, hl, (fun z => by rw [z] at xl; simp at xl; omega), by omega, hS1, by omega, hS1.nel hl, fun v H' hv b s' => ?_⟩
    obtain ⟨j, hj, rfl⟩ := List.getElem_of_mem hv
    obtain ⟨p, hpj, px⟩ := hx.get2 (List.getElem?_eq_getElem hj)
    have hm := List.mem_of_getElem? hpj
    obtain ⟨kv, hmm, _⟩ := l.src.dict
    have px2 := at_kn (kn_butm hS1 (fun z => by rw [hmm] at z; cases z) b) _ px
    refine k p _ H' ⟨?_, fun e => ?_⟩ (at_imp (fun t z => ⟨(fun e => by rw [e, hmm] at z; cases z), (fun e => by rw [e, hp] at z; cases z)⟩) _ px2) ((But.sm s1).trans b) s'
    · have := all_mem (odd_bad f) hm
      rw [hc]
      simpa using this
    · subst e
      exact all_mem odd_scr hm
  | false =>
    rw [if_neg Bool.false_ne_true]
    refine ⟨_, h1, _, h8, f, m, a, c, rfl, l.src, by omega, fun p v H' hp hat b s' => ?_⟩
    refine k p v H' ⟨?_, fun e => ?_⟩ (at_imp (fun t z => z.elim) _ hat) b s'
    · have := all_mem (good_ok f) hp
      rw [hc]
      exact this
    · subst e
      exact all_mem good_scr hp
theorem field_step {f : Fd} (l : LI K S m lo lw pv kd ws a c i H) (hf : (kF kd)[i]? = some f) (ha : a ≤ 90000) (h1 : σ[1]? = some (some (.ref m))) (h5 : σ[5]? = some (some (.ref lw))) (h7 : σ[7]? = some (some (.ref pv))) (h8 : σ[8]? = some (some (.str f.str)))
    (k : ∀ H', LI K S m lo lw pv kd ws (a + 1) c (i + 1) H' → D.nx σ H') :
    sDPut (tVar 7) (tVar 8) (tIf (tTest (tOp (rIn K false) (tVar 8) (tVar 5))) (tCall (spOf K S) [] E (tCons (tVar 1) (tCons (tCall (spOdd K) [] E (tCons (tVar 8) tNil)) tNil))) (tCall (spGood K S) [] E (tCons (tVar 1) (tCons (tVar 8) tNil)))) D σ H := by
  refine val_ok l ha h1 h5 h8 fun p v H' ho hp b s' => ?_
  have l' := l.move b s'
  obtain ⟨ps, xs, e1, e2, e3⟩ := l'.v
  obtain ⟨t1, t2, t3⟩ := take_next hf
  have hx := e2.len.trans e3.len
  have hk : (kvsOf ((kF kd).take i) xs).length < sizeLine := Nat.lt_of_le_of_lt (Nat.le_trans kvs_len (Nat.le_trans (by rw [List.length_take]; exact Nat.min_le_right _ _) (kF_len kd).1)) (by decide)
  refine ⟨_, h7, _, h8, pv, _, rfl, DPut.k (k := Sum.inr f.str) e1 hk, k _ ?_⟩
  rw [put_new t2 hx]
  have kn : Kn (fun b => b ≠ m ∧ b ≠ pv) H' (upd H' pv (.dK (kvsOf ((kF kd).take i ++ [f]) (xs ++ [v])))) := Kn.dK e1 fun z => z.2 rfl
  have nl : ∀ {l : Addr} {ys : List V}, H' l = some (.lst ys) → l ≠ pv := fun {l ys} h z => by rw [z, e1] at h; cases h
  refine ⟨s'.put l.far l.ne, l.far, l.ne, by rw [upd_ne (nl l'.lo)]; exact l'.lo, by rw [upd_ne (nl l'.lw)]; exact l'.lw, ps ++ [p], xs ++ [v], by rw [upd_same, t1], (atl_kn kn _ e2).app (AtL.one (at_kn kn _ hp)), by rw [t1]; exact Tl.app ho e3⟩
/-- the children, and the data of the plan -/
theorem kids_ok {Q : VK} (l : LI K S m lo lw pv kd ws a c i H) (ha : a + 60 ≤ 90000) (h1 : σ[1]? = some (some (.ref m))) (h3 : σ[3]? = some (some (.str (kS kd))))
    (k : ∀ p lc ks ys a' H', LI K S m lo lw pv kd ws a' c i H' → a' ≤ a + 40 → H' p = some (.tup [.ref lc, wrV (badChild 0 1 1 ks)]) → H' lc = some (.lst ys) → (∃ M, AtL K M ks ys H') → ks.length ≤ 13 → (kd = false → ks = []) → Q (.ref p) H') :
    tCall (spChildren K S) [] E (tCons (tVar 1) (tCons (tIf (tTest (tOp rEq (tVar 3) (tC (.str "s")))) (tCall (spOf K S) [] E (tCons (tVar 1) (tCons (tLst (tCons (tC (.int 0)) (tCons (tC (.int 1)) (tCons (tC (.int 2)) (tCons (tC (.int 3)) (tCons (tC (.int 12)) (tCons (tC (.int 13)) tNil))))))) tNil))) (tC (.int 0))) tNil)) σ H Q := by
  refine ⟨_, h1, ?_⟩
  have fin : ∀ {n a2 : Nat} {H1 : Hp}, n ≤ 13 → But m H H1 → SrcAt K S H1 m a2 c → a2 ≤ a + 1 → (kd = false → n = 0) → spChildren K S ([.ref m, .int ((n : Nat) : Int)] ++ []) H1 Q E := fun {n a2 H1} hn b1 s1 h2 h0 =>
    ⟨m, n, a2, c, rfl, hn, s1, by omega, fun p lc ks ys a' H' b' s' ha' hp hl hk hkl => k p lc ks ys a' H' ((l.move b1 s1).move b' s') (by omega) hp hl ⟨_, hk⟩ (by omega) fun e => List.length_eq_zero_iff.mp (by rw [hkl, h0 e])⟩
  cases kd with
  | false =>
    refine (evb_eqF (b := false) (ev_var h3) ev_c rfl (by decide +kernel)) _ ?_
    rw [if_neg Bool.false_ne_true]
    exact fin (n := 0) (by decide) But.refl l.src (by omega) fun _ => rfl
  | true =>
    refine (evb_eqF (b := true) (ev_var h3) ev_c rfl (by decide +kernel)) _ ?_
    rw [if_pos rfl]
    refine of_l (N := fun _ => False) (ps := [.int 0, .int 1, .int 2, .int 3, .int 12, .int 13]) h1 (gl_cons g_int (gl_cons g_int (gl_cons g_int (gl_cons g_int (gl_cons g_int (gl_cons g_int gl_nil)))))) (fun z => nomatch z) (by decide) l.src (by omega) (fun z => z) fun q u H8 hq hu b8 s8 => ?_
    obtain ⟨n, rfl, hn⟩ : ∃ n : Nat, u = .int ((n : Nat) : Int) ∧ n ≤ 13 := by
      simp only [List.mem_cons, List.not_mem_nil, or_false] at hq
      rcases hq with rfl | rfl | rfl | rfl | rfl | rfl
      · exact ⟨0, hu, by decide⟩
      · exact ⟨1, hu, by decide⟩
      · exact ⟨2, hu, by decide⟩
      · exact ⟨3, hu, by decide⟩
      · exact ⟨12, hu, by decide⟩
      · exact ⟨13, hu, by decide⟩
    exact fin hn b8 s8 (Nat.le_refl _) (fun z => nomatch z)
theorem data_of {lc : Addr} {ks : List Pv} {ys : List V} (l : LI K S m lo lw pv kd ws a c i H) (hi : (kF kd).length ≤ i) (hl : H lc = some (.lst ys)) (hk : ∃ M, AtL K M ks ys H) (hz : ks.length ≤ 13) (h0 : kd = false → ks = []) :
    ∃ out, Data K out [.str (kS kd), .ref pv, .ref lc] H ∧ toldOf out = dueOf (firstF kd ws) (badChild 0 1 1 ks) := by
  obtain ⟨ps, xs, e1, e2, e3⟩ := l.v
  rw [List.take_of_length_le hi] at e1 e3
  obtain ⟨M, hk⟩ := hk
  have xl := e2.len
  cases kd with
  | false =>
    obtain ⟨p1, p2, p3, p4, p5, p6, p7, rfl, hs, hd⟩ := w_due e3
    match xs, xl with
    | [v1, v2, v3, v4, v5, v6, v7], _ =>
      rw [h0 rfl]
      exact ⟨_, .inl ⟨_, p1, p2, p3, p4, p5, p6, p7, v1, v2, v3, v4, v5, v6, v7, _, pv, rfl, e1, e2, hs, rfl⟩, hd⟩
  | true =>
    obtain ⟨p1, p2, p3, p4, p5, p6, rfl, hd⟩ := s_due (ks := ks) e3
    match xs, xl with
    | [v1, v2, v3, v4, v5, v6], _ =>
      exact ⟨_, .inr ⟨_, M, p1, p2, p3, p4, p5, p6, v1, v2, v3, v4, v5, v6, ks, ys, pv, lc, rfl, e1, e2, hl, hk, hz, rfl⟩, hd⟩
theorem st_due {b : Option Nat} (h10 : σ[10]? = some (some (wrV b))) (k : ∀ p H1, Same H H1 → H1 p = some (.tup [.str (dueOf none b).1, (dueOf none b).2]) → D.nx (σ.set 11 (some (.ref p))) H1) :
    tAsg (tIf (tTest (tOp (fun x y H Q => y = V.non ∧ Q (V.bl (!decide (x = V.non))) H) (tVar 10) (tC .non))) (tTup (tCons (tC (.str "child")) (tCons (tVar 10) tNil))) (tTup (tCons (tC (.str "made")) (tCons (tC .non) tNil)))) (gName 11) D σ H := by
  cases b with
  | none =>
    refine ⟨_, h10, rfl, false, rfl, ?_⟩
    dsimp only
    rw [if_neg Bool.false_ne_true]
    exact ⟨(by decide : 2 ≤ sizeLine), fun p hp => k p _ (same_new hp) upd_same⟩
  | some j =>
    refine ⟨_, h10, rfl, true, rfl, ?_⟩
    dsimp only
    rw [if_pos rfl]
    exact ⟨_, h10, (by decide : 2 ≤ sizeLine), fun p hp => k p _ (same_new hp) upd_same⟩
/-- a list of given items -/
def LX (xs : List V) : HP V := fun v H => ∃ l, v = .ref l ∧ H l = some (.lst xs)
theorem mn_lx {xs : List V} : Mn (LX xs) := fun _ _ _ s ⟨l, e, h⟩ => ⟨l, e, s _ _ h⟩
theorem g_first {fs : List Fd} (h4 : σ[4]? = some (some (.ref lo))) (h5 : ∀ x : V, ((σ.set 8 none).set 8 (some x))[5]? = some (some (.ref lw))) (h8 : ∀ x : V, ((σ.set 8 none).set 8 (some x))[8]? = some (some x)) (hlo : H lo = some (.lst (fs.map fV))) (hlw : H lw = some (.lst (ws.map fV))) (hz : fs.length ≤ 7) :
    G (tLc (iList K (tVar 4)) (gName 8) (tTest (tOp (rIn K false) (tVar 8) (tVar 5))) (tVar 8) [8]) σ H (LX ((fs.filter ws.contains).map fV)) := by
  refine ⟨fun H1 e Q q => ⟨_, h4, lo, rfl, ⟨_, .of (e _ _ hlo)⟩, ?_⟩, mn_lx⟩
  intro Dd hD
  show ∃ W, _
  refine lc_it (walk_list (xs := fs.map fV)) (fun i H' => Same H1 H' ∧ H' Dd = some (.lst (((fs.take i).filter ws.contains).map fV))) ⟨same_new hD, upd_same⟩ (fun _ H' _ p => .of (p.1 _ _ (e _ _ hlo))) (fun i x H2 H3 hi p y => ?_) (fun H2 p => ?_)
  · obtain ⟨s2, hd⟩ := p
    obtain ⟨rfl, hx⟩ := y
    rw [List.length_map] at hi
    refine ⟨(List.set_set ..).trans (List.set_set ..), ?_⟩
    obtain ⟨f, hf⟩ : ∃ f, fs[i]? = some f := ⟨_, List.getElem?_eq_getElem hi⟩
    obtain rfl : x = fV f := by
      rw [List.getElem?_map, hf] at hx
      exact (Option.some.inj hx).symm
    have e8 := h8 (fV f)
    refine ⟨_, e8, _, h5 _, lw, ws.map fV, rfl, .inl (.of (s2 _ _ (e _ _ hlw))), rfl, flat_fV ws, _, rfl, ?_⟩
    show if inV (.str f.str) (ws.map fV) = true then _ else _
    rw [in_fds]
    have et : (fs.take (i + 1)).filter ws.contains = (fs.take i).filter ws.contains ++ [f].filter ws.contains := by rw [List.take_succ, hf, List.filter_append]; rfl
    cases hc : ws.contains f with
    | true =>
      rw [if_pos rfl]
      refine ⟨_, e8, _, hd, Nat.lt_of_le_of_lt ?_ (show 7 < sizeLine by decide), same_put s2 hD, ?_⟩
      · rw [List.length_map]
        refine Nat.le_trans (List.length_filter_le _ _) (Nat.le_trans ?_ hz)
        rw [List.length_take]
        exact Nat.min_le_right _ _
      · rw [upd_same, et, List.filter_cons, hc, List.map_append]
        rfl
    | false =>
      rw [if_neg Bool.false_ne_true]
      refine ⟨s2, ?_⟩
      rw [hd, et, List.filter_cons, hc]
      simp
  · have h2 := p.2
    rw [List.length_map, List.take_length] at h2
    exact q _ _ p.1 ⟨Dd, rfl, h2⟩
/-- if first != []: due = .. -/
theorem st_first {b : Option Nat} {p l : Addr} (h11 : σ[11]? = some (some (.ref p))) (h12 : σ[12]? = some (some (.ref l))) (hl : H l = some (.lst (((kF kd).filter ws.contains).map fV))) (hp : H p = some (.tup [.str (dueOf none b).1, (dueOf none b).2]))
    (hs : σ.set 11 (some (.ref p)) = σ)
    (k : ∀ q H1, Same H H1 → H1 q = some (.tup [.str (dueOf (firstF kd ws) b).1, (dueOf (firstF kd ws) b).2]) → D.nx (σ.set 11 (some (.ref q))) H1) :
    tIfS (tTest (tOp (rNeN K) (tVar 12) (tLst tNil))) (tAsg (tTup (tCons (tC (.str "setting")) (tCons (tOp (rIxL K) (tVar 12) (tC (.int 0))) tNil))) (gName 11)) tNext D σ H := by
  refine st_ne0 (b := decide (((kF kd).filter ws.contains).map fV = [])) (g_varP h12 ⟨l, _, rfl, hl, rfl⟩ mn_lb) fun H1 s1 => ?_
  unfold firstF at k
  cases hf : (kF kd).filter ws.contains with
  | nil =>
    rw [hf] at k
    rw [if_pos (by rfl)]
    have := k p H1 s1 (s1 _ _ hp)
    rw [hs] at this
    exact this
  | cons f fs =>
    rw [hf] at k hl
    rw [if_neg (by intro z; exact nomatch (of_decide_eq_true z))]
    refine ⟨_, h12, l, _, 0, fV f, rfl, rfl, .of (s1 _ _ hl), atI_nat (j := 0) rfl, (by decide : 2 ≤ sizeLine), fun q hq => ?_⟩
    exact k q _ (s1.trans (same_new hq)) upd_same
/-- the end of a turn -/
theorem st_end {p lc : Addr} {out : Option (Str × V)} {b : Option Nat} {n : Int} {t : TS} (l : LI K S m lo lw pv kd ws a c i H) (ha : a ≤ 90000) (h1 : σ[1]? = some (some (.ref m))) (h2 : σ[2]? = some (some (.int n))) (h3 : σ[3]? = some (some (.str (kS kd)))) (h4 : σ[4]? = some (some (.ref lo))) (h7 : σ[7]? = some (some (.ref pv))) (h9 : σ[9]? = some (some (.ref lc))) (h11 : σ[11]? = some (some (.ref p)))
    (hD : Data K out [.str (kS kd), .ref pv, .ref lc] H) (ho : toldOf out = dueOf (firstF kd ws) b) (hb : ∀ i, b = some i → i < 13) (hp : H p = some (.tup [.str (dueOf (firstF kd ws) b).1, (dueOf (firstF kd ws) b).2]))
    (k : ∀ H1, SrcAt K S H1 m (a + 1) c → D.nx σ H1) :
    tIfS (tOr (tTest (tOp rNe (tCB (rRepr K) (tCons (tCall (spTold K) [] E (tCons (tVar 3) (tCons (tVar 7) (tCons (tVar 9) tNil)))) tNil)) (tCB (rRepr K) (tCons (tVar 11) tNil)))) (tNot (tB (tCall (spFields K) [] E (tCons (tCall (spOf K S) [] E (tCons (tVar 1) (tCons (tVar 4) tNil))) (tCons (tVar 2) tNil)))))) t tNext D σ H := by
  obtain ⟨d1, d2, d3⟩ := due_facts (f := firstF kd ws) hb
  refine ⟨_, h3, _, h7, _, h9, out, hD, fun q H1 s1 hq => ?_⟩
  rw [ho] at hq
  refine ⟨q, dueD (firstF kd ws) b, rfl, due_dq hq, d1, d2, d3, _, h11, p, dueD (firstF kd ws) b, rfl, due_dq (s1 _ _ hp), d1, d2, d3, rfl, false, by simp, ?_⟩
  have l1 := l.move (But.sm s1) (l.src.same s1)
  have kl := kF_list kd
  refine ⟨_, h1, _, h4, m, lo, _, a, c, rfl, l1.lo, kl.1, kl.2, l1.src, by omega, l1.src.nel l1.lo, fun v H2 hv b2 s2 => ?_⟩
  obtain ⟨f, hf, rfl⟩ := kF_pick hv
  refine ⟨_, h2, f.str, n, rfl, ?_, fun H3 s3 => ?_⟩
  · have : ∀ f ∈ fds, SeqAt.shaped (.list [.str f.str, .str f.str]) = true := by decide +kernel
    exact this f (by cases f <;> decide)
  · exact ⟨true, rfl, k H3 (s2.same s3)⟩
end
end W02

set_option Elab.async false
set_option linter.all false
set_option maxRecDepth 100000
set_option maxHeartbeats 4000000
namespace W02
open PySem PySem.Spec PyProof.Rows L2 WXG WEv WRd WLf WEn WZs WRu WSt StX WDc WPv WEb WXO WXE WKd WGp
theorem op_inK {X : Cx} {K : PySem.W.Frag} (h : X.K = K := by rfl) : OpR X (compareOp .In) (rIn K false) := h ▸ op_in_seq
theorem st_tSeq {A B : TS} {D : Ends} {σ : L2.St} {H : Hp} (h : A { D with nx := B D } σ H) : tSeq A B D σ H := h
theorem st_anyS {t : TS} {D : Ends} {σ : L2.St} {H : Hp} (R : L2.St → Hp → Prop) (h : ∀ D' : Ends, (∀ σ' H', R σ' H' → D'.nx σ' H') → t D' σ H) (k : ∀ σ' H', R σ' H' → D.nx σ' H') : t D σ H := h D k
def spLaw (K : PySem.W.Frag) : Sp := fun vs H Q _ => ∃ (a : Addr) (ns : List Int), vs = [.ref a] ∧ SqL K H a (ns.map V.int) ∧ ns.length ≤ 63 ∧ ∀ H', Q (.bl true) H'
section
variable {P : Program} {w : World} {K : PySem.W.Frag} {mg : Str → Option Value} {base : Heap}
theorem ok_law (T : Env K mg) : FnG P w K mg base CX0 17 (d_law.loc K) T.fd_law ["cells"] (spLaw K) := by
  refine FnG.of T.F_law sc_law (fun vs H Q E h => ?_) (fun cdv A outer s H vs Q E hr hgd h => ?_)
  · obtain ⟨a, ns, rfl, _⟩ := h
    rfl
  · have nd := sc_law.nd
    have hu := hu_of hr
    obtain ⟨a, ns, rfl, hS, hl, k⟩ := h
    have G_L_begun : FnOk P w K mg base CX0 1 _ _ _ _ := ok_begun (S := (a, ns)) T
    have G_L_next : FnOk P w K mg base CX0 1 _ _ _ _ := ok_next (S := (a, ns)) T
    have G_L_of : FnOk P w K mg base CX0 2 _ _ _ _ := ok_of (S := (a, ns)) T
    have G_L_odd : FnOk P w K mg base CX0 12 _ _ _ _ := ok_odd T
    have G_L_good : FnOk P w K mg base CX0 3 _ _ _ _ := ok_good (S := (a, ns)) T
    have G_L_children : FnOk P w K mg base CX0 15 _ _ _ _ := ok_children (S := (a, ns)) T
    have G_L_told : FnOk P w K mg base CX0 15 _ _ _ _ := ok_told T
    have G_L_fields_right : FnOk P w K mg base CX0 3 _ _ _ _ := ok_fields T
    refine ⟨_, PSs.nox (pss_cons (ps_set (i := 1) nd rfl (Or.inr rfl) (pe_call G_L_begun (hr.mono (by decide)) (by rfl) T.g__law_begun T.F_L_begun.kp T.bi_L_begun .nil pass0 (pa_cons (pv 0) pa_nil)))
 (pss_cons (ps_for PassesOwn.never rfl (pi_range1 (by rfl) T.b_range (pa_cons (pe_op op_add pe_int (pe_callB (call_min2 rfl) (by rfl) T.b_min (by decide +kernel) (pa_cons pe_int (pa_cons (pe_callB call_len_seq (by rfl) T.b_len (by decide +kernel) (pa_cons (pv 0) pa_nil)) pa_nil)))) pa_nil)) (pg_name (i := 2) nd rfl (Or.inl rfl))
  (pss_cons (ps_set (i := 3) nd rfl (Or.inl rfl) (pe_call G_L_of (hr.mono (by decide)) (by rfl) T.g__law_of T.F_L_of.kp T.bi_L_of .nil pass0 (pa_cons (pv 1) (pa_cons (pe_lst (pa_cons pe_str (pa_cons pe_str pa_nil))) pa_nil))))
 (pss_cons (ps_set (i := 4) nd rfl (Or.inr rfl) (pe_lst (pa_cons pe_str (pa_cons pe_str (pa_cons pe_str (pa_cons pe_str (pa_cons pe_str (pa_cons pe_str (pa_cons pe_str pa_nil)))))))))
 (pss_cons (ps_if (pt_cmpR op_eq (pv 3) pe_str (nomark _))
  (pss_one (ps_set (i := 4) nd rfl (Or.inr rfl) (pe_lst (pa_cons pe_str (pa_cons pe_str (pa_cons pe_str (pa_cons pe_str (pa_cons pe_str (pa_cons pe_str pa_nil)))))))))
  pss_nil)
 (pss_cons (ps_set (i := 5) nd rfl (Or.inr rfl) (pe_lc (own := [("k", 6)]) (by rfl) nd (pi_range1 (by rfl) T.b_range (pa_cons (pe_call G_L_next (hr.mono (by decide)) (by rfl) T.g__law_next T.F_L_next.kp T.bi_L_next .nil pass0 (pa_cons (pv 1) (pa_cons pe_int pa_nil))) pa_nil)) (blkOk_by (N := ["cells", "m", "turn", "kind", "order", "wrong", "k", "v", "field", "c", "bad", "due", "first"]) (sc := defScope s_law) (by decide +kernel)) (fun _ _ _ _ _ => (pg_name (i := 6) nd rfl (Or.inl rfl))) (fun _ _ _ _ _ => pts_nil) (fun _ _ _ _ _ => (pe_call G_L_of (hr.mono (by decide)) (by rfl) T.g__law_of T.F_L_of.kp T.bi_L_of .nil pass0 (pa_cons (pv 1) (pa_cons (pv 4) pa_nil))))))
 (pss_cons (ps_set (i := 7) nd rfl (Or.inl rfl) pe_dnewK)
 (pss_cons (ps_for PassesOwn.never rfl (pi_list (pv 4)) (pg_name (i := 8) nd rfl (Or.inl rfl))
  (pss_one (ps_dput hu (pv 7) (pv 8) (pe_ifExp (pt_cmpR (op_inK (K := K)) (pv 8) (pv 5) (by rfl)) (pe_call G_L_of (hr.mono (by decide)) (by rfl) T.g__law_of T.F_L_of.kp T.bi_L_of .nil pass0 (pa_cons (pv 1) (pa_cons (pe_call G_L_odd (hr.mono (by decide)) (by rfl) T.g__law_odd T.F_L_odd.kp T.bi_L_odd .nil pass0 (pa_cons (pv 8) pa_nil)) pa_nil))) (pe_call G_L_good (hr.mono (by decide)) (by rfl) T.g__law_good T.F_L_good.kp T.bi_L_good .nil pass0 (pa_cons (pv 1) (pa_cons (pv 8) pa_nil)))) rfl)))
 (pss_cons (ps_asg (pe_call G_L_children (hr.mono (by decide)) (by rfl) T.g__law_children T.F_L_children.kp T.bi_L_children .nil pass0 (pa_cons (pv 1) (pa_cons (pe_ifExp (pt_cmpR op_eq (pv 3) pe_str (nomark _)) (pe_call G_L_of (hr.mono (by decide)) (by rfl) T.g__law_of T.F_L_of.kp T.bi_L_of .nil pass0 (pa_cons (pv 1) (pa_cons (pe_lst (pa_cons pe_int (pa_cons pe_int (pa_cons pe_int (pa_cons pe_int (pa_cons pe_int (pa_cons pe_int pa_nil))))))) pa_nil))) pe_int) pa_nil))) (pg_tup rfl (pgs_cons (pg_name (i := 9) nd rfl (Or.inl rfl)) (pgs_cons (pg_name (i := 10) nd rfl (Or.inl rfl)) pgs_nil))))
 (pss_cons (ps_set (i := 11) nd rfl (Or.inl rfl) (pe_ifExp (pt_cmpR op_notN (pv 10) pe_non (nomark _)) (pe_tup (pa_cons pe_str (pa_cons (pv 10) pa_nil))) (pe_tup (pa_cons pe_str (pa_cons pe_non pa_nil)))))
 (pss_cons (ps_setLc (i := 12) (own := [("field", 8)]) (by rfl) nd rfl rfl (sw_true rfl rfl rfl (by decide +kernel)) (pi_list (pv 4)) (blkOk_by (N := ["cells", "m", "turn", "kind", "order", "wrong", "k", "v", "field", "c", "bad", "due", "first"]) (sc := defScope s_law) (by decide +kernel)) (fun _ _ _ _ _ => (pg_name (i := 8) nd rfl (Or.inl rfl))) (fun _ _ _ _ _ => (pts_one (pt_cmpR (op_inK (K := K)) (pv 8) (pv 5) (by rfl)))) (fun _ _ _ _ _ => (pv 8)))
 (pss_cons (ps_if (pt_cmpR (op_neN hr.units) (pv 12) (pe_lst pa_nil) (nomark _))
  (pss_one (ps_set (i := 11) nd rfl (Or.inl rfl) (pe_tup (pa_cons pe_str (pa_cons (pe_ix (ixlK (K := K)) (pv 12) pe_int (fun _ _ => rfl)) pa_nil)))))
  pss_nil)
 (pss_one (ps_if (PW.pt (pw_or (pt_cmpR op_ne (pe_callB (call_reprQ T.sys hgd hr.units) (by rfl) T.b_repr (by decide +kernel) (pa_cons (pe_call G_L_told (hr.mono (by decide)) (by rfl) T.g__law_told T.F_L_told.kp T.bi_L_told .nil pass0 (pa_cons (pv 3) (pa_cons (pv 7) (pa_cons (pv 9) pa_nil)))) pa_nil)) (pe_callB (call_reprQ T.sys hgd hr.units) (by rfl) T.b_repr (by decide +kernel) (pa_cons (pv 11) pa_nil)) (nomark _)) (pw_or1 (pt_not (pt_val (pe_call G_L_fields_right (hr.mono (by decide)) (by rfl) T.g__law_fields_right T.F_L_fields_right.kp T.bi_L_fields_right .nil pass0 (pa_cons (pe_call G_L_of (hr.mono (by decide)) (by rfl) T.g__law_of T.F_L_of.kp T.bi_L_of .nil pass0 (pa_cons (pv 1) (pa_cons (pv 4) pa_nil))) (pa_cons (pv 2) pa_nil))))))))
  (pss_one (ps_ret pe_bl))
  pss_nil)))))))))))))
 (pss_one (ps_ret pe_bl)))), ?_⟩
    -- m = _law_begun(cells)
    refine st_tSeq ⟨_, rfl, rfl, hS, by show ns.length ≤ 1000; omega, fun m H1 hm0 s1 hsrc => ?_⟩
    dsimp only
    show tSeq _ _ _ _ _
    refine st_tSeq ?_
    have hlen : ((ns.map V.int).length : Int) = (ns.length : Int) := by rw [List.length_map]
    have hb7 : (8 : Int) + (if ((ns.map V.int).length : Int) < 8 then ((ns.map V.int).length : Int) else 8) ≤ 16 := by split <;> omega
    have hb0 : (0 : Int) ≤ 8 + (if ((ns.map V.int).length : Int) < 8 then ((ns.map V.int).length : Int) else 8) := by split <;> omega
    refine ⟨_, rfl, a, _, rfl, .inl (hS.ext s1), _, _, rfl, _, _, rfl, rfl, _, rfl, by omega, by omega, ?_⟩
    generalize (8 : Int) + (if ((ns.map V.int).length : Int) < 8 then ((ns.map V.int).length : Int) else 8) = many at hb7 hb0 ⊢
    refine for_range (fun i σ H' => ∃ x2 x3 x4 x5 x6 x7 x8 x9 x10 x11 x12 : Option V, σ = [some (.ref a), some (.ref m), x2, x3, x4, x5, x6, x7, x8, x9, x10, x11, x12] ∧ SrcAt K (a, ns) H' m (100 * i) 0)
      ⟨none, none, none, none, none, none, none, none, none, none, none, rfl, hsrc⟩ (fun i σ H2 hi ⟨x2, x3, x4, x5, x6, x7, x8, x9, x10, x11, x12, hσ, s2⟩ => ?_) (fun σ H2 _ => k H2)
    subst hσ
    have hi16 : i < 16 := by omega
    -- kind = ..
    refine st_tSeq (of_l (N := fun _ => False) (ps := [.str "w", .str "s"]) rfl (gl_cons (g_str (Nat.le_of_ble_eq_true rfl)) (gl_cons (g_str (Nat.le_of_ble_eq_true rfl)) gl_nil)) (fun z => nomatch z) (by decide) s2 (by omega) (fun z => z) fun q u H3 hq hu3 b3 s3 => ?_)
    obtain ⟨kd, rfl⟩ : ∃ kd, u = .str (kS kd) := by
      simp only [List.mem_cons, List.not_mem_nil, or_false] at hq
      rcases hq with rfl | rfl
      · exact ⟨false, hu3.1⟩
      · exact ⟨true, hu3.1⟩
    -- order = ..
    dsimp only
    show tSeq _ _ _ _ _
    refine st_tSeq (g_asg (P := LX ((kF false).map fV)) ⟨fun H4 e Q q => ⟨(by decide : 7 ≤ sizeLine), fun p hp => q _ _ (same_new hp) ⟨p, rfl, upd_same⟩⟩, mn_lx⟩ fun v4 H4 s4 p4 => ?_)
    dsimp only
    show tSeq _ _ _ _ _
    refine st_tSeq (st_anyS (fun σ' H' => ∃ lo : Addr, σ' = [some (.ref a), some (.ref m), some (.int (0 + (i : Nat))), some (.str (kS kd)), some (.ref lo), x5, x6, x7, x8, x9, x10, x11, x12] ∧ H' lo = some (.lst ((kF kd).map fV)) ∧ SrcAt K (a, ns) H' m (100 * i + 1) 0) (fun D' q' => ?_) (fun σ' H5 ⟨lo, hσ, hlo, s5⟩ => ?_))
    · obtain ⟨l4, rfl, h4⟩ := p4
      have s3' := s3.same s4
      cases kd with
      | false => exact st_nn (evb_str rfl (by decide +kernel)) (q' _ _ ⟨l4, rfl, h4, s3'⟩)
      | true =>
        refine st_ya (evb_str rfl (by decide +kernel)) ?_
        exact ⟨(by decide : 6 ≤ sizeLine), fun p hp => q' _ _ ⟨p, rfl, upd_same, s3'.new hp⟩⟩
    subst hσ
    clear b3 s3 s4 p4
    have kl := kF_list kd
    -- wrong = ..
    dsimp only
    show tSeq _ _ _ _ _
    refine st_tSeq (lcD (K := K) (S := (a, ns)) (m := m) (a := 100 * i + 1) (c := 0) (P := fun y => ∃ f ∈ kF kd, y = fV f) (fun R hR => ?_) (by omega) (fun x a' H6 b6 s6 ha' Q q => ?_) (fun lw acc H6 hlw hacc b6 s6 => ?_))
    · refine ⟨.ref m, rfl, m, 4, _, _, rfl, by decide, by decide, s5, by omega, fun r H6 r0 r1 b6 s6 => ?_⟩
      obtain ⟨rn, rfl⟩ := Int.eq_ofNat_of_zero_le r0
      exact ⟨_, rfl, by omega, by omega, hR rn H6 (by omega) b6 s6⟩
    · exact ⟨.ref m, rfl, .ref lo, rfl, m, lo, _, a', 0, rfl, b6 _ _ hlo (s5.nel hlo), kl.1, kl.2, s6, by omega, s5.nel hlo, fun v H7 hv b7 s7 => q v H7 b7 s7 (kF_pick hv)⟩
    obtain ⟨ws, rfl⟩ := fds_of hacc
    have hlo6 := b6 _ _ hlo (s5.nel hlo)
    clear hlo b6 s5
    -- v = {}
    dsimp only
    show tSeq _ _ _ _ _
    refine st_tSeq (fun pv hpv => ?_)
    have li0 : LI K (a, ns) m lo lw pv kd ws (100 * i + 5) 0 0 (upd H6 pv (.dK [])) :=
      ⟨(s6.new hpv).mono (by omega), s6.far hpv, s6.ne hpv, (same_new hpv) _ _ hlo6, (same_new hpv) _ _ hlw, [], [], upd_same, rfl, trivial⟩
    generalize upd H6 pv (.dK []) = H7 at li0
    clear hlw hlo6 s6 hpv
    -- for field in order: ..
    dsimp only
    show tSeq _ _ _ _ _
    refine st_tSeq ⟨.ref lo, rfl, lo, rfl, ⟨_, .of li0.lo⟩, ?_⟩
    refine for_it (walk_list (xs := (kF kd).map fV)) (fun j σ H' => ∃ y8 : Option V, σ = [some (.ref a), some (.ref m), some (.int (0 + (i : Nat))), some (.str (kS kd)), some (.ref lo), some (.ref lw), x6, some (.ref pv), y8, x9, x10, x11, x12] ∧ LI K (a, ns) m lo lw pv kd ws (100 * i + 5 + j) 0 j H')
      ⟨x8, rfl, li0⟩ (fun j σ H' _ ⟨_, _, p⟩ => .of p.lo) (fun j x σ H8 H9 hj ⟨y8, hσ, lj⟩ y => ?_) (fun σ H8 ⟨y8, hσ, lj⟩ => ?_)
    · subst hσ
      obtain ⟨rfl, hx⟩ := y
      rw [List.length_map] at hj
      obtain ⟨f, hf⟩ : ∃ f, (kF kd)[j]? = some f := ⟨_, List.getElem?_eq_getElem hj⟩
      obtain rfl : x = fV f := by
        rw [List.getElem?_map, hf] at hx
        exact (Option.some.inj hx).symm
      have := (kF_len kd).1
      dsimp only
      exact field_step (f := f) lj hf (by omega) rfl rfl rfl rfl fun H' l' => ⟨_, rfl, l'⟩
    subst hσ
    rw [List.length_map] at lj
    have kl7 := (kF_len kd).1
    clear li0
    -- c, bad = ..
    dsimp only
    show tSeq _ _ _ _ _
    refine st_tSeq (kids_ok lj (by omega) rfl rfl fun p lc ks ys a' H9 l9 ha' hp hlc hk hz h0 => ?_)
    refine ⟨p, _, rfl, .of hp, rfl, _, _, rfl, _, _, rfl, rfl, ?_⟩
    -- due = ..
    dsimp only
    show tSeq _ _ _ _ _
    refine st_tSeq (st_due (b := badChild 0 1 1 ks) rfl fun q H10 s10 hq => ?_)
    have l10 := l9.move (But.sm s10) (l9.src.same s10)
    -- first = ..
    dsimp only
    show tSeq _ _ _ _ _
    refine st_tSeq (g_asg (g_first (fs := kF kd) (ws := ws) (lo := lo) (lw := lw) rfl (fun _ => rfl) (fun _ => rfl) l10.lo l10.lw kl7) fun v12 H11 s11 p11 => ?_)
    obtain ⟨lf, rfl, hlf⟩ := p11
    -- if first != []: ..
    dsimp only
    show tSeq _ _ _ _ _
    refine st_tSeq (st_first (kd := kd) (ws := ws) (b := badChild 0 1 1 ks) (p := q) (l := lf) rfl rfl hlf (s11 _ _ hq) rfl fun q2 H12 s12 hq2 => ?_)
    have s912 := (s10.trans s11).trans s12
    have l12 := l9.move (But.sm s912) (l9.src.same s912)
    obtain ⟨out, hD, ho⟩ := data_of l12 (by omega) (s912 _ _ hlc) (hk.imp fun M h => mn_atl _ _ _ s912 h) hz h0
    -- if repr(..) != repr(due) or ..
    dsimp only
    refine st_end (b := badChild 0 1 1 ks) (n := 0 + (i : Nat)) l12 (by omega) rfl rfl rfl rfl rfl rfl rfl hD ho (fun j hj => ?_) hq2 fun H13 s13 => ?_
    · have := bad_lt _ _ _ _ _ hj
      have : ks.length ≤ 13 := hz
      omega
    · exact ⟨_, _, _, _, _, _, _, _, _, _, _, rfl, s13.mono (by omega)⟩
end
end W02

set_option Elab.async false
set_option linter.all false
set_option maxRecDepth 100000
set_option maxHeartbeats 0
namespace W02
open PySem PySem.Spec PyProof.Rows L2 WXG WEv WRd WLf
theorem facts {P : Program} {w : World} {K : PySem.W.Frag} {h : Heap} {mg : Str → Option Value} {f : Addr} (X : K.In h) (G : h.Ns mainGlobals mg) (hfa : mg ("law" : Str) = some (.ref f)) (c : WHe.SaysK chk fns K) :
    ∃ fd : FuncData, (∀ (s : Shared) (v : Value), BindsTo s fd ⟨[v], []⟩ [("cells", v)]) ∧ ∀ base : Heap, K.In base → base.Ns mainGlobals mg → FnG P w K mg base CX0 17 f fd ["cells"] (spLaw K) := by
  obtain ⟨T⟩ := env_of X G c
  have e := hfa.symm.trans T.g_law
  have ef : f = d_law.loc K := by
    injection e with e
    injection e
  subst ef
  have b := FunD.bindsA (ps := ["cells"]) T.F_law fun _ _ _ _ _ _ us hl => match us, hl with | [_], _ => rfl
  exact ⟨T.fd_law, fun s v => b s [v] rfl, fun base _ _ => ok_law T⟩
end W02
open PySem PySem.W PySem.Calls PyProof.Rows
theorem PySem.Challenge.cw_watchtree_k02_plans_refused_holds : PySem.Challenge.rw_watchtree_k02_plans_refused.Holds := by
  w_on; o_law
  refine HandSHeadRun.head_any (r := OpenLaw.row PySem.Challenge.rw_watchtree_k02_plans_refused) (q := view (OpenLaw.row PySem.Challenge.rw_watchtree_k02_plans_refused).prog [71]) (H := W02.hk) (ob := W02.ob) (M := 9000) (loose := W02.loose) (d := HandSHeadRun.topDef (OpenLaw.row PySem.Challenge.rw_watchtree_k02_plans_refused).prog 71) (kwd := []) W02.ob_eq
    (by kernel_rfl) (fun s => by kernel_rfl) W02.run (by kernel_rfl) (by kernel_rfl) (by kernel_rfl) (by rfl) (by first | assumption | decide +kernel) (by decide +kernel) ⟨rfl, rfl, rfl, rfl, rfl, by decide +kernel⟩ ?hw ?hc
  case hw => w_witness2
  case hc =>
    refine WXG.walk_G (l := PySem.Challenge.rw_watchtree_k02_plans_refused) (n := 63) (k := 17) (x := "cells") (CX := L2.CX0) rfl (by decide) (by kernel_rfl) ⟨rfl, by decide, by decide⟩ ?F (fun _ _ _ _ z => z)
    intro w mg fa h Y G hmg0
    obtain ⟨K, KX, c⟩ := Y
    have hmg : mg ("law" : PySem.Str) = some (.ref fa) := by
      have e : (HandSHeadRun.topDef (OpenLaw.row PySem.Challenge.rw_watchtree_k02_plans_refused).prog 71).name = ("law" : PySem.Str) := by kernel_rfl
      rw [← e]
      exact hmg0
    obtain ⟨fd, hb, hF⟩ := W02.facts (P := (PySem.Challenge.rw_watchtree_k02_plans_refused).prog) (w := w) KX G hmg c
    exact ⟨K, fd, W02.spLaw K, KX, hb, fun H a ns hl _ hS => ⟨a, ns, rfl, hS, hl, fun _ => rfl⟩, hF⟩
