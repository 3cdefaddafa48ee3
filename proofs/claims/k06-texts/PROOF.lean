import PyProof.Rows.All
import Wide.All
import OpenK.AllK
import Wide.FinOn
import HandS.Base
import HandS.Call
import HandS.Ends
import HandS.Words
import HandS.WordsExc
import HandS.Defaults
import HandS.Head0
import HandS.Head1
import HandS.Head2
import HandS.HeadEnd
import HandS.HeadHook1
import HandS.HeadHook2
import HandS.Property
import PyProof.ReprRoads
import HandS.List
import HandS.Exc
import HandS.OwnEq
import PySem.Challenge.RW_watchtree_k06_texts_written
import HandS.Dict
import HandS.Comp
import HandS.WordsList
import HandS.WordsDict
import KE.KStar
import HandS.DictComp
import HandS.MakeKwOnly
import HandS.Star
import HandS.Sort
import HandS.IsInst
import PyProof.NeKinds
import PyProof.StrOps2
import KE.GoesEnum
import KE.GoesEnumKw
import KE.KTurns
import HandS.Iter
import HandS.Walk
import PyProof.Rows.CallKw2
import KE.GoesZip
import KE.KExcInit
import KE.KExcIs
import HandS.ExcInit
import KE.KDictZip
import KE.KDictOf
import HandS.TryOnly
import HandS.Style
import HandS.Text
import HandS.StrMore
import HandS.Codes
import HandS.RaiseMore
import PyProof.Rows.StrCut
import HandS.TryMany
set_option Elab.async false
set_option linter.all false
set_option maxRecDepth 100000
set_option maxHeartbeats 0
/-! the head's facts by a Bool of one's own -/
namespace WHd
open PySem PySem.Spec PyProof.Rows L2
def obsW (chk : PySem.W.Frag → Bool) (fn : List He.DefD) (K : PySem.W.Frag) : He.AlD := (chk K && fn.all fun d => d.ok K, fn.map fun d => He.fnW K d.at_)
def SaysW (chk : PySem.W.Frag → Bool) (fn : List He.DefD) (K : PySem.W.Frag) : Prop := obsW chk fn K = He.valD fn
def obsWG (n : Nat) (chk : PySem.W.Frag → Bool) (fn : List He.DefD) (g : Addr → Option Obj) : He.AlD := obsW chk fn (He.frG g (sysModules :: cStatics :: He.asD g n))
def hookW (n : Nat) (chk : PySem.W.Frag → Bool) (fn : List He.DefD) : PySem.W.Hook where
  α := He.AlD
  obs := fun s => obsWG n chk fn s.heap.get?
  val := fun _ => He.valD fn
  says := fun _ h => ∃ K : PySem.W.Frag, K.In h ∧ SaysW chk fn K
  of := fun _ _ e => ⟨_, He.frG_in, e⟩
  keeps := fun _ _ _ ⟨K, hK, c⟩ k => ⟨K, PySem.W.Frag.In.keeps hK k, c⟩
theorem obsWG_eq {n : Nat} {chk : PySem.W.Frag → Bool} {fn : List He.DefD} {g : Addr → Option Obj} {s : Shared} (h : ∀ a, g a = s.heap.get? a) : obsWG n chk fn g = (hookW n chk fn).obs s := by
  have e : g = s.heap.get? := funext h
  rw [e] <;> rfl
section
variable {chk : PySem.W.Frag → Bool} {fn : List He.DefD} {K : PySem.W.Frag}
theorem SaysW.chk_ (c : SaysW chk fn K) : chk K = true :=
  (He.ba (show (chk K && fn.all fun d => d.ok K) = true from congrArg (fun z : He.AlD => z.1) c)).1
theorem SaysW.def_ (c : SaysW chk fn K) (i : Nat) {d : He.DefD} (h : fn[i]? = some d := by rfl) : ∃ fd, FunD K d.name d.qual d.params d.body d.scope (d.dvs K) (d.kws K) (He.fAd K d.at_) fd := by
  have c2 := (He.ba (show (chk K && fn.all fun d => d.ok K) = true from congrArg (fun z : He.AlD => z.1) c)).2
  have e : fn.map (fun d => He.fnW K d.at_) = fn.map He.DefD.val := congrArg (fun z : He.AlD => z.2) c
  have e2 : (fn.map fun d => He.fnW K d.at_)[i]? = (fn.map He.DefD.val)[i]? := by rw [e]
  rw [List.getElem?_map, List.getElem?_map, h] at e2
  exact He.DefD.funD (Option.some.inj e2) (List.all_eq_true.mp c2 d (List.mem_of_getElem? h))
end
end WHd

set_option Elab.async false
set_option linter.all false
set_option maxRecDepth 100000
set_option maxHeartbeats 0
/-! the head's facts, defs found by any path (getters too) -/
namespace WHe
open PySem PySem.Spec PyProof.Rows L2
structure DefP where
  loc : PySem.W.Frag → Addr
  name : Str
  qual : Str
  params : Arguments
  body : List Stmt
  scope : Scope
def DefP.val (d : DefP) : He.FnW := some (d.name, d.qual, d.params, .stmts d.body, d.scope, mainGlobals, [], builtinsNs)
def obsP (K : PySem.W.Frag) (a : Addr) : He.FnW := match K.lookup a with
  | some ⟨_, _, .func fd, _⟩ => some (fd.name, fd.qualname, fd.params, fd.body, fd.scope, fd.globals, fd.closure, fd.builtins)
  | _ => none
def DefP.ok (K : PySem.W.Frag) (d : DefP) : Bool := PySem.W.keepIn K (.ref (d.loc K)) && (match K.lookup (d.loc K) with
  | some ⟨_, _, .func fd, _⟩ => PySem.W.codeIn K fd.code d.qual && He.dflB K fd.defaults []
  | _ => false)
theorem DefP.funD {K : PySem.W.Frag} {d : DefP} (e : obsP K (d.loc K) = d.val) (c : d.ok K = true) : ∃ fd, FunD K d.name d.qual d.params d.body d.scope [] [] (d.loc K) fd := by
  obtain ⟨kp, c2⟩ := He.ba c
  unfold obsP at e
  generalize hl : K.lookup (d.loc K) = lo at c2 e
  match lo with
  | none => cases c2
  | some ⟨oc, od, dt, osl⟩ =>
    cases dt with
    | func fd =>
      cases fd
      rename_i n1 n2 n3 n4 n5 n6 n7 n8 n9 n10 n11 n12 n13 n14 n15
      simp only [DefP.val, Option.some.injEq, Prod.mk.injEq] at e
      obtain ⟨rfl, rfl, rfl, rfl, rfl, rfl, rfl, rfl⟩ := e
      obtain ⟨k1, k2⟩ := He.ba c2
      exact ⟨_, ⟨oc, od, n8, n9, n10, n11, n12, n13, n14, osl, rfl, hl, k1, He.dflB_ok k2, .inl rfl⟩, kp⟩
    | _ => cases c2
def obsK (chk : PySem.W.Frag → Bool) (fn : List DefP) (K : PySem.W.Frag) : He.AlD := (chk K && fn.all fun d => d.ok K, fn.map fun d => obsP K (d.loc K))
def valK (fn : List DefP) : He.AlD := (true, fn.map DefP.val)
def SaysK (chk : PySem.W.Frag → Bool) (fn : List DefP) (K : PySem.W.Frag) : Prop := obsK chk fn K = valK fn
def obsKG (n : Nat) (chk : PySem.W.Frag → Bool) (fn : List DefP) (g : Addr → Option Obj) : He.AlD := obsK chk fn (He.frG g (sysModules :: cStatics :: He.asD g n))
def hookK (n : Nat) (chk : PySem.W.Frag → Bool) (fn : List DefP) : PySem.W.Hook where
  α := He.AlD
  obs := fun s => obsKG n chk fn s.heap.get?
  val := fun _ => valK fn
  says := fun _ h => ∃ K : PySem.W.Frag, K.In h ∧ SaysK chk fn K
  of := fun _ _ e => ⟨_, He.frG_in, e⟩
  keeps := fun _ _ _ ⟨K, hK, c⟩ k => ⟨K, PySem.W.Frag.In.keeps hK k, c⟩
theorem obsKG_eq {n : Nat} {chk : PySem.W.Frag → Bool} {fn : List DefP} {g : Addr → Option Obj} {s : Shared} (h : ∀ a, g a = s.heap.get? a) : obsKG n chk fn g = (hookK n chk fn).obs s := by
  have e : g = s.heap.get? := funext h
  rw [e] <;> rfl
section
variable {chk : PySem.W.Frag → Bool} {fn : List DefP} {K : PySem.W.Frag}
theorem SaysK.chk_ (c : SaysK chk fn K) : chk K = true := (He.ba (show (chk K && fn.all fun d => d.ok K) = true from congrArg (fun z : He.AlD => z.1) c)).1
theorem SaysK.def_ (c : SaysK chk fn K) (i : Nat) {d : DefP} (h : fn[i]? = some d := by rfl) : ∃ fd, FunD K d.name d.qual d.params d.body d.scope [] [] (d.loc K) fd := by
  have c2 := (He.ba (show (chk K && fn.all fun d => d.ok K) = true from congrArg (fun z : He.AlD => z.1) c)).2
  have e : fn.map (fun d => obsP K (d.loc K)) = fn.map DefP.val := congrArg (fun z : He.AlD => z.2) c
  have e2 : (fn.map fun d => obsP K (d.loc K))[i]? = (fn.map DefP.val)[i]? := by rw [e]
  rw [List.getElem?_map, List.getElem?_map, h] at e2
  exact DefP.funD (Option.some.inj e2) (List.all_eq_true.mp c2 d (List.mem_of_getElem? h))
end
/-! ### classes of data -/
/-- the getter of a property -/
def pgAd (K : PySem.W.Frag) (C f : Str) : Addr := match PySem.W.recIn K (He.ma K (He.ga K C) f) "property" with
  | some (.ref g :: _) => g
  | _ => 0
def propB (K : PySem.W.Frag) (C f : Str) : Bool := decide (PySem.W.findIn K (.ref (He.ga K C)) f = some (some (.ref (He.ma K (He.ga K C) f)))) && (decide (PySem.W.specialIn K (.ref (He.ma K (He.ga K C) f)) "__get__" = some (some (.builtin "property.__get__"))) &&
  (decide (PySem.W.takesIn K (.ref (He.ma K (He.ga K C) f)) = some true) && (match PySem.W.recIn K (He.ma K (He.ga K C) f) "property" with
    | some (.ref _ :: _) => true
    | _ => false)))
theorem propB_ok {K : PySem.W.Frag} {C f : Str} (h : propB K C f = true) : PropOf K (He.ga K C) f (He.ma K (He.ga K C) f) (pgAd K C f) := by
  obtain ⟨h1, h⟩ := He.ba h
  obtain ⟨h2, h⟩ := He.ba h
  obtain ⟨h3, h4⟩ := He.ba h
  refine ⟨of_decide_eq_true h1, of_decide_eq_true h2, of_decide_eq_true h3, ?_⟩
  unfold pgAd
  split at h4
  · rename_i g r e
    exact ⟨r, by rw [e]⟩
  · cases h4
/-- the method m of C stands at D's -/
def methB (K : PySem.W.Frag) (C m D : Str) : Bool := decide (PySem.W.findIn K (.ref (He.ga K C)) m = some (some (.ref (He.fAd K (D, some m))))) && (PySem.W.isFn K (.ref (He.fAd K (D, some m))) && PySem.W.keepIn K (.ref (He.fAd K (D, some m))))
theorem methB_ok {K : PySem.W.Frag} {C m D : Str} (h : methB K C m D = true) : Meth K (He.ga K C) m (He.fAd K (D, some m)) := by
  obtain ⟨h1, h⟩ := He.ba h
  obtain ⟨h2, h3⟩ := He.ba h
  exact ⟨of_decide_eq_true h1, h2, h3⟩
/-- what isinstance, ==, != ask of a class of data -/
structure DatC (K : PySem.W.Frag) (C : Addr) (e : Addr) : Prop where
  cls : Cls K C
  ca : PySem.W.findIn K (.ref C) "__class__" = some (some (.builtin "object.__class__"))
  cn : PySem.W.specialIn K (.builtin "object.__class__") "__get__" = some (some (.builtin "getset_descriptor.__get__"))
  ct : PySem.W.takesIn K (.builtin "object.__class__") = some true
  ob : PySem.W.mroIn K C (.type "object") = some true
  ne : PySem.W.findIn K (.ref C) "__ne__" = some (some (.builtin "object.__ne__"))
  eq : PySem.W.findIn K (.ref C) "__eq__" = some (some (.ref e))
  fn : PySem.W.isFn K (.ref e) = true
def datB (K : PySem.W.Frag) (C : Str) : Bool := (He.Fa.cls C).ok K && (decide (PySem.W.findIn K (.ref (He.ga K C)) "__class__" = some (some (.builtin "object.__class__"))) && (decide (PySem.W.specialIn K (.builtin "object.__class__") "__get__" = some (some (.builtin "getset_descriptor.__get__"))) &&
  (decide (PySem.W.takesIn K (.builtin "object.__class__") = some true) && (decide (PySem.W.mroIn K (He.ga K C) (.type "object") = some true) && (decide (PySem.W.findIn K (.ref (He.ga K C)) "__ne__" = some (some (.builtin "object.__ne__"))) &&
  (decide (PySem.W.findIn K (.ref (He.ga K C)) "__eq__" = some (some (.ref (He.fAd K (C, some "__eq__"))))) && PySem.W.isFn K (.ref (He.fAd K (C, some "__eq__")))))))))
theorem datB_ok {K : PySem.W.Frag} {C : Str} (h : datB K C = true) : DatC K (He.ga K C) (He.fAd K (C, some "__eq__")) := by
  obtain ⟨h1, h⟩ := He.ba h
  obtain ⟨h2, h⟩ := He.ba h
  obtain ⟨h3, h⟩ := He.ba h
  obtain ⟨h4, h⟩ := He.ba h
  obtain ⟨h5, h⟩ := He.ba h
  obtain ⟨h6, h⟩ := He.ba h
  obtain ⟨h7, h8⟩ := He.ba h
  exact ⟨He.cls_ok h1, of_decide_eq_true h2, of_decide_eq_true h3, of_decide_eq_true h4, of_decide_eq_true h5, of_decide_eq_true h6, of_decide_eq_true h7, h8⟩
def kitB (K : PySem.W.Frag) (q : Str × Str × Bool) : Bool := decide (PySem.W.kitOne K (.ref (He.ga K q.1)) (.ref (He.ga K q.2.1)) = some q.2.2)
def sysB (K : PySem.W.Frag) : Bool := match K.lookup sysModules with
  | some o => decide (o.cls = .type "dict")
  | none => false
theorem sysB_ok {K : PySem.W.Frag} (h : sysB K = true) : ∃ o, K.lookup sysModules = some o ∧ o.cls = .type "dict" := by
  unfold sysB at h
  split at h
  · rename_i o e
    exact ⟨o, e, of_decide_eq_true h⟩
  · cases h
end WHe

set_option Elab.async false
set_option linter.all false
set_option maxRecDepth 100000
set_option maxHeartbeats 0
/-! the head's facts over the first n objects (no search for them: less memory) -/
namespace WHg
open PySem PySem.Spec PyProof.Rows L2 WHe
def obsLG (n : Nat) (chk : PySem.W.Frag → Bool) (fn : List DefP) (g : Addr → Option Obj) : He.AlD := obsK chk fn (He.frG g (List.range n))
def hookL (n : Nat) (chk : PySem.W.Frag → Bool) (fn : List DefP) : PySem.W.Hook where
  α := He.AlD
  obs := fun s => obsLG n chk fn s.heap.get?
  val := fun _ => valK fn
  says := fun _ h => ∃ K : PySem.W.Frag, K.In h ∧ SaysK chk fn K
  of := fun _ _ e => ⟨_, He.frG_in, e⟩
  keeps := fun _ _ _ ⟨K, hK, c⟩ k => ⟨K, PySem.W.Frag.In.keeps hK k, c⟩
theorem obsLG_eq {n : Nat} {chk : PySem.W.Frag → Bool} {fn : List DefP} {g : Addr → Option Obj} {s : Shared} (h : ∀ a, g a = s.heap.get? a) : obsLG n chk fn g = (hookL n chk fn).obs s := by
  have e : g = s.heap.get? := funext h
  rw [e] <;> rfl
end WHg

set_option Elab.async false
set_option linter.all false
set_option maxRecDepth 100000
set_option maxHeartbeats 4000000
/-! defs that are called where no repr is under way (the law's own def): repr of lists, tuples and empty dicts -/
namespace WXG
open PySem PySem.Spec PyProof.Rows L2
/-- a def's promise, where no repr is under way -/
structure FnG (P : Program) (w : World) (K : PySem.W.Frag) (mg : Str → Option Value) (base : Heap) (CX : CXT) (k : Nat) (f : Addr) (fd : FuncData) (ps : List Str) (sp : Sp) : Prop where
  len : ∀ vs H Q E, sp vs H Q E → vs.length = ps.length
  run : ∀ (A : Around) (outer : List Env) (s : Shared) (H : Hp) (args : Args) (us : List Value) (vs : List V) (Q : VK) (E : XK), Room k A → A.guards = some [] → Env0 P w K mg base A outer s H →
    BindsTo s fd args (ps.zip us) → Vals vs us → sp vs H Q E → codeAny (model P w) A (.call (.ref f) args) (CR CX outer P w H s Q E) s
section
variable {CX : CXT} {P : Program} {w : World} {K : PySem.W.Frag} {mg : Str → Option Value} {base : Heap} {k : Nat} {f : Addr} {x qual : Str} {params : Arguments} {body : List Stmt} {scope : Scope} {dvs : List V} {kws : List (Str × V)} {fd : FuncData} {N ps : List Str} {sp : Sp}
theorem FnG.of (F : FunD K x qual params body scope dvs kws f fd) (S : FnScope N ps scope) (len : ∀ vs H Q E, sp vs H Q E → vs.length = ps.length)
    (hbody : ∀ (cdv : Value) (A : Around) (outer : List Env) (s : Shared) (H : Hp) (vs : List V) (Q : VK) (E : XK), Room k (A.deeper (envOfC qual scope s.heap.objs.size f cdv)) → (A.deeper (envOfC qual scope s.heap.objs.size f cdv)).guards = some [] → sp vs H Q E →
      ∃ t, PSs (cxOf CX P w K mg base N qual scope f cdv A outer s H E) body t ∧ t { nx := fun _ H' => Q .non H', rt := Q } (start N vs) H) : FnG P w K mg base CX (k + 1) f fd ps sp := by
  obtain ⟨oc, od, dV, kV, doc, pm, an, cdv, ct, osl, rfl, lk, hcd, _, _⟩ := F.ex
  refine ⟨len, fun A outer s H args us vs Q E hr hg e0 hb r hsp => ?_⟩
  have KX : K.In s.heap := e0.mod.kin.keeps fun b o e => (e0.bs b o e).1
  have lim : s.heap.NoLimit := e0.mod.nolimit.keeps fun b o e => (e0.bs b o e).1
  refine codeAny_call_function hr.depth (KX _ _ lk) rfl S.co S.gen rfl (PySem.W.codeRec_of KX hcd) (hb _ _ _ _ (wpAny_newFunctionEnv_cells S.kind (fun y hy => ?_) fun env he s1 x => ?_))
  · rcases S.par y.1 (List.of_mem_zip hy).1 with q | q
    · exact .inl q
    · exact .inr ⟨q, PySem.W.cellsFrom_some _ _ _ (.inl q)⟩
  subst he
  obtain ⟨t, ht, hq⟩ := hbody cdv A outer s H vs Q E (hr.deeper _) hg hsp
  refine ⟨lim.keeps x.toInCall.keep, codeAny_func (wpAny_mono (ht.run [] s1 (start N vs) H _ (inv_start S hr.hd e0 (len _ _ _ _ hsp) r x) hq) (fun fl s' hs => ?_) fun _ _ z => z)⟩
  cases fl with
  | ret u =>
    obtain ⟨v, σ', H', J, rv, q⟩ := hs
    exact ⟨v, H', J.os, J.bare, J.base, J.hok, rv, q⟩
  | next =>
    obtain ⟨σ', H', J, q⟩ := hs
    exact ⟨.non, H', J.os, J.bare, J.base, J.hok, rfl, q⟩
  | brk =>
    obtain ⟨_, _, _, q⟩ := hs
    exact q.elim
  | cont =>
    obtain ⟨_, _, _, q⟩ := hs
    exact q.elim
theorem FnOk.toG {fd : FuncData} (F : FnOk P w K mg base CX k f fd ps sp) : FnG P w K mg base CX k f fd ps sp := ⟨F.len, fun A outer s H args us vs Q E hr _ e0 hb r h => F.run A outer s H args us vs Q E hr e0 hb r h⟩
end

/-! ### the end of a law's row -/
theorem hid_ns {h : Heap} {H : Hp} {b : Addr} {m : Str → Option Value} (n : H b = none) (z : h.Ns b m) : (hidT h H).Ns b m := by
  obtain ⟨o, es, ep, e, d, r⟩ := z
  exact ⟨o, es, ep, hidT_get e n, d, r⟩
theorem law_callG {P : Program} {w : World} {K : PySem.W.Frag} {mg mb : Str → Option Value} {CX : CXT} {k : Nat} {fa a : Addr} {fd : FuncData} {x : Str} {sp : Sp} {s₁ : Shared} {vs : List Value} {ns : List Int}
    (KX : K.In s₁.heap) (hns : s₁.heap.Ns mainGlobals mg) (hb : s₁.heap.Ns builtinsNs mb) (hbb : ∀ x : Str, x ≠ "__name__" → mb x = bootBuiltins x) (hlim : s₁.heap.NoLimit) (hg : s₁.gens = #[])
    (ha : s₁.heap.get? a = some { cls := .type "list", data := .seq vs.toArray }) (hi : IntsAre vs ns) (hl : ns.length ≤ sizeLine) (hr : Room k callerA)
    (F : ∀ base : Heap, K.In base → base.Ns mainGlobals mg → FnG P w K mg base CX k fa fd [x] sp) (hbind : ∀ (s : Shared) (u : Value), BindsTo s fd ⟨[u], []⟩ [(x, u)])
    (hsp : ∀ H : Hp, Only H → SqL K H a (ns.map V.int) → sp [.ref a] H (fun v _ => v = .bl true) fun _ _ _ => False)
    (hCX : ∀ H e s', CX [] H s₁ (fun _ _ _ => False) e s' → False) :
    codeAny (model P w) callerA (.call (.ref fa) ⟨[.ref a], []⟩) (fun r s' => r = .ok (.ret (.bool true)) ∧ OldK s₁.heap s'.heap ∧ s'.os = s₁.os ∧ AllBare s'.gens) s₁ := by
  have lenV := hi.length
  have rv : Vals (ns.map V.int) vs := vals_ints hi
  have go : ∀ H : Hp, Only H → SqL K H a (ns.map V.int) → HOk P w H s₁.heap → (∀ b, H b ≠ none → b = a) → (H a ≠ none → K.lookup a = none) →
      codeAny (model P w) callerA (.call (.ref fa) ⟨[.ref a], []⟩) (fun r s' => r = .ok (.ret (.bool true)) ∧ OldK s₁.heap s'.heap ∧ s'.os = s₁.os ∧ AllBare s'.gens) s₁ := by
    intro H hO hS hok hA hK
    have isA : ∀ {b : Addr} {u : HO}, H b = some u → b = a := fun {b u} q => hA b (by rw [q]; exact fun z => nomatch z)
    have nsN : ∀ {b : Addr} {m : Str → Option Value}, s₁.heap.Ns b m → H b = none := fun {b m} z => by
      obtain ⟨o, es, ep, e, d, _⟩ := z
      cases q : H b with
      | none => rfl
      | some u =>
        rw [isA q, ha] at e
        cases e
        cases d
    have hKb : K.In (hidT s₁.heap H) := fun b o e => hidT_get (KX b o e) (by
      cases q : H b with
      | none => rfl
      | some u =>
        have eb := isA q
        subst eb
        rw [hK (by rw [q]; exact fun z => nomatch z)] at e
        cases e)
    have nsB : (hidT s₁.heap H).Ns mainGlobals mg := hid_ns (nsN hns) hns
    obtain ⟨mc, hm1, hm2⟩ := hlim
    have e0 : Env0 P w K mg (hidT s₁.heap H) callerA [] s₁ H := ⟨rfl, ⟨hKb, nsB, ⟨mb, hid_ns (nsN hb) hb, hbb⟩, ⟨mc, hid_ns (nsN hm1) hm1, hm2⟩⟩, fun b o e => of_hidT e, Nat.le_of_eq (hidT_size _ _), trivial, fun b z => (nomatch (show b ∈ ([] : List Addr) from z)), hok, .of_eq hg⟩
    refine codeAny_mono ((F _ hKb nsB).run callerA [] s₁ H ⟨[.ref a], []⟩ [.ref a] [.ref a] _ _ hr rfl e0 (hbind s₁ (.ref a)) (.cons rfl .nil) (hsp H hO hS)) fun r s' h => ?_
    cases r with
    | error e => exact (hCX H e s' h).elim
    | ok fl =>
      cases fl with
      | next => exact h.elim
      | brk => exact h.elim
      | cont => exact h.elim
      | ret u =>
        obtain ⟨v, H', os, bare, un, hok', r', q⟩ := h
        obtain rfl : v = .bl true := q
        obtain rfl : u = Value.bool true := r'
        refine ⟨rfl, OldK.of_keep fun b o e => ?_, os, bare⟩
        cases q : H b with
        | none => exact un.keep b o e q (fun z => nomatch (show b ∈ ([] : List Addr) from z)) (fun z => nomatch z)
        | some u =>
          rcases hO b with z | ⟨ob, xs, z⟩
          · rw [q] at z
            cases z
          · obtain ⟨e1, _⟩ := hok b _ z
            obtain ⟨e2, _⟩ := hok' b _ (un.frzs b ob _ z)
            rw [e] at e1
            cases e1
            exact e2
  cases hk : K.lookup a with
  | some o =>
    have e := KX a o hk
    rw [ha] at e
    cases e
    exact go (fun _ => none) (fun _ => .inl rfl) (.inr ⟨_, vs.toArray, _, hk, rfl, rfl, rfl, by rw [List.size_toArray, lenV]; exact hl, by simpa using rv⟩) (fun b u z => nomatch (show (none : Option HO) = some u from z)) (fun b z => absurd rfl z) fun z => absurd rfl z
  | none =>
    refine go (fun b => if b = a then some (.frz { cls := .type "list", data := .seq vs.toArray } (.lst (ns.map V.int))) else none) (fun b => ?_) (.inl (.inr ⟨_, if_pos rfl⟩)) (fun b u z => ?_) (fun b z => ?_) fun _ => hk
    · by_cases hb : b = a
      · exact .inr ⟨_, _, if_pos hb⟩
      · exact .inl (if_neg hb)
    · by_cases hb : b = a
      · have z' := (if_pos hb).symm.trans z
        cases z'
        subst hb
        exact ⟨ha, by rw [List.length_map]; exact hl, vs, _, rv, ha⟩
      · exact nomatch (if_neg hb).symm.trans z
    · by_cases hb : b = a
      · exact hb
      · exact absurd (if_neg hb) z
theorem walk_G {l : PySem.W.OpenLaw} {n k : Nat} {q : Program} {loose : List Str} {XP : (Str → Option Value) → Heap → Prop} {YP : World → Heap → Prop} {d : DefRec} {CX : CXT} {x : Str}
    (hn : l.most = some n) (hn2 : n ≤ sizeLine) (hdf : d.params.defaults = []) (hr : Room k callerA)
    (F : ∀ (w : World) (mg : Str → Option Value) (fa : Addr) (h : Heap), YP w h → h.Ns mainGlobals mg → mg d.name = some (.ref fa) →
      ∃ (K : PySem.W.Frag) (fd : FuncData) (sp : Sp), K.In h ∧ (∀ (s : Shared) (u : Value), BindsTo s fd ⟨[u], []⟩ [(x, u)]) ∧
        (∀ (H : Hp) (a : Addr) (ns : List Int), ns.length ≤ n → Only H → SqL K H a (ns.map V.int) → sp [.ref a] H (fun v _ => v = .bl true) fun _ _ _ => False) ∧
        ∀ base : Heap, K.In base → base.Ns mainGlobals mg → FnG l.prog w K mg base CX k fa fd [x] sp)
    (hCX : ∀ (H : Hp) (s : Shared) (e : Value) (s' : Shared), CX [] H s (fun _ _ _ => False) e s' → False) :
    PySem.W.WalkO q loose XP YP l.row.toRowW d [] (fun f vs => PySem.call f vs) := by
  refine Att.attach_call hn hdf fun w s₀ s₁ mg mb fa o pm cd doc a vs ns G Y ho hd hcd hmg hobj hints hlen hg => ?_
  obtain ⟨K, fd, sp, KX, hb, hsp, hF⟩ := F w mg fa _ Y G.T.g hmg
  exact law_callG KX G.T.g G.T.b G.T.builtins G.T.nolimit hg hobj hints (Nat.le_trans hlen hn2) hr hF hb (fun H hO hS => hsp H a ns hlen hO hS) fun H e s' => hCX H s₁ e s'

/-! ### repr -/
mutual
/-- data: lists, tuples, empty dicts, flat ones -/
inductive Dq (K : PySem.W.Frag) (H : Hp) : V → PyData → Prop
  | non : Dq K H .non .none
  | bl (b : Bool) : Dq K H (.bl b) (.bool b)
  | int (i : Int) : Dq K H (.int i) (.int i)
  | str (x : Str) : Dq K H (.str x) (.str x)
  | lst {a : Addr} {xs : List V} {ds : List PyData} : SqL K H a xs → DqAll K H xs ds → Dq K H (.ref a) (.list ds)
  | tup {a : Addr} {xs : List V} {ds : List PyData} : SqT K H a xs → DqAll K H xs ds → Dq K H (.ref a) (.tuple ds)
  | emp {a : Addr} : H a = some (.dK []) → Dq K H (.ref a) (.dict [])
inductive DqAll (K : PySem.W.Frag) (H : Hp) : List V → List PyData → Prop
  | nil : DqAll K H [] []
  | cons {v : V} {vs : List V} {d : PyData} {ds : List PyData} : Dq K H v d → DqAll K H vs ds → DqAll K H (v :: vs) (d :: ds)
end
section
variable {X : Cx} {pins : List (Addr × Obj)} {σ : L2.St} {H : Hp} {s : Shared}
/-- the table of modules is the head's -/
def SysK (K : PySem.W.Frag) : Prop := ∃ o, K.lookup sysModules = some o ∧ o.cls = .type "dict"
theorem ne_sys (I : Inv X pins σ H s) (S : SysK X.K) {a : Addr} {o : Obj} (ho : s.heap.get? a = some o) (hc : o.cls = .type "list") : a ≠ sysModules := fun e => by
  obtain ⟨o', h1, h2⟩ := S
  have q := I.kIn _ _ h1
  rw [← e, ho] at q
  cases q
  rw [hc] at h2
  exact absurd h2 (by decide)
mutual
theorem Dq.reads (I : Inv X pins σ H s) (S : SysK X.K) : ∀ (d : PyData) (v : V) (u : Value), Dq X.K H v d → RelV v u → ∃ as, Reads s.heap u d as ∧ sysModules ∉ as
  | .none, _, _, h, r => by
    cases h; cases r
    exact ⟨_, Reads.none, fun z => nomatch z⟩
  | .bool b, _, _, h, r => by
    cases h; cases r
    exact ⟨_, Reads.bool b, fun z => nomatch z⟩
  | .int i, _, _, h, r => by
    cases h
    obtain ⟨t, rfl⟩ := r
    exact ⟨_, Reads.int i t, fun z => nomatch z⟩
  | .str x, _, _, h, r => by
    cases h
    obtain ⟨t, rfl⟩ := r
    exact ⟨_, Reads.str x t, fun z => nomatch z⟩
  | .list ds, _, _, h, r => by
    cases h with
    | lst hs ha =>
      cases r
      obtain ⟨its, rv, ⟨o, n, ho, hc, _, hd⟩, _⟩ := I.list hs
      obtain ⟨as, hr, hn⟩ := DqAll.reads I S ds _ its ha rv
      refine ⟨_, Reads.list ho hc hd hr, fun z => ?_⟩
      rcases List.mem_cons.mp z with z | z
      · exact ne_sys I S ho hc z.symm
      · exact hn z
  | .tuple ds, _, _, h, r => by
    cases h with
    | tup hs ha =>
      cases r
      obtain ⟨its, rv, ⟨o, ho, hc, n, hd⟩, _⟩ := I.tuple hs
      obtain ⟨as, hr, hn⟩ := DqAll.reads I S ds _ its ha rv
      exact ⟨_, Reads.tuple ho hc hd hr, hn⟩
  | .dict kvs, _, _, h, r => by
    cases h with
    | emp ha =>
      cases r
      obtain ⟨_, hsy, vs, rv, o, es, ep, ho, hx, hd, _, he, _⟩ := I.hok _ _ ha
      cases rv
      have e0 : es.toList = [] := List.length_eq_zero_iff.mp he.length
      refine ⟨_, Reads.dict ho hx.1 hd (as := []) (bs := []) (by rw [e0]; exact ReadsAll.nil) (by rw [e0]; exact ReadsAll.nil), fun z => ?_⟩
      rcases List.mem_cons.mp z with z | z
      · rw [← z] at hsy
        exact absurd hsy (by decide)
      · exact nomatch z
theorem DqAll.reads (I : Inv X pins σ H s) (S : SysK X.K) : ∀ (ds : List PyData) (vs : List V) (us : List Value), DqAll X.K H vs ds → Vals vs us → ∃ as, ReadsAll s.heap us ds as ∧ sysModules ∉ as
  | [], _, _, h, r => by
    cases h; cases r
    exact ⟨_, ReadsAll.nil, fun z => nomatch z⟩
  | d :: ds, _, _, h, r => by
    cases h with
    | cons h1 h2 =>
      cases r with
      | cons r1 r2 =>
        obtain ⟨as, q1, n1⟩ := Dq.reads I S d _ _ h1 r1
        obtain ⟨bs, q2, n2⟩ := DqAll.reads I S ds _ _ h2 r2
        refine ⟨_, ReadsAll.cons q1 q2, fun z => ?_⟩
        rcases List.mem_append.mp z with z | z
        · exact n1 z
        · exact n2 z
end
/-- repr(v), v an object -/
def rRepr (K : PySem.W.Frag) : List V → Hp → VK → Prop := fun xs H Q => ∃ (a : Addr) (d : PyData), xs = [.ref a] ∧ Dq K H (.ref a) d ∧ d.showable = true ∧ d.depth ≤ 60 ∧ d.shown.length ≤ sizeLine ∧ Q (.str d.shown) H
theorem call_reprQ (S : SysK X.K) (hg : X.A.guards = some []) (hu : X.A.units + 64 < cLine) : CallR X (.builtin "repr") (rRepr X.K) := by
  intro pins s σ H xs us Q I r h
  obtain ⟨a, d, rfl, hd, hs, hdp, hz, q⟩ := h
  cases r with
  | cons rx rr =>
    cases rr
    cases rx
    obtain ⟨as, hr, hn⟩ := Dq.reads I S d _ _ hd rfl
    exact repr_of_reads' hr hs (fun _ => hn) hg (by omega) (fun _ _ z => z) (fun h' u tk kk => ⟨.str d.shown, H, I.kept kk, ⟨u, rfl⟩, q⟩) hz
end
end WXG

set_option Elab.async false
set_option linter.all false
set_option maxRecDepth 100000
set_option maxHeartbeats 4000000
namespace W06
open PySem PySem.Spec PyProof.Rows L2
def inClass (s : Stmt) (i : Nat) : Stmt := match s with
  | .ClassDef (body := b) .. => b.getD i (.Pass ⟨0, 0, 0, 0⟩)
  | _ => .Pass ⟨0, 0, 0, 0⟩
def top (i : Nat) : Stmt := PySem.Challenge.pw_watchtree_k06_texts_written.main.body.getD i (.Pass ⟨0, 0, 0, 0⟩)
abbrev s_is_word : Stmt := top 15
def d_is_word : WHe.DefP := ⟨fun K => He.fAd K ("is_word", none), "is_word", "is_word", defArgs s_is_word, defBody s_is_word, defScope s_is_word⟩
theorem sc_is_word : FnScope ["value", "sign"] ["value"] (defScope s_is_word) := ⟨rfl, rfl, rfl, by decide +kernel, rfl, by decide +kernel, by decide +kernel⟩
abbrev s_is_name : Stmt := top 16
def d_is_name : WHe.DefP := ⟨fun K => He.fAd K ("is_name", none), "is_name", "is_name", defArgs s_is_name, defBody s_is_name, defScope s_is_name⟩
theorem sc_is_name : FnScope ["value"] ["value"] (defScope s_is_name) := ⟨rfl, rfl, rfl, by decide +kernel, rfl, by decide +kernel, by decide +kernel⟩
abbrev s_is_between : Stmt := top 17
def d_is_between : WHe.DefP := ⟨fun K => He.fAd K ("is_between", none), "is_between", "is_between", defArgs s_is_between, defBody s_is_between, defScope s_is_between⟩
theorem sc_is_between : FnScope ["value", "low", "high"] ["value", "low", "high"] (defScope s_is_between) := ⟨rfl, rfl, rfl, by decide +kernel, rfl, by decide +kernel, by decide +kernel⟩
abbrev s_wrong_row : Stmt := top 34
def d_wrong_row : WHe.DefP := ⟨fun K => He.fAd K ("wrong_row", none), "wrong_row", "wrong_row", defArgs s_wrong_row, defBody s_wrong_row, defScope s_wrong_row⟩
theorem sc_wrong_row : FnScope ["script", "known", "index", "row"] ["script"] (defScope s_wrong_row) := ⟨rfl, rfl, rfl, by decide +kernel, rfl, by decide +kernel, by decide +kernel⟩
abbrev s_is_script : Stmt := top 35
def d_is_script : WHe.DefP := ⟨fun K => He.fAd K ("is_script", none), "is_script", "is_script", defArgs s_is_script, defBody s_is_script, defScope s_is_script⟩
theorem sc_is_script : FnScope ["value"] ["value"] (defScope s_is_script) := ⟨rfl, rfl, rfl, by decide +kernel, rfl, by decide +kernel, by decide +kernel⟩
abbrev s_is_one_of : Stmt := top 45
def d_is_one_of : WHe.DefP := ⟨fun K => He.fAd K ("is_one_of", none), "is_one_of", "is_one_of", defArgs s_is_one_of, defBody s_is_one_of, defScope s_is_one_of⟩
theorem sc_is_one_of : FnScope ["value", "words"] ["value", "words"] (defScope s_is_one_of) := ⟨rfl, rfl, rfl, by decide +kernel, rfl, by decide +kernel, by decide +kernel⟩
abbrev s_is_deadline : Stmt := top 46
def d_is_deadline : WHe.DefP := ⟨fun K => He.fAd K ("is_deadline", none), "is_deadline", "is_deadline", defArgs s_is_deadline, defBody s_is_deadline, defScope s_is_deadline⟩
theorem sc_is_deadline : FnScope ["value"] ["value"] (defScope s_is_deadline) := ⟨rfl, rfl, rfl, by decide +kernel, rfl, by decide +kernel, by decide +kernel⟩
abbrev s_require : Stmt := top 47
def d_require : WHe.DefP := ⟨fun K => He.fAd K ("require", none), "require", "require", defArgs s_require, defBody s_require, defScope s_require⟩
theorem sc_require : FnScope ["rows", "setting", "is_fine"] ["rows"] (defScope s_require) := ⟨rfl, rfl, rfl, by decide +kernel, rfl, by decide +kernel, by decide +kernel⟩
abbrev s_is_supervisor : Stmt := top 50
def d_is_supervisor : WHe.DefP := ⟨fun K => He.fAd K ("is_supervisor", none), "is_supervisor", "is_supervisor", defArgs s_is_supervisor, defBody s_is_supervisor, defScope s_is_supervisor⟩
theorem sc_is_supervisor : FnScope ["plan"] ["plan"] (defScope s_is_supervisor) := ⟨rfl, rfl, rfl, by decide +kernel, rfl, by decide +kernel, by decide +kernel⟩
abbrev s_supervisor_of : Stmt := top 51
def d_supervisor_of : WHe.DefP := ⟨fun K => He.fAd K ("supervisor_of", none), "supervisor_of", "supervisor_of", defArgs s_supervisor_of, defBody s_supervisor_of, defScope s_supervisor_of⟩
theorem sc_supervisor_of : FnScope ["values", "children", "made", "setting", "name"] ["values", "children"] (defScope s_supervisor_of) := ⟨rfl, rfl, rfl, by decide +kernel, rfl, by decide +kernel, by decide +kernel⟩
abbrev s_worker_of : Stmt := top 52
def d_worker_of : WHe.DefP := ⟨fun K => He.fAd K ("worker_of", none), "worker_of", "worker_of", defArgs s_worker_of, defBody s_worker_of, defScope s_worker_of⟩
theorem sc_worker_of : FnScope ["values", "made", "setting", "name"] ["values"] (defScope s_worker_of) := ⟨rfl, rfl, rfl, by decide +kernel, rfl, by decide +kernel, by decide +kernel⟩
abbrev s_values_of : Stmt := top 53
def d_values_of : WHe.DefP := ⟨fun K => He.fAd K ("values_of", none), "values_of", "values_of", defArgs s_values_of, defBody s_values_of, defScope s_values_of⟩
theorem sc_values_of : FnScope ["plan", "known"] ["plan"] (defScope s_values_of) := ⟨rfl, rfl, rfl, by decide +kernel, rfl, by decide +kernel, by decide +kernel⟩
abbrev s_shown : Stmt := top 58
def d_shown : WHe.DefP := ⟨fun K => He.fAd K ("shown", none), "shown", "shown", defArgs s_shown, defBody s_shown, defScope s_shown⟩
theorem sc_shown : FnScope ["value"] ["value"] (defScope s_shown) := ⟨rfl, rfl, rfl, by decide +kernel, rfl, by decide +kernel, by decide +kernel⟩
abbrev s_lines_of : Stmt := top 59
def d_lines_of : WHe.DefP := ⟨fun K => He.fAd K ("lines_of", none), "lines_of", "lines_of", defArgs s_lines_of, defBody s_lines_of, defScope s_lines_of⟩
theorem sc_lines_of : FnScope ["plan", "level", "values", "known", "words", "setting", "found", "child"] ["plan", "level"] (defScope s_lines_of) := ⟨rfl, rfl, rfl, by decide +kernel, rfl, by decide +kernel, by decide +kernel⟩
abbrev s_plan_text : Stmt := top 60
def d_plan_text : WHe.DefP := ⟨fun K => He.fAd K ("plan_text", none), "plan_text", "plan_text", defArgs s_plan_text, defBody s_plan_text, defScope s_plan_text⟩
theorem sc_plan_text : FnScope ["plan"] ["plan"] (defScope s_plan_text) := ⟨rfl, rfl, rfl, by decide +kernel, rfl, by decide +kernel, by decide +kernel⟩
abbrev s_number_of : Stmt := top 61
def d_number_of : WHe.DefP := ⟨fun K => He.fAd K ("number_of", none), "number_of", "number_of", defArgs s_number_of, defBody s_number_of, defScope s_number_of⟩
theorem sc_number_of : FnScope ["word", "sign"] ["word"] (defScope s_number_of) := ⟨rfl, rfl, rfl, by decide +kernel, rfl, by decide +kernel, by decide +kernel⟩
abbrev s_values_in : Stmt := top 62
def d_values_in : WHe.DefP := ⟨fun K => He.fAd K ("values_in", none), "values_in", "values_in", defArgs s_values_in, defBody s_values_in, defScope s_values_in⟩
theorem sc_values_in : FnScope ["words", "known", "found", "setting", "word"] ["words"] (defScope s_values_in) := ⟨rfl, rfl, rfl, by decide +kernel, rfl, by decide +kernel, by decide +kernel⟩
abbrev s_row_of : Stmt := top 63
def d_row_of : WHe.DefP := ⟨fun K => He.fAd K ("row_of", none), "row_of", "row_of", defArgs s_row_of, defBody s_row_of, defScope s_row_of⟩
theorem sc_row_of : FnScope ["line", "bare", "level", "rest", "words", "values"] ["line"] (defScope s_row_of) := ⟨rfl, rfl, rfl, by decide +kernel, rfl, by decide +kernel, by decide +kernel⟩
abbrev s_rows_of : Stmt := top 64
def d_rows_of : WHe.DefP := ⟨fun K => He.fAd K ("rows_of", none), "rows_of", "rows_of", defArgs s_rows_of, defBody s_rows_of, defScope s_rows_of⟩
theorem sc_rows_of : FnScope ["text", "found", "way", "counts", "number", "line", "row"] ["text"] (defScope s_rows_of) := ⟨rfl, rfl, rfl, by decide +kernel, rfl, by decide +kernel, by decide +kernel⟩
abbrev s_plan_of : Stmt := top 65
def d_plan_of : WHe.DefP := ⟨fun K => He.fAd K ("plan_of", none), "plan_of", "plan_of", defArgs s_plan_of, defBody s_plan_of, defScope s_plan_of⟩
theorem sc_plan_of : FnScope ["rows", "at", "level", "is_over", "values", "children", "here", "child"] ["rows", "at"] (defScope s_plan_of) := ⟨rfl, rfl, rfl, by decide +kernel, rfl, by decide +kernel, by decide +kernel⟩
abbrev s_read_plan : Stmt := top 66
def d_read_plan : WHe.DefP := ⟨fun K => He.fAd K ("read_plan", none), "read_plan", "read_plan", defArgs s_read_plan, defBody s_read_plan, defScope s_read_plan⟩
theorem sc_read_plan : FnScope ["text"] ["text"] (defScope s_read_plan) := ⟨rfl, rfl, rfl, by decide +kernel, rfl, by decide +kernel, by decide +kernel⟩
abbrev s_L_begun : Stmt := top 68
def d_L_begun : WHe.DefP := ⟨fun K => He.fAd K ("_law_begun", none), "_law_begun", "_law_begun", defArgs s_L_begun, defBody s_L_begun, defScope s_L_begun⟩
theorem sc_L_begun : FnScope ["cells"] ["cells"] (defScope s_L_begun) := ⟨rfl, rfl, rfl, by decide +kernel, rfl, by decide +kernel, by decide +kernel⟩
abbrev s_L_next : Stmt := top 69
def d_L_next : WHe.DefP := ⟨fun K => He.fAd K ("_law_next", none), "_law_next", "_law_next", defArgs s_L_next, defBody s_L_next, defScope s_L_next⟩
theorem sc_L_next : FnScope ["m", "total", "found", "k", "cell", "mixed"] ["m", "total"] (defScope s_L_next) := ⟨rfl, rfl, rfl, by decide +kernel, rfl, by decide +kernel, by decide +kernel⟩
abbrev s_L_of : Stmt := top 70
def d_L_of : WHe.DefP := ⟨fun K => He.fAd K ("_law_of", none), "_law_of", "_law_of", defArgs s_L_of, defBody s_L_of, defScope s_L_of⟩
theorem sc_L_of : FnScope ["m", "items"] ["m", "items"] (defScope s_L_of) := ⟨rfl, rfl, rfl, by decide +kernel, rfl, by decide +kernel, by decide +kernel⟩
abbrev s_L_words : Stmt := top 71
def d_L_words : WHe.DefP := ⟨fun K => He.fAd K ("_law_words", none), "_law_words", "_law_words", defArgs s_L_words, defBody s_L_words, defScope s_L_words⟩
theorem sc_L_words : FnScope ["m", "many", "way", "found", "k", "word"] ["m", "many"] (defScope s_L_words) := ⟨rfl, rfl, rfl, by decide +kernel, rfl, by decide +kernel, by decide +kernel⟩
abbrev s_L_worker : Stmt := top 72
def d_L_worker : WHe.DefP := ⟨fun K => He.fAd K ("_law_worker", none), "_law_worker", "_law_worker", defArgs s_L_worker, defBody s_L_worker, defScope s_L_worker⟩
theorem sc_L_worker : FnScope ["m", "label", "numbers", "wait", "kind", "begin"] ["m", "label"] (defScope s_L_worker) := ⟨rfl, rfl, rfl, by decide +kernel, rfl, by decide +kernel, by decide +kernel⟩
abbrev s_L_over : Stmt := top 73
def d_L_over : WHe.DefP := ⟨fun K => He.fAd K ("_law_over", none), "_law_over", "_law_over", defArgs s_L_over, defBody s_L_over, defScope s_L_over⟩
theorem sc_L_over : FnScope ["m", "label", "kids", "kind", "way", "wait"] ["m", "label", "kids"] (defScope s_L_over) := ⟨rfl, rfl, rfl, by decide +kernel, rfl, by decide +kernel, by decide +kernel⟩
abbrev s_L_tree : Stmt := top 74
def d_L_tree : WHe.DefP := ⟨fun K => He.fAd K ("_law_tree", none), "_law_tree", "_law_tree", defArgs s_L_tree, defBody s_L_tree, defScope s_L_tree⟩
theorem sc_L_tree : FnScope ["m", "free", "level", "label", "kids", "k"] ["m", "free", "level"] (defScope s_L_tree) := ⟨rfl, rfl, rfl, by decide +kernel, rfl, by decide +kernel, by decide +kernel⟩
abbrev s_L_greatest : Stmt := top 75
def d_L_greatest : WHe.DefP := ⟨fun K => He.fAd K ("_law_greatest", none), "_law_greatest", "_law_greatest", defArgs s_L_greatest, defBody s_L_greatest, defScope s_L_greatest⟩
theorem sc_L_greatest : FnScope ["label", "c", "s", "a", "b", "d", "e", "f", "many"] ["label", "c", "s"] (defScope s_L_greatest) := ⟨rfl, rfl, rfl, by decide +kernel, rfl, by decide +kernel, by decide +kernel⟩
abbrev s_L_greater : Stmt := top 76
def d_L_greater : WHe.DefP := ⟨fun K => He.fAd K ("_law_greater", none), "_law_greater", "_law_greater", defArgs s_L_greater, defBody s_L_greater, defScope s_L_greater⟩
theorem sc_L_greater : FnScope ["label", "c", "s", "a", "b", "d", "e", "f", "many"] ["label", "c", "s"] (defScope s_L_greater) := ⟨rfl, rfl, rfl, by decide +kernel, rfl, by decide +kernel, by decide +kernel⟩
abbrev s_L_sup : Stmt := top 77
def d_L_sup : WHe.DefP := ⟨fun K => He.fAd K ("_law_sup", none), "_law_sup", "_law_sup", defArgs s_L_sup, defBody s_L_sup, defScope s_L_sup⟩
theorem sc_L_sup : FnScope ["label", "c", "s", "a", "b", "d", "e", "f", "many"] ["label", "c", "s"] (defScope s_L_sup) := ⟨rfl, rfl, rfl, by decide +kernel, rfl, by decide +kernel, by decide +kernel⟩
abbrev s_L_build : Stmt := top 78
def d_L_build : WHe.DefP := ⟨fun K => He.fAd K ("_law_build", none), "_law_build", "_law_build", defArgs s_L_build, defBody s_L_build, defScope s_L_build⟩
theorem sc_L_build : FnScope ["d", "child"] ["d"] (defScope s_L_build) := ⟨rfl, rfl, rfl, by decide +kernel, rfl, by decide +kernel, by decide +kernel⟩
abbrev s_L_lines : Stmt := top 79
def d_L_lines : WHe.DefP := ⟨fun K => He.fAd K ("_law_lines", none), "_law_lines", "_law_lines", defArgs s_L_lines, defBody s_L_lines, defScope s_L_lines⟩
theorem sc_L_lines : FnScope ["d", "level", "words", "value", "word", "found", "child"] ["d", "level"] (defScope s_L_lines) := ⟨rfl, rfl, rfl, by decide +kernel, rfl, by decide +kernel, by decide +kernel⟩
abbrev s_L_deep : Stmt := top 80
def d_L_deep : WHe.DefP := ⟨fun K => He.fAd K ("_law_deep", none), "_law_deep", "_law_deep", defArgs s_L_deep, defBody s_L_deep, defScope s_L_deep⟩
theorem sc_L_deep : FnScope ["m", "free", "d", "k"] ["m", "free"] (defScope s_L_deep) := ⟨rfl, rfl, rfl, by decide +kernel, rfl, by decide +kernel, by decide +kernel⟩
abbrev s_law : Stmt := top 81
def d_law : WHe.DefP := ⟨fun K => He.fAd K ("law", none), "law", "law", defArgs s_law, defBody s_law, defScope s_law⟩
theorem sc_law : FnScope ["cells", "m", "turn", "free", "way", "k", "d", "label", "plan", "text", "told", "again"] ["cells"] (defScope s_law) := ⟨rfl, rfl, rfl, by decide +kernel, rfl, by decide +kernel, by decide +kernel⟩
abbrev s_Plan_settings : Stmt := inClass (top 7) 0
def d_Plan_settings : WHe.DefP := ⟨fun K => He.fAd K ("Plan", some "settings"), "settings", "Plan.settings", defArgs s_Plan_settings, defBody s_Plan_settings, defScope s_Plan_settings⟩
theorem sc_Plan_settings : FnScope ["self"] ["self"] (defScope s_Plan_settings) := ⟨rfl, rfl, rfl, by decide +kernel, rfl, by decide +kernel, by decide +kernel⟩
abbrev s_Plan_below : Stmt := inClass (top 7) 1
def d_Plan_below : WHe.DefP := ⟨fun K => He.fAd K ("Plan", some "below"), "below", "Plan.below", defArgs s_Plan_below, defBody s_Plan_below, defScope s_Plan_below⟩
theorem sc_Plan_below : FnScope ["self"] ["self"] (defScope s_Plan_below) := ⟨rfl, rfl, rfl, by decide +kernel, rfl, by decide +kernel, by decide +kernel⟩
abbrev s_Plan_with_all : Stmt := inClass (top 7) 2
def d_Plan_with_all : WHe.DefP := ⟨fun K => He.fAd K ("Plan", some "with_all"), "with_all", "Plan.with_all", defArgs s_Plan_with_all, defBody s_Plan_with_all, defScope s_Plan_with_all⟩
theorem sc_Plan_with_all : FnScope ["self", "found", "child"] ["self"] (defScope s_Plan_with_all) := ⟨rfl, rfl, rfl, by decide +kernel, rfl, by decide +kernel, by decide +kernel⟩
abbrev s_Plan__len : Stmt := inClass (top 7) 3
def d_Plan__len : WHe.DefP := ⟨fun K => He.fAd K ("Plan", some "__len__"), "__len__", "Plan.__len__", defArgs s_Plan__len, defBody s_Plan__len, defScope s_Plan__len⟩
theorem sc_Plan__len : FnScope ["self"] ["self"] (defScope s_Plan__len) := ⟨rfl, rfl, rfl, by decide +kernel, rfl, by decide +kernel, by decide +kernel⟩
abbrev s_Plan__contains : Stmt := inClass (top 7) 4
def d_Plan__contains : WHe.DefP := ⟨fun K => He.fAd K ("Plan", some "__contains__"), "__contains__", "Plan.__contains__", defArgs s_Plan__contains, defBody s_Plan__contains, defScope s_Plan__contains⟩
theorem sc_Plan__contains : FnScope ["self", "value", "plan"] ["self", "value"] (defScope s_Plan__contains) := ⟨rfl, rfl, rfl, by decide +kernel, rfl, by decide +kernel, by decide +kernel⟩
abbrev s_WorkerPlan__init : Stmt := inClass (top 48) 0
def d_WorkerPlan__init : WHe.DefP := ⟨fun K => He.fAd K ("WorkerPlan", some "__init__"), "__init__", "WorkerPlan.__init__", defArgs s_WorkerPlan__init, defBody s_WorkerPlan__init, defScope s_WorkerPlan__init⟩
theorem sc_WorkerPlan__init : FnScope ["self", "name", "restart", "opening", "closing", "deadline", "refused", "script", "rows"] ["self", "name", "restart", "opening", "closing", "deadline", "refused", "script"] (defScope s_WorkerPlan__init) := ⟨rfl, rfl, rfl, by decide +kernel, rfl, by decide +kernel, by decide +kernel⟩
abbrev s_WorkerPlan__eq : Stmt := inClass (top 48) 8
def d_WorkerPlan__eq : WHe.DefP := ⟨fun K => He.fAd K ("WorkerPlan", some "__eq__"), "__eq__", "WorkerPlan.__eq__", defArgs s_WorkerPlan__eq, defBody s_WorkerPlan__eq, defScope s_WorkerPlan__eq⟩
theorem sc_WorkerPlan__eq : FnScope ["self", "other"] ["self", "other"] (defScope s_WorkerPlan__eq) := ⟨rfl, rfl, rfl, by decide +kernel, rfl, by decide +kernel, by decide +kernel⟩
abbrev s_SupervisorPlan__init : Stmt := inClass (top 49) 0
def d_SupervisorPlan__init : WHe.DefP := ⟨fun K => He.fAd K ("SupervisorPlan", some "__init__"), "__init__", "SupervisorPlan.__init__", defArgs s_SupervisorPlan__init, defBody s_SupervisorPlan__init, defScope s_SupervisorPlan__init⟩
theorem sc_SupervisorPlan__init : FnScope ["self", "name", "restart", "strategy", "most", "span", "deadline", "children", "rows", "count", "depth", "index", "child"] ["self", "name", "restart", "strategy", "most", "span", "deadline", "children"] (defScope s_SupervisorPlan__init) := ⟨rfl, rfl, rfl, by decide +kernel, rfl, by decide +kernel, by decide +kernel⟩
abbrev s_SupervisorPlan_below : Stmt := inClass (top 49) 8
def d_SupervisorPlan_below : WHe.DefP := ⟨fun K => He.fAd K ("SupervisorPlan", some "below"), "below", "SupervisorPlan.below", defArgs s_SupervisorPlan_below, defBody s_SupervisorPlan_below, defScope s_SupervisorPlan_below⟩
theorem sc_SupervisorPlan_below : FnScope ["self"] ["self"] (defScope s_SupervisorPlan_below) := ⟨rfl, rfl, rfl, by decide +kernel, rfl, by decide +kernel, by decide +kernel⟩
abbrev s_SupervisorPlan__eq : Stmt := inClass (top 49) 9
def d_SupervisorPlan__eq : WHe.DefP := ⟨fun K => He.fAd K ("SupervisorPlan", some "__eq__"), "__eq__", "SupervisorPlan.__eq__", defArgs s_SupervisorPlan__eq, defBody s_SupervisorPlan__eq, defScope s_SupervisorPlan__eq⟩
theorem sc_SupervisorPlan__eq : FnScope ["self", "other"] ["self", "other"] (defScope s_SupervisorPlan__eq) := ⟨rfl, rfl, rfl, by decide +kernel, rfl, by decide +kernel, by decide +kernel⟩
abbrev s_WorkerPlan_name : Stmt := inClass (top 48) 1
def d_WorkerPlan_name : WHe.DefP := ⟨fun K => WHe.pgAd K "WorkerPlan" "name", "name", "WorkerPlan.name", defArgs s_WorkerPlan_name, defBody s_WorkerPlan_name, defScope s_WorkerPlan_name⟩
theorem sc_WorkerPlan_name : FnScope ["self"] ["self"] (defScope s_WorkerPlan_name) := ⟨rfl, rfl, rfl, by decide +kernel, rfl, by decide +kernel, by decide +kernel⟩
abbrev s_WorkerPlan_restart : Stmt := inClass (top 48) 2
def d_WorkerPlan_restart : WHe.DefP := ⟨fun K => WHe.pgAd K "WorkerPlan" "restart", "restart", "WorkerPlan.restart", defArgs s_WorkerPlan_restart, defBody s_WorkerPlan_restart, defScope s_WorkerPlan_restart⟩
theorem sc_WorkerPlan_restart : FnScope ["self"] ["self"] (defScope s_WorkerPlan_restart) := ⟨rfl, rfl, rfl, by decide +kernel, rfl, by decide +kernel, by decide +kernel⟩
abbrev s_WorkerPlan_opening : Stmt := inClass (top 48) 3
def d_WorkerPlan_opening : WHe.DefP := ⟨fun K => WHe.pgAd K "WorkerPlan" "opening", "opening", "WorkerPlan.opening", defArgs s_WorkerPlan_opening, defBody s_WorkerPlan_opening, defScope s_WorkerPlan_opening⟩
theorem sc_WorkerPlan_opening : FnScope ["self"] ["self"] (defScope s_WorkerPlan_opening) := ⟨rfl, rfl, rfl, by decide +kernel, rfl, by decide +kernel, by decide +kernel⟩
abbrev s_WorkerPlan_closing : Stmt := inClass (top 48) 4
def d_WorkerPlan_closing : WHe.DefP := ⟨fun K => WHe.pgAd K "WorkerPlan" "closing", "closing", "WorkerPlan.closing", defArgs s_WorkerPlan_closing, defBody s_WorkerPlan_closing, defScope s_WorkerPlan_closing⟩
theorem sc_WorkerPlan_closing : FnScope ["self"] ["self"] (defScope s_WorkerPlan_closing) := ⟨rfl, rfl, rfl, by decide +kernel, rfl, by decide +kernel, by decide +kernel⟩
abbrev s_WorkerPlan_deadline : Stmt := inClass (top 48) 5
def d_WorkerPlan_deadline : WHe.DefP := ⟨fun K => WHe.pgAd K "WorkerPlan" "deadline", "deadline", "WorkerPlan.deadline", defArgs s_WorkerPlan_deadline, defBody s_WorkerPlan_deadline, defScope s_WorkerPlan_deadline⟩
theorem sc_WorkerPlan_deadline : FnScope ["self"] ["self"] (defScope s_WorkerPlan_deadline) := ⟨rfl, rfl, rfl, by decide +kernel, rfl, by decide +kernel, by decide +kernel⟩
abbrev s_WorkerPlan_refused : Stmt := inClass (top 48) 6
def d_WorkerPlan_refused : WHe.DefP := ⟨fun K => WHe.pgAd K "WorkerPlan" "refused", "refused", "WorkerPlan.refused", defArgs s_WorkerPlan_refused, defBody s_WorkerPlan_refused, defScope s_WorkerPlan_refused⟩
theorem sc_WorkerPlan_refused : FnScope ["self"] ["self"] (defScope s_WorkerPlan_refused) := ⟨rfl, rfl, rfl, by decide +kernel, rfl, by decide +kernel, by decide +kernel⟩
abbrev s_WorkerPlan_script : Stmt := inClass (top 48) 7
def d_WorkerPlan_script : WHe.DefP := ⟨fun K => WHe.pgAd K "WorkerPlan" "script", "script", "WorkerPlan.script", defArgs s_WorkerPlan_script, defBody s_WorkerPlan_script, defScope s_WorkerPlan_script⟩
theorem sc_WorkerPlan_script : FnScope ["self"] ["self"] (defScope s_WorkerPlan_script) := ⟨rfl, rfl, rfl, by decide +kernel, rfl, by decide +kernel, by decide +kernel⟩
abbrev s_SupervisorPlan_name : Stmt := inClass (top 49) 1
def d_SupervisorPlan_name : WHe.DefP := ⟨fun K => WHe.pgAd K "SupervisorPlan" "name", "name", "SupervisorPlan.name", defArgs s_SupervisorPlan_name, defBody s_SupervisorPlan_name, defScope s_SupervisorPlan_name⟩
theorem sc_SupervisorPlan_name : FnScope ["self"] ["self"] (defScope s_SupervisorPlan_name) := ⟨rfl, rfl, rfl, by decide +kernel, rfl, by decide +kernel, by decide +kernel⟩
abbrev s_SupervisorPlan_restart : Stmt := inClass (top 49) 2
def d_SupervisorPlan_restart : WHe.DefP := ⟨fun K => WHe.pgAd K "SupervisorPlan" "restart", "restart", "SupervisorPlan.restart", defArgs s_SupervisorPlan_restart, defBody s_SupervisorPlan_restart, defScope s_SupervisorPlan_restart⟩
theorem sc_SupervisorPlan_restart : FnScope ["self"] ["self"] (defScope s_SupervisorPlan_restart) := ⟨rfl, rfl, rfl, by decide +kernel, rfl, by decide +kernel, by decide +kernel⟩
abbrev s_SupervisorPlan_strategy : Stmt := inClass (top 49) 3
def d_SupervisorPlan_strategy : WHe.DefP := ⟨fun K => WHe.pgAd K "SupervisorPlan" "strategy", "strategy", "SupervisorPlan.strategy", defArgs s_SupervisorPlan_strategy, defBody s_SupervisorPlan_strategy, defScope s_SupervisorPlan_strategy⟩
theorem sc_SupervisorPlan_strategy : FnScope ["self"] ["self"] (defScope s_SupervisorPlan_strategy) := ⟨rfl, rfl, rfl, by decide +kernel, rfl, by decide +kernel, by decide +kernel⟩
abbrev s_SupervisorPlan_most : Stmt := inClass (top 49) 4
def d_SupervisorPlan_most : WHe.DefP := ⟨fun K => WHe.pgAd K "SupervisorPlan" "most", "most", "SupervisorPlan.most", defArgs s_SupervisorPlan_most, defBody s_SupervisorPlan_most, defScope s_SupervisorPlan_most⟩
theorem sc_SupervisorPlan_most : FnScope ["self"] ["self"] (defScope s_SupervisorPlan_most) := ⟨rfl, rfl, rfl, by decide +kernel, rfl, by decide +kernel, by decide +kernel⟩
abbrev s_SupervisorPlan_span : Stmt := inClass (top 49) 5
def d_SupervisorPlan_span : WHe.DefP := ⟨fun K => WHe.pgAd K "SupervisorPlan" "span", "span", "SupervisorPlan.span", defArgs s_SupervisorPlan_span, defBody s_SupervisorPlan_span, defScope s_SupervisorPlan_span⟩
theorem sc_SupervisorPlan_span : FnScope ["self"] ["self"] (defScope s_SupervisorPlan_span) := ⟨rfl, rfl, rfl, by decide +kernel, rfl, by decide +kernel, by decide +kernel⟩
abbrev s_SupervisorPlan_deadline : Stmt := inClass (top 49) 6
def d_SupervisorPlan_deadline : WHe.DefP := ⟨fun K => WHe.pgAd K "SupervisorPlan" "deadline", "deadline", "SupervisorPlan.deadline", defArgs s_SupervisorPlan_deadline, defBody s_SupervisorPlan_deadline, defScope s_SupervisorPlan_deadline⟩
theorem sc_SupervisorPlan_deadline : FnScope ["self"] ["self"] (defScope s_SupervisorPlan_deadline) := ⟨rfl, rfl, rfl, by decide +kernel, rfl, by decide +kernel, by decide +kernel⟩
abbrev s_SupervisorPlan_children : Stmt := inClass (top 49) 7
def d_SupervisorPlan_children : WHe.DefP := ⟨fun K => WHe.pgAd K "SupervisorPlan" "children", "children", "SupervisorPlan.children", defArgs s_SupervisorPlan_children, defBody s_SupervisorPlan_children, defScope s_SupervisorPlan_children⟩
theorem sc_SupervisorPlan_children : FnScope ["self"] ["self"] (defScope s_SupervisorPlan_children) := ⟨rfl, rfl, rfl, by decide +kernel, rfl, by decide +kernel, by decide +kernel⟩
def fns : List WHe.DefP := [d_is_word, d_is_name, d_is_between, d_wrong_row, d_is_script, d_is_one_of, d_is_deadline, d_require, d_is_supervisor, d_supervisor_of, d_worker_of, d_values_of, d_shown, d_lines_of, d_plan_text, d_number_of, d_values_in, d_row_of, d_rows_of, d_plan_of, d_read_plan, d_L_begun, d_L_next, d_L_of, d_L_words, d_L_worker, d_L_over, d_L_tree, d_L_greatest, d_L_greater, d_L_sup, d_L_build, d_L_lines, d_L_deep, d_law, d_Plan_settings, d_Plan_below, d_Plan_with_all, d_Plan__len, d_Plan__contains, d_WorkerPlan__init, d_WorkerPlan__eq, d_SupervisorPlan__init, d_SupervisorPlan_below, d_SupervisorPlan__eq, d_WorkerPlan_name, d_WorkerPlan_restart, d_WorkerPlan_opening, d_WorkerPlan_closing, d_WorkerPlan_deadline, d_WorkerPlan_refused, d_WorkerPlan_script, d_SupervisorPlan_name, d_SupervisorPlan_restart, d_SupervisorPlan_strategy, d_SupervisorPlan_most, d_SupervisorPlan_span, d_SupervisorPlan_deadline, d_SupervisorPlan_children]
def frees : List Str := ["len", "int", "isinstance", "range", "enumerate", "str", "tuple", "zip", "all", "min", "max", "divmod", "bool", "dict"]
def globs : List Str := (["BadSetting", "BadChild", "BadText", "BadScript", "Plan", "BaseWorker", "WorkerPlan", "SupervisorPlan", "is_word", "is_name", "is_between", "wrong_row", "is_script", "is_one_of", "is_deadline", "require"] : List Str) ++ (["is_supervisor", "supervisor_of", "worker_of", "values_of", "shown", "lines_of", "plan_text", "number_of", "values_in", "row_of", "rows_of", "plan_of", "read_plan", "_law_begun", "_law_next", "_law_of"] : List Str) ++ (["_law_words", "_law_worker", "_law_over", "_law_tree", "_law_greatest", "_law_greater", "_law_sup", "_law_build", "_law_lines", "_law_deep", "law", "RESERVED", "OWN_REASONS", "OWN_WORDS", "RESTARTS", "STRATEGIES"] : List Str) ++ (["WORKER_SETTINGS", "SUPERVISOR_SETTINGS", "WORDED"] : List Str)
def cints : List (Str × Int) := [("MOST_SIGNS", 20), ("MOST_ROWS", 30), ("MOST_DEEDS", 8), ("MOST_WORK", 1000), ("MOST_TICKS", 1000000000), ("MOST_VALUE", 1000000000000), ("MOST_WAIT", 1000000000), ("MOST_CHILDREN", 12), ("MOST_DEPTH", 20), ("MOST_WHOLE", 200)]
def cstrs : List (Str × Str) := [("LETTERS", "abcdefghijklmnopqrstuvwxyz"), ("SIGNS", "abcdefghijklmnopqrstuvwxyz0123456789_"), ("INDENT", "  "), ("DIGITS", "0123456789")]
def ctups : List (Str × List He.Dv) := [("RESERVED", [.str "own", .str "sender", .str "about"]), ("OWN_REASONS", [.str "shutdown", .str "refused", .str "gave_up", .str "killed", .str "nobody"]), ("OWN_WORDS", [.str "answer", .str "back", .str "ended", .str "down", .str "told"]), ("RESTARTS", [.str "permanent", .str "transient", .str "temporary"]), ("STRATEGIES", [.str "one", .str "rest", .str "all"]), ("WORKER_SETTINGS", [.str "name", .str "restart", .str "opening", .str "closing", .str "deadline", .str "refused", .str "script"]), ("SUPERVISOR_SETTINGS", [.str "name", .str "restart", .str "strategy", .str "most", .str "span", .str "deadline"]), ("WORDED", [.str "name", .str "restart", .str "strategy"])]
def noat : List (Str × Str) := [("WorkerPlan", "own_settings"), ("WorkerPlan", "own_count"), ("WorkerPlan", "own_depth"), ("SupervisorPlan", "own_settings"), ("SupervisorPlan", "own_children"), ("SupervisorPlan", "own_count"), ("SupervisorPlan", "own_depth")]
def meths : List (Str × Str × Str) := [("WorkerPlan", "settings", "Plan"), ("WorkerPlan", "below", "Plan"), ("WorkerPlan", "with_all", "Plan"), ("WorkerPlan", "__len__", "Plan"), ("WorkerPlan", "__contains__", "Plan"), ("SupervisorPlan", "below", "SupervisorPlan"), ("SupervisorPlan", "settings", "Plan"), ("SupervisorPlan", "with_all", "Plan"), ("SupervisorPlan", "__len__", "Plan"), ("SupervisorPlan", "__contains__", "Plan")]
def props : List (Str × Str) := [("WorkerPlan", "name"), ("WorkerPlan", "restart"), ("WorkerPlan", "opening"), ("WorkerPlan", "closing"), ("WorkerPlan", "deadline"), ("WorkerPlan", "refused"), ("WorkerPlan", "script"), ("SupervisorPlan", "name"), ("SupervisorPlan", "restart"), ("SupervisorPlan", "strategy"), ("SupervisorPlan", "most"), ("SupervisorPlan", "span"), ("SupervisorPlan", "deadline"), ("SupervisorPlan", "children")]
def kits : List (Str × Str × Bool) := [("WorkerPlan", "Plan", true), ("WorkerPlan", "BaseWorker", true), ("WorkerPlan", "WorkerPlan", true), ("WorkerPlan", "SupervisorPlan", false), ("SupervisorPlan", "Plan", true), ("SupervisorPlan", "BaseWorker", false), ("SupervisorPlan", "WorkerPlan", false), ("SupervisorPlan", "SupervisorPlan", true)]
structure Env (K : PySem.W.Frag) (mg : Str → Option Value) : Type where
  sys : WXG.SysK K
  b_len : mg "len" = none
  b_int : mg "int" = none
  b_isinstance : mg "isinstance" = none
  b_range : mg "range" = none
  b_enumerate : mg "enumerate" = none
  b_str : mg "str" = none
  b_tuple : mg "tuple" = none
  b_zip : mg "zip" = none
  b_all : mg "all" = none
  b_min : mg "min" = none
  b_max : mg "max" = none
  b_divmod : mg "divmod" = none
  b_bool : mg "bool" = none
  b_dict : mg "dict" = none
  g_BadSetting : mg "BadSetting" = some (.ref (He.ga K "BadSetting"))
  g_BadChild : mg "BadChild" = some (.ref (He.ga K "BadChild"))
  g_BadText : mg "BadText" = some (.ref (He.ga K "BadText"))
  g_BadScript : mg "BadScript" = some (.ref (He.ga K "BadScript"))
  g_Plan : mg "Plan" = some (.ref (He.ga K "Plan"))
  g_BaseWorker : mg "BaseWorker" = some (.ref (He.ga K "BaseWorker"))
  g_WorkerPlan : mg "WorkerPlan" = some (.ref (He.ga K "WorkerPlan"))
  g_SupervisorPlan : mg "SupervisorPlan" = some (.ref (He.ga K "SupervisorPlan"))
  g_is_word : mg "is_word" = some (.ref (He.ga K "is_word"))
  g_is_name : mg "is_name" = some (.ref (He.ga K "is_name"))
  g_is_between : mg "is_between" = some (.ref (He.ga K "is_between"))
  g_wrong_row : mg "wrong_row" = some (.ref (He.ga K "wrong_row"))
  g_is_script : mg "is_script" = some (.ref (He.ga K "is_script"))
  g_is_one_of : mg "is_one_of" = some (.ref (He.ga K "is_one_of"))
  g_is_deadline : mg "is_deadline" = some (.ref (He.ga K "is_deadline"))
  g_require : mg "require" = some (.ref (He.ga K "require"))
  g_is_supervisor : mg "is_supervisor" = some (.ref (He.ga K "is_supervisor"))
  g_supervisor_of : mg "supervisor_of" = some (.ref (He.ga K "supervisor_of"))
  g_worker_of : mg "worker_of" = some (.ref (He.ga K "worker_of"))
  g_values_of : mg "values_of" = some (.ref (He.ga K "values_of"))
  g_shown : mg "shown" = some (.ref (He.ga K "shown"))
  g_lines_of : mg "lines_of" = some (.ref (He.ga K "lines_of"))
  g_plan_text : mg "plan_text" = some (.ref (He.ga K "plan_text"))
  g_number_of : mg "number_of" = some (.ref (He.ga K "number_of"))
  g_values_in : mg "values_in" = some (.ref (He.ga K "values_in"))
  g_row_of : mg "row_of" = some (.ref (He.ga K "row_of"))
  g_rows_of : mg "rows_of" = some (.ref (He.ga K "rows_of"))
  g_plan_of : mg "plan_of" = some (.ref (He.ga K "plan_of"))
  g_read_plan : mg "read_plan" = some (.ref (He.ga K "read_plan"))
  g__law_begun : mg "_law_begun" = some (.ref (He.ga K "_law_begun"))
  g__law_next : mg "_law_next" = some (.ref (He.ga K "_law_next"))
  g__law_of : mg "_law_of" = some (.ref (He.ga K "_law_of"))
  g__law_words : mg "_law_words" = some (.ref (He.ga K "_law_words"))
  g__law_worker : mg "_law_worker" = some (.ref (He.ga K "_law_worker"))
  g__law_over : mg "_law_over" = some (.ref (He.ga K "_law_over"))
  g__law_tree : mg "_law_tree" = some (.ref (He.ga K "_law_tree"))
  g__law_greatest : mg "_law_greatest" = some (.ref (He.ga K "_law_greatest"))
  g__law_greater : mg "_law_greater" = some (.ref (He.ga K "_law_greater"))
  g__law_sup : mg "_law_sup" = some (.ref (He.ga K "_law_sup"))
  g__law_build : mg "_law_build" = some (.ref (He.ga K "_law_build"))
  g__law_lines : mg "_law_lines" = some (.ref (He.ga K "_law_lines"))
  g__law_deep : mg "_law_deep" = some (.ref (He.ga K "_law_deep"))
  g_law : mg "law" = some (.ref (He.ga K "law"))
  g_RESERVED : mg "RESERVED" = some (.ref (He.ga K "RESERVED"))
  g_OWN_REASONS : mg "OWN_REASONS" = some (.ref (He.ga K "OWN_REASONS"))
  g_OWN_WORDS : mg "OWN_WORDS" = some (.ref (He.ga K "OWN_WORDS"))
  g_RESTARTS : mg "RESTARTS" = some (.ref (He.ga K "RESTARTS"))
  g_STRATEGIES : mg "STRATEGIES" = some (.ref (He.ga K "STRATEGIES"))
  g_WORKER_SETTINGS : mg "WORKER_SETTINGS" = some (.ref (He.ga K "WORKER_SETTINGS"))
  g_SUPERVISOR_SETTINGS : mg "SUPERVISOR_SETTINGS" = some (.ref (He.ga K "SUPERVISOR_SETTINGS"))
  g_WORDED : mg "WORDED" = some (.ref (He.ga K "WORDED"))
  c_MOST_SIGNS : ∃ u, mg "MOST_SIGNS" = some u ∧ L2.RelV (.int 20) u
  c_MOST_ROWS : ∃ u, mg "MOST_ROWS" = some u ∧ L2.RelV (.int 30) u
  c_MOST_DEEDS : ∃ u, mg "MOST_DEEDS" = some u ∧ L2.RelV (.int 8) u
  c_MOST_WORK : ∃ u, mg "MOST_WORK" = some u ∧ L2.RelV (.int 1000) u
  c_MOST_TICKS : ∃ u, mg "MOST_TICKS" = some u ∧ L2.RelV (.int 1000000000) u
  c_MOST_VALUE : ∃ u, mg "MOST_VALUE" = some u ∧ L2.RelV (.int 1000000000000) u
  c_MOST_WAIT : ∃ u, mg "MOST_WAIT" = some u ∧ L2.RelV (.int 1000000000) u
  c_MOST_CHILDREN : ∃ u, mg "MOST_CHILDREN" = some u ∧ L2.RelV (.int 12) u
  c_MOST_DEPTH : ∃ u, mg "MOST_DEPTH" = some u ∧ L2.RelV (.int 20) u
  c_MOST_WHOLE : ∃ u, mg "MOST_WHOLE" = some u ∧ L2.RelV (.int 200) u
  c_LETTERS : ∃ u, mg "LETTERS" = some u ∧ L2.RelV (.str "abcdefghijklmnopqrstuvwxyz") u
  c_SIGNS : ∃ u, mg "SIGNS" = some u ∧ L2.RelV (.str "abcdefghijklmnopqrstuvwxyz0123456789_") u
  c_INDENT : ∃ u, mg "INDENT" = some u ∧ L2.RelV (.str "  ") u
  c_DIGITS : ∃ u, mg "DIGITS" = some u ∧ L2.RelV (.str "0123456789") u
  q_RESERVED : ∀ H, SqT K H (He.ga K "RESERVED") [.str "own", .str "sender", .str "about"]
  q_OWN_REASONS : ∀ H, SqT K H (He.ga K "OWN_REASONS") [.str "shutdown", .str "refused", .str "gave_up", .str "killed", .str "nobody"]
  q_OWN_WORDS : ∀ H, SqT K H (He.ga K "OWN_WORDS") [.str "answer", .str "back", .str "ended", .str "down", .str "told"]
  q_RESTARTS : ∀ H, SqT K H (He.ga K "RESTARTS") [.str "permanent", .str "transient", .str "temporary"]
  q_STRATEGIES : ∀ H, SqT K H (He.ga K "STRATEGIES") [.str "one", .str "rest", .str "all"]
  q_WORKER_SETTINGS : ∀ H, SqT K H (He.ga K "WORKER_SETTINGS") [.str "name", .str "restart", .str "opening", .str "closing", .str "deadline", .str "refused", .str "script"]
  q_SUPERVISOR_SETTINGS : ∀ H, SqT K H (He.ga K "SUPERVISOR_SETTINGS") [.str "name", .str "restart", .str "strategy", .str "most", .str "span", .str "deadline"]
  q_WORDED : ∀ H, SqT K H (He.ga K "WORDED") [.str "name", .str "restart", .str "strategy"]
  fd_is_word : FuncData
  F_is_word : FunD K d_is_word.name d_is_word.qual d_is_word.params d_is_word.body d_is_word.scope [] [] (d_is_word.loc K) fd_is_word
  fd_is_name : FuncData
  F_is_name : FunD K d_is_name.name d_is_name.qual d_is_name.params d_is_name.body d_is_name.scope [] [] (d_is_name.loc K) fd_is_name
  fd_is_between : FuncData
  F_is_between : FunD K d_is_between.name d_is_between.qual d_is_between.params d_is_between.body d_is_between.scope [] [] (d_is_between.loc K) fd_is_between
  fd_wrong_row : FuncData
  F_wrong_row : FunD K d_wrong_row.name d_wrong_row.qual d_wrong_row.params d_wrong_row.body d_wrong_row.scope [] [] (d_wrong_row.loc K) fd_wrong_row
  fd_is_script : FuncData
  F_is_script : FunD K d_is_script.name d_is_script.qual d_is_script.params d_is_script.body d_is_script.scope [] [] (d_is_script.loc K) fd_is_script
  fd_is_one_of : FuncData
  F_is_one_of : FunD K d_is_one_of.name d_is_one_of.qual d_is_one_of.params d_is_one_of.body d_is_one_of.scope [] [] (d_is_one_of.loc K) fd_is_one_of
  fd_is_deadline : FuncData
  F_is_deadline : FunD K d_is_deadline.name d_is_deadline.qual d_is_deadline.params d_is_deadline.body d_is_deadline.scope [] [] (d_is_deadline.loc K) fd_is_deadline
  fd_require : FuncData
  F_require : FunD K d_require.name d_require.qual d_require.params d_require.body d_require.scope [] [] (d_require.loc K) fd_require
  fd_is_supervisor : FuncData
  F_is_supervisor : FunD K d_is_supervisor.name d_is_supervisor.qual d_is_supervisor.params d_is_supervisor.body d_is_supervisor.scope [] [] (d_is_supervisor.loc K) fd_is_supervisor
  fd_supervisor_of : FuncData
  F_supervisor_of : FunD K d_supervisor_of.name d_supervisor_of.qual d_supervisor_of.params d_supervisor_of.body d_supervisor_of.scope [] [] (d_supervisor_of.loc K) fd_supervisor_of
  fd_worker_of : FuncData
  F_worker_of : FunD K d_worker_of.name d_worker_of.qual d_worker_of.params d_worker_of.body d_worker_of.scope [] [] (d_worker_of.loc K) fd_worker_of
  fd_values_of : FuncData
  F_values_of : FunD K d_values_of.name d_values_of.qual d_values_of.params d_values_of.body d_values_of.scope [] [] (d_values_of.loc K) fd_values_of
  fd_shown : FuncData
  F_shown : FunD K d_shown.name d_shown.qual d_shown.params d_shown.body d_shown.scope [] [] (d_shown.loc K) fd_shown
  fd_lines_of : FuncData
  F_lines_of : FunD K d_lines_of.name d_lines_of.qual d_lines_of.params d_lines_of.body d_lines_of.scope [] [] (d_lines_of.loc K) fd_lines_of
  fd_plan_text : FuncData
  F_plan_text : FunD K d_plan_text.name d_plan_text.qual d_plan_text.params d_plan_text.body d_plan_text.scope [] [] (d_plan_text.loc K) fd_plan_text
  fd_number_of : FuncData
  F_number_of : FunD K d_number_of.name d_number_of.qual d_number_of.params d_number_of.body d_number_of.scope [] [] (d_number_of.loc K) fd_number_of
  fd_values_in : FuncData
  F_values_in : FunD K d_values_in.name d_values_in.qual d_values_in.params d_values_in.body d_values_in.scope [] [] (d_values_in.loc K) fd_values_in
  fd_row_of : FuncData
  F_row_of : FunD K d_row_of.name d_row_of.qual d_row_of.params d_row_of.body d_row_of.scope [] [] (d_row_of.loc K) fd_row_of
  fd_rows_of : FuncData
  F_rows_of : FunD K d_rows_of.name d_rows_of.qual d_rows_of.params d_rows_of.body d_rows_of.scope [] [] (d_rows_of.loc K) fd_rows_of
  fd_plan_of : FuncData
  F_plan_of : FunD K d_plan_of.name d_plan_of.qual d_plan_of.params d_plan_of.body d_plan_of.scope [] [] (d_plan_of.loc K) fd_plan_of
  fd_read_plan : FuncData
  F_read_plan : FunD K d_read_plan.name d_read_plan.qual d_read_plan.params d_read_plan.body d_read_plan.scope [] [] (d_read_plan.loc K) fd_read_plan
  fd_L_begun : FuncData
  F_L_begun : FunD K d_L_begun.name d_L_begun.qual d_L_begun.params d_L_begun.body d_L_begun.scope [] [] (d_L_begun.loc K) fd_L_begun
  fd_L_next : FuncData
  F_L_next : FunD K d_L_next.name d_L_next.qual d_L_next.params d_L_next.body d_L_next.scope [] [] (d_L_next.loc K) fd_L_next
  fd_L_of : FuncData
  F_L_of : FunD K d_L_of.name d_L_of.qual d_L_of.params d_L_of.body d_L_of.scope [] [] (d_L_of.loc K) fd_L_of
  fd_L_words : FuncData
  F_L_words : FunD K d_L_words.name d_L_words.qual d_L_words.params d_L_words.body d_L_words.scope [] [] (d_L_words.loc K) fd_L_words
  fd_L_worker : FuncData
  F_L_worker : FunD K d_L_worker.name d_L_worker.qual d_L_worker.params d_L_worker.body d_L_worker.scope [] [] (d_L_worker.loc K) fd_L_worker
  fd_L_over : FuncData
  F_L_over : FunD K d_L_over.name d_L_over.qual d_L_over.params d_L_over.body d_L_over.scope [] [] (d_L_over.loc K) fd_L_over
  fd_L_tree : FuncData
  F_L_tree : FunD K d_L_tree.name d_L_tree.qual d_L_tree.params d_L_tree.body d_L_tree.scope [] [] (d_L_tree.loc K) fd_L_tree
  fd_L_greatest : FuncData
  F_L_greatest : FunD K d_L_greatest.name d_L_greatest.qual d_L_greatest.params d_L_greatest.body d_L_greatest.scope [] [] (d_L_greatest.loc K) fd_L_greatest
  fd_L_greater : FuncData
  F_L_greater : FunD K d_L_greater.name d_L_greater.qual d_L_greater.params d_L_greater.body d_L_greater.scope [] [] (d_L_greater.loc K) fd_L_greater
  fd_L_sup : FuncData
  F_L_sup : FunD K d_L_sup.name d_L_sup.qual d_L_sup.params d_L_sup.body d_L_sup.scope [] [] (d_L_sup.loc K) fd_L_sup
  fd_L_build : FuncData
  F_L_build : FunD K d_L_build.name d_L_build.qual d_L_build.params d_L_build.body d_L_build.scope [] [] (d_L_build.loc K) fd_L_build
  fd_L_lines : FuncData
  F_L_lines : FunD K d_L_lines.name d_L_lines.qual d_L_lines.params d_L_lines.body d_L_lines.scope [] [] (d_L_lines.loc K) fd_L_lines
  fd_L_deep : FuncData
  F_L_deep : FunD K d_L_deep.name d_L_deep.qual d_L_deep.params d_L_deep.body d_L_deep.scope [] [] (d_L_deep.loc K) fd_L_deep
  fd_law : FuncData
  F_law : FunD K d_law.name d_law.qual d_law.params d_law.body d_law.scope [] [] (d_law.loc K) fd_law
  fd_Plan_settings : FuncData
  F_Plan_settings : FunD K d_Plan_settings.name d_Plan_settings.qual d_Plan_settings.params d_Plan_settings.body d_Plan_settings.scope [] [] (d_Plan_settings.loc K) fd_Plan_settings
  fd_Plan_below : FuncData
  F_Plan_below : FunD K d_Plan_below.name d_Plan_below.qual d_Plan_below.params d_Plan_below.body d_Plan_below.scope [] [] (d_Plan_below.loc K) fd_Plan_below
  fd_Plan_with_all : FuncData
  F_Plan_with_all : FunD K d_Plan_with_all.name d_Plan_with_all.qual d_Plan_with_all.params d_Plan_with_all.body d_Plan_with_all.scope [] [] (d_Plan_with_all.loc K) fd_Plan_with_all
  fd_Plan__len : FuncData
  F_Plan__len : FunD K d_Plan__len.name d_Plan__len.qual d_Plan__len.params d_Plan__len.body d_Plan__len.scope [] [] (d_Plan__len.loc K) fd_Plan__len
  fd_Plan__contains : FuncData
  F_Plan__contains : FunD K d_Plan__contains.name d_Plan__contains.qual d_Plan__contains.params d_Plan__contains.body d_Plan__contains.scope [] [] (d_Plan__contains.loc K) fd_Plan__contains
  fd_WorkerPlan__init : FuncData
  F_WorkerPlan__init : FunD K d_WorkerPlan__init.name d_WorkerPlan__init.qual d_WorkerPlan__init.params d_WorkerPlan__init.body d_WorkerPlan__init.scope [] [] (d_WorkerPlan__init.loc K) fd_WorkerPlan__init
  fd_WorkerPlan__eq : FuncData
  F_WorkerPlan__eq : FunD K d_WorkerPlan__eq.name d_WorkerPlan__eq.qual d_WorkerPlan__eq.params d_WorkerPlan__eq.body d_WorkerPlan__eq.scope [] [] (d_WorkerPlan__eq.loc K) fd_WorkerPlan__eq
  fd_SupervisorPlan__init : FuncData
  F_SupervisorPlan__init : FunD K d_SupervisorPlan__init.name d_SupervisorPlan__init.qual d_SupervisorPlan__init.params d_SupervisorPlan__init.body d_SupervisorPlan__init.scope [] [] (d_SupervisorPlan__init.loc K) fd_SupervisorPlan__init
  fd_SupervisorPlan_below : FuncData
  F_SupervisorPlan_below : FunD K d_SupervisorPlan_below.name d_SupervisorPlan_below.qual d_SupervisorPlan_below.params d_SupervisorPlan_below.body d_SupervisorPlan_below.scope [] [] (d_SupervisorPlan_below.loc K) fd_SupervisorPlan_below
  fd_SupervisorPlan__eq : FuncData
  F_SupervisorPlan__eq : FunD K d_SupervisorPlan__eq.name d_SupervisorPlan__eq.qual d_SupervisorPlan__eq.params d_SupervisorPlan__eq.body d_SupervisorPlan__eq.scope [] [] (d_SupervisorPlan__eq.loc K) fd_SupervisorPlan__eq
  fd_WorkerPlan_name : FuncData
  F_WorkerPlan_name : FunD K d_WorkerPlan_name.name d_WorkerPlan_name.qual d_WorkerPlan_name.params d_WorkerPlan_name.body d_WorkerPlan_name.scope [] [] (d_WorkerPlan_name.loc K) fd_WorkerPlan_name
  fd_WorkerPlan_restart : FuncData
  F_WorkerPlan_restart : FunD K d_WorkerPlan_restart.name d_WorkerPlan_restart.qual d_WorkerPlan_restart.params d_WorkerPlan_restart.body d_WorkerPlan_restart.scope [] [] (d_WorkerPlan_restart.loc K) fd_WorkerPlan_restart
  fd_WorkerPlan_opening : FuncData
  F_WorkerPlan_opening : FunD K d_WorkerPlan_opening.name d_WorkerPlan_opening.qual d_WorkerPlan_opening.params d_WorkerPlan_opening.body d_WorkerPlan_opening.scope [] [] (d_WorkerPlan_opening.loc K) fd_WorkerPlan_opening
  fd_WorkerPlan_closing : FuncData
  F_WorkerPlan_closing : FunD K d_WorkerPlan_closing.name d_WorkerPlan_closing.qual d_WorkerPlan_closing.params d_WorkerPlan_closing.body d_WorkerPlan_closing.scope [] [] (d_WorkerPlan_closing.loc K) fd_WorkerPlan_closing
  fd_WorkerPlan_deadline : FuncData
  F_WorkerPlan_deadline : FunD K d_WorkerPlan_deadline.name d_WorkerPlan_deadline.qual d_WorkerPlan_deadline.params d_WorkerPlan_deadline.body d_WorkerPlan_deadline.scope [] [] (d_WorkerPlan_deadline.loc K) fd_WorkerPlan_deadline
  fd_WorkerPlan_refused : FuncData
  F_WorkerPlan_refused : FunD K d_WorkerPlan_refused.name d_WorkerPlan_refused.qual d_WorkerPlan_refused.params d_WorkerPlan_refused.body d_WorkerPlan_refused.scope [] [] (d_WorkerPlan_refused.loc K) fd_WorkerPlan_refused
  fd_WorkerPlan_script : FuncData
  F_WorkerPlan_script : FunD K d_WorkerPlan_script.name d_WorkerPlan_script.qual d_WorkerPlan_script.params d_WorkerPlan_script.body d_WorkerPlan_script.scope [] [] (d_WorkerPlan_script.loc K) fd_WorkerPlan_script
  fd_SupervisorPlan_name : FuncData
  F_SupervisorPlan_name : FunD K d_SupervisorPlan_name.name d_SupervisorPlan_name.qual d_SupervisorPlan_name.params d_SupervisorPlan_name.body d_SupervisorPlan_name.scope [] [] (d_SupervisorPlan_name.loc K) fd_SupervisorPlan_name
  fd_SupervisorPlan_restart : FuncData
  F_SupervisorPlan_restart : FunD K d_SupervisorPlan_restart.name d_SupervisorPlan_restart.qual d_SupervisorPlan_restart.params d_SupervisorPlan_restart.body d_SupervisorPlan_restart.scope [] [] (d_SupervisorPlan_restart.loc K) fd_SupervisorPlan_restart
  fd_SupervisorPlan_strategy : FuncData
  F_SupervisorPlan_strategy : FunD K d_SupervisorPlan_strategy.name d_SupervisorPlan_strategy.qual d_SupervisorPlan_strategy.params d_SupervisorPlan_strategy.body d_SupervisorPlan_strategy.scope [] [] (d_SupervisorPlan_strategy.loc K) fd_SupervisorPlan_strategy
  fd_SupervisorPlan_most : FuncData
  F_SupervisorPlan_most : FunD K d_SupervisorPlan_most.name d_SupervisorPlan_most.qual d_SupervisorPlan_most.params d_SupervisorPlan_most.body d_SupervisorPlan_most.scope [] [] (d_SupervisorPlan_most.loc K) fd_SupervisorPlan_most
  fd_SupervisorPlan_span : FuncData
  F_SupervisorPlan_span : FunD K d_SupervisorPlan_span.name d_SupervisorPlan_span.qual d_SupervisorPlan_span.params d_SupervisorPlan_span.body d_SupervisorPlan_span.scope [] [] (d_SupervisorPlan_span.loc K) fd_SupervisorPlan_span
  fd_SupervisorPlan_deadline : FuncData
  F_SupervisorPlan_deadline : FunD K d_SupervisorPlan_deadline.name d_SupervisorPlan_deadline.qual d_SupervisorPlan_deadline.params d_SupervisorPlan_deadline.body d_SupervisorPlan_deadline.scope [] [] (d_SupervisorPlan_deadline.loc K) fd_SupervisorPlan_deadline
  fd_SupervisorPlan_children : FuncData
  F_SupervisorPlan_children : FunD K d_SupervisorPlan_children.name d_SupervisorPlan_children.qual d_SupervisorPlan_children.params d_SupervisorPlan_children.body d_SupervisorPlan_children.scope [] [] (d_SupervisorPlan_children.loc K) fd_SupervisorPlan_children
  n_WorkerPlan_own_settings : NoAttr K (He.ga K "WorkerPlan") "own_settings"
  n_WorkerPlan_own_count : NoAttr K (He.ga K "WorkerPlan") "own_count"
  n_WorkerPlan_own_depth : NoAttr K (He.ga K "WorkerPlan") "own_depth"
  n_SupervisorPlan_own_settings : NoAttr K (He.ga K "SupervisorPlan") "own_settings"
  n_SupervisorPlan_own_children : NoAttr K (He.ga K "SupervisorPlan") "own_children"
  n_SupervisorPlan_own_count : NoAttr K (He.ga K "SupervisorPlan") "own_count"
  n_SupervisorPlan_own_depth : NoAttr K (He.ga K "SupervisorPlan") "own_depth"
  m_WorkerPlan_settings : Meth K (He.ga K "WorkerPlan") "settings" (He.fAd K ("Plan", some "settings"))
  m_WorkerPlan_below : Meth K (He.ga K "WorkerPlan") "below" (He.fAd K ("Plan", some "below"))
  m_WorkerPlan_with_all : Meth K (He.ga K "WorkerPlan") "with_all" (He.fAd K ("Plan", some "with_all"))
  m_WorkerPlan___len__ : Meth K (He.ga K "WorkerPlan") "__len__" (He.fAd K ("Plan", some "__len__"))
  m_WorkerPlan___contains__ : Meth K (He.ga K "WorkerPlan") "__contains__" (He.fAd K ("Plan", some "__contains__"))
  m_SupervisorPlan_below : Meth K (He.ga K "SupervisorPlan") "below" (He.fAd K ("SupervisorPlan", some "below"))
  m_SupervisorPlan_settings : Meth K (He.ga K "SupervisorPlan") "settings" (He.fAd K ("Plan", some "settings"))
  m_SupervisorPlan_with_all : Meth K (He.ga K "SupervisorPlan") "with_all" (He.fAd K ("Plan", some "with_all"))
  m_SupervisorPlan___len__ : Meth K (He.ga K "SupervisorPlan") "__len__" (He.fAd K ("Plan", some "__len__"))
  m_SupervisorPlan___contains__ : Meth K (He.ga K "SupervisorPlan") "__contains__" (He.fAd K ("Plan", some "__contains__"))
  p_WorkerPlan_name : PropOf K (He.ga K "WorkerPlan") "name" (He.ma K (He.ga K "WorkerPlan") "name") (WHe.pgAd K "WorkerPlan" "name")
  p_WorkerPlan_restart : PropOf K (He.ga K "WorkerPlan") "restart" (He.ma K (He.ga K "WorkerPlan") "restart") (WHe.pgAd K "WorkerPlan" "restart")
  p_WorkerPlan_opening : PropOf K (He.ga K "WorkerPlan") "opening" (He.ma K (He.ga K "WorkerPlan") "opening") (WHe.pgAd K "WorkerPlan" "opening")
  p_WorkerPlan_closing : PropOf K (He.ga K "WorkerPlan") "closing" (He.ma K (He.ga K "WorkerPlan") "closing") (WHe.pgAd K "WorkerPlan" "closing")
  p_WorkerPlan_deadline : PropOf K (He.ga K "WorkerPlan") "deadline" (He.ma K (He.ga K "WorkerPlan") "deadline") (WHe.pgAd K "WorkerPlan" "deadline")
  p_WorkerPlan_refused : PropOf K (He.ga K "WorkerPlan") "refused" (He.ma K (He.ga K "WorkerPlan") "refused") (WHe.pgAd K "WorkerPlan" "refused")
  p_WorkerPlan_script : PropOf K (He.ga K "WorkerPlan") "script" (He.ma K (He.ga K "WorkerPlan") "script") (WHe.pgAd K "WorkerPlan" "script")
  p_SupervisorPlan_name : PropOf K (He.ga K "SupervisorPlan") "name" (He.ma K (He.ga K "SupervisorPlan") "name") (WHe.pgAd K "SupervisorPlan" "name")
  p_SupervisorPlan_restart : PropOf K (He.ga K "SupervisorPlan") "restart" (He.ma K (He.ga K "SupervisorPlan") "restart") (WHe.pgAd K "SupervisorPlan" "restart")
  p_SupervisorPlan_strategy : PropOf K (He.ga K "SupervisorPlan") "strategy" (He.ma K (He.ga K "SupervisorPlan") "strategy") (WHe.pgAd K "SupervisorPlan" "strategy")
  p_SupervisorPlan_most : PropOf K (He.ga K "SupervisorPlan") "most" (He.ma K (He.ga K "SupervisorPlan") "most") (WHe.pgAd K "SupervisorPlan" "most")
  p_SupervisorPlan_span : PropOf K (He.ga K "SupervisorPlan") "span" (He.ma K (He.ga K "SupervisorPlan") "span") (WHe.pgAd K "SupervisorPlan" "span")
  p_SupervisorPlan_deadline : PropOf K (He.ga K "SupervisorPlan") "deadline" (He.ma K (He.ga K "SupervisorPlan") "deadline") (WHe.pgAd K "SupervisorPlan" "deadline")
  p_SupervisorPlan_children : PropOf K (He.ga K "SupervisorPlan") "children" (He.ma K (He.ga K "SupervisorPlan") "children") (WHe.pgAd K "SupervisorPlan" "children")
  mk_WorkerPlan : Mk K (He.ga K "WorkerPlan") (He.fAd K ("WorkerPlan", some "__init__"))
  dc_WorkerPlan : WHe.DatC K (He.ga K "WorkerPlan") (He.fAd K ("WorkerPlan", some "__eq__"))
  mk_SupervisorPlan : Mk K (He.ga K "SupervisorPlan") (He.fAd K ("SupervisorPlan", some "__init__"))
  dc_SupervisorPlan : WHe.DatC K (He.ga K "SupervisorPlan") (He.fAd K ("SupervisorPlan", some "__eq__"))
  k_WorkerPlan_Plan : PySem.W.kitOne K (.ref (He.ga K "WorkerPlan")) (.ref (He.ga K "Plan")) = some true
  k_WorkerPlan_BaseWorker : PySem.W.kitOne K (.ref (He.ga K "WorkerPlan")) (.ref (He.ga K "BaseWorker")) = some true
  k_WorkerPlan_WorkerPlan : PySem.W.kitOne K (.ref (He.ga K "WorkerPlan")) (.ref (He.ga K "WorkerPlan")) = some true
  k_WorkerPlan_SupervisorPlan : PySem.W.kitOne K (.ref (He.ga K "WorkerPlan")) (.ref (He.ga K "SupervisorPlan")) = some false
  k_SupervisorPlan_Plan : PySem.W.kitOne K (.ref (He.ga K "SupervisorPlan")) (.ref (He.ga K "Plan")) = some true
  k_SupervisorPlan_BaseWorker : PySem.W.kitOne K (.ref (He.ga K "SupervisorPlan")) (.ref (He.ga K "BaseWorker")) = some false
  k_SupervisorPlan_WorkerPlan : PySem.W.kitOne K (.ref (He.ga K "SupervisorPlan")) (.ref (He.ga K "WorkerPlan")) = some false
  k_SupervisorPlan_SupervisorPlan : PySem.W.kitOne K (.ref (He.ga K "SupervisorPlan")) (.ref (He.ga K "SupervisorPlan")) = some true
section
variable {K : PySem.W.Frag} {mg : Str → Option Value}
theorem Env.bi_is_word (T : Env K mg) : Binds K T.fd_is_word ["value"] [] := T.F_is_word.bindsN fun _ _ _ _ _ _ us hl => match us, hl with | [_], _ => rfl
theorem Env.bi_is_name (T : Env K mg) : Binds K T.fd_is_name ["value"] [] := T.F_is_name.bindsN fun _ _ _ _ _ _ us hl => match us, hl with | [_], _ => rfl
theorem Env.bi_is_between (T : Env K mg) : Binds K T.fd_is_between ["value", "low", "high"] [] := T.F_is_between.bindsN fun _ _ _ _ _ _ us hl => match us, hl with | [_, _, _], _ => rfl
theorem Env.bi_wrong_row (T : Env K mg) : Binds K T.fd_wrong_row ["script"] [] := T.F_wrong_row.bindsN fun _ _ _ _ _ _ us hl => match us, hl with | [_], _ => rfl
theorem Env.bi_is_script (T : Env K mg) : Binds K T.fd_is_script ["value"] [] := T.F_is_script.bindsN fun _ _ _ _ _ _ us hl => match us, hl with | [_], _ => rfl
theorem Env.bi_is_one_of (T : Env K mg) : Binds K T.fd_is_one_of ["value", "words"] [] := T.F_is_one_of.bindsN fun _ _ _ _ _ _ us hl => match us, hl with | [_, _], _ => rfl
theorem Env.bi_is_deadline (T : Env K mg) : Binds K T.fd_is_deadline ["value"] [] := T.F_is_deadline.bindsN fun _ _ _ _ _ _ us hl => match us, hl with | [_], _ => rfl
theorem Env.bi_require (T : Env K mg) : Binds K T.fd_require ["rows"] [] := T.F_require.bindsN fun _ _ _ _ _ _ us hl => match us, hl with | [_], _ => rfl
theorem Env.bi_is_supervisor (T : Env K mg) : Binds K T.fd_is_supervisor ["plan"] [] := T.F_is_supervisor.bindsN fun _ _ _ _ _ _ us hl => match us, hl with | [_], _ => rfl
theorem Env.bi_supervisor_of (T : Env K mg) : Binds K T.fd_supervisor_of ["values", "children"] [] := T.F_supervisor_of.bindsN fun _ _ _ _ _ _ us hl => match us, hl with | [_, _], _ => rfl
theorem Env.bi_worker_of (T : Env K mg) : Binds K T.fd_worker_of ["values"] [] := T.F_worker_of.bindsN fun _ _ _ _ _ _ us hl => match us, hl with | [_], _ => rfl
theorem Env.bi_values_of (T : Env K mg) : Binds K T.fd_values_of ["plan"] [] := T.F_values_of.bindsN fun _ _ _ _ _ _ us hl => match us, hl with | [_], _ => rfl
theorem Env.bi_shown (T : Env K mg) : Binds K T.fd_shown ["value"] [] := T.F_shown.bindsN fun _ _ _ _ _ _ us hl => match us, hl with | [_], _ => rfl
theorem Env.bi_lines_of (T : Env K mg) : Binds K T.fd_lines_of ["plan", "level"] [] := T.F_lines_of.bindsN fun _ _ _ _ _ _ us hl => match us, hl with | [_, _], _ => rfl
theorem Env.bi_plan_text (T : Env K mg) : Binds K T.fd_plan_text ["plan"] [] := T.F_plan_text.bindsN fun _ _ _ _ _ _ us hl => match us, hl with | [_], _ => rfl
theorem Env.bi_number_of (T : Env K mg) : Binds K T.fd_number_of ["word"] [] := T.F_number_of.bindsN fun _ _ _ _ _ _ us hl => match us, hl with | [_], _ => rfl
theorem Env.bi_values_in (T : Env K mg) : Binds K T.fd_values_in ["words"] [] := T.F_values_in.bindsN fun _ _ _ _ _ _ us hl => match us, hl with | [_], _ => rfl
theorem Env.bi_row_of (T : Env K mg) : Binds K T.fd_row_of ["line"] [] := T.F_row_of.bindsN fun _ _ _ _ _ _ us hl => match us, hl with | [_], _ => rfl
theorem Env.bi_rows_of (T : Env K mg) : Binds K T.fd_rows_of ["text"] [] := T.F_rows_of.bindsN fun _ _ _ _ _ _ us hl => match us, hl with | [_], _ => rfl
theorem Env.bi_plan_of (T : Env K mg) : Binds K T.fd_plan_of ["rows", "at"] [] := T.F_plan_of.bindsN fun _ _ _ _ _ _ us hl => match us, hl with | [_, _], _ => rfl
theorem Env.bi_read_plan (T : Env K mg) : Binds K T.fd_read_plan ["text"] [] := T.F_read_plan.bindsN fun _ _ _ _ _ _ us hl => match us, hl with | [_], _ => rfl
theorem Env.bi_L_begun (T : Env K mg) : Binds K T.fd_L_begun ["cells"] [] := T.F_L_begun.bindsN fun _ _ _ _ _ _ us hl => match us, hl with | [_], _ => rfl
theorem Env.bi_L_next (T : Env K mg) : Binds K T.fd_L_next ["m", "total"] [] := T.F_L_next.bindsN fun _ _ _ _ _ _ us hl => match us, hl with | [_, _], _ => rfl
theorem Env.bi_L_of (T : Env K mg) : Binds K T.fd_L_of ["m", "items"] [] := T.F_L_of.bindsN fun _ _ _ _ _ _ us hl => match us, hl with | [_, _], _ => rfl
theorem Env.bi_L_words (T : Env K mg) : Binds K T.fd_L_words ["m", "many"] [] := T.F_L_words.bindsN fun _ _ _ _ _ _ us hl => match us, hl with | [_, _], _ => rfl
theorem Env.bi_L_worker (T : Env K mg) : Binds K T.fd_L_worker ["m", "label"] [] := T.F_L_worker.bindsN fun _ _ _ _ _ _ us hl => match us, hl with | [_, _], _ => rfl
theorem Env.bi_L_over (T : Env K mg) : Binds K T.fd_L_over ["m", "label", "kids"] [] := T.F_L_over.bindsN fun _ _ _ _ _ _ us hl => match us, hl with | [_, _, _], _ => rfl
theorem Env.bi_L_tree (T : Env K mg) : Binds K T.fd_L_tree ["m", "free", "level"] [] := T.F_L_tree.bindsN fun _ _ _ _ _ _ us hl => match us, hl with | [_, _, _], _ => rfl
theorem Env.bi_L_greatest (T : Env K mg) : Binds K T.fd_L_greatest ["label", "c", "s"] [] := T.F_L_greatest.bindsN fun _ _ _ _ _ _ us hl => match us, hl with | [_, _, _], _ => rfl
theorem Env.bi_L_greater (T : Env K mg) : Binds K T.fd_L_greater ["label", "c", "s"] [] := T.F_L_greater.bindsN fun _ _ _ _ _ _ us hl => match us, hl with | [_, _, _], _ => rfl
theorem Env.bi_L_sup (T : Env K mg) : Binds K T.fd_L_sup ["label", "c", "s"] [] := T.F_L_sup.bindsN fun _ _ _ _ _ _ us hl => match us, hl with | [_, _, _], _ => rfl
theorem Env.bi_L_build (T : Env K mg) : Binds K T.fd_L_build ["d"] [] := T.F_L_build.bindsN fun _ _ _ _ _ _ us hl => match us, hl with | [_], _ => rfl
theorem Env.bi_L_lines (T : Env K mg) : Binds K T.fd_L_lines ["d", "level"] [] := T.F_L_lines.bindsN fun _ _ _ _ _ _ us hl => match us, hl with | [_, _], _ => rfl
theorem Env.bi_L_deep (T : Env K mg) : Binds K T.fd_L_deep ["m", "free"] [] := T.F_L_deep.bindsN fun _ _ _ _ _ _ us hl => match us, hl with | [_, _], _ => rfl
theorem Env.bi_law (T : Env K mg) : Binds K T.fd_law ["cells"] [] := T.F_law.bindsN fun _ _ _ _ _ _ us hl => match us, hl with | [_], _ => rfl
theorem Env.bi_Plan_settings (T : Env K mg) : Binds K T.fd_Plan_settings ["self"] [] := T.F_Plan_settings.bindsN fun _ _ _ _ _ _ us hl => match us, hl with | [_], _ => rfl
theorem Env.bi_Plan_below (T : Env K mg) : Binds K T.fd_Plan_below ["self"] [] := T.F_Plan_below.bindsN fun _ _ _ _ _ _ us hl => match us, hl with | [_], _ => rfl
theorem Env.bi_Plan_with_all (T : Env K mg) : Binds K T.fd_Plan_with_all ["self"] [] := T.F_Plan_with_all.bindsN fun _ _ _ _ _ _ us hl => match us, hl with | [_], _ => rfl
theorem Env.bi_Plan__len (T : Env K mg) : Binds K T.fd_Plan__len ["self"] [] := T.F_Plan__len.bindsN fun _ _ _ _ _ _ us hl => match us, hl with | [_], _ => rfl
theorem Env.bi_Plan__contains (T : Env K mg) : Binds K T.fd_Plan__contains ["self", "value"] [] := T.F_Plan__contains.bindsN fun _ _ _ _ _ _ us hl => match us, hl with | [_, _], _ => rfl
theorem Env.bi_WorkerPlan__eq (T : Env K mg) : Binds K T.fd_WorkerPlan__eq ["self", "other"] [] := T.F_WorkerPlan__eq.bindsN fun _ _ _ _ _ _ us hl => match us, hl with | [_, _], _ => rfl
theorem Env.bi_SupervisorPlan_below (T : Env K mg) : Binds K T.fd_SupervisorPlan_below ["self"] [] := T.F_SupervisorPlan_below.bindsN fun _ _ _ _ _ _ us hl => match us, hl with | [_], _ => rfl
theorem Env.bi_SupervisorPlan__eq (T : Env K mg) : Binds K T.fd_SupervisorPlan__eq ["self", "other"] [] := T.F_SupervisorPlan__eq.bindsN fun _ _ _ _ _ _ us hl => match us, hl with | [_, _], _ => rfl
theorem Env.bi_WorkerPlan_name (T : Env K mg) : Binds K T.fd_WorkerPlan_name ["self"] [] := T.F_WorkerPlan_name.bindsN fun _ _ _ _ _ _ us hl => match us, hl with | [_], _ => rfl
theorem Env.bi_WorkerPlan_restart (T : Env K mg) : Binds K T.fd_WorkerPlan_restart ["self"] [] := T.F_WorkerPlan_restart.bindsN fun _ _ _ _ _ _ us hl => match us, hl with | [_], _ => rfl
theorem Env.bi_WorkerPlan_opening (T : Env K mg) : Binds K T.fd_WorkerPlan_opening ["self"] [] := T.F_WorkerPlan_opening.bindsN fun _ _ _ _ _ _ us hl => match us, hl with | [_], _ => rfl
theorem Env.bi_WorkerPlan_closing (T : Env K mg) : Binds K T.fd_WorkerPlan_closing ["self"] [] := T.F_WorkerPlan_closing.bindsN fun _ _ _ _ _ _ us hl => match us, hl with | [_], _ => rfl
theorem Env.bi_WorkerPlan_deadline (T : Env K mg) : Binds K T.fd_WorkerPlan_deadline ["self"] [] := T.F_WorkerPlan_deadline.bindsN fun _ _ _ _ _ _ us hl => match us, hl with | [_], _ => rfl
theorem Env.bi_WorkerPlan_refused (T : Env K mg) : Binds K T.fd_WorkerPlan_refused ["self"] [] := T.F_WorkerPlan_refused.bindsN fun _ _ _ _ _ _ us hl => match us, hl with | [_], _ => rfl
theorem Env.bi_WorkerPlan_script (T : Env K mg) : Binds K T.fd_WorkerPlan_script ["self"] [] := T.F_WorkerPlan_script.bindsN fun _ _ _ _ _ _ us hl => match us, hl with | [_], _ => rfl
theorem Env.bi_SupervisorPlan_name (T : Env K mg) : Binds K T.fd_SupervisorPlan_name ["self"] [] := T.F_SupervisorPlan_name.bindsN fun _ _ _ _ _ _ us hl => match us, hl with | [_], _ => rfl
theorem Env.bi_SupervisorPlan_restart (T : Env K mg) : Binds K T.fd_SupervisorPlan_restart ["self"] [] := T.F_SupervisorPlan_restart.bindsN fun _ _ _ _ _ _ us hl => match us, hl with | [_], _ => rfl
theorem Env.bi_SupervisorPlan_strategy (T : Env K mg) : Binds K T.fd_SupervisorPlan_strategy ["self"] [] := T.F_SupervisorPlan_strategy.bindsN fun _ _ _ _ _ _ us hl => match us, hl with | [_], _ => rfl
theorem Env.bi_SupervisorPlan_most (T : Env K mg) : Binds K T.fd_SupervisorPlan_most ["self"] [] := T.F_SupervisorPlan_most.bindsN fun _ _ _ _ _ _ us hl => match us, hl with | [_], _ => rfl
theorem Env.bi_SupervisorPlan_span (T : Env K mg) : Binds K T.fd_SupervisorPlan_span ["self"] [] := T.F_SupervisorPlan_span.bindsN fun _ _ _ _ _ _ us hl => match us, hl with | [_], _ => rfl
theorem Env.bi_SupervisorPlan_deadline (T : Env K mg) : Binds K T.fd_SupervisorPlan_deadline ["self"] [] := T.F_SupervisorPlan_deadline.bindsN fun _ _ _ _ _ _ us hl => match us, hl with | [_], _ => rfl
theorem Env.bi_SupervisorPlan_children (T : Env K mg) : Binds K T.fd_SupervisorPlan_children ["self"] [] := T.F_SupervisorPlan_children.bindsN fun _ _ _ _ _ _ us hl => match us, hl with | [_], _ => rfl
end
end W06

set_option Elab.async false
set_option linter.all false
set_option maxRecDepth 100000
set_option maxHeartbeats 4000000
namespace W06
open PySem PySem.Spec PyProof.Rows L2
def chk (K : PySem.W.Frag) : Bool := WHe.sysB K && (frees.all (fun x => He.eqO (PySem.W.nsIn K mainGlobals x) (some none)) && (globs.all (fun x => He.eqO (PySem.W.nsIn K mainGlobals x) (some (some (.ref (He.ga K x))))) &&
  (cints.all (fun q => (He.Fa.int q.1 q.2).ok K) && (cstrs.all (fun q => (He.Fa.str q.1 q.2).ok K) && (ctups.all (fun q => He.tupB K q.1 q.2) && (noat.all (fun q => (He.Fa.noat q.1 q.2).ok K) && (meths.all (fun q => WHe.methB K q.1 q.2.1 q.2.2) &&
  (props.all (fun q => WHe.propB K q.1 q.2) && ((["WorkerPlan", "SupervisorPlan"] : List Str).all (fun C => (He.Fa.mkr C).ok K && WHe.datB K C) && kits.all (WHe.kitB K))))))))))
theorem at_ {α : Type} {l : List α} {p : α → Bool} (h : l.all p = true) (i : Nat) {x : α} (e : l[i]? = some x) : p x = true := List.all_eq_true.mp h x (List.mem_of_getElem? e)
theorem env_of {K : PySem.W.Frag} {h : Heap} {mg : Str → Option Value} (X : K.In h) (G : h.Ns mainGlobals mg) (c : WHe.SaysK chk fns K) : Nonempty (Env K mg) := by
  obtain ⟨c0, cc⟩ := He.ba c.chk_
  obtain ⟨c1, cc⟩ := He.ba cc
  obtain ⟨c2, cc⟩ := He.ba cc
  obtain ⟨c3, cc⟩ := He.ba cc
  obtain ⟨c4, cc⟩ := He.ba cc
  obtain ⟨c5, cc⟩ := He.ba cc
  obtain ⟨c6, cc⟩ := He.ba cc
  obtain ⟨c7, cc⟩ := He.ba cc
  obtain ⟨c8, cc⟩ := He.ba cc
  obtain ⟨c9, ca⟩ := He.ba cc
  have fr : ∀ (i : Nat) {x : Str}, frees[i]? = some x → mg x = none := fun i x e => PySem.W.mg_none_of X G (He.eqO_ok (at_ c1 i e))
  have gl : ∀ (i : Nat) {x : Str}, globs[i]? = some x → mg x = some (.ref (He.ga K x)) := fun i x e => PySem.W.mg_of X G (He.eqO_ok (at_ c2 i e))
  have ci : ∀ (i : Nat) {x : Str} {n : Int}, cints[i]? = some (x, n) → ∃ u, mg x = some u ∧ L2.RelV (.int n) u := fun i x n e => by
    obtain ⟨t, q⟩ := He.int_ok X G (at_ c3 i e)
    exact ⟨_, q, t, rfl⟩
  have cs : ∀ (i : Nat) {x z : Str}, cstrs[i]? = some (x, z) → ∃ u, mg x = some u ∧ L2.RelV (.str z) u := fun i x z e => by
    obtain ⟨t, q⟩ := He.str_ok X G (at_ c4 i e)
    exact ⟨_, q, t, rfl⟩
  obtain ⟨fd0, F0⟩ := c.def_ 0 (d := d_is_word) rfl
  obtain ⟨fd1, F1⟩ := c.def_ 1 (d := d_is_name) rfl
  obtain ⟨fd2, F2⟩ := c.def_ 2 (d := d_is_between) rfl
  obtain ⟨fd3, F3⟩ := c.def_ 3 (d := d_wrong_row) rfl
  obtain ⟨fd4, F4⟩ := c.def_ 4 (d := d_is_script) rfl
  obtain ⟨fd5, F5⟩ := c.def_ 5 (d := d_is_one_of) rfl
  obtain ⟨fd6, F6⟩ := c.def_ 6 (d := d_is_deadline) rfl
  obtain ⟨fd7, F7⟩ := c.def_ 7 (d := d_require) rfl
  obtain ⟨fd8, F8⟩ := c.def_ 8 (d := d_is_supervisor) rfl
  obtain ⟨fd9, F9⟩ := c.def_ 9 (d := d_supervisor_of) rfl
  obtain ⟨fd10, F10⟩ := c.def_ 10 (d := d_worker_of) rfl
  obtain ⟨fd11, F11⟩ := c.def_ 11 (d := d_values_of) rfl
  obtain ⟨fd12, F12⟩ := c.def_ 12 (d := d_shown) rfl
  obtain ⟨fd13, F13⟩ := c.def_ 13 (d := d_lines_of) rfl
  obtain ⟨fd14, F14⟩ := c.def_ 14 (d := d_plan_text) rfl
  obtain ⟨fd15, F15⟩ := c.def_ 15 (d := d_number_of) rfl
  obtain ⟨fd16, F16⟩ := c.def_ 16 (d := d_values_in) rfl
  obtain ⟨fd17, F17⟩ := c.def_ 17 (d := d_row_of) rfl
  obtain ⟨fd18, F18⟩ := c.def_ 18 (d := d_rows_of) rfl
  obtain ⟨fd19, F19⟩ := c.def_ 19 (d := d_plan_of) rfl
  obtain ⟨fd20, F20⟩ := c.def_ 20 (d := d_read_plan) rfl
  obtain ⟨fd21, F21⟩ := c.def_ 21 (d := d_L_begun) rfl
  obtain ⟨fd22, F22⟩ := c.def_ 22 (d := d_L_next) rfl
  obtain ⟨fd23, F23⟩ := c.def_ 23 (d := d_L_of) rfl
  obtain ⟨fd24, F24⟩ := c.def_ 24 (d := d_L_words) rfl
  obtain ⟨fd25, F25⟩ := c.def_ 25 (d := d_L_worker) rfl
  obtain ⟨fd26, F26⟩ := c.def_ 26 (d := d_L_over) rfl
  obtain ⟨fd27, F27⟩ := c.def_ 27 (d := d_L_tree) rfl
  obtain ⟨fd28, F28⟩ := c.def_ 28 (d := d_L_greatest) rfl
  obtain ⟨fd29, F29⟩ := c.def_ 29 (d := d_L_greater) rfl
  obtain ⟨fd30, F30⟩ := c.def_ 30 (d := d_L_sup) rfl
  obtain ⟨fd31, F31⟩ := c.def_ 31 (d := d_L_build) rfl
  obtain ⟨fd32, F32⟩ := c.def_ 32 (d := d_L_lines) rfl
  obtain ⟨fd33, F33⟩ := c.def_ 33 (d := d_L_deep) rfl
  obtain ⟨fd34, F34⟩ := c.def_ 34 (d := d_law) rfl
  obtain ⟨fd35, F35⟩ := c.def_ 35 (d := d_Plan_settings) rfl
  obtain ⟨fd36, F36⟩ := c.def_ 36 (d := d_Plan_below) rfl
  obtain ⟨fd37, F37⟩ := c.def_ 37 (d := d_Plan_with_all) rfl
  obtain ⟨fd38, F38⟩ := c.def_ 38 (d := d_Plan__len) rfl
  obtain ⟨fd39, F39⟩ := c.def_ 39 (d := d_Plan__contains) rfl
  obtain ⟨fd40, F40⟩ := c.def_ 40 (d := d_WorkerPlan__init) rfl
  obtain ⟨fd41, F41⟩ := c.def_ 41 (d := d_WorkerPlan__eq) rfl
  obtain ⟨fd42, F42⟩ := c.def_ 42 (d := d_SupervisorPlan__init) rfl
  obtain ⟨fd43, F43⟩ := c.def_ 43 (d := d_SupervisorPlan_below) rfl
  obtain ⟨fd44, F44⟩ := c.def_ 44 (d := d_SupervisorPlan__eq) rfl
  obtain ⟨fd45, F45⟩ := c.def_ 45 (d := d_WorkerPlan_name) rfl
  obtain ⟨fd46, F46⟩ := c.def_ 46 (d := d_WorkerPlan_restart) rfl
  obtain ⟨fd47, F47⟩ := c.def_ 47 (d := d_WorkerPlan_opening) rfl
  obtain ⟨fd48, F48⟩ := c.def_ 48 (d := d_WorkerPlan_closing) rfl
  obtain ⟨fd49, F49⟩ := c.def_ 49 (d := d_WorkerPlan_deadline) rfl
  obtain ⟨fd50, F50⟩ := c.def_ 50 (d := d_WorkerPlan_refused) rfl
  obtain ⟨fd51, F51⟩ := c.def_ 51 (d := d_WorkerPlan_script) rfl
  obtain ⟨fd52, F52⟩ := c.def_ 52 (d := d_SupervisorPlan_name) rfl
  obtain ⟨fd53, F53⟩ := c.def_ 53 (d := d_SupervisorPlan_restart) rfl
  obtain ⟨fd54, F54⟩ := c.def_ 54 (d := d_SupervisorPlan_strategy) rfl
  obtain ⟨fd55, F55⟩ := c.def_ 55 (d := d_SupervisorPlan_most) rfl
  obtain ⟨fd56, F56⟩ := c.def_ 56 (d := d_SupervisorPlan_span) rfl
  obtain ⟨fd57, F57⟩ := c.def_ 57 (d := d_SupervisorPlan_deadline) rfl
  obtain ⟨fd58, F58⟩ := c.def_ 58 (d := d_SupervisorPlan_children) rfl
  refine ⟨{ sys := WHe.sysB_ok c0
            b_len := fr 0 rfl
            b_int := fr 1 rfl
            b_isinstance := fr 2 rfl
            b_range := fr 3 rfl
            b_enumerate := fr 4 rfl
            b_str := fr 5 rfl
            b_tuple := fr 6 rfl
            b_zip := fr 7 rfl
            b_all := fr 8 rfl
            b_min := fr 9 rfl
            b_max := fr 10 rfl
            b_divmod := fr 11 rfl
            b_bool := fr 12 rfl
            b_dict := fr 13 rfl
            g_BadSetting := gl 0 rfl
            g_BadChild := gl 1 rfl
            g_BadText := gl 2 rfl
            g_BadScript := gl 3 rfl
            g_Plan := gl 4 rfl
            g_BaseWorker := gl 5 rfl
            g_WorkerPlan := gl 6 rfl
            g_SupervisorPlan := gl 7 rfl
            g_is_word := gl 8 rfl
            g_is_name := gl 9 rfl
            g_is_between := gl 10 rfl
            g_wrong_row := gl 11 rfl
            g_is_script := gl 12 rfl
            g_is_one_of := gl 13 rfl
            g_is_deadline := gl 14 rfl
            g_require := gl 15 rfl
            g_is_supervisor := gl 16 rfl
            g_supervisor_of := gl 17 rfl
            g_worker_of := gl 18 rfl
            g_values_of := gl 19 rfl
            g_shown := gl 20 rfl
            g_lines_of := gl 21 rfl
            g_plan_text := gl 22 rfl
            g_number_of := gl 23 rfl
            g_values_in := gl 24 rfl
            g_row_of := gl 25 rfl
            g_rows_of := gl 26 rfl
            g_plan_of := gl 27 rfl
            g_read_plan := gl 28 rfl
            g__law_begun := gl 29 rfl
            g__law_next := gl 30 rfl
            g__law_of := gl 31 rfl
            g__law_words := gl 32 rfl
            g__law_worker := gl 33 rfl
            g__law_over := gl 34 rfl
            g__law_tree := gl 35 rfl
            g__law_greatest := gl 36 rfl
            g__law_greater := gl 37 rfl
            g__law_sup := gl 38 rfl
            g__law_build := gl 39 rfl
            g__law_lines := gl 40 rfl
            g__law_deep := gl 41 rfl
            g_law := gl 42 rfl
            g_RESERVED := gl 43 rfl
            g_OWN_REASONS := gl 44 rfl
            g_OWN_WORDS := gl 45 rfl
            g_RESTARTS := gl 46 rfl
            g_STRATEGIES := gl 47 rfl
            g_WORKER_SETTINGS := gl 48 rfl
            g_SUPERVISOR_SETTINGS := gl 49 rfl
            g_WORDED := gl 50 rfl
            c_MOST_SIGNS := ci 0 rfl
            c_MOST_ROWS := ci 1 rfl
            c_MOST_DEEDS := ci 2 rfl
            c_MOST_WORK := ci 3 rfl
            c_MOST_TICKS := ci 4 rfl
            c_MOST_VALUE := ci 5 rfl
            c_MOST_WAIT := ci 6 rfl
            c_MOST_CHILDREN := ci 7 rfl
            c_MOST_DEPTH := ci 8 rfl
            c_MOST_WHOLE := ci 9 rfl
            c_LETTERS := cs 0 rfl
            c_SIGNS := cs 1 rfl
            c_INDENT := cs 2 rfl
            c_DIGITS := cs 3 rfl
            q_RESERVED := fun H => He.tupB_ok (at_ c5 0 rfl) H
            q_OWN_REASONS := fun H => He.tupB_ok (at_ c5 1 rfl) H
            q_OWN_WORDS := fun H => He.tupB_ok (at_ c5 2 rfl) H
            q_RESTARTS := fun H => He.tupB_ok (at_ c5 3 rfl) H
            q_STRATEGIES := fun H => He.tupB_ok (at_ c5 4 rfl) H
            q_WORKER_SETTINGS := fun H => He.tupB_ok (at_ c5 5 rfl) H
            q_SUPERVISOR_SETTINGS := fun H => He.tupB_ok (at_ c5 6 rfl) H
            q_WORDED := fun H => He.tupB_ok (at_ c5 7 rfl) H
            fd_is_word := fd0
            F_is_word := F0
            fd_is_name := fd1
            F_is_name := F1
            fd_is_between := fd2
            F_is_between := F2
            fd_wrong_row := fd3
            F_wrong_row := F3
            fd_is_script := fd4
            F_is_script := F4
            fd_is_one_of := fd5
            F_is_one_of := F5
            fd_is_deadline := fd6
            F_is_deadline := F6
            fd_require := fd7
            F_require := F7
            fd_is_supervisor := fd8
            F_is_supervisor := F8
            fd_supervisor_of := fd9
            F_supervisor_of := F9
            fd_worker_of := fd10
            F_worker_of := F10
            fd_values_of := fd11
            F_values_of := F11
            fd_shown := fd12
            F_shown := F12
            fd_lines_of := fd13
            F_lines_of := F13
            fd_plan_text := fd14
            F_plan_text := F14
            fd_number_of := fd15
            F_number_of := F15
            fd_values_in := fd16
            F_values_in := F16
            fd_row_of := fd17
            F_row_of := F17
            fd_rows_of := fd18
            F_rows_of := F18
            fd_plan_of := fd19
            F_plan_of := F19
            fd_read_plan := fd20
            F_read_plan := F20
            fd_L_begun := fd21
            F_L_begun := F21
            fd_L_next := fd22
            F_L_next := F22
            fd_L_of := fd23
            F_L_of := F23
            fd_L_words := fd24
            F_L_words := F24
            fd_L_worker := fd25
            F_L_worker := F25
            fd_L_over := fd26
            F_L_over := F26
            fd_L_tree := fd27
            F_L_tree := F27
            fd_L_greatest := fd28
            F_L_greatest := F28
            fd_L_greater := fd29
            F_L_greater := F29
            fd_L_sup := fd30
            F_L_sup := F30
            fd_L_build := fd31
            F_L_build := F31
            fd_L_lines := fd32
            F_L_lines := F32
            fd_L_deep := fd33
            F_L_deep := F33
            fd_law := fd34
            F_law := F34
            fd_Plan_settings := fd35
            F_Plan_settings := F35
            fd_Plan_below := fd36
            F_Plan_below := F36
            fd_Plan_with_all := fd37
            F_Plan_with_all := F37
            fd_Plan__len := fd38
            F_Plan__len := F38
            fd_Plan__contains := fd39
            F_Plan__contains := F39
            fd_WorkerPlan__init := fd40
            F_WorkerPlan__init := F40
            fd_WorkerPlan__eq := fd41
            F_WorkerPlan__eq := F41
            fd_SupervisorPlan__init := fd42
            F_SupervisorPlan__init := F42
            fd_SupervisorPlan_below := fd43
            F_SupervisorPlan_below := F43
            fd_SupervisorPlan__eq := fd44
            F_SupervisorPlan__eq := F44
            fd_WorkerPlan_name := fd45
            F_WorkerPlan_name := F45
            fd_WorkerPlan_restart := fd46
            F_WorkerPlan_restart := F46
            fd_WorkerPlan_opening := fd47
            F_WorkerPlan_opening := F47
            fd_WorkerPlan_closing := fd48
            F_WorkerPlan_closing := F48
            fd_WorkerPlan_deadline := fd49
            F_WorkerPlan_deadline := F49
            fd_WorkerPlan_refused := fd50
            F_WorkerPlan_refused := F50
            fd_WorkerPlan_script := fd51
            F_WorkerPlan_script := F51
            fd_SupervisorPlan_name := fd52
            F_SupervisorPlan_name := F52
            fd_SupervisorPlan_restart := fd53
            F_SupervisorPlan_restart := F53
            fd_SupervisorPlan_strategy := fd54
            F_SupervisorPlan_strategy := F54
            fd_SupervisorPlan_most := fd55
            F_SupervisorPlan_most := F55
            fd_SupervisorPlan_span := fd56
            F_SupervisorPlan_span := F56
            fd_SupervisorPlan_deadline := fd57
            F_SupervisorPlan_deadline := F57
            fd_SupervisorPlan_children := fd58
            F_SupervisorPlan_children := F58
            n_WorkerPlan_own_settings := He.noat_ok (at_ c6 0 rfl)
            n_WorkerPlan_own_count := He.noat_ok (at_ c6 1 rfl)
            n_WorkerPlan_own_depth := He.noat_ok (at_ c6 2 rfl)
            n_SupervisorPlan_own_settings := He.noat_ok (at_ c6 3 rfl)
            n_SupervisorPlan_own_children := He.noat_ok (at_ c6 4 rfl)
            n_SupervisorPlan_own_count := He.noat_ok (at_ c6 5 rfl)
            n_SupervisorPlan_own_depth := He.noat_ok (at_ c6 6 rfl)
            m_WorkerPlan_settings := WHe.methB_ok (at_ c7 0 rfl)
            m_WorkerPlan_below := WHe.methB_ok (at_ c7 1 rfl)
            m_WorkerPlan_with_all := WHe.methB_ok (at_ c7 2 rfl)
            m_WorkerPlan___len__ := WHe.methB_ok (at_ c7 3 rfl)
            m_WorkerPlan___contains__ := WHe.methB_ok (at_ c7 4 rfl)
            m_SupervisorPlan_below := WHe.methB_ok (at_ c7 5 rfl)
            m_SupervisorPlan_settings := WHe.methB_ok (at_ c7 6 rfl)
            m_SupervisorPlan_with_all := WHe.methB_ok (at_ c7 7 rfl)
            m_SupervisorPlan___len__ := WHe.methB_ok (at_ c7 8 rfl)
            m_SupervisorPlan___contains__ := WHe.methB_ok (at_ c7 9 rfl)
            p_WorkerPlan_name := WHe.propB_ok (at_ c8 0 rfl)
            p_WorkerPlan_restart := WHe.propB_ok (at_ c8 1 rfl)
            p_WorkerPlan_opening := WHe.propB_ok (at_ c8 2 rfl)
            p_WorkerPlan_closing := WHe.propB_ok (at_ c8 3 rfl)
            p_WorkerPlan_deadline := WHe.propB_ok (at_ c8 4 rfl)
            p_WorkerPlan_refused := WHe.propB_ok (at_ c8 5 rfl)
            p_WorkerPlan_script := WHe.propB_ok (at_ c8 6 rfl)
            p_SupervisorPlan_name := WHe.propB_ok (at_ c8 7 rfl)
            p_SupervisorPlan_restart := WHe.propB_ok (at_ c8 8 rfl)
            p_SupervisorPlan_strategy := WHe.propB_ok (at_ c8 9 rfl)
            p_SupervisorPlan_most := WHe.propB_ok (at_ c8 10 rfl)
            p_SupervisorPlan_span := WHe.propB_ok (at_ c8 11 rfl)
            p_SupervisorPlan_deadline := WHe.propB_ok (at_ c8 12 rfl)
            p_SupervisorPlan_children := WHe.propB_ok (at_ c8 13 rfl)
            mk_WorkerPlan := He.mkr_ok (He.ba (at_ c9 0 rfl)).1
            dc_WorkerPlan := WHe.datB_ok (He.ba (at_ c9 0 rfl)).2
            mk_SupervisorPlan := He.mkr_ok (He.ba (at_ c9 1 rfl)).1
            dc_SupervisorPlan := WHe.datB_ok (He.ba (at_ c9 1 rfl)).2
            k_WorkerPlan_Plan := of_decide_eq_true (at_ ca 0 rfl)
            k_WorkerPlan_BaseWorker := of_decide_eq_true (at_ ca 1 rfl)
            k_WorkerPlan_WorkerPlan := of_decide_eq_true (at_ ca 2 rfl)
            k_WorkerPlan_SupervisorPlan := of_decide_eq_true (at_ ca 3 rfl)
            k_SupervisorPlan_Plan := of_decide_eq_true (at_ ca 4 rfl)
            k_SupervisorPlan_BaseWorker := of_decide_eq_true (at_ ca 5 rfl)
            k_SupervisorPlan_WorkerPlan := of_decide_eq_true (at_ ca 6 rfl)
            k_SupervisorPlan_SupervisorPlan := of_decide_eq_true (at_ ca 7 rfl)
          }⟩
abbrev R : PySem.W.OpenRow := PySem.W.OpenLaw.row PySem.Challenge.rw_watchtree_k06_texts_written
abbrev hk : PySem.W.Hook := WHg.hookL 640 chk fns
def ob (s : PySem.W.SharedT) : He.AlD := WHg.obsLG 640 chk fns (HandSHeadRun.getT s)
theorem ob_eq (s : PySem.W.SharedT) : ob s = hk.obs s.abs := WHg.obsLG_eq (HandSHeadRun.getT_eq s)
def loose : List Str := (["PlanError", "BadSetting", "BadChild", "BadText", "BadScript", "Plan", "BaseWorker", "LETTERS", "SIGNS", "MOST_SIGNS", "RESERVED", "OWN_REASONS", "is_word", "is_name", "is_between", "is_failure"] : List Str) ++ (["MOST_ROWS", "MOST_DEEDS", "MOST_WORK", "MOST_TICKS", "MOST_VALUE", "OWN_WORDS", "is_free_word", "is_value", "is_deed_value", "has_add", "is_added_plan", "has_shape", "is_deed", "is_row", "wrong_row", "is_script"] : List Str) ++ (["RESTARTS", "STRATEGIES", "MOST_WAIT", "MOST_CHILDREN", "MOST_DEPTH", "MOST_WHOLE", "WORKER_SETTINGS", "SUPERVISOR_SETTINGS", "is_one_of", "is_deadline", "require", "WorkerPlan", "SupervisorPlan", "is_supervisor", "supervisor_of", "worker_of"] : List Str) ++ (["values_of", "INDENT", "DIGITS", "WORDED", "shown", "lines_of", "plan_text", "number_of", "values_in", "row_of", "rows_of", "plan_of", "read_plan", "_law_begun", "_law_next", "_law_of"] : List Str) ++ (["_law_words", "_law_worker", "_law_over", "_law_tree", "_law_greatest", "_law_greater", "_law_sup", "_law_build", "_law_lines", "_law_deep"] : List Str)
end W06

set_option Elab.async false
set_option linter.all false
set_option maxRecDepth 100000
set_option maxHeartbeats 0
namespace W06
open PySem PySem.Spec PyProof.Rows L2
theorem run (w : World) : HandSHeadRun.RunEq R (PySem.W.view R.prog [81]) hk ob 9000 loose w := by
  intro os
  kernel_rfl
end W06

set_option Elab.async false
set_option linter.all false
set_option maxRecDepth 100000
set_option maxHeartbeats 2000000
/-! readings that only add objects: what holds of the value and the heap behind, whatever was added before -/
namespace WEv
open PySem PySem.Spec L2
abbrev HP (α : Type) := α → Hp → Prop
/-- what stays true when objects are added -/
def Mn {α : Type} (P : HP α) : Prop := ∀ x H H', Same H H' → P x H → P x H'
def EvP (te : TE) (σ : L2.St) (H : Hp) (P : HP V) : Prop := ∀ H1, Same H H1 → ∀ Q : VK, (∀ v H2, Same H1 H2 → P v H2 → Q v H2) → te σ H1 Q
def EvA (ta : TA) (σ : L2.St) (H : Hp) (P : HP (List V)) : Prop := ∀ H1, Same H H1 → ∀ Q : List V → Hp → Prop, (∀ v H2, Same H1 H2 → P v H2 → Q v H2) → ta σ H1 Q
def EvT (tt : TT) (σ : L2.St) (H : Hp) (b : Bool) : Prop := ∀ H1, Same H H1 → ∀ Q : Bool → Hp → Prop, (∀ H2, Same H1 H2 → Q b H2) → tt σ H1 Q
/-- a list object whose items are told -/
def LstP (n : Nat) (P : HP (List V)) : HP V := fun v H => ∃ p xs, v = .ref p ∧ H p = some (.lst xs) ∧ xs.length = n ∧ P xs H
theorem same_new {H : Hp} {p : Addr} {o : HO} (h : H p = none) : Same H (upd H p o) := fun a u e => by
  rw [upd_ne (ne_of_none e h)]
  exact e
theorem same_put {H H' : Hp} {p : Addr} {o : HO} (e : Same H H') (h : H p = none) : Same H (upd H' p o) := fun a u ha => by
  rw [upd_ne (ne_of_none ha h)]
  exact e a u ha
theorem mn_lst {n : Nat} {P : HP (List V)} (m : Mn P) : Mn (LstP n P) := fun _ _ _ s ⟨p, xs, e, h, l, q⟩ => ⟨p, xs, e, s _ _ h, l, m _ _ _ s q⟩
theorem mn_is {α : Type} {x : α} : Mn (fun y _ => y = x) := fun _ _ _ _ e => e
theorem mn_pure {α : Type} {p : α → Prop} : Mn (fun y _ => p y) := fun _ _ _ _ e => e
section
variable {σ : L2.St} {H H' : Hp} {te ta tb : TE} {tr : TA} {P P' Pa Pb : HP V} {Ps : HP (List V)} {v : V} {D : Ends} {n m : Nat}
theorem EvP.mono (s : Same H H') (h : EvP te σ H P) : EvP te σ H' P := fun H1 e => h H1 (s.trans e)
theorem EvP.imp (h : EvP te σ H P) (k : ∀ v H, P v H → P' v H) : EvP te σ H P' := fun H1 e Q q => h H1 e Q fun v H2 s p => q v H2 s (k v H2 p)
theorem EvP.keep {R : Hp → Prop} (h : EvP te σ H P) (hR : R H) (mR : ∀ H H', Same H H' → R H → R H') : EvP te σ H (fun v H => P v H ∧ R H) := fun H1 e Q q => h H1 e Q fun v H2 s p => q v H2 s ⟨p, mR _ _ (e.trans s) hR⟩
theorem p_var {i : Nat} (h : σ[i]? = some (some v)) : EvP (tVar i) σ H (fun x _ => x = v) := fun H1 _ _ q => ⟨v, h, q _ H1 (Same.refl H1) rfl⟩
theorem p_c : EvP (tC v) σ H (fun x _ => x = v) := fun H1 _ _ q => q _ H1 (Same.refl H1) rfl
theorem a_nil : EvA tNil σ H (fun vs _ => vs = []) := fun H1 _ _ q => q _ H1 (Same.refl H1) rfl
theorem a_cons (m : Mn P) (h : EvP te σ H P) (hr : EvA tr σ H Ps) : EvA (tCons te tr) σ H (fun vs H => ∃ x xs, vs = x :: xs ∧ P x H ∧ Ps xs H) := fun H1 e Q q =>
  h H1 e _ fun x H2 s2 p2 => hr H2 (e.trans s2) _ fun xs H3 s3 p3 => q _ H3 (s2.trans s3) ⟨x, xs, rfl, m _ _ _ s3 p2, p3⟩
theorem p_lst (h : EvA tr σ H Ps) (m : Mn Ps) (hl : ∀ xs H, Ps xs H → xs.length = n) (hn : n ≤ 100000 := by decide) : EvP (tLst tr) σ H (LstP n Ps) := fun H1 e _ q =>
  h H1 e _ fun xs H2 s2 p2 => ⟨Nat.le_trans (Nat.le_of_eq (hl _ _ p2)) (Nat.le_trans hn (by decide)), fun p hp => q _ _ (s2.trans (same_new hp)) ⟨p, xs, rfl, upd_same, hl _ _ p2, m _ _ _ (same_new hp) p2⟩⟩
theorem s_asg {i : Nat} (h : EvP te σ H P) (k : ∀ v H1, Same H H1 → P v H1 → D.nx (σ.set i (some v)) H1) : tAsg te (gName i) D σ H := h H (Same.refl H) _ k
theorem s_ret (h : EvP te σ H P) (k : ∀ v H1, Same H H1 → P v H1 → D.rt v H1) : tRet te D σ H := h H (Same.refl H) _ k
theorem EvA.imp {Ps' : HP (List V)} (h : EvA tr σ H Ps) (k : ∀ v H, Ps v H → Ps' v H) : EvA tr σ H Ps' := fun H1 e Q q => h H1 e Q fun v H2 s p => q v H2 s (k v H2 p)
end
end WEv

set_option Elab.async false
set_option linter.all false
set_option maxRecDepth 100000
set_option maxHeartbeats 2000000
/-! readings that leave the heap: one value -/
namespace WRd
open PySem PySem.Spec L2
def Ev (te : TE) (σ : L2.St) (H : Hp) (v : V) : Prop := ∀ Q : VK, Q v H → te σ H Q
def EvL (ta : TA) (σ : L2.St) (H : Hp) (vs : List V) : Prop := ∀ Q : List V → Hp → Prop, Q vs H → ta σ H Q
def EvB (tt : TT) (σ : L2.St) (H : Hp) (b : Bool) : Prop := ∀ Q : Bool → Hp → Prop, Q b H → tt σ H Q
section
variable {K : PySem.W.Frag} {σ : L2.St} {H : Hp} {te ta tb td ty tv : TE} {tr : TA} {tt tu : TT} {v x y : V} {vs : List V} {i j : Int} {n : Nat} {m : Addr} {kvs : List (Key × V)} {k : Key} {D : Ends} {a b c : Bool}
theorem ev_var (h : σ[n]? = some (some v)) : Ev (tVar n) σ H v := fun _ q => ⟨v, h, q⟩
theorem ev_c : Ev (tC v) σ H v := fun _ q => q
theorem evl_nil : EvL tNil σ H [] := fun _ q => q
theorem evl_cons (h : Ev ta σ H x) (g : EvL tr σ H vs) : EvL (tCons ta tr) σ H (x :: vs) := fun _ q => h _ (g _ q)
theorem ev_opI {C : Int → Int → Prop} {g : Int → Int → V} (ha : Ev ta σ H (.int i)) (hb : Ev tb σ H (.int j)) (hc : C i j) : Ev (tOp (rI C g) ta tb) σ H (g i j) := fun _ q => ha _ (hb _ ⟨i, j, rfl, rfl, hc, q⟩)
theorem ev_op0 {g : Int → Int → V} (ha : Ev ta σ H (.int i)) (hb : Ev tb σ H (.int j)) : Ev (tOp (rI0 g) ta tb) σ H (g i j) := fun _ q => ha _ (hb _ ⟨i, j, rfl, rfl, q⟩)
theorem ev_iI {C : Int → Int → Prop} {g : Int → Int → Int} (ha : Ev ta σ H (.int i)) (hb : Ev tb σ H (.int j)) (hc : C i j) : Ev (tOp (rI C fun i j => .int (g i j)) ta tb) σ H (.int (g i j)) := fun _ q => ha _ (hb _ ⟨i, j, rfl, rfl, hc, q⟩)
theorem ev_i0 {g : Int → Int → Int} (ha : Ev ta σ H (.int i)) (hb : Ev tb σ H (.int j)) : Ev (tOp (rI0 fun i j => .int (g i j)) ta tb) σ H (.int (g i j)) := fun _ q => ha _ (hb _ ⟨i, j, rfl, rfl, q⟩)
theorem ev_op {r : R2} (ha : Ev ta σ H x) (hb : Ev tb σ H y) (hr : ∀ Q : VK, Q v H → r x y H Q) : Ev (tOp r ta tb) σ H v := fun _ q => ha _ (hb _ (hr _ q))
theorem ev_cb {r : List V → Hp → VK → Prop} (ha : EvL tr σ H vs) (hr : ∀ Q : VK, Q v H → r vs H Q) : Ev (tCB r tr) σ H v := fun _ q => ha _ (hr _ q)
theorem ev_int1 (ha : EvL tr σ H [.int i]) : Ev (tCB (fun xs H Q => (∃ i, xs = [.int i] ∧ Q (.int i) H) ∨ ∃ k, xs = [.bl k] ∧ Q (.int (if k then 1 else 0)) H) tr) σ H (.int i) := ev_cb ha fun _ q => .inl ⟨i, rfl, q⟩
theorem ev_dget (hd : Ev td σ H (.ref m)) (hy : Ev ty σ H (kV k)) (hm : H m = some (.dK kvs)) (hv : valV kvs k = some v) : Ev (tDGet td ty) σ H v := fun _ q => hd _ (hy _ ⟨m, v, rfl, .inl ⟨kvs, k, .inl hm, rfl, hv.symm⟩, q⟩)
theorem st_dput (hv : Ev tv σ H v) (hd : Ev td σ H (.ref m)) (hy : Ev ty σ H (kV k)) (hm : H m = some (.dK kvs)) (hl : kvs.length < sizeLine) (q : D.nx σ (upd H m (.dK (putK kvs k v)))) : sDPut td ty tv D σ H :=
  hv _ (hd _ (hy _ ⟨m, _, rfl, .inl ⟨kvs, k, hm, rfl, hl, rfl⟩, q⟩))
theorem st_asg (h : Ev te σ H v) (q : D.nx (σ.set n (some v)) H) : tAsg te (gName n) D σ H := h _ q
theorem st_ret (h : Ev te σ H v) (q : D.rt v H) : tRet te D σ H := h _ q
theorem st_if {t u : TS} (h : EvB tt σ H b) (q : if b = true then t D σ H else u D σ H) : tIfS tt t u D σ H := h _ q
theorem evb_test (h : Ev te σ H (.bl b)) : EvB (tTest te) σ H b := fun _ q => h _ ⟨b, rfl, q⟩
theorem evb_cmp {g : Int → Int → Bool} (ha : Ev ta σ H (.int i)) (hb : Ev tb σ H (.int j)) : EvB (tTest (tOp (rI0 fun i j => .bl (g i j)) ta tb)) σ H (g i j) := fun _ q => ha _ (hb _ ⟨i, j, rfl, rfl, _, rfl, q⟩)
theorem evb_and (h : EvB tt σ H a) (g : a = true → EvB tu σ H b) : EvB (tAnd tt tu) σ H (a && b) := fun Q q => h _ (by
  cases a with
  | true => exact g rfl _ q
  | false => exact q)
end
end WRd

set_option Elab.async false
set_option linter.all false
set_option maxRecDepth 100000
set_option maxHeartbeats 2000000
/-! calls by a mapping behind two stars: C(e, .., *xs, **d) -/
namespace WSt
open PySem PySem.Spec PyProof.Rows L2 StX
section
variable {prog : Program} {w : World} {K : Type} [DecidableEq K] {knd : KeyKind prog w K} {A : Around} {E : Value → Shared → Prop} {s : Shared}
theorem find_new {d : Addr} {vs : List (K × Value)} {k : K} {key : Value} {Q : Option Nat → Shared → Prop} (hm : s.heap.DictOf knd d vs) (hkey : knd.is k key = true) (hn : k ∉ vs.map (·.1)) (h : Q none s) : wpAny (model prog w) A (dictFind d key (knd.hash k)) Q E s := by
  obtain ⟨o, es, ep, ho, hc, hd, hk, hp, _⟩ := hm
  refine wpAny_dictFind_of hkey ho hd hk ?_
  have e1 : (es.findIdx? fun e => knd.is k e.key) = vs.findIdx? fun kv => decide (kv.1 = k) := by
    rw [← hp.findIdx k]
    obtain ⟨l⟩ := es
    simp
  have e2 : (vs.findIdx? fun kv => decide (kv.1 = k)) = none := by
    rw [List.findIdx?_eq_none_iff]
    intro x hx
    exact decide_eq_false fun e => hn (List.mem_map.mpr ⟨x, hx, e⟩)
  rw [e1, e2]
  exact h
theorem put_new {d : Addr} {vs : List (K × Value)} {k : K} {key v : Value} {Q : Unit → Shared → Prop} (hm : s.heap.DictOf knd d vs) (hkey : knd.is k key = true) (hn : k ∉ vs.map (·.1)) (hz : vs.length ≤ sizeLine)
    (h : ∀ h', h'.DictOf knd d (vs ++ [(k, v)]) → Heap.SameBut d s.heap h' → Q () { s with heap := h' }) : wpAny (model prog w) A (dictPut d (knd.hash k) key v) Q E s := by
  obtain ⟨o, es, ep, ho, hc, hd, hk, hp, hnd⟩ := id hm
  have hes : es.size ≤ sizeLine := by
    have e1 := hp.length
    have e2 : es.toList.length = es.size := by simp
    omega
  unfold dictPut
  refine wpAny_bind (find_new hm hkey hn ?_)
  dsimp only
  refine wpAny_updateDictKeys (hz := hes) ho hd (h _ ⟨_, _, ep + 1, Heap.get?_update_self _ ho (Obj.isFreed_of_dict (Obj.data_mapDictKeys hd _)), hc.mapDictKeys _, Obj.data_mapDictKeys hd _, hk.push hkey _, ?_, ?_⟩ (Heap.SameBut.update ..))
  · have := hp.append hkey (knd.hash k) v
    obtain ⟨l⟩ := es
    simpa using this
  · rw [List.map_append, List.nodup_append]
    refine ⟨hnd, by simp, ?_⟩
    intro a ha b hb
    simp only [List.map_cons, List.map_nil, List.mem_singleton] at hb
    subst hb
    exact fun e => hn (e ▸ ha)
end
def StrK (kvs : List (Key × V)) : Prop := ∀ kv ∈ kvs, ∃ z : Str, kv.1 = Sum.inr z
section
variable {X : Cx} {pins : List (Addr × Obj)} {σ : L2.St} {H : Hp} {s : Shared} {A : Around} {E : Value → Shared → Prop} {a d : Addr} {kvs : List (Key × V)}
theorem merge_run {Q : Unit → Shared → Prop} (I : Inv X pins σ H s) (ha : H a = some (.dK kvs)) (hd : H d = some (.dK [])) (hne : a ≠ d) (hs : StrK kvs) (h : ∀ s', Inv X pins σ (upd H d (.dK kvs)) s' → Q () s') :
    wpAny (model X.prog X.w) A (mergeMapping d (.ref a) true) Q E s := by
  obtain ⟨z, hsy, vs, rel, dd⟩ := dk_of I.hok ha
  obtain ⟨_, _, vd, rd, ddd⟩ := dk_of I.hok hd
  cases rd
  unfold mergeMapping
  refine wpAny_bind (wpAny_isInstance dd.typeIs PySem.F.sub_dict_dict ?_)
  rw [if_pos rfl]
  refine wpAny_bind (wpAny_specialOf dd.typeIs PySem.F.slot_dict_iter.lookup ?_)
  refine wpAny_bind (wpAny_pure ?_)
  show wpAny _ _ (if (a == sysModules) = true then _ else _) _ _ _
  rw [if_neg (by rw [hsy]; exact Bool.false_ne_true)]
  obtain ⟨od, esd, epd, hod, hcd, hdd, hkd, hpd, _⟩ := id ddd
  obtain ⟨oa, esa, epa, hoa, hca, hda, hka, hpa, hna⟩ := id dd
  refine wpAny_bind (wpAny_dictEntries hod hdd ?_)
  have hed : esd.isEmpty = true := by
    have := hpd.length
    simpa [Array.isEmpty] using this
  rw [if_pos hed]
  refine wpAny_bind (wpAny_dictEntries hoa hda ?_)
  refine wpAny_bind ?_
  refine MeetsSeq2.wpAny_forIn_array _ (fun rest _ s' => s' = s ∧ ∀ e ∈ rest, e ∈ esa) _ ?_ ?_ esa _ ⟨rfl, fun e he => by simpa using he⟩
  · rintro e rest b s' ⟨rfl, hr⟩
    obtain ⟨k, hk, _⟩ := hka e (hr e List.mem_cons_self)
    rcases keyIs_shape hk with ⟨i, t, _, ek⟩ | ⟨x, t, _, ek⟩
    · rw [ek]
      exact wpAny_pure ⟨rfl, fun e he => hr e (List.mem_cons_of_mem _ he)⟩
    · rw [ek]
      exact wpAny_pure ⟨rfl, fun e he => hr e (List.mem_cons_of_mem _ he)⟩
  · rintro b s' ⟨rfl, _⟩
    refine wpAny_bind (wpAny_dictEntries hoa hda ?_)
    refine wpAny_bind (wpAny_dictEpoch hoa hda ?_)
    have hsz : esa.size = kvs.length := by
      rw [rel.length, ← hpa.length]
      simp
    have hkv := rel.keys
    refine wpAny_bind (wpAny_forIn_list _ (fun rest _ s2 => ∃ i, rest = List.range' i (esa.size - i) ∧ i ≤ esa.size ∧ s2.heap.get? a = some oa ∧ Inv X pins σ (upd H d (.dK (kvs.take i))) s2) _ ?_ ?_ _ _ ⟨0, by rw [List.range_eq_range', Nat.sub_zero], Nat.zero_le _, hoa, ?_⟩)
    · rintro i rest b s2 ⟨j, hr, hj, ho2, I2⟩
      have hlt : j < esa.size := by
        rcases Nat.lt_or_ge j esa.size with q | q
        · exact q
        · rw [show esa.size - j = 0 by omega] at hr
          cases hr
      rw [show esa.size - j = (esa.size - (j + 1)) + 1 by omega, List.range'_succ] at hr
      obtain ⟨rfl, rfl⟩ := List.cons.inj hr
      refine wpAny_bind (wpAny_dictEntries ho2 hda ?_)
      have hltv : i < vs.length := by rw [← hpa.length]; simpa using hlt
      obtain ⟨hk, hv⟩ := hpa.get? (i := i) (e := esa[i]) (k := (vs[i]).1) (v := (vs[i]).2) (by simp) (by simp [hltv])
      rw [Array.getElem?_eq_getElem hlt]
      dsimp only
      have hltk : i < kvs.length := by rw [rel.length]; exact hltv
      have ek : kvs[i].1 = vs[i].1 := by
        have : (kvs.map (·.1))[i]? = (vs.map (·.1))[i]? := by rw [hkv]
        simpa [hltk, hltv] using this
      obtain ⟨x, hx, rx⟩ := KV.at' rel (i := i) (k := (vs[i]).1) (v := (vs[i]).2) (by simp [hltv])
      have ex : kvs[i] = (vs[i].1, x) := by
        rw [List.getElem?_eq_getElem hltk] at hx
        exact Option.some.inj hx
      obtain ⟨k', hk', hh⟩ := hka esa[i] (Array.getElem_mem hlt)
      obtain rfl : k' = vs[i].1 := (mixKind X.prog X.w).inj _ _ _ hk' hk
      obtain ⟨zd, hsd, vd, rd, dd2⟩ := dk_of I2.hok (upd_same (a := d))
      have hnot : vs[i].1 ∉ vd.map (·.1) := by
        rw [← rd.keys, List.map_take, hkv]
        intro hm
        obtain ⟨j, hj1, hj2⟩ := List.mem_iff_getElem.mp hm
        rw [List.length_take, List.length_map] at hj1
        rw [List.getElem_take, List.getElem_map] at hj2
        have := List.pairwise_iff_getElem.mp hna j i (by rw [List.length_map]; omega) (by rw [List.length_map]; exact hltv) (by omega)
        rw [List.getElem_map, List.getElem_map] at this
        exact this hj2
      have hzd : vd.length ≤ sizeLine := by rw [← rd.length]; exact zd
      rw [hh]
      refine wpAny_bind (wpAny_holding ?_)
      rw [if_pos rfl]
      refine wpAny_bind (find_new dd2 hk hnot ?_)
      rw [if_neg (by simp)]
      refine put_new dd2 hk hnot hzd fun h' dd3 hsb => ?_
      have ho3 : h'.get? a = some oa := (hsb.2 a hne).trans ho2
      have et : kvs.take (i + 1) = kvs.take i ++ [(vs[i].1, x)] := by rw [List.take_succ, List.getElem?_eq_getElem hltk, ex]; rfl
      have he : ∃ q, h'.get? d = some q := let ⟨q, _, _, hq, _⟩ := dd3; ⟨q, hq⟩
      have I3 : Inv X pins σ (upd H d (.dK (kvs.take (i + 1)))) { s2 with heap := h' } := by
        rw [← upd_upd (o := .dK (kvs.take i))]
        refine d_write (t' := s2.toks) I2 (by rw [upd_same]; exact True.intro) hsb he (dk_new (by rw [List.length_take]; omega) hsd ?_ dd3)
        rw [et, hv]
        exact Paired.snoc rd ⟨rfl, rx⟩
      refine wpAny_bind (wpAny_dictEpoch ho3 hda ?_)
      rw [if_neg (by simp)]
      exact wpAny_pure ⟨i + 1, rfl, hlt, ho3, I3⟩
    · rintro b s2 ⟨j, hr, hj, ho2, I2⟩
      have e : j = esa.size := by
        rcases Nat.lt_or_ge j esa.size with q | q
        · rw [show esa.size - j = (esa.size - (j + 1)) + 1 by omega, List.range'_succ] at hr
          cases hr
        · omega
      subst e
      rw [hsz, List.take_length] at I2
      exact wpAny_pure (h _ I2)
    · rw [List.take_zero, show upd H d (.dK []) = H from by
        funext b
        unfold upd
        split
        · rename_i q
          rw [q]
          exact hd.symm
        · rfl]
      exact I
theorem kv_vals : ∀ {kvs : List (Key × V)} {vs : List (Key × Value)}, KV kvs vs → Vals (kvs.map (·.2)) (vs.map (·.2))
  | _, _, .nil => .nil
  | _, _, .cons r t => .cons r.2 (kv_vals t)
theorem kwin_run {f : Value} {zs : List Str} {Q : List (Str × Value) → Shared → Prop} (I : Inv X pins σ H s) (hd : H d = some (.dK kvs)) (hz : kvs.map (·.1) = zs.map Sum.inr) (h : ∀ ws, Vals (kvs.map (·.2)) ws → Q (zs.zip ws) s) :
    wpAny (model X.prog X.w) A (keywordsIn f d) Q E s := by
  obtain ⟨z, hsy, vs, rel, dd⟩ := dk_of I.hok hd
  obtain ⟨o, es, ep, ho, hc, hda, hk, hp, hn⟩ := dd
  have hkv := rel.keys
  have hl : es.toList.length = vs.length := hp.length
  have hlz : vs.length = zs.length := by
    have := congrArg List.length (hkv.symm.trans hz)
    simpa using this
  have hv : Vals (kvs.map (·.2)) (vs.map (·.2)) := by
    exact kv_vals rel
  unfold keywordsIn
  refine wpAny_bind (wpAny_dictEntries ho hda ?_)
  refine wpAny_bind (MeetsSeq2.wpAny_forIn_array _ (fun rest b s' => s' = s ∧ ∃ i, rest = es.toList.drop i ∧ i ≤ es.toList.length ∧ b = (zs.zip (vs.map (·.2))).take i) _ ?_ ?_ es _ ⟨rfl, 0, by simp, by simp, by simp⟩)
  · rintro e rest b s' ⟨rfl, i, hr, hi, hb⟩
    have hlt : i < es.toList.length := by
      rcases Nat.lt_or_ge i es.toList.length with q | q
      · exact q
      · rw [List.drop_eq_nil_of_le q] at hr
        cases hr
    rw [List.drop_eq_getElem_cons hlt] at hr
    obtain ⟨rfl, rfl⟩ := List.cons.inj hr
    have hltv : i < vs.length := by omega
    have hltz : i < zs.length := by omega
    obtain ⟨hk1, hv1⟩ := hp.get? (i := i) (e := es.toList[i]) (k := (vs[i]).1) (v := (vs[i]).2) (by simp [hlt]) (by simp [hltv])
    have ek : vs[i].1 = Sum.inr zs[i] := by
      have : (vs.map (·.1))[i]? = (zs.map (Sum.inr : Str → Key))[i]? := by rw [← hkv, hz]
      simpa [hltv, hltz] using this
    rw [ek] at hk1
    rcases keyIs_shape (k := Sum.inr zs[i]) hk1 with ⟨j, t, q, _⟩ | ⟨x, t, q, ex⟩
    · exact nomatch q
    · have q' := Sum.inr.inj q
      rw [ex, ← q']
      refine wpAny_pure ⟨rfl, i + 1, rfl, hlt, ?_⟩
      rw [List.take_succ, hb, hv1]
      congr 1
      have hz1 : i < (zs.zip (vs.map (·.2))).length := by rw [List.length_zip, List.length_map]; omega
      rw [List.getElem?_eq_getElem hz1]
      simp
  · rintro b s' ⟨rfl, i, hr, hi, hb⟩
    have e : i = es.toList.length := by
      rcases Nat.lt_or_ge i es.toList.length with q | q
      · rw [List.drop_eq_getElem_cons q] at hr
        cases hr
      · omega
    subst e
    rw [List.take_of_length_le (by rw [List.length_zip, List.length_map]; omega)] at hb
    rw [hb]
    exact wpAny_pure (h _ hv)
/-- the dict of the keywords: a new one -/
theorem merged_run {f : Value} {x : Sem Value} {Q : Addr → Shared → Prop} (I : Inv X pins σ H s)
    (h : ∀ d, H d = none → ∀ s', Inv X pins σ (upd H d (.dK [])) s' → wpAny (model X.prog X.w) A x (fun v s1 => ∃ a H1 kvs, v = .ref a ∧ Inv X pins σ H1 s1 ∧ H1 a = some (.dK kvs) ∧ H1 d = some (.dK []) ∧ a ≠ d ∧ StrK kvs ∧ ∀ s2, Inv X pins σ (upd H1 d (.dK kvs)) s2 → Q d s2) E s') :
    wpAny (model X.prog X.w) A (mergedKeywords f [(none, x)]) Q E s := by
  unfold mergedKeywords
  refine wpAny_bind (wpAny_alloc ?_)
  have I1 := I.laid (a := s.heap.objs.size) (o := .dK []) (t' := s.toks) (fun _ _ q => Heap.get?_push_of_some _ q) (Nat.le_refl _) (dk_empty s.heap I.big)
  refine wpAny_bind (wpAny_holding ?_)
  refine wpAny_bind ?_
  rw [List.forIn_cons]
  refine wpAny_bind (wpAny_bind (wpAny_pure ?_))
  refine wpAny_bind (wpAny_mono (h _ (I.hok.fresh (Nat.le_refl _)) _ I1) (fun v s1 hv => ?_) fun _ _ q => q)
  obtain ⟨a, H1, kvs, rfl, I2, ha, hd, hne, hs, k⟩ := hv
  refine wpAny_bind (wpAny_onRaise (wpAny_holding (wpAny_tryCatch (wpAny_onRaise (merge_run I2 ha hd hne hs fun s2 I3 => ?_)))))
  refine wpAny_pure ?_
  dsimp only
  rw [List.forIn_nil]
  exact wpAny_pure (wpAny_pure (wpAny_pure (k s2 I3)))
end
section
variable {M : Model} {A : Around} {E : Value → Shared → Prop} {s : Shared} {K : PySem.W.Frag} {pos : Pos} {f : Value} {first : List Value} {a0 x : Sem Value} {rest : List (Bool × Sem Value)}
theorem evalArgs_ss {Q : Args → Shared → Prop} (h : wpAny M A (spliced ((false, a0) :: rest)) (fun us s1 => wpAny M A (mergedKeywords f [(none, x)]) (fun d s2 => wpAny M A (keywordsIn f d) (fun kw s3 => Q ⟨us, kw⟩ s3) E s2) E s1) E s) :
    wpAny M A (evalArgs f true ((false, a0) :: rest) [(none, x)]) Q E s := by
  unfold evalArgs
  refine wpAny_bind (wpAny_mono h (fun us s1 h1 => wpAny_bind (wpAny_pure ?_)) fun _ _ q => q)
  refine wpAny_holding ?_
  rw [if_neg (by simp)]
  refine wpAny_bind (wpAny_mono h1 (fun d s2 h2 => ?_) fun _ _ q => q)
  refine wpAny_bind (wpAny_pure ?_)
  refine wpAny_bind (wpAny_holding (wpAny_mono h2 (fun kw s3 h3 => wpAny_pure h3) fun _ _ q => q))
theorem callWith_ss {Q : Value → Shared → Prop} (hk : PySem.W.keepIn K f = true) (h : wpAny M A (evalArgs f true ((false, a0) :: rest) [(none, x)]) (fun a s1 => K.In s1.heap ∧ wpAny M A (call f (first ++ a.pos) a.kw) Q E s1) E s) :
    wpAny M A (callWith pos f first ((false, a0) :: rest) [(none, x)]) Q E s := by
  unfold callWith
  refine wpAny_bind (wpAny_holding (wpAny_mono h (fun a s1 h1 => wpAny_bind (wpAny_standAt ?_)) fun _ _ q => q))
  obtain ⟨k, hk', L⟩ := PySem.W.keeps_K (M := M) hk _ h1.1
  refine wpAny_bind (L.here ?_)
  have tail : ∀ {t : Sem Value}, wpAny M A t Q E s1 → wpAny M A (t >>= fun r => holding [r] point >>= fun _ => pure r) Q E s1 :=
    fun ht => wpAny_bind (wpAny_mono ht (fun r s2 hr => wpAny_bind (wpAny_holding (wpAny_point (wpAny_pure hr)))) fun _ _ q => q)
  have marked (mk : Value) : wpAny M A (callMarked mk f (first ++ a.pos) a.kw) Q E s1 := by
    unfold callMarked
    exact Calls.wpAny_keep h1.2
  have hst : (((false, a0) :: rest).any (·.1) || [((none : Option Str), x)].any (·.1.isNone)) = true := by simp
  simp only [hst]
  rcases hk' with rfl | rfl | rfl <;> dsimp only <;> first | exact tail (marked _) | exact tail (wpAny_operating h1.2)
end
/-! ### an __init__ called with keywords -/
abbrev SpK := List V → List V → Hp → VK → XK → Prop
def FnK (P : Program) (w : World) (K : PySem.W.Frag) (mg : Str → Option Value) (base : Heap) (CX : CXT) (k : Nat) (f : Addr) (ks : List Str) (sp : SpK) : Prop :=
  ∀ (A : Around) (outer : List Env) (s : Shared) (H : Hp) (us ws : List Value) (vs zs : List V) (Q : VK) (E : XK), Room k A → Env0 P w K mg base A outer s H → Vals vs us → Vals zs ws → zs.length = ks.length → sp vs zs H Q E →
    codeAny (model P w) A (.call (.ref f) ⟨us, ks.zip ws⟩) (CR CX outer P w H s Q E) s
section
variable {CX : CXT} {P : Program} {w : World} {K : PySem.W.Frag} {mg : Str → Option Value} {base : Heap} {k n : Nat} {f : Addr} {name qual : Str} {params : Arguments} {body : List Stmt} {scope : Scope} {dV kV doc pm cdv ct oc : Value} {an od : Option Addr}
  {osl : Array (Option Value)} {N ps ks : List Str} {sp : Sp} {fd : FuncData} {g : List Value → List Value → List Value} {gV : List V → List V → List V}
theorem FnK.of_ok (F : FnOk P w K mg base CX k f fd ps sp) (hb : KBn K fd ps n ks g gV) (X : ∀ {A outer s H}, Env0 P w K mg base A outer s H → K.In s.heap) : FnK P w K mg base CX k f ks (fun vs zs H Q E => vs.length = n ∧ sp (gV vs zs) H Q E) := by
  intro A outer s H us ws vs zs Q E hr e0 r rz hl h
  exact F.run A outer s H ⟨us, ks.zip ws⟩ _ _ Q E hr e0 (hb.to s us ws (X e0) (r.length.symm.trans h.1) (rz.length.symm.trans hl)) (hb.rel r rz) h.2
/-- def f(a, .., *v, k = .., ..) with all keywords given -/
theorem fn_starK {pv : Str} (lk : K.lookup f = some ⟨oc, od, .func (PySem.W.fnOf name qual params body scope dV kV doc pm an cdv ct), osl⟩) (hcd : PySem.W.codeIn K cdv qual = true) (S : FnScope N (ps ++ ks ++ [pv]) scope) (hCX : CXUp CX)
    (hb : ∀ us rest ws : List Value, us.length = ps.length → ws.length = ks.length → bindArgs (PySem.W.fnOf name qual params body scope dV kV doc pm an cdv ct) ⟨us ++ rest, ks.zip ws⟩ = (newTuple rest >>= fun t => pure ((ps ++ ks).zip (us ++ ws) ++ [(pv, t)])))
    (hbody : ∀ (A : Around) (outer : List Env) (s : Shared) (H : Hp) (vs : List V) (Q : VK) (E : XK), Room k (A.deeper (envOfC qual scope s.heap.objs.size f cdv)) → sp vs H Q E →
      ∃ t, PSs (cxOf CX P w K mg base N qual scope f cdv A outer s H E) body t ∧ t { nx := fun _ H' => Q .non H', rt := Q } (start N vs) H) :
    FnK P w K mg base CX (k + 1) f ks (fun vs zs H Q E => ∃ as rest, vs = as ++ rest ∧ as.length = ps.length ∧ rest.length ≤ sizeLine ∧ ∀ p, H p = Option.none → sp (as ++ zs ++ [V.ref p]) (upd H p (.tup rest)) Q E) := by
  intro A outer s H us ws vs zs Q E hr e0 r rz hlz hsp
  obtain ⟨as, rest, rfl, hl, hz, hq⟩ := hsp
  obtain ⟨u1, u2, rfl, r1, r2⟩ := vals_split r
  have hn : H s.heap.objs.size = Option.none := e0.hok.fresh (Nat.le_refl _)
  have hl1 : u1.length = ps.length := by rw [← r1.length]; exact hl
  have hl2 : u2.length ≤ sizeLine := by rw [← r2.length]; exact hz
  have hl3 : ws.length = ks.length := by rw [← rz.length]; exact hlz
  refine run_bnd (ps := ps ++ ks ++ [pv]) lk hcd S hr e0 (G := fun xs H2 => ∃ p, H p = Option.none ∧ xs = as ++ zs ++ [V.ref p] ∧ H2 = upd H p (.tup rest)) (fun A' Ex Q' h => ?_) fun s2 H2 xs ⟨p, hp, ex, eH⟩ hr' => ?_
  · rw [hb u1 u2 ws hl1 hl3]
    refine wpAny_bind (wpAny_newTuple (wpAny_pure ?_) hl2)
    have new : ObjOk P w (upd H s.heap.objs.size (.tup rest)) (s.heap.push ({ cls := .type "tuple", data := .seq u2.toArray } : Obj)) s.heap.objs.size (.tup rest) := ⟨hz, u2, r2, ⟨_, Heap.get?_push_size _ rfl, rfl, _, rfl⟩⟩
    have un := un_laid (fs := frs outer) (s := s) (o := ({ cls := .type "tuple", data := .seq u2.toArray } : Obj)) (u := .tup rest) hn
    have z := h _ _ (as ++ zs ++ [V.ref s.heap.objs.size]) (u1 ++ ws ++ [Value.ref s.heap.objs.size]) (env0_laid e0 new) un rfl (fun e s' => hCX outer s H _ _ E e s' un (fun b o q => Heap.get?_push_of_some _ q) rfl) ((r1.append rz).append (.cons rfl .nil))
      (by simp only [List.length_append, List.length_cons, List.length_nil, hl, hlz]) ⟨_, hn, rfl, rfl⟩
    rw [List.zip_append (by rw [List.length_append, List.length_append, hl1, hl3])] at z
    exact z
  · subst ex eH
    exact hbody A outer s2 _ _ Q E hr' (hq p hp)
end
section
variable {X : Cx} {CX : CXT} {k : Nat} {f C : Addr} {ks : List Str} {sp : SpK} {E : XK} {x : Str} {p pos : Pos} {e em : Expr} {es : List Expr} {kws : List Keyword} {t tk : TA} {tm : TE}
theorem run_makeF {pins : List (Addr × Obj)} {σ : L2.St} {H : Hp} {s : Shared} {Q : VK} {us ws : List Value} {vs zs : List V} (M : Mk X.K C f) (F : FnK X.prog X.w X.K X.mg X.base CX k f ks sp) (hr : Room (k + 1) X.A) (hx : Passes CX X E)
    (I : Inv X pins σ H s) (r : Vals vs us) (rz : Vals zs ws) (l2 : zs.length = ks.length)
    (h : ∀ x dx, H x = none → H dx = none → dx ≠ x → sp (.ref x :: vs) zs (upd (upd H dx (.own x)) x (.ins C dx [])) (fun v H2 => v = .non ∧ Q (.ref x) H2) E) :
    wpAny (model X.prog X.w) X.A (call (.ref C) us (ks.zip ws)) (EP X pins σ Q) X.xe s := by
  have hq := h (s.heap.objs.size + 1) s.heap.objs.size (I.hok.fresh (Nat.le_succ _)) (I.hok.fresh (Nat.le_refl _)) (Nat.ne_of_lt (Nat.lt_succ_self _))
  have I2 := Inv.made (C := C) I
  have r1 : Vals (V.ref (s.heap.objs.size + 1) :: vs) (Value.ref (s.heap.objs.size + 1) :: us) := .cons rfl r
  refine wpAny_call (make_map (f := f) I.kIn M.makes M.init (beq_iff_eq.mp M.fn) (codeAny_mono (F _ X.stack _ _ (Value.ref (s.heap.objs.size + 1) :: us) ws _ zs _ E (hr.make C us (ks.zip ws)) (I2.env0.make C us (ks.zip ws)) r1 rz l2 hq) fun r s' hq' => ?_))
  cases r with
  | error e => exact hx pins σ _ _ e s' I2 hq'
  | ok fl =>
    cases fl with
    | ret u =>
      obtain ⟨v, H', I3, rv, ev, q3⟩ := I2.after hq'
      subst ev
      exact ⟨rv, ⟨V.ref (s.heap.objs.size + 1), H', I3, rfl, q3⟩⟩
    | next => exact False.elim hq'
    | brk => exact False.elim hq'
    | cont => exact False.elim hq'
/-- C(e, .., **d) -/
def tMkSS (C : Addr) (ks : List Str) (sp : SpK) (E : XK) (t : TA) (tm : TE) : TE := fun σ H Q => t σ H fun vs H1 => ∀ d, H1 d = none → tm σ (upd H1 d (.dK [])) fun y H2 => ∃ a kvs, y = .ref a ∧ H2 a = some (.dK kvs) ∧ H2 d = some (.dK []) ∧ a ≠ d ∧ kvs.map (·.1) = ks.map Sum.inr ∧
  ∀ x dx, upd H2 d (.dK kvs) x = none → upd H2 d (.dK kvs) dx = none → dx ≠ x → sp (.ref x :: vs) (kvs.map (·.2)) (upd (upd (upd H2 d (.dK kvs)) dx (.own x)) x (.ins C dx [])) (fun v H3 => v = .non ∧ Q (.ref x) H3) E
theorem pe_mkSS (M : Mk X.K C f) (F : FnK X.prog X.w X.K X.mg X.base CX k f ks sp) (hr : Room (k + 1) X.A) (hg : Gl X x) (hm : X.mg x = some (.ref C)) (hx : Passes CX X E) (ha : PA X (e :: es) t) (he : PE X em tm)
    (hkw : keywordEach kws X.env = [(none, eval em X.env)] := by rfl) (hdb : (x == ("__debug__" : Str)) = false := by decide) (hst : starEach (e :: es) X.env = (false, eval e X.env) :: starEach es X.env := by rfl) :
    PE X (.Call (.Name x p) (e :: es) kws pos) (tMkSS C ks sp E t tm) := by
  refine ⟨fun pins s σ H Q I h => ?_⟩
  refine wpAny_Call_Name_kw (ld_glob I hg hm ?_ hdb)
  rw [hkw, hst]
  have ha' := ha.run pos pins s σ H _ I h
  rw [hst] at ha'
  refine callWith_ss M.kp (evalArgs_ss (thn ha' fun us s1 hv => ?_))
  obtain ⟨vs, H1, I1, r, q⟩ := hv
  refine merged_run I1 fun d hd s2 I2 => ?_
  refine wpAny_bind (thn (he.run pins s2 σ _ _ I2 (q d hd)) fun v s3 ⟨y, H2, I3, ry, a, kvs, ey, h1, h2, hne, hks, q2⟩ => wpAny_bind (wpAny_standAt (wpAny_pure ?_)))
  subst ey
  refine ⟨a, H2, kvs, ry, I3, h1, h2, hne, fun kv hkv => ?_, fun s4 I4 => ?_⟩
  · have : kv.1 ∈ kvs.map (·.1) := List.mem_map.mpr ⟨kv, hkv, rfl⟩
    rw [hks] at this
    obtain ⟨z, _, ez⟩ := List.mem_map.mp this
    exact ⟨z, ez.symm⟩
  · refine kwin_run I4 upd_same hks fun ws rw_ => ⟨I4.kIn, ?_⟩
    exact run_makeF M F hr hx I4 r rw_ (by rw [List.length_map]; have := congrArg List.length hks; simpa using this) q2
end
end WSt

set_option Elab.async false
set_option linter.all false
set_option maxRecDepth 100000
set_option maxHeartbeats 2000000
/-! name = {k: v for ..}; C(.., k=..) by a promise of keywords -/
namespace WDc
open PySem PySem.Spec PyProof.Rows L2 StX WSt
section
variable {X : Cx}
theorem ps_setDc {i : Nat} {y : Str} {py : Pos} {kx vx tg iter : Expr} {ifs : List Expr} {scope : Scope} {own : List (Str × Nat)} {pos spos : Pos} {wi : TI} {g : TG} {tt : TT} {tk tv : TE} (hc : X.calm = true) (hN : X.N.Nodup) (hy : X.N[i]? = some y) (hyl : X.env.scope.names.lookup y = some .local)
    (hsw : swapsWith (.DictComp kx vx [⟨tg, iter, ifs, 0⟩] scope pos) (some (.Name y py)) spos.line X.env = pure true) (hi : PI X tg iter wi) (ok : BlkOk X.N X.env.scope scope own)
    (hg : ∀ (s : Shared) (H : Hp) (C : Addr) (cl : List (Str × Addr)) (fp : List Addr), PG (X.blk s H scope (compEnvC scope cl C X.env) fp) tg g) (ht : ∀ (s : Shared) (H : Hp) (C : Addr) (cl : List (Str × Addr)) (fp : List Addr), PTs (X.blk s H scope (compEnvC scope cl C X.env) fp) ifs tt)
    (hk : ∀ (s : Shared) (H : Hp) (C : Addr) (cl : List (Str × Addr)) (fp : List Addr), PE (X.blk s H scope (compEnvC scope cl C X.env) fp) kx tk)
    (he : ∀ (s : Shared) (H : Hp) (C : Addr) (cl : List (Str × Addr)) (fp : List Addr), PE (X.blk s H scope (compEnvC scope cl C X.env) fp) vx tv) (hs : ∀ x, foldedSetIterable iter X.env x = pure x := by intro _; rfl) :
    PS X (.Assign [.Name y py] (.DictComp kx vx [⟨tg, iter, ifs, 0⟩] scope pos) spos) (tAsg (tDc wi g tt tk tv (own.map (·.2))) (gName i)) := by
  refine ⟨fun pins s σ H D I h => ?_⟩
  rw [exec_Assign_Name_used _ _ _ _ hsw]
  refine wpAny_bind (wpAny_standAt (wpAny_bind ?_))
  show wpAny _ X.A (do let _ ← comprehension (.DictComp kx vx [⟨tg, iter, ifs, 0⟩] scope pos) scope X.env (firstIterPos [⟨tg, iter, ifs, 0⟩] pos) newDict false (eval iter X.env) (some (assign (.Name y py) X.env))) _ _ s
  have h : tDc wi g tt tk tv (own.map (·.2)) σ H (fun x H1 => gName i x σ H1 D.nx) := h
  refine wpAny_bind (thn (dc_core (Qf := fun _ s' => SP X pins D .next s') hc hN I hi ok hg ht hk he hs h fun L C s' m H' I' q hn f => ?_) fun _ s' hq => wpAny_pure (wpAny_pure hq))
  show wpAny _ _ (assign (.Name y py) X.env (.ref L)) _ _ _
  refine wpAny_assign_Name (store_ok2 (v := V.ref L) I' hN hy (.inl hyl) rfl (fun s2 I2 ⟨a, sb, ha⟩ => ?_) (.inr hyl))
  obtain ⟨f0, f1, f2, f3, f4, f5⟩ := f
  have haC : C ≠ a := by
    rcases ha with z | z
    · rw [z]; exact f1
    · exact fun e => f4 y a z e.symm
  refine ⟨m, hn.sameBut sb haC, fun h3 sb3 => ?_⟩
  exact ⟨_, H', I2.turned (t' := s2.toks) (fun b o hb e => (sb3.2 b hb).trans e) f0 f1 f3 f4 f5, q⟩
theorem sw_trueD {kx vx : Expr} {gs : List Comprehension} {scope : Scope} {pos py : Pos} {y : Str} {l : Nat} {env : Env} (hk : env.scope.kind = .function) (hy : env.scope.names.lookup y = some .local) (hl : (py.line == pos.line) = true)
    (ha : (scope.names.any fun (n, k) => n == y && (k == .local || k == .cell)) = false) : swapsWith (.DictComp kx vx gs scope pos) (some (.Name y py)) l env = pure true := by
  have ky : env.kindOf y = some .local := hy
  have hb : env.blockKind = .function := by unfold Env.blockKind; rw [hk]; rfl
  unfold swapsWith
  simp only [hb, ky, ha, Expr.pos, hl]
  rfl
end
section
variable {X : Cx} {CX : CXT} {k : Nat} {f C : Addr} {ks : List Str} {sp : SpK} {E : XK} {x : Str} {p pos : Pos} {e : Expr} {es : List Expr} {kws : List Keyword} {t tk : TA}
/-- C(e, .., k=.., ..) -/
def tMkKF (C : Addr) (sp : SpK) (n : Nat) (E : XK) (t tk : TA) : TE := fun σ H Q => t σ H fun vs H1 => tk σ H1 fun zs H2 => zs.length = n ∧
  ∀ x dx, H2 x = none → H2 dx = none → dx ≠ x → sp (.ref x :: vs) zs (upd (upd H2 dx (.own x)) x (.ins C dx [])) (fun v H3 => v = .non ∧ Q (.ref x) H3) E
theorem pe_mkKF (M : Mk X.K C f) (F : FnK X.prog X.w X.K X.mg X.base CX k f ks sp) (hr : Room (k + 1) X.A) (hg : Gl X x) (hm : X.mg x = some (.ref C)) (hx : Passes CX X E) (ha : PA X (e :: es) t) (hkw : PK X kws tk)
    (hall : (backToKw pos (keywordEach kws X.env)).all (·.1.isSome) = true := by rfl) (hks : (backToKw pos (keywordEach kws X.env)).filterMap (·.1) = ks := by rfl) (hdb : (x == ("__debug__" : Str)) = false := by decide)
    (he : starEach (e :: es) X.env = (false, eval e X.env) :: starEach es X.env := by rfl) (hpl : ((backTo pos (starEach (e :: es) X.env)).any (·.1) || (backToKw pos (keywordEach kws X.env)).any (·.1.isNone)) = false := by rfl) :
    PE X (.Call (.Name x p) (e :: es) kws pos) (tMkKF C sp ks.length E t tk) := by
  refine ⟨fun pins s σ H Q I h => ?_⟩
  refine wpAny_Call_Name_kw (ld_glob I hg hm ?_ hdb)
  refine PySem.W.callWith_KW (h₀ := X.base) I.ok.mod.kin M.kp hall (thn (ha.run pos pins s σ H _ I h) fun us s1 ⟨vs, H1, I1, r, q⟩ => ?_) hpl he
  refine thn (hkw.run pos pins s1 σ H1 _ I1 q) fun ws s2 ⟨zs, H2, I2, rz, l2, q2⟩ => ⟨I2.kIn, ?_⟩
  rw [hks]
  exact run_makeF M F hr hx I2 r rz l2 q2
end
/-! readings that name the fragment, for blocks -/
theorem ixlK {X : Cx} {K : PySem.W.Frag} (h : X.K = K := by rfl) : IxR X (rIxL K) := h ▸ ix_list
theorem ixtK {X : Cx} {K : PySem.W.Frag} (h : X.K = K := by rfl) : IxR X (rIxT K) := h ▸ ix_tup
theorem isiK {X : Cx} {K : PySem.W.Frag} (h : X.K = K := by rfl) : CallR X (.builtin "isinstance") (rIsi K) := h ▸ call_isi
end WDc

set_option Elab.async false
set_option linter.all false
set_option maxRecDepth 100000
set_option maxHeartbeats 2000000
namespace WRu
open PySem PySem.Spec PyProof.Rows L2
/-- any statement that is never reached -/
theorem ps_dead {X : Cx} {s : Stmt} : PS X s (fun _ _ _ => False) := ⟨fun _ _ _ _ _ _ h => h.elim⟩
theorem pss_dead {X : Cx} {ss : List Stmt} : PSs X ss (fun _ _ _ => False) := ⟨fun _ _ _ _ _ _ h => h.elim⟩
theorem pe_dead {X : Cx} {e : Expr} : PE X e (fun _ _ _ => False) := ⟨fun _ _ _ _ _ _ h => h.elim⟩
/-- one of two readings -/
theorem pe_or {X : Cx} {e : Expr} {t1 t2 : TE} (h1 : PE X e t1) (h2 : PE X e t2) : PE X e (fun σ H Q => t1 σ H Q ∨ t2 σ H Q) := ⟨fun pins s σ H Q I h => by
  rcases h with h | h
  · exact h1.run pins s σ H Q I h
  · exact h2.run pins s σ H Q I h⟩
/-- a list against an empty one -/
def rEqN (K : PySem.W.Frag) : R2 := fun x y H Q => ∃ l b xs, x = .ref l ∧ y = .ref b ∧ SqL K H l xs ∧ SqL K H b [] ∧ Q (.bl (decide (xs = []))) H
def rNeN (K : PySem.W.Frag) : R2 := fun x y H Q => ∃ l b xs, x = .ref l ∧ y = .ref b ∧ SqL K H l xs ∧ SqL K H b [] ∧ Q (.bl (!decide (xs = []))) H
theorem op_eqN {X : Cx} (hu : X.A.units + 64 < cLine) : OpR X (compareOp .Eq) (rEqN X.K) := by
  intro pins s σ H x y v u Q I rx ry h
  obtain ⟨l, b, xs, rfl, rfl, hl, hb, q⟩ := h
  cases rx
  cases ry
  obtain ⟨its, r, p, _⟩ := I.list hl
  obtain ⟨its2, r2, p2, _⟩ := I.list hb
  cases r2
  cases r with
  | nil => exact SeqAt.eq_listAt (e := fun _ => true) p.isList p2.isList rfl (by omega) (fun j h1 => absurd h1 (by simp)) ⟨.bl true, H, I, rfl, q⟩
  | cons r1 r => exact SeqAt.eq_list_lengthsAt p.isList p2.isList (by simp) (by omega) ⟨.bl false, H, I, rfl, by simpa using q⟩
theorem op_neN {X : Cx} (hu : X.A.units + 64 < cLine) : OpR X (compareOp .NotEq) (rNeN X.K) := by
  intro pins s σ H x y v u Q I rx ry h
  obtain ⟨l, b, xs, rfl, rfl, hl, hb, q⟩ := h
  cases rx
  cases ry
  obtain ⟨its, r, p, _⟩ := I.list hl
  obtain ⟨its2, r2, p2, _⟩ := I.list hb
  cases r2
  cases r with
  | nil => exact SeqAt.RcNeAt.lists (e := fun _ => true) p.isList p2.isList rfl (by omega) (fun j h1 => absurd h1 (by simp)) X.prog X.w X.xe _ ⟨.bl false, H, I, rfl, q⟩
  | cons r1 r => exact SeqAt.RcNeAt.lists_lengths p.isList p2.isList (by simp) (by omega) X.prog X.w X.xe _ ⟨.bl true, H, I, rfl, by simpa using q⟩
/-- text * int -/
def repS (z : Str) (n : Nat) : Str := ⟨(List.replicate n z.cps).foldl (· ++ ·) #[]⟩
def rMulS : R2 := fun x y H Q => ∃ (z : Str) (k : Nat), x = .str z ∧ y = .int (k : Int) ∧ k ≤ 1000 ∧ z.length ≤ 1000 ∧ Q (.str (repS z k)) H
theorem op_mulS {X : Cx} : OpR X (binaryOp .Mult) rMulS := by
  intro pins s σ H x y v u Q I rx ry h
  obtain ⟨z, k, rfl, rfl, hk, hz, q⟩ := h
  obtain ⟨t, rfl⟩ := rx
  obtain ⟨t2, rfl⟩ := ry
  have h0 : ¬ ((k : Int) < -(2 ^ 63 : Int)) := by omega
  have h1 : ¬ ((k : Int) ≥ 2 ^ 63) := by omega
  have hlen : z.length * k ≤ 1000000 := Nat.mul_le_mul hz hk
  have hno : Builtin.Str.tooLong (z.length * k) = false := by
    unfold Builtin.Str.tooLong
    have : (1000000 : Nat) ≤ sizeLine := by decide
    simp
    omega
  refine PySem.P.mul_str (by rw [decide_eq_false h0, decide_eq_false h1]; rfl) (fun h2 _ h3 => ?_) (fun _ _ => ?_) ?_
  · have : (1000 : Int) ≤ (2 ^ 63 - 1) / (k : Int) := Int.le_ediv_of_mul_le (by omega) (by omega)
    omega
  · simp only [Int.toNat_natCast]
    exact hno
  · by_cases hk0 : (k : Int) < 1
    · rw [if_pos hk0]
      have e : k = 0 := by omega
      subst e
      exact ⟨by decide, .str _, H, I.tok _, ⟨_, rfl⟩, q⟩
    · rw [if_neg hk0]
      by_cases hk1 : ((k : Int) == 1 || z.length == 0) = true
      · rw [if_pos hk1]
        have e : repS z k = z := by
          rcases Bool.or_eq_true_iff.mp hk1 with e | e
          · have e' : k = 1 := by
              have := beq_iff_eq.mp e
              omega
            subst e'
            unfold repS
            simp
          · have e' : z.cps = #[] := Array.eq_empty_of_size_eq_zero (beq_iff_eq.mp e)
            unfold repS
            rw [e']
            have : ∀ n, (List.replicate n (#[] : Array Nat)).foldl (· ++ ·) #[] = #[] := fun n => by
              induction n with
              | zero => rfl
              | succ n ih => rw [List.replicate_succ, List.foldl_cons]; exact ih
            rw [this]
            obtain ⟨c⟩ := z
            simp at e'
            rw [e']
        rw [e] at q
        exact ⟨.str z, H, I, ⟨_, rfl⟩, q⟩
      · rw [if_neg hk1]
        simp only [Int.toNat_natCast]
        exact ⟨fits_reps hno, .str _, H, I.tok _, ⟨_, rfl⟩, q⟩
/-! ### own != -/
section
variable {prog : Program} {w : World} {A : Around} {E : Value → Shared → Prop} {s : Shared} {K : PySem.W.Frag} {x C f : Addr} {ox : Obj} {od : Option Obj} {b : Value}
theorem ne_own {Q : Value → Shared → Prop} (hu : A.units < cLine) (hu1 : A.in1.units < cLine) (X : K.In s.heap) (I : PySem.W.InstAt s.heap x ox C od) (hb : PySem.W.Looks (model prog w) s.heap (typeOf b) (.ref C))
    (hn : PySem.W.findIn K (.ref C) "__ne__" = some (some (.builtin "object.__ne__"))) (he : PySem.W.findIn K (.ref C) "__eq__" = some (some (.ref f))) (hf : PySem.W.isFn K (.ref f) = true) (hm : PySem.W.mroIn K C (.type "object") = some true)
    (h : wpAny (model prog w) A.in1 (call (.ref f) [.ref x, b]) (fun v s' => ∃ r, v = .bool r ∧ Q (.bool (!r)) s') E s) : wpAny (model prog w) A (richCompare .NotEq (.ref x) b) Q E s := by
  have body : codeAny (model prog w) A (.call (.builtin "object.__ne__") ⟨[.ref x, b], []⟩) (fun r s' => match r with | .ok (.ret v) => ∃ r, v = .bool (!r) ∧ Q (.bool (!r)) s' | .ok _ => False | .error e => E e s') s := by
    have sub : PySem.W.Looks (model prog w) s.heap (isInstance (.ref x) (.type "object")) true := I.type.andThen (PySem.W.looks_mroIn X hm)
    have SL := PySem.F.slot_object_ne
    refine codeAny_call_builtin SL.plain PySem.F.entry_object_ne ?_
    refine PySem.W.check_slot (n := "__ne__") (by decide +kernel) (by decide +kernel) sub (PySem.F.args_object_ne_2 _ _) ?_
    show wpAny _ _ (cRoomFor "comparison" [.ref x, b] >>= _) _ _ s
    refine wpAny_bind (wpAny_cRoomFor hu1 (wpAny_bind (PySem.W.ifBound_K X I he hf (wpAny_mono h (fun v s' hv => ?_) fun _ _ e => e))))
    obtain ⟨r, rfl, q⟩ := hv
    exact wpAny_bind (wpAny_truthy_bool (wpAny_pure ⟨r, rfl, q⟩))
  have one : wpAny (model prog w) A (tryCompare (.ref x) "__ne__" b) (fun r s' => ∃ v, r = some v ∧ Q v s') E s := by
    unfold tryCompare
    refine wpAny_bind ?_
    simp only [callSpecialIfBound?, bindSpecialIfBound?]
    refine wpAny_holding (wpAny_bind (wpAny_bind (wpAny_bind (I.type.here ((PySem.W.looks_findIn X hn).here ?_)))))
    refine wpAny_bind (wpAny_askSetting (wpAny_ite ?_))
    have hbi : bindSpecial (.builtin "object.__ne__") (.ref x) = pure (.builtin "object.__ne__", [.ref x]) := PySem.F.slot_object_ne.bind (.ref x)
    have fin : wpAny (model prog w) A (call (.builtin "object.__ne__") ([.ref x] ++ [b]) >>= fun v => pure (some v)) (fun a s' => wpAny (model prog w) A (match a with | some .notImplemented => pure none | none => pure none | some v => pure (some v)) (fun r s' => ∃ v, r = some v ∧ Q v s') E s') E s := by
      refine wpAny_bind (wpAny_mono (wpAny_call (codeAny_mono body fun r s' hr => ?_)) (Q := fun v s' => ∃ r, v = .bool (!r) ∧ Q (.bool (!r)) s') (fun v s' hv => ?_) fun _ _ e => e)
      · exact hr
      · obtain ⟨r, rfl, q⟩ := hv
        exact wpAny_pure (wpAny_pure ⟨_, rfl, q⟩)
    split
    · exact wpAny_bind (wpAny_of_eq hbi (wpAny_pure (by exact fin)))
    · exact wpAny_tryCatch (wpAny_bind (wpAny_of_eq hbi (wpAny_pure (by exact fin))))
  unfold richCompare
  simp only [PySem.oneThing_ref]
  refine wpAny_holding (wpAny_bind (wpAny_cRoomFor hu ?_))
  refine wpAny_bind (I.type.here (wpAny_bind (hb.here ?_)))
  rw [if_neg (by simp)]
  refine wpAny_bind (wpAny_pure ?_)
  rw [if_neg (by simp)]
  refine wpAny_bind (wpAny_mono one (fun r s' z => ?_) fun _ _ e => e)
  obtain ⟨v, rfl, hq⟩ := z
  exact wpAny_pure hq
end
/-- x != y, own ones that are equal -/
def rNeG (D : Eqv) : R2 := fun x y H Q => D x y H ∧ ∀ H', Ext H H' → Q (.bl false) H'
theorem op_neG {X : Cx} {CX : CXT} {n : Nat} {C f : Addr} {fd : FuncData} {ps : List Str} {R : Addr → Addr → Hp → Prop} {E : XK} (F : FnOk X.prog X.w X.K X.mg X.base CX n f fd ps (spEq R))
    (hn : PySem.W.findIn X.K (.ref C) "__ne__" = some (some (.builtin "object.__ne__"))) (hs : PySem.W.findIn X.K (.ref C) "__eq__" = some (some (.ref f))) (hf : PySem.W.isFn X.K (.ref f) = true) (hm : PySem.W.mroIn X.K C (.type "object") = some true)
    (hb : Binds X.K fd ps []) (hx : Passes CX X E) (hr : Room (n + 1) X.A) : OpR X (compareOp .NotEq) (rNeG (DIns C R)) := by
  intro pins s σ H x y v u Q I rx ry hq
  obtain ⟨⟨a, b, dx, dy, fs, gs, rfl, rfl, ha, hb', hR⟩, q⟩ := hq
  cases rx
  cases ry
  obtain ⟨mA, J, _⟩ := ins_get I.hok ha
  obtain ⟨mB, J', _⟩ := ins_get I.hok hb'
  obtain ⟨od, J, _⟩ := J.look
  obtain ⟨od', J', _⟩ := J'.look
  refine ne_own (Room.units0 hr) (Room.units0 hr.in1) I.kIn J J'.type hn hs hf hm ?_
  have hsp : spEq R [.ref a, .ref b] H (fun v H' => v = .bl true ∧ Ext H H') E := ⟨a, b, rfl, hR, fun H' e => ⟨rfl, e⟩⟩
  have r2 : Vals [V.ref a, V.ref b] [Value.ref a, Value.ref b] := .cons rfl (.cons rfl .nil)
  have hl := F.len _ _ _ _ hsp
  refine wpAny_call (codeAny_mono (F.run X.A.in1 X.stack s H ⟨[.ref a, .ref b], []⟩ [.ref a, .ref b] [.ref a, .ref b] _ E hr.in1 I.env0.in1 (by
    have := hb s [.ref a, .ref b] I.kIn (by simpa using hl)
    simpa using this) r2 hsp) fun r s' hq => ?_)
  cases r with
  | error e => exact hx pins σ H s e s' I hq
  | ok fl =>
    cases fl with
    | ret w =>
      obtain ⟨z, H', I', rz, ez, ex⟩ := I.after hq
      subst ez
      cases rz
      exact ⟨true, rfl, .bl false, H', I', rfl, q H' ex⟩
    | next => exact False.elim hq
    | brk => exact False.elim hq
    | cont => exact False.elim hq
/-- xs[i] of a list, ahead of xs[i] op= .. -/
theorem pget_list {X : Cx} : PGet X (rIxL X.K) := by
  intro pins s σ H x y v u Q I rx ry h
  obtain ⟨p, xs, i, z, rfl, rfl, hq, he, q⟩ := h
  cases rx
  obtain ⟨t, rfl⟩ := ry
  obtain ⟨its, r, pl, hz⟩ := I.list hq
  obtain ⟨j, h1, h2, h3, h4, h5⟩ := atI_get he
  obtain ⟨w, ew, rw'⟩ := r.get h2
  have hl := r.length
  have hn := line63
  have fin : EP X pins σ Q w s := ⟨z, H, I, rw', q⟩
  by_cases h0 : 0 ≤ i
  · have hj : i.toNat = j := by
      rw [seqIndex_of h0 h5] at h1
      exact Option.some.inj h1
    exact wpAny_getItem_list pl.isList h0 (by omega) (by rw [hj]; simpa using ew) fin
  · have hj : (i + (its.toArray.size : Int)).toNat = j := by
      rw [seqIndex_neg (by omega) h4] at h1
      rw [List.size_toArray, ← hl]
      exact Option.some.inj h1
    exact wpAny_getItem_list_neg pl.isList (by omega) (by rw [List.size_toArray] <;> omega) (by omega) (by rw [hj]; simpa using ew) fin
end WRu

set_option Elab.async false
set_option linter.all false
set_option maxRecDepth 100000
set_option maxHeartbeats 2000000
/-! enumerate over a tuple or a list, from any count -/
namespace WEn
open PySem PySem.Spec PyProof.Rows L2
/-- a tuple (t) or a list -/
def SqB (t : Bool) (K : PySem.W.Frag) (H : Hp) (a : Addr) (xs : List V) : Prop := match t with
  | true => SqT K H a xs
  | false => SqL K H a xs
def IsB (t : Bool) (h : Heap) (a : Addr) (its : Array Value) : Prop := match t with
  | true => h.IsTuple a its
  | false => h.IsList a its
def ItB (t : Bool) (h : Heap) (it a : Addr) (i : Nat) : Prop := match t with
  | true => h.IsTupleIter it a i
  | false => h.IsListIter it a i
section
variable {X : Cx} {pins : List (Addr × Obj)} {σ : L2.St} {H : Hp} {s : Shared} {t : Bool} {a it : Addr} {xs ys : List V}
theorem of_sq (I : Inv X pins σ H s) (h : SqB t X.K H a xs) : ∃ its : List Value, Vals xs its ∧ IsB t s.heap a its.toArray ∧ xs.length ≤ sizeLine := by
  cases t with
  | true =>
    obtain ⟨its, r, p, z⟩ := I.tuple h
    exact ⟨its, r, p, z⟩
  | false =>
    obtain ⟨its, r, p, z⟩ := I.list h
    exact ⟨its, r, p.isList, z⟩
theorem sq_inj (I : Inv X pins σ H s) (h : SqB t X.K H a xs) (h' : SqB t X.K H a ys) : xs = ys := by
  cases t with
  | true => exact I.tuple_inj h h'
  | false => exact I.list_inj h h'
theorem itB_obj {h : Heap} {i : Nat} (x : ItB t h it a i) : ∃ o, h.get? it = some o ∧ ∀ v, o.data ≠ .cell v := by
  cases t with
  | true =>
    obtain ⟨o, e, _, d⟩ := x
    exact ⟨o, e, fun v z => by rw [d] at z; cases z⟩
  | false =>
    obtain ⟨o, e, _, d⟩ := x
    exact ⟨o, e, fun v z => by rw [d] at z; cases z⟩
theorem itB_at {h h' : Heap} {i : Nat} (x : ItB t h it a i) (k : ∀ o, h.get? it = some o → h'.get? it = some o) : ItB t h' it a i := by
  cases t with
  | true => exact Heap.IsTupleIter.at x k
  | false => exact Heap.IsListIter.at x k
theorem drawsB {prog : Program} {w : World} {A : Around} (hh : A.handled = none) (hne : a ≠ it) (its : Array Value) :
    Draws prog w A it [it, a] its.size (fun i v => its[i]? = some v) (fun i h => ItB t h it a i ∧ IsB t h a its) := by
  cases t with
  | true => exact Draws.tuple hh it a hne its
  | false => exact Draws.list hh it a hne its
end
/-- the sequence at a as it stands at each turn, each item in a new pair with its count -/
def ItE (t : Bool) (c : Int) (K : PySem.W.Frag) (a : Addr) : It :=
  ⟨fun i H => ∃ (xs : List V) (x : V), SqB t K H a xs ∧ xs[i]? = some x, fun i H v H' => ∃ T x, v = .ref T ∧ H T = none ∧ H' = upd H T (.tup [.int (c + (i : Nat)), x]) ∧ ∀ xs, SqB t K H a xs → xs[i]? = some x,
    fun i H => ∃ xs : List V, SqB t K H a xs ∧ xs.length = i⟩
theorem turn_enumC {P : Program} {w : World} {K : PySem.W.Frag} {elts : List Expr} {kk : Nat} {tpos : Pos} (t : Bool) (c : Int) (a e it : Addr) (hai : a ≠ it) (hae : a ≠ e) :
    Turn P w K (.Tuple elts kk tpos) (ItE t c K a) [e, it] e (fun i h => (∃ old, IsEnum h e it (c + (i : Nat)) old) ∧ ItB t h it a i ∧ e ≠ it) where
  mem := by simp
  obj := fun i h st b hb => by
    obtain ⟨⟨old, he⟩, hi, _⟩ := st
    have e' : b = e ∨ b = it := by simpa using hb
    rcases e' with z | z
    · rw [z]; exact ⟨_, he, fun v q => nomatch q⟩
    · rw [z]; exact itB_obj hi
  keep := fun i h h' st k => let ⟨⟨old, he⟩, hi, hne⟩ := st; ⟨⟨old, k e (by simp) _ he⟩, itB_at hi fun o q => k it (by simp) o q, hne⟩
  item := by
    intro X hP hw hK hc i pins s σ H E I hf st hg
    subst hP hw hK
    obtain ⟨⟨old, he⟩, hit, hne⟩ := st
    obtain ⟨xs, x, hq, hx⟩ := hg
    obtain ⟨its, rv, p, hz⟩ := of_sq I hq
    obtain ⟨u, hu, ru⟩ := rv.get hx
    have hel : e < s.heap.objs.size := Heap.lt_size he
    have hil : it < s.heap.objs.size := by obtain ⟨_, q, _⟩ := itB_obj hit; exact Heap.lt_size q
    have hlt : i < its.toArray.size := by
      rw [List.size_toArray, ← rv.length]
      exact (List.getElem?_eq_some_iff.mp hx).1
    refine wpAny_pyNext_enum_itemC (drawsB (A := X.A.in1) (t := t) (a := a) (I.ok.hd hc) hai its.toArray) he ⟨hit, p⟩ hlt hne (by simp [hne, Ne.symm hae]) fun x' h' tk hP ho hst hT hsz hk => ?_
    have hxu : x' = u := by
      rw [show its.toArray[i]? = its[i]? by simp, hu] at hP
      exact (Option.some.inj hP).symm
    subst hxu
    refine ⟨_, rfl, wpAny_letOwnedTupleGo_enum (s := { s with heap := h', toks := tk + 1 }) ho fun h'' he' sb => ?_⟩
    have hT2 : h''.get? s.heap.objs.size = some { cls := .type "tuple", data := .seq #[.int (c + (i : Nat)) tk, x'] } := (sb.2 _ (Nat.ne_of_gt hel)).trans hT
    have new : ObjOk X.prog X.w (upd H s.heap.objs.size (.tup [.int (c + (i : Nat)), x])) h'' s.heap.objs.size (.tup [.int (c + (i : Nat)), x]) :=
      ⟨by show 2 ≤ sizeLine; decide, [.int (c + (i : Nat)) tk, x'], .cons ⟨_, rfl⟩ (.cons ru .nil), ⟨_, hT2, rfl, _, rfl⟩⟩
    have I1 : Inv X pins σ (upd H s.heap.objs.size (.tup [.int (c + (i : Nat)), x])) { s with heap := h'', toks := tk + 1 } :=
      I.turnedNew (ch := [e, it]) (fun b ob hb q => (sb.2 b (fun z => hb (by simp [z]))).trans (hk b ob (fun z => hb (by simp [z])) (fun z => hb (by simp [z])) q)) hf (Nat.le_refl _) new
    refine ⟨.ref s.heap.objs.size, _, I1, rfl, ⟨_, x, rfl, I.hok.fresh (Nat.le_refl _), rfl, fun ys hy => by rw [sq_inj I hy hq]; exact hx⟩, ⟨⟨x', ?_⟩, itB_at hst.1 fun o q => (sb.2 it (Ne.symm hne)).trans q, hne⟩, fun b hb => ?_⟩
    · have e1 : c + ((i + 1 : Nat) : Int) = c + (i : Nat) + 1 := by omega
      rw [e1]; exact he'
    · have hb' : b < s.heap.objs.size := by
        have e' : b = e ∨ b = it := by simpa using hb
        rcases e' with z | z
        · rw [z]; exact hel
        · rw [z]; exact hil
      rw [upd_ne (Nat.ne_of_lt hb')]
      exact (hf b hb).1
  done := by
    intro X hP hw hK hc i pins s σ H E I hf st hg
    subst hP hw hK
    obtain ⟨⟨old, he⟩, hit, hne⟩ := st
    obtain ⟨xs, hq, hx⟩ := hg
    obtain ⟨its, rv, p, hz⟩ := of_sq I hq
    obtain ⟨f0, f1, f2, f3, f4, f5⟩ := hf it (by simp)
    have hn : its.toArray.size = i := by rw [List.size_toArray, ← rv.length, hx]
    refine wpAny_pyNext_enum_endD (drawsB (A := X.A.in1) (t := t) (a := a) (I.ok.hd hc) hai its.toArray) he ⟨by rw [hn]; exact hit, p⟩ fun h' eb => ⟨rfl, I.turned (t' := s.toks) (fun b o hb q => eb b o hb q) f0 f1 f3 f4 f5⟩
  self := fun A i s Q E st h => let ⟨⟨_, he⟩, _⟩ := st; wpAny_pyIter_enum he h
theorem meets_enum0 {v : Value} {o : Obj} {G : Heap → Prop} (B : Begins v o G) :
    Meets (Builtin.«enumerate.__new__» ⟨[.type "enumerate", v], []⟩) (fun _ R s => G s.heap ∧ R (.ok (.ret (.ref (s.heap.push o).objs.size)))
      { s with heap := (s.heap.push o).push { cls := .type "enumerate", data := .fields #[.none, .bool false, .ref s.heap.objs.size, rawInt 0, .none, .none] } }) :=
  .of_wp fun prog w A R s h => by
    obtain ⟨hp, g, d, tk, os⟩ := s
    obtain ⟨h1, h⟩ := h
    have hsub := sub_enumerate
    have q1 : ∀ {A' : Around} {E : Value → Shared → Prop} {Q : Value → Shared → Prop}, Q (.ref hp.objs.size) ⟨hp.push o, g, d, tk, os⟩ → wpAny (model prog w) A' (pyIter v) Q E ⟨hp, g, d, tk, os⟩ :=
      fun q => B.iter prog w _ _ ⟨hp, g, d, tk, os⟩ _ h1 q
    wp_walk using q1
    refine wpAny_stack_any fun st => wpAny_pure ?_
    split
    · rename_i c _ _ _ _ _
      cases (c == Value.type "enumerate") <;>
        · wp_walk using q1
          exact ⟨_, rfl, h⟩
    · wp_walk using q1
      exact ⟨_, rfl, h⟩
section
variable {prog : Program} {w : World} {A : Around} {E : Value → Shared → Prop} {s : Shared}
theorem enum_begins0 {v : Value} {o : Obj} {G : Heap → Prop} {Q : Value → Shared → Prop} (B : Begins v o G) (h1 : G s.heap)
    (h : ∀ h', IsEnum h' (s.heap.objs.size + 1) s.heap.objs.size 0 .none → h'.get? s.heap.objs.size = some o → (∀ b o, s.heap.get? b = some o → h'.get? b = some o) → Q (.ref (s.heap.objs.size + 1)) { s with heap := h' }) :
    wpAny (model prog w) A (call (.type "enumerate") [v]) Q E s := by
  refine callType_new F.called_enumerate (by decide) (F.typeCall_enumerate_1 _) (F.newCall_enumerate_1 _) (fun obj => F.args_object_init_2 obj _) F.entry_enumerate_new (meets_enum0 B) ⟨h1, ?_⟩
  have hz : (s.heap.push o).objs.size = s.heap.objs.size + 1 := Heap.size_push ..
  have g0 : ((s.heap.push o).push { cls := .type "enumerate", data := .fields #[.none, .bool false, .ref s.heap.objs.size, rawInt 0, .none, .none] }).get? (s.heap.push o).objs.size = some _ := Heap.get?_push_size _ rfl
  show _ ∧ _
  rw [hz] at g0 ⊢
  exact ⟨⟨_, g0, rfl⟩, h _ g0 (Heap.get?_push_of_some _ (Heap.get?_push_size _ B.free)) fun b o x => Heap.get?_push_of_some _ (Heap.get?_push_of_some _ x)⟩
end
/-- enumerate(tuple) -/
def iEnumT (K : PySem.W.Frag) (ta : TA) : TI := fun σ H R => ta σ H fun vs H1 => ∃ a xs, vs = [.ref a] ∧ SqT K H1 a xs ∧ R (ItE true 0 K a) H1
theorem pi_enumT {X : Cx} {e : Expr} {ta : TA} {p pos tpos : Pos} {elts : List Expr} {kk : Nat} (hg : Gl X "enumerate") (hm : X.mg "enumerate" = none) (ha : PA X [e] ta) (hs : starEach [e] X.env = [(false, eval e X.env)] := by rfl) :
    PI X (.Tuple elts kk tpos) (.Call (.Name "enumerate" p) [e] [] pos) (iEnumT X.K ta) := by
  refine ⟨fun pins s σ H R I h => ?_⟩
  refine Call_ (ld_blt I hg hm boot_enumerate (PyProof.Rows.callWith_type1 (thn (ha.run pos pins s σ H _ I h) fun us s1 ⟨vs, H1, I1, r1, q1⟩ => ?_) hs rfl))
  obtain ⟨a, xs, rfl, hq, q⟩ := q1
  cases r1 with
  | cons r rr =>
    cases rr
    cases r
    obtain ⟨its, rv, p', hz⟩ := I1.tuple hq
    have hal : a < s1.heap.objs.size := by obtain ⟨o, ho, _⟩ := id p'; exact Heap.lt_size ho
    refine enum_begins0 (begins_tuple a its.toArray) p' fun h' he hit hk => wpAny_pyIter_enum he ?_
    have I2 : Inv X pins σ H1 { s1 with heap := h' } := I1.kept (t' := s1.toks) hk
    refine ⟨s1.heap.objs.size + 1, [s1.heap.objs.size + 1, s1.heap.objs.size], _, _, H1, rfl, I2, turn_enumC true 0 a (s1.heap.objs.size + 1) s1.heap.objs.size (Nat.ne_of_lt hal) (Nat.ne_of_lt (Nat.lt_succ_of_lt hal)), ⟨⟨.none, he⟩, ⟨_, hit, rfl, rfl⟩, Nat.succ_ne_self _⟩, fun b hb => ?_, q⟩
    have e' : b = s1.heap.objs.size + 1 ∨ b = s1.heap.objs.size := by simpa using hb
    have hle : s1.heap.objs.size ≤ b := by
      rcases e' with z | z
      · rw [z]; exact Nat.le_succ _
      · rw [z]; exact Nat.le_refl _
    exact I1.fpOk hle (I1.hok.fresh hle)
theorem callWith_typeK {M : Model} {A : Around} {E : Value → Shared → Prop} {s : Shared} {env : Env} {pos : Pos} {T : String} {e : Expr} {rest : List Expr} {kws : List Keyword} {Q : Value → Shared → Prop} (hall : (backToKw pos (keywordEach kws env)).all (·.1.isSome) = true)
    (h : wpAny M A (spliced (backTo pos (starEach (e :: rest) env))) (fun vs s1 => wpAny M A (evalAll ((backToKw pos (keywordEach kws env)).map (·.2))) (fun ks s2 => wpAny M A (call (.type T) vs (((backToKw pos (keywordEach kws env)).filterMap (·.1)).zip ks)) Q E s2) E s1) E s)
    (hpl : ((backTo pos (starEach (e :: rest) env)).any (·.1) || (backToKw pos (keywordEach kws env)).any (·.1.isNone)) = false := by rfl) (he : starEach (e :: rest) env = (false, eval e env) :: starEach rest env := by rfl) :
    wpAny M A (callWith pos (.type T) [] (backTo pos (starEach (e :: rest) env)) (backToKw pos (keywordEach kws env))) Q E s := by
  unfold callWith
  refine wpAny_bind (wpAny_holding (wpAny_mono (evalArgs_kw2 (Q := fun a s1 => wpAny M A (call (.type T) ([] ++ a.pos) a.kw) Q E s1) hall h he) (fun a s1 h1 => wpAny_bind (wpAny_standAt ?_)) fun _ _ q => q))
  simp only [hpl]
  refine wpAny_bind (wpAny_pure ?_)
  exact wpAny_bind (wpAny_mono h1 (fun r s2 hr => wpAny_bind (wpAny_holding (wpAny_point (wpAny_pure hr)))) fun _ _ q => q)
/-- enumerate(list, start=c) -/
def iEnumS (K : PySem.W.Frag) (ta tk : TA) : TI := fun σ H R => ta σ H fun vs H1 => tk σ H1 fun zs H2 => ∃ a xs c, vs = [.ref a] ∧ zs = [.int c] ∧ SqL K H2 a xs ∧ -(2 ^ 63) ≤ c ∧ c < 2 ^ 63 ∧ R (ItE false c K a) H2
theorem pi_enumS {X : Cx} {e : Expr} {ta tk : TA} {p pos tpos : Pos} {elts : List Expr} {kk : Nat} {kws : List Keyword} (hg : Gl X "enumerate") (hm : X.mg "enumerate" = none) (ha : PA X [e] ta) (hkw : PK X kws tk)
    (hall : (backToKw pos (keywordEach kws X.env)).all (·.1.isSome) = true := by rfl) (hks : (backToKw pos (keywordEach kws X.env)).filterMap (·.1) = [("start" : Str)] := by rfl)
    (he : starEach [e] X.env = (false, eval e X.env) :: starEach [] X.env := by rfl) (hpl : ((backTo pos (starEach [e] X.env)).any (·.1) || (backToKw pos (keywordEach kws X.env)).any (·.1.isNone)) = false := by rfl) :
    PI X (.Tuple elts kk tpos) (.Call (.Name "enumerate" p) [e] kws pos) (iEnumS X.K ta tk) := by
  refine ⟨fun pins s σ H R I h => ?_⟩
  refine wpAny_Call_Name_kw (ld_blt I hg hm boot_enumerate (callWith_typeK hall (thn (ha.run pos pins s σ H _ I h) fun us s1 ⟨vs, H1, I1, r1, q1⟩ => ?_) hpl he))
  refine thn (hkw.run pos pins s1 σ H1 _ I1 q1) fun ws s2 ⟨zs, H2, I2, rz, a, xs, c, e1, e2, hq, hc0, hc1, q⟩ => ?_
  subst e1 e2
  rw [hks]
  cases r1 with
  | cons r rr =>
    cases rr
    cases r
    cases rz with
    | cons rk rr =>
      cases rr
      obtain ⟨t, rfl⟩ := rk
      obtain ⟨its, rv, p', hz⟩ := I2.list hq
      have hal : a < s2.heap.objs.size := p'.lt
      refine enum_begins_start (begins_list a its.toArray) p'.isList hc0 hc1 fun h' he hit hz hk => wpAny_pyIter_enum he ?_
      have I3 : Inv X pins σ H2 { s2 with heap := h' } := I2.kept (t' := s2.toks) hk
      refine ⟨s2.heap.objs.size + 1, [s2.heap.objs.size + 1, s2.heap.objs.size], _, _, H2, rfl, I3, turn_enumC false c a (s2.heap.objs.size + 1) s2.heap.objs.size (Nat.ne_of_lt hal) (Nat.ne_of_lt (Nat.lt_succ_of_lt hal)), ⟨⟨.none, ?_⟩, ⟨_, hit, rfl, rfl⟩, Nat.succ_ne_self _⟩, fun b hb => ?_, q⟩
      · rw [show c + ((0 : Nat) : Int) = c by omega]
        exact he
      · have e' : b = s2.heap.objs.size + 1 ∨ b = s2.heap.objs.size := by simpa using hb
        have hle : s2.heap.objs.size ≤ b := by
          rcases e' with z | z
          · rw [z]; exact Nat.le_succ _
          · rw [z]; exact Nat.le_refl _
        exact I2.fpOk hle (I2.hok.fresh hle)
theorem walk_enumC {K : PySem.W.Frag} {t : Bool} {c : Int} {a : Addr} {xs : List V} : Walk (ItE t c K a) xs.length (fun H => SqB t K H a xs) (YPair (fun i => some (.int (c + (i : Nat)))) (fun i => xs[i]?)) := by
  refine ⟨fun i _ hi q => ⟨xs, xs[i], q, by simp [hi]⟩, fun _ q => ⟨xs, q, rfl⟩, fun i H v H' _ q y => ?_⟩
  obtain ⟨T, x, h1, h2, h3, h4⟩ := y
  exact ⟨T, .int (c + (i : Nat)), x, h1, h2, h3, rfl, h4 xs q⟩
end WEn

set_option Elab.async false
set_option linter.all false
set_option maxRecDepth 100000
set_option maxHeartbeats 2000000
/-! zip(tuple, list, strict=True) -/
namespace WZs
open PySem PySem.Spec PyProof.Rows L2 WEn
abbrev ZS (h : Heap) (z TI TO : Addr) (f0 : Value) : Prop := h.get? z = some { cls := .type "zip", dict := none, data := .fields #[f0, .bool false, .bool true, .ref TI, .ref TO], slots := #[] }
section
variable {prog : Program} {w : World} {A : Around} {E : Value → Shared → Prop} {s : Shared} {it : Addr} {fp : List Addr} {n i : Nat} {P : Nat → Value → Prop} {St : Nat → Heap → Prop}
/-- the next of an iterator, or None where it is over -/
theorem draw_more {Q : Option Value → Shared → Prop} (D : Draws prog w A it fp n P St) (st : St i s.heap) (hi : i < n) (h : ∀ x h' tk, P i x → St (i + 1) h' → Heap.SameBut it s.heap h' → Q (some x) { s with heap := h', toks := tk }) :
    wpAny (model prog w) A (Builtin.SmallTypes.nextOrEnd (.ref it)) Q E s := by
  unfold Builtin.SmallTypes.nextOrEnd
  exact wpAny_bind (wpAny_attempt (D.item i s _ _ hi st fun x h' tk a b c => wpAny_pure (h x h' tk a b c)))
theorem draw_over {Q : Option Value → Shared → Prop} (D : Draws prog w A it fp n P St) (st : St n s.heap) (h : ∀ h', Heap.ExtBut it s.heap h' → Q none { s with heap := h' }) :
    wpAny (model prog w) A (Builtin.SmallTypes.nextOrEnd (.ref it)) Q E s := by
  unfold Builtin.SmallTypes.nextOrEnd
  refine wpAny_bind (wpAny_attempt (D.done s _ _ st fun h' e he hx => ?_))
  obtain ⟨o, ho, hc⟩ := hx
  refine wpAny_bind (wpAny_isInstance (T := "StopIteration") (b := true) ⟨o, ho, hc⟩ isSubtype_stop ?_)
  exact wpAny_pure (h h' he)
end
section
variable {prog : Program} {w : World} {A : Around} {E : Value → Shared → Prop} {s : Shared} {z TI TO i1 i2 : Addr} {fp1 fp2 : List Addr} {n i : Nat} {P1 P2 : Nat → Value → Prop} {St1 St2 : Nat → Heap → Prop} {a1 a2 : Value}
theorem zs_item {Q : Value → Shared → Prop} (S : ZipSep2 z TI TO i1 i2 fp1 fp2) (D1 : Draws prog w A i1 fp1 n P1 St1) (D2 : Draws prog w A i2 fp2 n P2 St2)
    (hz : ZS s.heap z TI TO .none) (hTI : IsTupOf2 s.heap TI (.ref i1) (.ref i2)) (hTO : IsTupOf2 s.heap TO a1 a2) (st1 : St1 i s.heap) (st2 : St2 i s.heap) (hlt : i < n)
    (hQ : ∀ x1 x2 h' tk, P1 i x1 → P2 i x2 → ZS h' z TI TO (rawInt s.heap.objs.size) → IsTupOf2 h' TO x1 x2 → St1 (i + 1) h' → St2 (i + 1) h' → IsTupOf2 h' s.heap.objs.size x1 x2 →
      (∀ c o, c ≠ z → c ≠ TO → c ≠ i1 → c ≠ i2 → s.heap.get? c = some o → h'.get? c = some o) → Q (.ref s.heap.objs.size) { s with heap := h', toks := tk }) :
    wpAny (model prog w) A (Builtin.«zip.__next__» ⟨[.ref z], []⟩) (fun fin s' => ∃ v, fin = .done (.ret v) ∧ Q v s') E s := by
  obtain ⟨hp, g, d, tk0, os⟩ := s
  show wpAny _ _ (field (.ref z) 2 >>= _) _ _ _
  refine wpAny_bind (wpAny_field hz rfl (x := .bool true) rfl ?_)
  show wpAny _ _ (field (.ref z) 3 >>= _) _ _ _
  refine wpAny_bind (wpAny_field hz rfl (x := .ref TI) rfl ?_)
  refine wpAny_bind (wpAny_seqItems hTI rfl ?_)
  show wpAny _ _ (Builtin.SmallTypes.ownedTupleIsFree (.ref z) >>= _) _ _ _
  refine wpAny_bind ?_
  unfold Builtin.SmallTypes.ownedTupleIsFree
  refine wpAny_bind (wpAny_field hz rfl (x := .none) rfl (wpAny_pure ?_))
  simp only [if_true]
  refine wpAny_bind (wpAny_rule ?_)
  refine wpAny_bind (wpAny_field hz rfl (x := .ref TO) rfl ?_)
  refine wpAny_bind (wpAny_setField_rec hz (by simp) fun g0 hz0 hs0 => ?_)
  replace hz0 : ZS g0 z TI TO .ellipsis := hz0
  replace hs0 : Heap.SameBut z hp g0 := hs0
  refine wpAny_bind ?_
  simp only [List.zipIdx_cons, List.zipIdx_nil, List.forIn_cons, List.forIn_nil]
  refine wpAny_bind (wpAny_bind (wpAny_onRaise ?_))
  show wpAny _ _ (Builtin.SmallTypes.nextOrEnd (.ref i1)) _ _ ⟨g0, g, d, tk0, os⟩
  refine draw_more (s := ⟨g0, g, d, tk0, os⟩) D1 (D1.over st1 hs0 S.zf1) hlt fun x1 p1 tk1 hx1 sn1 hp1 => ?_
  replace hp1 : Heap.SameBut i1 g0 p1 := hp1
  have hU1 : IsTupOf2 p1 TO a1 a2 := hp1.extBut _ _ S.Ti1 (hs0.extBut _ _ S.TOz hTO)
  refine wpAny_bind (wpAny_seqItems (s := ⟨p1, g, d, tk1, os⟩) hU1 rfl ?_)
  refine wpAny_bind (updateSeq_IsTupOf2 (s := ⟨p1, g, d, tk1, os⟩) hU1 fun g1 hT1 hs1 => ?_)
  replace hT1 : IsTupOf2 g1 TO x1 a2 := hT1
  replace hs1 : Heap.SameBut TO p1 g1 := hs1
  refine wpAny_bind (wpAny_letGo (wpAny_pure ?_))
  refine wpAny_bind (wpAny_bind (wpAny_onRaise ?_))
  show wpAny _ _ (Builtin.SmallTypes.nextOrEnd (.ref i2)) _ _ ⟨g1, g, d, tk1, os⟩
  refine draw_more (s := ⟨g1, g, d, tk1, os⟩) D2 (D2.over (D2.over (D2.over st2 hs0 S.zf2) hp1 S.sep1_2) hs1 S.Tf2) hlt fun x2 p2 tk2 hx2 sn2 hp2 => ?_
  replace hp2 : Heap.SameBut i2 g1 p2 := hp2
  have hU2 : IsTupOf2 p2 TO x1 a2 := hp2.extBut _ _ S.Ti2 hT1
  refine wpAny_bind (wpAny_seqItems (s := ⟨p2, g, d, tk2, os⟩) hU2 rfl ?_)
  refine wpAny_bind (updateSeq_IsTupOf2 (s := ⟨p2, g, d, tk2, os⟩) hU2 fun g2 hT2 hs2 => ?_)
  replace hT2 : IsTupOf2 g2 TO x1 x2 := hT2
  replace hs2 : Heap.SameBut TO p2 g2 := hs2
  refine wpAny_bind (wpAny_letGo (wpAny_pure (wpAny_pure ?_)))
  refine wpAny_bind (wpAny_seqItems (s := ⟨g2, g, d, tk2, os⟩) hT2 rfl ?_)
  refine wpAny_bind (wpAny_newTuple ?_)
  have hsz : g2.objs.size = hp.objs.size := by rw [hs2.1, hp2.1, hs1.1, hp1.1, hs0.1]
  have hzz : ZS g2 z TI TO .ellipsis := hs2.extBut _ _ S.TOz.symm (hp2.extBut _ _ S.zi2 (hs1.extBut _ _ S.TOz.symm (hp1.extBut _ _ S.zi1 hz0)))
  have hkk : ∀ c o, c ≠ z → c ≠ TO → c ≠ i1 → c ≠ i2 → hp.get? c = some o → g2.get? c = some o := fun c o cz cT c1 c2 e =>
    hs2.extBut _ _ cT (hp2.extBut _ _ c2 (hs1.extBut _ _ cT (hp1.extBut _ _ c1 (hs0.extBut _ _ cz e))))
  have hj1 : St1 (i + 1) g2 := D1.over (D1.over (D1.over sn1 hs1 S.Tf1) hp2 S.sep2_1) hs2 S.Tf1
  have hj2 : St2 (i + 1) g2 := D2.over sn2 hs2 S.Tf2
  have hzlt : z < g2.objs.size := Heap.lt_size hzz
  show wpAny _ _ (Builtin.SmallTypes.ownedTupleHandOut (.ref z) (.ref g2.objs.size) >>= _) _ _ ⟨g2.push { cls := .type "tuple", data := .seq #[x1, x2] }, g, d, tk2, os⟩
  refine wpAny_bind ?_
  unfold Builtin.SmallTypes.ownedTupleHandOut
  have hz6 : ZS (g2.push { cls := .type "tuple", data := .seq #[x1, x2] }) z TI TO .ellipsis := Heap.get?_push_of_some _ hzz
  refine wpAny_bind (wpAny_setField_rec hz6 (by simp) fun h7 hz7 hs7 => ?_)
  replace hz7 : ZS h7 z TI TO (rawInt g2.objs.size) := hz7
  refine wpAny_setField_rec hz7 (by simp) fun h8 hz8 hs8 => ?_
  replace hz8 : ZS h8 z TI TO (rawInt g2.objs.size) := hz8
  replace hs7 : Heap.SameBut z (g2.push { cls := .type "tuple", data := .seq #[x1, x2] }) h7 := hs7
  replace hs8 : Heap.SameBut z h7 h8 := hs8
  have up : ∀ c o, c ≠ z → g2.get? c = some o → h8.get? c = some o := fun c o c1 e => hs8.extBut _ _ c1 (hs7.extBut _ _ c1 (Heap.get?_push_of_some _ e))
  have hT8 : IsTupOf2 h8 g2.objs.size x1 x2 := hs8.extBut _ _ (Nat.ne_of_gt hzlt) (hs7.extBut _ _ (Nat.ne_of_gt hzlt) (Heap.get?_push_size _ rfl))
  rw [hsz] at hz8 hT8
  refine wpAny_pure ⟨_, rfl, ?_⟩
  show Q (.ref g2.objs.size) ⟨h8, g, d, tk2, os⟩
  rw [hsz]
  exact hQ x1 x2 h8 tk2 hx1 hx2 hz8 (up _ _ S.TOz hT2) (D1.frame _ _ _ hj1 fun b hb o e => up b o (fun q => S.zf1 (q ▸ hb)) e) (D2.frame _ _ _ hj2 fun b hb o e => up b o (fun q => S.zf2 (q ▸ hb)) e) hT8 fun c o cz cT c1 c2 e => up c o cz (hkk c o cz cT c1 c2 e)
theorem zs_over {Q : Fin → Shared → Prop} (hh : A.handled = none) (S : ZipSep2 z TI TO i1 i2 fp1 fp2) (D1 : Draws prog w A i1 fp1 n P1 St1) (D2 : Draws prog w A i2 fp2 n P2 St2)
    (hz : ZS s.heap z TI TO .none) (hTI : IsTupOf2 s.heap TI (.ref i1) (.ref i2)) (hTO : IsTupOf2 s.heap TO a1 a2) (st1 : St1 n s.heap) (st2 : St2 n s.heap)
    (hE : ∀ h' e, (∀ c o, c ≠ z → c ≠ TO → c ≠ i1 → c ≠ i2 → s.heap.get? c = some o → h'.get? c = some o) → (∃ o, h'.get? e = some o ∧ o.cls = .type "StopIteration") → E (.ref e) { s with heap := h' }) :
    wpAny (model prog w) A (Builtin.«zip.__next__» ⟨[.ref z], []⟩) Q E s := by
  obtain ⟨hp, g, d, tk0, os⟩ := s
  show wpAny _ _ (field (.ref z) 2 >>= _) _ _ _
  refine wpAny_bind (wpAny_field hz rfl (x := .bool true) rfl ?_)
  show wpAny _ _ (field (.ref z) 3 >>= _) _ _ _
  refine wpAny_bind (wpAny_field hz rfl (x := .ref TI) rfl ?_)
  refine wpAny_bind (wpAny_seqItems hTI rfl ?_)
  show wpAny _ _ (Builtin.SmallTypes.ownedTupleIsFree (.ref z) >>= _) _ _ _
  refine wpAny_bind ?_
  unfold Builtin.SmallTypes.ownedTupleIsFree
  refine wpAny_bind (wpAny_field hz rfl (x := .none) rfl (wpAny_pure ?_))
  simp only [if_true]
  refine wpAny_bind (wpAny_rule ?_)
  refine wpAny_bind (wpAny_field hz rfl (x := .ref TO) rfl ?_)
  refine wpAny_bind (wpAny_setField_rec hz (by simp) fun g0 hz0 hs0 => ?_)
  replace hz0 : ZS g0 z TI TO .ellipsis := hz0
  replace hs0 : Heap.SameBut z hp g0 := hs0
  refine wpAny_bind ?_
  simp only [List.zipIdx_cons, List.zipIdx_nil, List.forIn_cons, List.forIn_nil]
  refine wpAny_bind (wpAny_bind (wpAny_onRaise ?_))
  show wpAny _ _ (Builtin.SmallTypes.nextOrEnd (.ref i1)) _ _ ⟨g0, g, d, tk0, os⟩
  refine draw_over (s := ⟨g0, g, d, tk0, os⟩) D1 (D1.over st1 hs0 S.zf1) fun p1 hp1 => ?_
  replace hp1 : Heap.ExtBut i1 g0 p1 := hp1
  have hz1 : ZS p1 z TI TO .ellipsis := hp1 _ _ S.zi1 hz0
  refine wpAny_bind (wpAny_setField_rec hz1 (by simp) fun g1 hz2 hs1 => ?_)
  replace hs1 : Heap.SameBut z p1 g1 := hs1
  refine wpAny_bind ?_
  refine wpAny_mono (Q := fun _ _ => False) ?_ (fun _ _ h => h.elim) fun _ _ h => h
  have st2' : St2 n g1 := D2.over (D2.frame _ _ _ (D2.over st2 hs0 S.zf2) fun b hb o e => hp1 b o (fun q => S.sep1_2 (q ▸ hb)) e) hs1 S.zf2
  wp_delta
  iterate 2 wp_step
  rw [show (List.drop 1 [Value.ref i1, Value.ref i2]).zipIdx 1 = [(Value.ref i2, 1)] from rfl, List.forIn_cons]
  refine wpAny_bind ?_
  refine wpAny_bind (draw_over (s := ⟨g1, g, d, tk0, os⟩) D2 st2' fun h2 he2 => ?_)
  rw [if_neg (by simp)]
  refine wpAny_pure ?_
  dsimp only
  rw [List.forIn_nil]
  refine wpAny_pure ?_
  refine wpAny_bind (wpAny_rule ?_)
  have hk2 : ∀ c o, c ≠ z → c ≠ TO → c ≠ i1 → c ≠ i2 → hp.get? c = some o → h2.get? c = some o := fun c o cz _ c1 c2 e => he2 c o c2 (hs1.extBut c o cz (hp1 c o c1 (hs0.extBut c o cz e)))
  show wpAny _ _ (newExc (.type "StopIteration") [] >>= _) _ _ _
  refine wpAny_bind ?_
  simp only [newExc, newTuple]
  refine wpAny_bind (wpAny_newObj_type ?_ (by size_fits))
  refine wpAny_bind (m := firstArgMember _ _) (wpAny_of_eq (a := Value.none) (by first | rfl | (simp only [firstArgMember]; rfl)) ?_)
  refine wpAny_newObj_type ?_ (by size_fits)
  simp only [raiseNew]
  refine wpAny_bind (wpAny_handled ?_)
  rw [hh]
  refine wpAny_bind (wpAny_pure (wpAny_throw ?_))
  exact hE _ _ (fun c o cz cT c1 c2 e => Heap.get?_push_of_some _ (Heap.get?_push_of_some _ (hk2 c o cz cT c1 c2 e))) ⟨_, Heap.get?_push_size _ rfl, rfl⟩
theorem next_zs_item {Q : Option Value → Shared → Prop} (S : ZipSep2 z TI TO i1 i2 fp1 fp2) (D1 : Draws prog w A.in1 i1 fp1 n P1 St1) (D2 : Draws prog w A.in1 i2 fp2 n P2 St2)
    (hz : ZS s.heap z TI TO .none) (hTI : IsTupOf2 s.heap TI (.ref i1) (.ref i2)) (hTO : IsTupOf2 s.heap TO a1 a2) (st1 : St1 i s.heap) (st2 : St2 i s.heap) (hlt : i < n)
    (hQ : ∀ x1 x2 h' tk, P1 i x1 → P2 i x2 → ZS h' z TI TO (rawInt s.heap.objs.size) → IsTupOf2 h' TO x1 x2 → St1 (i + 1) h' → St2 (i + 1) h' → IsTupOf2 h' s.heap.objs.size x1 x2 →
      (∀ c o, c ≠ z → c ≠ TO → c ≠ i1 → c ≠ i2 → s.heap.get? c = some o → h'.get? c = some o) → Q (some (.ref s.heap.objs.size)) { s with heap := h', toks := tk }) :
    wpAny (model prog w) A (pyNext (.ref z)) Q E s := by
  have hT : s.TypeIs (.ref z) "zip" := ⟨_, hz, rfl⟩
  unfold pyNext
  exact wpAny_bind (wpAny_attempt (wpAny_callSpecial?_slot (name := Str.ofString "__next__") hT F.slot_zip_next
    (wpAny_call_entry F.slot_zip_next hT F.entry_zip_next (zs_item S D1 D2 hz hTI hTO st1 st2 hlt fun x1 x2 h' tk b1 b2 b3 b4 b5 b6 b7 b8 => wpAny_pure (hQ x1 x2 h' tk b1 b2 b3 b4 b5 b6 b7 b8)) (F.args_zip_next_1 _))))
theorem next_zs_over {Q : Option Value → Shared → Prop} (hh : A.handled = none) (S : ZipSep2 z TI TO i1 i2 fp1 fp2) (D1 : Draws prog w A.in1 i1 fp1 n P1 St1) (D2 : Draws prog w A.in1 i2 fp2 n P2 St2)
    (hz : ZS s.heap z TI TO .none) (hTI : IsTupOf2 s.heap TI (.ref i1) (.ref i2)) (hTO : IsTupOf2 s.heap TO a1 a2) (st1 : St1 n s.heap) (st2 : St2 n s.heap)
    (hQ : ∀ h', (∀ c o, c ≠ z → c ≠ TO → c ≠ i1 → c ≠ i2 → s.heap.get? c = some o → h'.get? c = some o) → Q none { s with heap := h' }) : wpAny (model prog w) A (pyNext (.ref z)) Q E s := by
  have hT : s.TypeIs (.ref z) "zip" := ⟨_, hz, rfl⟩
  unfold pyNext
  refine wpAny_bind (wpAny_attempt (wpAny_callSpecial?_slot (name := Str.ofString "__next__") hT F.slot_zip_next
    (wpAny_call_entry F.slot_zip_next hT F.entry_zip_next (zs_over hh S D1 D2 hz hTI hTO st1 st2 fun h' e hk he => ?_) (F.args_zip_next_1 _))))
  obtain ⟨o, ho, hc⟩ := he
  refine wpAny_bind (wpAny_isInstance (T := "StopIteration") (b := true) ⟨o, ho, hc⟩ isSubtype_stop ?_)
  exact wpAny_pure (hQ _ hk)
theorem go_zs {elts : List Expr} {x1} {pos : Pos} {T : Addr} {Q : Unit → Shared → Prop} (hz : ZS s.heap z TI TO (rawInt T)) (hQ : ∀ h', ZS h' z TI TO .none → Heap.SameBut z s.heap h' → Q () { s with heap := h' }) :
    wpAny (model prog w) A (letOwnedTupleGo (.Tuple elts x1 pos) (.ref z) (.ref T)) Q E s := by
  unfold letOwnedTupleGo
  refine wpAny_bind (wpAny_load hz ?_)
  dsimp only
  rw [if_pos (by simp)]
  refine wpAny_bind (wpAny_rule ?_)
  show wpAny _ _ (setField (.ref z) 0 .none) Q E s
  exact wpAny_setField_rec hz (by simp) fun h' hz' hs' => hQ h' hz' hs'
theorem iter_zs {f0 : Value} {Q : Value → Shared → Prop} (hz : ZS s.heap z TI TO f0) (h : Q (.ref z) s) : wpAny (model prog w) A (pyIter (.ref z)) Q E s := by
  have hT : s.TypeIs (.ref z) "zip" := ⟨_, hz, rfl⟩
  refine wpAny_pyIter_slot hT F.slot_zip_iter (wpAny_call_entry F.slot_zip_iter hT F.entry_zip_iter ?_ (F.args_zip_iter_1 _))
  show wpAny _ _ (ret (.ref z)) _ _ s
  exact wpAny_pure ⟨_, rfl, "zip", _, hT, F.slot_zip_next.lookup, h⟩
end
abbrev zh (h : Heap) (o1 o2 : Obj) : Heap := ((((h.push o1).push o2).push { cls := .type "tuple", data := .seq #[.ref h.objs.size, .ref (h.push o1).objs.size] }).push { cls := .type "tuple", data := .seq #[.none, .none] }).push
  { cls := .type "zip", data := .fields #[.none, .bool false, .bool true, .ref ((h.push o1).push o2).objs.size, .ref (((h.push o1).push o2).push { cls := .type "tuple", data := .seq #[.ref h.objs.size, .ref (h.push o1).objs.size] }).objs.size] }
abbrev zh4 (h : Heap) (o1 o2 : Obj) : Heap := (((h.push o1).push o2).push { cls := .type "tuple", data := .seq #[.ref h.objs.size, .ref (h.push o1).objs.size] }).push { cls := .type "tuple", data := .seq #[.none, .none] }
theorem meets_zs {v1 v2 : Value} {o1 o2 : Obj} {G1 G2 : Heap → Prop} (B1 : Begins v1 o1 G1) (B2 : Begins v2 o2 G2) :
    Meets (Builtin.«zip.__new__» ⟨[.type "zip", v1, v2], [(Str.ofString "strict", .bool true)]⟩) (fun _ R s => (G1 s.heap ∧ G2 s.heap) ∧ R (.ok (.ret (.ref (zh4 s.heap o1 o2).objs.size))) { s with heap := zh s.heap o1 o2 }) :=
  .of_wp fun prog w A R s h => by
    obtain ⟨hp, g, d, tk, os⟩ := s
    obtain ⟨⟨h1, h2⟩, h⟩ := h
    have hsub := sub_zip
    have h2' : G2 (hp.push o1) := B2.keeps _ _ h2 fun b o q => Heap.get?_push_of_some _ q
    have q1 : ∀ {A' : Around} {E : Value → Shared → Prop} {Q : Value → Shared → Prop}, Q (.ref hp.objs.size) ⟨hp.push o1, g, d, tk, os⟩ → wpAny (model prog w) A' (pyIter v1) Q E ⟨hp, g, d, tk, os⟩ :=
      fun q => B1.iter prog w _ _ ⟨hp, g, d, tk, os⟩ _ h1 q
    have q2 : ∀ {A' : Around} {E : Value → Shared → Prop} {Q : Value → Shared → Prop}, Q (.ref (hp.push o1).objs.size) ⟨(hp.push o1).push o2, g, d, tk, os⟩ → wpAny (model prog w) A' (pyIter v2) Q E ⟨hp.push o1, g, d, tk, os⟩ :=
      fun q => B2.iter prog w _ _ ⟨hp.push o1, g, d, tk, os⟩ _ h2' q
    have e1 : (Str.ofString "strict" != ("strict" : Str)) = false := by decide +kernel
    wp_walk using q1, q2
    exact ⟨_, rfl, h⟩
theorem tcall_strict (a b c : Value) : checkTypeCall "zip" ⟨[a, b], [(Str.ofString "strict", c)]⟩ = pure () := by kernel_rfl
theorem ncall_strict (a b c : Value) : checkBuiltinCall "zip.__new__" ⟨[.type "zip", a, b], [(Str.ofString "strict", c)]⟩ = pure () := by kernel_rfl
theorem init_strict (obj a b c : Value) : argsOk "object.__init__" ⟨[obj, a, b], [(Str.ofString "strict", c)]⟩ := by unfold argsOk; kernel_rfl
section
variable {prog : Program} {w : World} {A : Around} {E : Value → Shared → Prop} {s : Shared}
theorem zs_begins {v1 v2 : Value} {o1 o2 : Obj} {G1 G2 : Heap → Prop} {Q : Value → Shared → Prop} (B1 : Begins v1 o1 G1) (B2 : Begins v2 o2 G2) (h1 : G1 s.heap) (h2 : G2 s.heap)
    (h : ∀ h', ZS h' (s.heap.objs.size + 4) (s.heap.objs.size + 2) (s.heap.objs.size + 3) .none → IsTupOf2 h' (s.heap.objs.size + 2) (.ref s.heap.objs.size) (.ref (s.heap.objs.size + 1)) → IsTupOf2 h' (s.heap.objs.size + 3) .none .none →
      h'.get? s.heap.objs.size = some o1 → h'.get? (s.heap.objs.size + 1) = some o2 → (∀ b o, s.heap.get? b = some o → h'.get? b = some o) → Q (.ref (s.heap.objs.size + 4)) { s with heap := h' }) :
    wpAny (model prog w) A (call (.type "zip") [v1, v2] [(Str.ofString "strict", .bool true)]) Q E s := by
  refine callType_newKw F.called_zip (by decide) (tcall_strict _ _ _) (ncall_strict _ _ _) (fun obj => init_strict obj _ _ _) F.entry_zip_new (meets_zs B1 B2) ⟨⟨h1, h2⟩, ?_⟩
  have z1 : (s.heap.push o1).objs.size = s.heap.objs.size + 1 := Heap.size_push ..
  have z2 : ((s.heap.push o1).push o2).objs.size = s.heap.objs.size + 2 := by rw [Heap.size_push, z1]
  have z3 : (((s.heap.push o1).push o2).push { cls := .type "tuple", data := .seq #[.ref s.heap.objs.size, .ref (s.heap.push o1).objs.size] }).objs.size = s.heap.objs.size + 3 := by rw [Heap.size_push, z2]
  have z4 : (zh4 s.heap o1 o2).objs.size = s.heap.objs.size + 4 := by rw [Heap.size_push, z3]
  have g5 : (zh s.heap o1 o2).get? (zh4 s.heap o1 o2).objs.size = some _ := Heap.get?_push_size _ rfl
  have g4 : (zh s.heap o1 o2).get? (((s.heap.push o1).push o2).push { cls := .type "tuple", data := .seq #[.ref s.heap.objs.size, .ref (s.heap.push o1).objs.size] }).objs.size = some _ := Heap.get?_push_of_some _ (Heap.get?_push_size _ rfl)
  have g3 : (zh s.heap o1 o2).get? ((s.heap.push o1).push o2).objs.size = some _ := Heap.get?_push_of_some _ (Heap.get?_push_of_some _ (Heap.get?_push_size _ rfl))
  have g2 : (zh s.heap o1 o2).get? (s.heap.push o1).objs.size = some _ := Heap.get?_push_of_some _ (Heap.get?_push_of_some _ (Heap.get?_push_of_some _ (Heap.get?_push_size _ B2.free)))
  have g1 : (zh s.heap o1 o2).get? s.heap.objs.size = some _ := Heap.get?_push_of_some _ (Heap.get?_push_of_some _ (Heap.get?_push_of_some _ (Heap.get?_push_of_some _ (Heap.get?_push_size _ B1.free))))
  show _ ∧ _
  rw [z2, z3, z4] at g5
  rw [z1, z2] at g3
  rw [z3] at g4
  rw [z1] at g2
  rw [z4]
  exact ⟨⟨_, g5, rfl⟩, h _ g5 g3 g4 g1 g2 fun c o x => Heap.get?_push_of_some _ (Heap.get?_push_of_some _ (Heap.get?_push_of_some _ (Heap.get?_push_of_some _ (Heap.get?_push_of_some _ x))))⟩
end
/-- the tuple at a, the list at b as they stand, the items in new pairs -/
def ItZ (K : PySem.W.Frag) (a b : Addr) : It :=
  ⟨fun i H => ∃ (xs ys : List V) (x y : V), SqT K H a xs ∧ SqL K H b ys ∧ xs.length = ys.length ∧ xs[i]? = some x ∧ ys[i]? = some y,
    fun i H v H' => ∃ T x y, v = .ref T ∧ H T = none ∧ H' = upd H T (.tup [x, y]) ∧ (∀ xs, SqT K H a xs → xs[i]? = some x) ∧ ∀ ys, SqL K H b ys → ys[i]? = some y,
    fun i H => ∃ xs ys : List V, SqT K H a xs ∧ SqL K H b ys ∧ xs.length = i ∧ ys.length = i⟩
theorem ne_nat {a b : Nat} (h : a < b ∨ b < a) : ¬ @Eq Addr a b := fun e => by
  have e' : a = b := e
  omega
theorem out2 {a b c : Nat} (h1 : a < b ∨ b < a) (h2 : a < c ∨ c < a) : ¬ ((a : Addr) ∈ ([b, c] : List Addr)) := fun h => by
  rcases List.mem_cons.mp h with e | h
  · exact ne_nat h1 e
  · exact ne_nat h2 (List.mem_singleton.mp h)
theorem sep_of (n a b : Nat) (h1 : a < n) (h2 : b < n) : ZipSep2 (n + 4) (n + 2) (n + 3) n (n + 1) [n, a] [n + 1, b] :=
  ⟨ne_nat (by omega), ne_nat (by omega), ne_nat (by omega), ne_nat (by omega), List.mem_cons_self, out2 (by omega) (by omega), out2 (by omega) (by omega), ne_nat (by omega), List.mem_cons_self, out2 (by omega) (by omega), out2 (by omega) (by omega), out2 (by omega) (by omega), out2 (by omega) (by omega)⟩
theorem turn_zs {P : Program} {w : World} {K : PySem.W.Frag} {elts : List Expr} {kk : Nat} {tpos : Pos} {a b z TI TO i1 i2 : Addr} (S : ZipSep2 z TI TO i1 i2 [i1, a] [i2, b]) (ha : a ≠ i1) (hb : b ≠ i2) :
    Turn P w K (.Tuple elts kk tpos) (ItZ K a b) [z, TI, TO, i1, i2] z (fun i h => ZS h z TI TO .none ∧ IsTupOf2 h TI (.ref i1) (.ref i2) ∧ (∃ x y, IsTupOf2 h TO x y) ∧ h.IsTupleIter i1 a i ∧ h.IsListIter i2 b i) where
  mem := by simp
  obj := fun i h st c hc => by
    obtain ⟨hz, hTI, ⟨x, y, hTO⟩, ⟨o1, e1, _, d1⟩, ⟨o2, e2, _, d2⟩⟩ := st
    have e' : c = z ∨ c = TI ∨ c = TO ∨ c = i1 ∨ c = i2 := by simpa using hc
    rcases e' with q | q | q | q | q
    · rw [q]; exact ⟨_, hz, fun v q => nomatch q⟩
    · rw [q]; exact ⟨_, hTI, fun v q => nomatch q⟩
    · rw [q]; exact ⟨_, hTO, fun v q => nomatch q⟩
    · rw [q]; exact ⟨o1, e1, fun v q => by rw [d1] at q; cases q⟩
    · rw [q]; exact ⟨o2, e2, fun v q => by rw [d2] at q; cases q⟩
  keep := fun i h h' st k => by
    obtain ⟨hz, hTI, ⟨x, y, hTO⟩, h1, h2⟩ := st
    exact ⟨k z (by simp) _ hz, k TI (by simp) _ hTI, ⟨x, y, k TO (by simp) _ hTO⟩, h1.at fun o q => k i1 (by simp) o q, h2.at fun o q => k i2 (by simp) o q⟩
  item := by
    intro X hP hw hK hc i pins s σ H E I hf st hg
    subst hP hw hK
    obtain ⟨hz, hTI, ⟨x0, y0, hTO⟩, h1, h2⟩ := st
    obtain ⟨xs, ys, x, y, hqx, hqy, hl, hx, hy⟩ := hg
    obtain ⟨its, rv, p, _⟩ := I.tuple hqx
    obtain ⟨its2, rv2, p2, _⟩ := I.list hqy
    obtain ⟨u, hu, ru⟩ := rv.get hx
    obtain ⟨u2, hu2, ru2⟩ := rv2.get hy
    have l1 := rv.length
    have l2 := rv2.length
    have hzl : z < s.heap.objs.size := Heap.lt_size hz
    have hlt : i < its.toArray.size := by
      rw [List.size_toArray, ← l1]
      exact (List.getElem?_eq_some_iff.mp hx).1
    have hsz : its.toArray.size = its2.toArray.size := by rw [List.size_toArray, List.size_toArray]; omega
    have D2 := Draws.list (prog := X.prog) (w := X.w) (A := X.A.in1) (I.ok.hd hc) i2 b hb its2.toArray
    rw [← hsz] at D2
    refine next_zs_item S (Draws.tuple (A := X.A.in1) (I.ok.hd hc) i1 a ha its.toArray) D2 hz hTI hTO ⟨h1, p⟩ ⟨h2, p2.isList⟩ hlt fun x1 x2 h' tk e1 e2 z' TO' h1' h2' hT hk => ?_
    have eu : x1 = u := by
      rw [show its.toArray[i]? = its[i]? by simp, hu] at e1
      exact (Option.some.inj e1).symm
    have eu2 : x2 = u2 := by
      rw [show its2.toArray[i]? = its2[i]? by simp, hu2] at e2
      exact (Option.some.inj e2).symm
    subst eu eu2
    refine ⟨_, rfl, go_zs (s := { s with heap := h', toks := tk }) z' fun h'' z'' sb => ?_⟩
    have hT2 : h''.get? s.heap.objs.size = some { cls := .type "tuple", data := .seq #[x1, x2] } := (sb.2 _ (Nat.ne_of_gt hzl)).trans hT
    have new : ObjOk X.prog X.w (upd H s.heap.objs.size (.tup [x, y])) h'' s.heap.objs.size (.tup [x, y]) := ⟨by show 2 ≤ sizeLine; decide, [x1, x2], .cons ru (.cons ru2 .nil), ⟨_, hT2, rfl, _, rfl⟩⟩
    have I1 : Inv X pins σ (upd H s.heap.objs.size (.tup [x, y])) { s with heap := h'', toks := tk } :=
      I.turnedNew (ch := [z, TI, TO, i1, i2]) (fun c o hb q => (sb.2 c (fun q' => hb (by simp [q']))).trans (hk c o (fun q' => hb (by simp [q'])) (fun q' => hb (by simp [q'])) (fun q' => hb (by simp [q'])) (fun q' => hb (by simp [q'])) q)) hf (Nat.le_refl _) new
    refine ⟨.ref s.heap.objs.size, _, I1, rfl, ⟨_, x, y, rfl, I.hok.fresh (Nat.le_refl _), rfl, fun l hl => by rw [I.tuple_inj hl hqx]; exact hx, fun l hl => by rw [I.list_inj hl hqy]; exact hy⟩, ⟨z'', ?_, ⟨x1, x2, ?_⟩, ?_, ?_⟩, fun c hcm => ?_⟩
    · exact (sb.2 _ S.TIz).trans (hk _ _ S.TIz S.TITO S.TIi1 S.TIi2 hTI)
    · exact (sb.2 _ S.TOz).trans TO'
    · exact h1'.1.at fun o q => (sb.2 _ S.zi1.symm).trans q
    · exact h2'.1.at fun o q => (sb.2 _ S.zi2.symm).trans q
    · have hlt : c < s.heap.objs.size := by
        have e' : c = z ∨ c = TI ∨ c = TO ∨ c = i1 ∨ c = i2 := by simpa using hcm
        rcases e' with q | q | q | q | q
        · rw [q]; exact hzl
        · rw [q]; exact Heap.lt_size hTI
        · rw [q]; exact Heap.lt_size hTO
        · rw [q]; obtain ⟨_, e1, _⟩ := h1; exact Heap.lt_size e1
        · rw [q]; obtain ⟨_, e2, _⟩ := h2; exact Heap.lt_size e2
      rw [upd_ne (Nat.ne_of_lt hlt)]
      exact (hf c hcm).1
  done := by
    intro X hP hw hK hc i pins s σ H E I hf st hg
    subst hP hw hK
    obtain ⟨hz, hTI, ⟨x0, y0, hTO⟩, h1, h2⟩ := st
    obtain ⟨xs, ys, hqx, hqy, e1, e2⟩ := hg
    obtain ⟨its, rv, p, _⟩ := I.tuple hqx
    obtain ⟨its2, rv2, p2, _⟩ := I.list hqy
    have l1 := rv.length
    have l2 := rv2.length
    have n1 : its.toArray.size = i := by rw [List.size_toArray]; omega
    have hsz : its.toArray.size = its2.toArray.size := by rw [List.size_toArray, List.size_toArray]; omega
    have D2 := Draws.list (prog := X.prog) (w := X.w) (A := X.A.in1) (I.ok.hd hc) i2 b hb its2.toArray
    rw [← hsz] at D2
    exact next_zs_over (I.ok.hd hc) S (Draws.tuple (A := X.A.in1) (I.ok.hd hc) i1 a ha its.toArray) D2 hz hTI hTO ⟨by rw [n1]; exact h1, p⟩ ⟨by rw [n1]; exact h2, p2.isList⟩ fun h' hk => ⟨rfl, I.turnedL (t' := s.toks) (ch := [z, TI, TO, i1, i2]) (fun c o hb q =>
      hk c o (fun q' => hb (by simp [q'])) (fun q' => hb (by simp [q'])) (fun q' => hb (by simp [q'])) (fun q' => hb (by simp [q'])) q) hf⟩
  self := fun A i s Q E st h => iter_zs st.1 h
/-- zip(tuple, list, strict=True) -/
def iZipS (K : PySem.W.Frag) (ta tk : TA) : TI := fun σ H R => ta σ H fun vs H1 => tk σ H1 fun zs H2 => ∃ a b xs ys, vs = [.ref a, .ref b] ∧ zs = [.bl true] ∧ SqT K H2 a xs ∧ SqL K H2 b ys ∧ R (ItZ K a b) H2
theorem pi_zipS {X : Cx} {e e2 : Expr} {ta tk : TA} {p pos tpos : Pos} {elts : List Expr} {kk : Nat} {kws : List Keyword} (hg : Gl X "zip") (hm : X.mg "zip" = none) (ha : PA X [e, e2] ta) (hkw : PK X kws tk)
    (hall : (backToKw pos (keywordEach kws X.env)).all (·.1.isSome) = true := by rfl) (hks : (backToKw pos (keywordEach kws X.env)).filterMap (·.1) = [("strict" : Str)] := by rfl)
    (he : starEach [e, e2] X.env = (false, eval e X.env) :: starEach [e2] X.env := by rfl) (hpl : ((backTo pos (starEach [e, e2] X.env)).any (·.1) || (backToKw pos (keywordEach kws X.env)).any (·.1.isNone)) = false := by rfl) :
    PI X (.Tuple elts kk tpos) (.Call (.Name "zip" p) [e, e2] kws pos) (iZipS X.K ta tk) := by
  refine ⟨fun pins s σ H R I h => ?_⟩
  refine wpAny_Call_Name_kw (ld_blt I hg hm PyProof.Rows.boot_zip (callWith_typeK hall (thn (ha.run pos pins s σ H _ I h) fun us s1 ⟨vs, H1, I1, r1, q1⟩ => ?_) hpl he))
  refine thn (hkw.run pos pins s1 σ H1 _ I1 q1) fun ws s2 ⟨zs, H2, I2, rz, a, b, xs, ys, e1, e2, hqx, hqy, q⟩ => ?_
  subst e1 e2
  rw [hks]
  cases r1 with
  | cons r rr =>
    cases rr with
    | cons r' rr =>
      cases rr
      cases r
      cases r'
      cases rz with
      | cons rk rr =>
        cases rr
        cases rk
        obtain ⟨its, rv, p1, _⟩ := I2.tuple hqx
        obtain ⟨its2, rv2, p2, _⟩ := I2.list hqy
        obtain ⟨o1, ho1, _⟩ := id p1
        have la : a < s2.heap.objs.size := Heap.lt_size ho1
        have lb : b < s2.heap.objs.size := p2.lt
        refine zs_begins (begins_tuple a its.toArray) (begins_list b its2.toArray) p1 p2.isList fun h' hz hTI hTO h1 h2 hk => iter_zs hz ?_
        have I3 : Inv X pins σ H2 { s2 with heap := h' } := I2.kept (t' := s2.toks) hk
        refine ⟨s2.heap.objs.size + 4, [s2.heap.objs.size + 4, s2.heap.objs.size + 2, s2.heap.objs.size + 3, s2.heap.objs.size, s2.heap.objs.size + 1], _, _, H2, rfl, I3, turn_zs (sep_of s2.heap.objs.size a b la lb) (Nat.ne_of_lt la) (Nat.ne_of_lt (Nat.lt_succ_of_lt lb)), ⟨hz, hTI, ⟨_, _, hTO⟩, ⟨_, h1, rfl, rfl⟩, ⟨_, h2, rfl, rfl⟩⟩, fun c hcm => ?_, q⟩
        have e' : c = s2.heap.objs.size + 4 ∨ c = s2.heap.objs.size + 2 ∨ c = s2.heap.objs.size + 3 ∨ c = s2.heap.objs.size ∨ c = s2.heap.objs.size + 1 := by simpa using hcm
        have hle : s2.heap.objs.size ≤ c := by
          rcases e' with z | z | z | z | z
          · rw [z]; exact Nat.le_add_right _ _
          · rw [z]; exact Nat.le_add_right _ _
          · rw [z]; exact Nat.le_add_right _ _
          · rw [z]; exact Nat.le_refl _
          · rw [z]; exact Nat.le_add_right _ _
        exact I2.fpOk hle (I2.hok.fresh hle)
theorem walk_zs {K : PySem.W.Frag} {a b : Addr} {xs ys : List V} (hl : xs.length = ys.length) : Walk (ItZ K a b) xs.length (fun H => SqT K H a xs ∧ SqL K H b ys) (YPair (fun i => xs[i]?) (fun i => ys[i]?)) := by
  refine ⟨fun i _ hi q => ⟨xs, ys, xs[i], ys[i], q.1, q.2, hl, by simp [hi], by simp [← hl, hi]⟩, fun _ q => ⟨xs, ys, q.1, q.2, rfl, hl.symm⟩, fun i H v H' _ q y => ?_⟩
  obtain ⟨T, x, z, h1, h2, h3, h4, h5⟩ := y
  exact ⟨T, x, z, h1, h2, h3, h4 xs q.1, h5 ys q.2⟩
end WZs

set_option Elab.async false
set_option linter.all false
set_option maxRecDepth 100000
set_option maxHeartbeats 4000000
/-! exceptions of the program's own classes as values: made, with a field stored by their __init__, read, asked by isinstance -/
namespace WXE
open PySem PySem.Spec PyProof.Rows L2 Builtin.ObjectAttr

/-- what the written part says of an exception class of the program -/
structure XC (K : PySem.W.Frag) (C : Addr) (B newId initId : String) (bmB : List Value) : Prop where
  fb : ExcBaseFacts B newId initId bmB
  sf : StoreFacts B bmB "object.__setattr__" "object"
  ini : PySem.W.excInitIn K C bmB newId = true
  ovr : PySem.W.excOver K C bmB = true
  hd : PySem.W.hasDictIn K C = true
  sa : PySem.W.findIn K (.ref C) "__setattr__" = some (some (.builtin "object.__setattr__"))
  ga : PySem.W.findIn K (.ref C) "__getattribute__" = some (some (.builtin "BaseException.__getattribute__"))
  gg : PySem.W.findIn K (.ref C) "__getattr__" = some none
  ex : PySem.W.subIn K (.ref C) (.type "BaseException") = some true
  cc : PySem.W.findIn K (.ref C) "__class__" = some (some (.builtin "object.__class__"))
  mo : PySem.W.mroIn K C (.type "object") = some true
  kp : PySem.W.keepIn K (.ref C) = true
  gs : PySem.W.specialIn K (.builtin "object.__class__") "__get__" = some (some (.builtin "getset_descriptor.__get__"))
  tk : PySem.W.takesIn K (.builtin "object.__class__") = some true

section
variable {prog : Program} {w : World} {A : Around} {E : Value → Shared → Prop} {hp : Heap} {g : Array GenState} {d : Drawn} {t : Nat} {os : OsState}
theorem set_first {K : PySem.W.Frag} {B : String} {bmB : List Value} {x C t0 : Addr} {name : Str} {v : Value} {Q : Unit → Shared → Prop}
    (SF : StoreFacts B bmB "object.__setattr__" "object") (X : K.In hp) (hx : hp.get? x = some (PySem.W.excObj C t0 none .none))
    (hov : PySem.W.excOver K C bmB = true) (hh : PySem.W.hasDictIn K C = true)
    (hs : PySem.W.findIn K (.ref C) "__setattr__" = some (some (.builtin "object.__setattr__"))) (ha : PySem.W.findIn K (.ref C) name = some none)
    (hq : ∀ h' tk' dx, (∀ b o, b ≠ x → hp.get? b = some o → h'.get? b = some o) → hp.objs.size ≤ dx → dx ≠ x →
      h'.get? x = some (PySem.W.excObj C t0 (some dx) .none) → h'.Ns1 dx (fun y => if y = name then some v else none) → Q () ⟨h', g, d, tk', os⟩) :
    wpAny (model prog w) A (setAttr (.ref x) name v) Q E ⟨hp, g, d, t, os⟩ := by
  obtain ⟨cd, hc, hd'⟩ := PySem.W.any_some hh
  have hxs : x ≠ hp.objs.size := Nat.ne_of_lt (Heap.lt_size hx)
  refine PySem.W.set_plain X (od := none) ⟨hx, rfl, rfl, trivial⟩ hs ?_
  refine PySem.W.osa_openX (s := ⟨hp, g, d, t + 1, os⟩) (od := none) SF X ⟨hx, rfl, rfl, trivial⟩ hov (by unfold PySem.W.takerIn; rw [ha]; rfl) fun b => ?_
  refine wpAny_bind (wpAny_pure (wpAny_bind (PySem.W.instanceDict_exc (s := ⟨hp, g, d, t + 1, os⟩) hx (PySem.W.looks_clsIn X hc) hd' ?_)))
  show wpAny _ _ (storeInDict hp.objs.size (.str name _) name v) _ _ _
  have hx1 : (hp.push (PySem.W.dictOf [] 0)).get? x = some (PySem.W.excObj C t0 none .none) := Heap.get?_push_of_some _ hx
  refine PySem.HandSPX.store_in_new ⟨_, #[], _, (Heap.get?_update_ne _ _ _ _ hxs.symm).trans (Heap.get?_push_at rfl rfl), rfl, fun e he => absurd he (by simp), fun _ => rfl⟩ fun h' tk' hn' hs' => ?_
  refine hq h' tk' hp.objs.size (fun b o hb ho => ?_) (Nat.le_refl _) hxs.symm ?_ hn'
  · exact (hs'.2 b (Nat.ne_of_lt (Heap.lt_size ho))).trans ((Heap.get?_update_ne _ _ _ _ hb).trans (Heap.get?_push_of_some _ ho))
  · exact (hs'.2 x hxs).trans (Heap.get?_update_self _ hx1 rfl)
end

section
variable {X : Cx} {pins : List (Addr × Obj)} {σ : L2.St} {H : Hp} {s : Shared} {a C dx : Addr} {f : Str} {y : V} {u : Value} {fs : List (Str × V)} {B newId initId : String} {bmB : List Value} {A : Around} {E : Value → Shared → Prop}
/-- one object changed in its place, one new beside it -/
theorem inv_pair {h' : Heap} {tk' : Nat} {o o1 o2 : HO} (I : Inv X pins σ H s) (e : H a = some o) (hno : ∀ z, o ≠ .own z) (hnt : ∀ xs, o ≠ .tup xs) (hnf : ∀ ob v, o ≠ .frz ob v) (hnb : ∀ ps, o ≠ .tbl ps)
    (k : ∀ b ob, b ≠ a → s.heap.get? b = some ob → h'.get? b = some ob) (dn : s.heap.objs.size ≤ dx) (hx : ∃ ob, h'.get? a = some ob)
    (w1 : ∀ H', ObjOk X.prog X.w H' h' dx o1) (w2 : ∀ H', ObjOk X.prog X.w H' h' a o2) : Inv X pins σ (upd (upd H dx o1) a o2) { s with heap := h', toks := tk' } := by
  have hnd : H dx = none := I.hok.fresh dn
  have nd : ∀ {b : Addr} {ob : Obj}, s.heap.get? b = some ob → b ≠ dx := fun {b ob} q => Nat.ne_of_lt (Nat.lt_of_lt_of_le (Heap.lt_size q) dn)
  have na : ∀ {b : Addr}, H b = none → b ≠ a := fun {b} n z => by
    rw [z, e] at n
    cases n
  have apart : ∀ {b : Addr} {u : HO}, H b = some u → o ≠ u → b ≠ a := fun {b u} q n z => by
    rw [z, e] at q
    exact n (Option.some.inj q)
  refine I.un (t' := tk') ⟨fun b ob q n _ _ => k b ob (na n) q, fun b ob q n _ _ => ⟨ob.slots, k b ob (na n) q⟩, fun b ob q n _ => ?_, fun b ob q _ => ?_, fun b xs q => ?_, fun b ob v q => ?_, fun b ps q => ⟨#[], ?_⟩⟩ fun b ob q => ?_
  · rw [upd_ne (na n), upd_ne (nd q)]
    exact n
  · by_cases hb : b = a
    · rw [hb]
      exact hx
    · exact ⟨ob, k b ob hb q⟩
  · rw [upd_ne (apart q (hnt _)), upd_ne (ne_of_none q hnd)]
    exact q
  · rw [upd_ne (apart q (hnf _ _)), upd_ne (ne_of_none q hnd)]
    exact q
  · rw [upd_ne (apart q (hnb _)), upd_ne (ne_of_none q hnd), q]
    simp
  · by_cases hb : b = a
    · subst hb
      rw [upd_same] at q
      cases q
      exact w2 _
    · rw [upd_ne hb] at q
      by_cases hd : b = dx
      · subst hd
        rw [upd_same] at q
        cases q
        exact w1 _
      · rw [upd_ne hd] at q
        refine (I.hok b ob q).stay (fun c v hc z => k c v ?_ z) (fun c hc => ?_) fun c xs hc => ?_
        · rcases hc with hc | hc
          · rw [hc]
            exact hb
          · exact apart hc (hno _)
        · rw [upd_ne (apart hc (hno _)), upd_ne (ne_of_none hc hnd)]
          exact hc
        · rw [upd_ne (apart hc (hnt _)), upd_ne (ne_of_none hc hnd)]
          exact hc
/-- self.f = y, its first field -/
theorem xset_ok {Q : Unit → Shared → Prop} (T : XC X.K C B newId initId bmB) (I : Inv X pins σ H s) (e : H a = some (exo a C none)) (hno : PySem.W.findIn X.K (.ref C) f = some none) (ry : RelV y u)
    (h : ∀ dx s', H dx = none → dx ≠ a → Inv X pins σ (upd (upd H dx (exd dx [(f, y)])) a (exo a C (some dx))) s' → Q () s') : wpAny (model X.prog X.w) A (setAttr (.ref a) f u) Q E s := by
  obtain ⟨t1, ho⟩ := exo_at I.hok e
  obtain ⟨hp, g, d, t, os⟩ := s
  refine set_first T.sf I.kIn ho T.ovr T.hd T.sa hno fun h' tk' dx k dn dne hx hn => ?_
  exact h dx _ (I.hok.fresh dn) dne (inv_pair I e (fun _ => exo_own) (fun _ => exo_tup) (fun _ _ => exo_frz) (fun _ => exo_tbl) k dn ⟨_, hx⟩ (fun _ => exd_ok hn (relO_put (fs := []) ry fun _ => True.intro)) fun _ => exo_ok hx)
/-- B.__init__(self, ..) -/
theorem xinit_ok {us : List Value} {Q : Value → Shared → Prop} (T : XC X.K C B newId initId bmB) (I : Inv X pins σ H s) (e : H a = some (exo a C none)) (hl : us.length ≤ sizeLine) (h : ∀ s', Inv X pins σ H s' → Q .none s') :
    wpAny (model X.prog X.w) A (call (.builtin initId) (.ref a :: us)) Q E s := by
  obtain ⟨t1, ho⟩ := exo_at I.hok e
  obtain ⟨nm, N, qn, bs, bm, hdct, sn, sub, ab, col, dd, k0, k1, k2, k3, k5, hC, hT⟩ := PySem.W.excInit_of I.kIn T.ini
  obtain ⟨hp, g, d, t, os⟩ := s
  refine wpAny_call (PySem.HandSPX.init_base T.fb hT hC ho hl fun h' t2 k hx => ?_)
  have J := I.write (t' := t) (x := a) (e := a) (o := exo a C none) (by rw [e]; exact True.intro) (.inl rfl) k ⟨_, hx⟩ (exo_ok hx)
  have eu : upd H a (exo a C none) = H := funext fun b => by
    by_cases hb : b = a
    · rw [hb, upd_same, e]
    · rw [upd_ne hb]
  rw [eu] at J
  exact h _ J
end

/-! ### readings and rules -/
/-- B.__init__(self, ..), read off an own class above -/
def tXini (K : PySem.W.Frag) (initId : String) (ta : TA) : TE := fun σ H Q => ta σ H fun vs H1 => ∃ (a C : Addr) (ws : List V) (B newId : String) (bmB : List Value),
  vs = .ref a :: ws ∧ ws.length ≤ 1000 ∧ XC K C B newId initId bmB ∧ H1 a = some (exo a C none) ∧ Q .non H1
/-- self.f = e on an exception without a field -/
def tXst (K : PySem.W.Frag) (f : Str) (to te : TE) : TS := fun D σ H => te σ H fun y H1 => to σ H1 fun x H2 => ∃ (a C : Addr) (B newId initId : String) (bmB : List Value),
  x = .ref a ∧ XC K C B newId initId bmB ∧ PySem.W.findIn K (.ref C) f = some none ∧ H2 a = some (exo a C none) ∧
    ∀ dx, H2 dx = none → dx ≠ a → D.nx σ (upd (upd H2 dx (exd dx [(f, y)])) a (exo a C (some dx)))
/-- C(..), C's own __init__ keeping sp: the exception stays as a value -/
def tXmk (C : Addr) (n m : Nat) (sp : Sp) (E : XK) (gV : List V → List V → List V) (ta tk : TA) : TE := fun σ H Q => ta σ H fun vs H1 => tk σ H1 fun zs H2 => vs.length = n ∧ zs.length = m ∧ n ≤ 1000 ∧
  ∀ a, H2 a = none → sp (gV (.ref a :: vs) zs) (upd H2 a (exo a C none)) (fun v H3 => v = .non ∧ Q (.ref a) H3) E
/-- e.f of an exception -/
def tXfld (K : PySem.W.Frag) (f : Str) (te : TE) : TE := fun σ H Q => te σ H fun x H1 => ∃ (a C dx : Addr) (fs : List (Str × V)) (v : V) (B newId initId : String) (bmB : List Value),
  x = .ref a ∧ H1 a = some (exo a C (some dx)) ∧ H1 dx = some (exd dx fs) ∧ XC K C B newId initId bmB ∧ PySem.W.findIn K (.ref C) f = some none ∧ fs.lookup f = some v ∧ Q v H1
/-- a whole exception at a -/
def XAt (H : Hp) (a C : Addr) : Prop := H a = some (exo a C none) ∨ ∃ dx fs, H a = some (exo a C (some dx)) ∧ H dx = some (exd dx fs)
/-- isinstance(e, c) | isinstance(e, (c, ..)) -/
def rXis (K : PySem.W.Frag) : List V → Hp → VK → Prop := fun xs H Q => ∃ (a C : Addr) (c : V) (B newId initId : String) (bmB : List Value) (b : Bool),
  xs = [.ref a, c] ∧ XAt H a C ∧ XC K C B newId initId bmB ∧ ((∃ cv, (∀ u, RelV c u → u = cv) ∧ PySem.W.kitOne K (.ref C) cv = some b) ∨
    ∃ p cs, c = .ref p ∧ H p = some (.tup cs) ∧ ∀ us, Vals cs us → PySem.W.kitAny K (.ref C) us = some b) ∧ Q (.bl b) H

section
variable {X : Cx} {o e : Expr} {es : List Expr} {to te : TE} {ta tk : TA} {f x : Str} {p p' p1 p2 pos : Pos} {initId : String}
theorem pe_xini {C0 : Addr} {pl : Sem Bool} (hg : Gl X x) (hm : X.mg x = some (.ref C0)) (hr : PySem.W.readsIn X.K C0 (.type "type") = true)
    (hs : PySem.W.specialIn X.K (.ref C0) "__getattribute__" = some (some (.builtin "type.__getattribute__"))) (hf : PySem.W.findCls X.K (.ref C0) (.type "type") "__init__" = some (.val (.builtin initId)))
    (hh : PySem.W.handedIn (.builtin initId) = true) (ha : PA X (e :: es) ta) (hdb : (x == ("__debug__" : Str)) = false := by decide)
    (hc : eval (.Call (.Attribute (.Name x p1) "__init__" p2) (e :: es) [] pos) X.env = (do
      let ov ← eval (.Name x p1) X.env
      standAt p2.atName
      let (f, first) ← holding [ov] (getMethod ov "__init__" pl)
      callWith pos f first (backTo pos (starEach (e :: es) X.env)) (backToKw pos (keywordEach [] X.env))) := by rfl)
    (he : starEach (e :: es) X.env = (false, eval e X.env) :: starEach es X.env := by rfl) (hpl : (backTo pos (starEach es X.env)).any (·.1) = false := by rfl) :
    PE X (.Call (.Attribute (.Name x p1) "__init__" p2) (e :: es) [] pos) (tXini X.K initId ta) := by
  refine ⟨fun pins s σ H Q I h => ?_⟩
  refine PySem.W.methodCall_KW (ld_glob I hg hm ?_ hdb) hc
  refine PySem.W.method_cls I.kIn hs (PySem.W.cls_value I.kIn hr hf hh ?_)
  show wpAny _ _ (callWith pos (Value.builtin initId) [] (backTo pos (starEach (e :: es) X.env)) []) _ _ _
  refine PyProof.Rows.callWith_method1 (thn (ha.run pos pins _ σ H _ (I.tok _) h) fun us s1 ⟨vs, H1, I1, r1, a, C, ws, B, newId, bmB, ev, hl, T, ea, q⟩ => ?_) he hpl
  subst ev
  cases r1 with
  | @cons _ u0 _ ur ra rw' =>
    obtain rfl : u0 = Value.ref a := ra
    exact xinit_ok T I1 ea (by rw [← Paired.length rw', sizeLine_eq]; omega) fun s' J => ⟨.non, H1, J, rfl, q⟩
theorem ps_xst (ho : PE X o to) (he : PE X e te) (hs : swapsWith e (some (.Attribute o f p')) pos.line X.env = pure false := by rfl) : PS X (.Assign [.Attribute o f p'] e pos) (tXst X.K f to te) := by
  refine ⟨fun pins s σ H D I h => ?_⟩
  refine plainObj_wpAny_Assign_Attribute (thn (he.run pins s σ H _ I h) fun v s1 ⟨y, H1, I1, r1, q1⟩ => thn (ho.run pins s1 σ H1 _ I1 q1) fun u s2 ⟨x, H2, I2, r2, a, C, B, n, i, bm, ex, T, hno, ea, q⟩ => ?_) hs
  subst ex
  obtain rfl : u = Value.ref a := r2
  exact xset_ok T I2 ea hno r1 fun dx s' nx ne J => ⟨σ, _, J, q dx nx ne⟩
theorem pe_xfld (he : PE X e te) (hb : attributeBase e f X.env (eval e X.env) = eval e X.env := by rfl) : PE X (.Attribute e f pos) (tXfld X.K f te) := by
  refine ⟨fun pins s σ H Q I h => ?_⟩
  refine attr_of hb (thn (he.run pins s σ H _ I h) fun u s1 hh => ?_)
  obtain ⟨x, H1, I1, rx, a, C, dx, fs, v, B, n, i, bm, ex, ea, ed, T, hno, l, q⟩ := hh
  subst ex
  obtain rfl : u = Value.ref a := rx
  obtain ⟨t1, ho⟩ := exo_at I1.hok ea
  obtain ⟨mA, hns, rel⟩ := exd_at I1.hok ed
  obtain ⟨od, hod, hl⟩ := lookIn_ns hns
  obtain ⟨u, hu, ru⟩ := RelO.some_of (v := v) (o := mA f) (by rw [← l]; exact rel f)
  refine HandSPX.exc_get I1.kIn (od := some od) ⟨ho, rfl, rfl, hod⟩ T.ga T.gg T.ex (PySem.W.findObj_own T.hd hno rfl (by rw [hl, hu])) (handed_of ru) ⟨v, H1, I1.tok _, ru, q⟩
theorem x_inst {pins : List (Addr × Obj)} {σ : L2.St} {H : Hp} {s : Shared} {a C : Addr} (I : Inv X pins σ H s) (h : XAt H a C) : ∃ ox od, PySem.W.InstAt s.heap a ox C od := by
  rcases h with ea | ⟨dx, fs, ea, ed⟩
  · obtain ⟨t1, ho⟩ := exo_at I.hok ea
    exact ⟨_, none, ho, rfl, rfl, trivial⟩
  · obtain ⟨t1, ho⟩ := exo_at I.hok ea
    obtain ⟨mA, hns, rel⟩ := exd_at I.hok ed
    obtain ⟨od, hod, hl⟩ := lookIn_ns hns
    exact ⟨_, some od, ho, rfl, rfl, hod⟩
theorem call_xis : CallR X (.builtin "isinstance") (rXis X.K) := by
  intro pins s σ H xs us Q I r h
  obtain ⟨a, C, c, B, n, i, bm, b, rfl, xa, T, hk, q⟩ := h
  cases r with
  | cons rx rr =>
    cases rr with
    | cons rt rr =>
      cases rr
      cases rx
      obtain ⟨ox, od, J⟩ := x_inst I xa
      have hcl : (PySem.W.clsIn X.K C).isSome = true := by
        obtain ⟨cd, hc, _⟩ := PySem.W.any_some T.hd
        rw [hc] <;> rfl
      have Z := PySem.W.kitx_exc (x := a) (ox := ox) (od := od) hcl T.ga T.gg T.ex T.cc T.gs T.tk T.mo
      rcases hk with ⟨cv, hcv, e⟩ | ⟨p, cs, rfl, hp, e⟩
      · have ec := hcv _ rt
        subst ec
        exact PySem.W.kia_one Z I.kIn J e (fun z => nomatch z) fun tk => ⟨.bl b, H, I.kept (t' := tk) fun _ _ z => z, rfl, q⟩
      · cases rt
        obtain ⟨_, its, rv, ⟨⟨oc, odd, odt, osl⟩, ho, hc, m, hd⟩⟩ := I.hok p _ hp
        dsimp only at hc hd
        subst hc hd
        exact PySem.W.kia_tup Z I.kIn J ho (e its rv) (fun z => nomatch z) fun tk => ⟨.bl b, H, I.kept (t' := tk) fun _ _ z => z, rfl, q⟩
end

/-- the same by a Bool -/
def xcB (K : PySem.W.Frag) (C : Addr) (newId : String) (bmB : List Value) : Bool :=
  PySem.W.excInitIn K C bmB newId && (PySem.W.excOver K C bmB && (PySem.W.hasDictIn K C && (decide (PySem.W.findIn K (.ref C) "__setattr__" = some (some (.builtin "object.__setattr__"))) &&
  (decide (PySem.W.findIn K (.ref C) "__getattribute__" = some (some (.builtin "BaseException.__getattribute__"))) && (decide (PySem.W.findIn K (.ref C) "__getattr__" = some none) &&
  (decide (PySem.W.subIn K (.ref C) (.type "BaseException") = some true) && (decide (PySem.W.findIn K (.ref C) "__class__" = some (some (.builtin "object.__class__"))) &&
  (decide (PySem.W.mroIn K C (.type "object") = some true) && (PySem.W.keepIn K (.ref C) && (decide (PySem.W.specialIn K (.builtin "object.__class__") "__get__" = some (some (.builtin "getset_descriptor.__get__"))) &&
  decide (PySem.W.takesIn K (.builtin "object.__class__") = some true)))))))))))
theorem xcB_ok {K : PySem.W.Frag} {C : Addr} {B newId initId : String} {bmB : List Value} (fb : ExcBaseFacts B newId initId bmB) (sf : StoreFacts B bmB "object.__setattr__" "object") (h : xcB K C newId bmB = true) : XC K C B newId initId bmB := by
  unfold xcB at h
  simp only [Bool.and_eq_true, decide_eq_true_eq] at h
  obtain ⟨h1, h2, h3, h4, h5, h6, h7, h8, h9, h10, h11, h12⟩ := h
  exact ⟨fb, sf, h1, h2, h3, h4, h5, h6, h7, h8, h9, h10, h11, h12⟩
end WXE

set_option Elab.async false
set_option linter.all false
set_option maxRecDepth 100000
set_option maxHeartbeats 4000000
/-! an exception of the program made by a call with keywords -/
namespace WXE
open PySem PySem.Spec PyProof.Rows L2 Builtin.ObjectAttr
section
variable {prog : Program} {w : World} {M : Model} {A : Around} {E : Value → Shared → Prop} {R : Result → Shared → Prop} {h : Heap} {g : Array GenState} {d : Drawn} {t : Nat} {os : OsState}
variable {nm q : Str} {C N : Addr} {bs bm bmB : List Value} {hdct : Bool} {sn : List Str} {sub : List Value} {ab : Bool} {col : Option Bool} {dd : Option Addr} {k0 k1 k2 k3 k5 : Option Value} {B newId initId : String}
theorem ck_new (FB : ExcBaseFacts B newId initId bmB) (hT : ∀ Y : String, bm.contains (.type Y) = bmB.contains (.type Y)) {args : List Value} {kw : List (Str × Value)} {Q : Unit → Shared → Prop}
    (hC : h.get? C = some (excClassObj nm q C N bs bm hdct sn sub ab col dd k0 k1 k2 k3 k5 newId)) (hq : Q () ⟨h, g, d, t, os⟩) :
    wpAny M A (checkBuiltinCall newId ⟨.ref C :: args, kw⟩) Q E ⟨h, g, d, t, os⟩ := by
  have z1 : (Value.ref C :: bm).contains (.type B) = true := by rw [List.contains_cons, hT, FB.hasB, Bool.or_true]
  have z2 := FB.noStar
  simp only [checkBuiltinCall, FB.newKind, FB.newSplit, FB.newRow]
  repeat (first
    | refine wpAny_loadPart_at hC ?_
    | (refine wpAny_isSubtype_exc hC ?_; rw [z1])
    | refine wpAny_staticBase_exc hC ?_
    | refine wpAny_madeBy_exc hC ?_
    | simp only [bne_self_eq_false, Bool.false_eq_true, if_false]
    | wp_step)
  exact hq
theorem ck_made (FB : ExcBaseFacts B newId initId bmB) (hT : ∀ Y : String, bm.contains (.type Y) = bmB.contains (.type Y)) {args : List Value} {kw : List (Str × Value)}
    (hC : h.get? C = some (excClassObj nm q C N bs bm hdct sn sub ab col dd k0 k1 k2 k3 k5 newId))
    (hq : R (.ok (.ret (.ref (h.objs.size + 1)))) ⟨(h.push (PySem.W.kdv_tup args)).push (PySem.HandSPX.excO C h.objs.size), g, d, t, os⟩) (hz : args.length ≤ sizeLine) :
    codeAny (model prog w) A (.builtin newId ⟨.ref C :: args, kw⟩) R ⟨h, g, d, t, os⟩ := by
  have z0 := FB.ends
  have z1 : (Value.ref C :: bm).contains (.type B) = true := by rw [List.contains_cons, hT, FB.hasB, Bool.or_true]
  have z2 : (Value.ref C :: bm).contains (.type "AttributeError") = false := by rw [List.contains_cons, hT, FB.noAttr]; rfl
  have z3 : (Value.ref C :: bm).contains (.type "NameError") = false := by rw [List.contains_cons, hT, FB.noName]; rfl
  refine codeAny_builtinAt FB.entry ?_
  unfold Builtin.«BaseException.__new__»
  refine PySem.wpAt_bind ?_
  show PySem.wpAt _ _ _ (stack >>= _) _ _ _
  refine PySem.wpAt_bind (PySem.wpAt_stack fun p below => PySem.wpAt_of_wpAny ?_)
  wp_walk
  refine PySem.wpAt_of_wpAny ?_
  rw [FB.owner]
  repeat (first
    | with_reducible refine wpAny_madeHere_exc FB.canon hC ?_
    | with_reducible refine wpAny_loadPart_at hC ?_
    | (with_reducible refine wpAny_isSubtype_exc hC ?_; first | rw [z1] | rw [z2] | rw [z3])
    | wp_step)
  show R _ _
  rw [Heap.size_push]
  exact hq
theorem ck_type (FB : ExcBaseFacts B newId initId bmB) (hT : ∀ Y : String, bm.contains (.type Y) = bmB.contains (.type Y)) {args : List Value} {kw : List (Str × Value)} {fI : Addr} {Q : Fin → Shared → Prop}
    (hC : h.get? C = some (excClassObj nm q C N bs bm hdct sn sub ab col dd k0 k1 k2 k3 k5 newId))
    (hi : PySem.W.Looks (model prog w) h (typeLookup (.ref C) "__init__") (some (.ref fI))) (hb : ∀ self, PySem.W.Looks (model prog w) h (bindSpecial (.ref fI) self) (.ref fI, [self])) (hz : args.length ≤ sizeLine)
    (hq : codeAny (model prog w) A (.call (.ref fI) ⟨.ref (h.objs.size + 1) :: args, kw⟩)
      (fun r s' => match r with
        | .ok (.ret v) => v = .none ∧ Q (.done (.ret (.ref (h.objs.size + 1)))) s'
        | .ok _ => False
        | .error e => E e s')
      ⟨(h.push (PySem.W.kdv_tup args)).push (PySem.HandSPX.excO C h.objs.size), g, d, t, os⟩) :
    wpAny (model prog w) A (Builtin.«type.__call__» ⟨.ref C :: args, kw⟩) Q E ⟨h, g, d, t, os⟩ := by
  repeat (first | with_reducible refine wpAny_loadPart_at hC ?_ | with_reducible refine wpAny_madeBy_exc hC ?_ | wp_step)
  refine codeAny_call_builtin_code (Code.quiet_builtin _ FB.quiet) (ck_new FB hT hC ?_)
  refine ck_made FB hT hC ?_ hz
  show wpAny _ _ _ _ _ _
  have kk : ∀ b o, h.get? b = some o → ((h.push (PySem.W.kdv_tup args)).push (PySem.HandSPX.excO C h.objs.size)).get? b = some o := fun b o z => Heap.get?_push_of_some _ (Heap.get?_push_of_some _ z)
  have hC1 := kk _ _ hC
  have hnew : ((h.push (PySem.W.kdv_tup args)).push (PySem.HandSPX.excO C h.objs.size)).get? (h.objs.size + 1) = some (PySem.HandSPX.excO C h.objs.size) := by heap_get
  have hself : (Value.ref C :: bm).contains (.ref C) = true := by simp
  have look1 := hi.keeps kk
  have bind1 := (hb (.ref (h.objs.size + 1))).keeps kk
  unfold isInstance
  repeat (first
    | with_reducible refine wpAny_loadPart_at hnew ?_
    | (with_reducible refine wpAny_isSubtype_exc hC1 ?_; rw [hself])
    | wp_step)
  show wpAny _ _ (typeLookup (.ref C) _) _ _ _
  refine look1.at ?_
  refine wpAny_holding (wpAny_bind (bind1.at ?_))
  refine wpAny_bind (wpAny_call (codeAny_mono hq fun r s' z => ?_))
  rcases r with e | (v | _ | _ | _) <;> first | exact z | exact z.elim | skip
  obtain ⟨rfl, z⟩ := z
  first
    | exact wpAny_pure (wpAny_pure z)
    | (wp_walk; exact z)
theorem ck_tc {args : List Value} {kw : List (Str × Value)} {Q : Unit → Shared → Prop} (hC : h.get? C = some (excClassObj nm q C N bs bm hdct sn sub ab col dd k0 k1 k2 k3 k5 newId))
    (hq : Q () ⟨h, g, d, t, os⟩) : wpAny M A (checkBuiltinCall "type.__call__" ⟨.ref C :: args, kw⟩) Q E ⟨h, g, d, t, os⟩ := by
  have z1 := tc_sub
  have z2 : (⟨h, g, d, t, os⟩ : Shared).TypeIs (.ref C) "type" := ⟨_, hC, rfl⟩
  simp only [checkBuiltinCall, tc_kind, tc_split]
  repeat (any_goals (first
    | assumption
    | with_reducible refine wpAny_loadPart_at hC ?_
    | with_reducible refine wpAny_onRaise ?_
    | with_reducible refine wpAny_map ?_
    | wp_step))
theorem ck_call (FB : ExcBaseFacts B newId initId bmB) (hT : ∀ Y : String, bm.contains (.type Y) = bmB.contains (.type Y)) {args : List Value} {kw : List (Str × Value)} {fI : Addr}
    (hC : h.get? C = some (excClassObj nm q C N bs bm hdct sn sub ab col dd k0 k1 k2 k3 k5 newId))
    (hi : PySem.W.Looks (model prog w) h (typeLookup (.ref C) "__init__") (some (.ref fI))) (hb : ∀ self, PySem.W.Looks (model prog w) h (bindSpecial (.ref fI) self) (.ref fI, [self])) (hz : args.length ≤ sizeLine)
    (hq : codeAny (model prog w) (A.under (.builtin "type.__call__" ⟨.ref C :: args, kw⟩)) (.call (.ref fI) ⟨.ref (h.objs.size + 1) :: args, kw⟩) (PySem.W.InitBack (h.objs.size + 1) R)
      ⟨(h.push (PySem.W.kdv_tup args)).push (PySem.HandSPX.excO C h.objs.size), g, d, t, os⟩) :
    codeAny (model prog w) A (.call (.ref C) ⟨args, kw⟩) R ⟨h, g, d, t, os⟩ := by
  have z1 := tc_lookup
  have z2 := tc_bind (.ref C)
  have z3 : (⟨h, g, d, t, os⟩ : Shared).TypeIs (.ref C) "type" := ⟨_, hC, rfl⟩
  refine codeAny_of_tree ?_
  show wpAny _ _ (callAny (.ref C) _) _ _ _
  repeat (any_goals (first | assumption | with_reducible refine wpAny_loadPart_at hC ?_ | wp_step))
  refine ⟨rfl, ?_⟩
  refine codeAny_call_builtin_at (Code.quiet_builtin _ (by decide +kernel)) entry_typeCall (ck_tc hC (ck_type FB hT hC hi hb hz ?_))
  refine codeAny_mono hq fun r s' z => ?_
  rcases r with e | (v | _ | _ | _) <;> exact z
end

section
variable {X : Cx} {CX : CXT} {k n : Nat} {C fI : Addr} {fd : FuncData} {ps ks : List Str} {sp : Sp} {E : XK} {x : Str} {p pos : Pos} {e : Expr} {es : List Expr} {kws : List Keyword} {ta tk : TA} {g : List Value → List Value → List Value} {gV : List V → List V → List V}
  {B newId initId : String} {bmB : List Value}
theorem run_xmk {pins : List (Addr × Obj)} {σ : L2.St} {H : Hp} {s : Shared} {Q : VK} {us ws : List Value} {vs zs : List V} (T : XC X.K C B newId initId bmB) (iC : PySem.W.findIn X.K (.ref C) "__init__" = some (some (.ref fI)))
    (tI : PySem.W.typeIn X.K (.ref fI) = some (.type "function")) (F : FnOk X.prog X.w X.K X.mg X.base CX k fI fd ps sp) (hr : Room (k + 1) X.A) (hb : KBn X.K fd ps (n + 1) ks g gV) (hx : Passes CX X E)
    (I : Inv X pins σ H s) (r : Vals vs us) (rz : Vals zs ws) (l1 : vs.length = n) (l2 : zs.length = ks.length) (hn : n ≤ 1000)
    (h : ∀ a, H a = none → sp (gV (.ref a :: vs) zs) (upd H a (exo a C none)) (fun v H2 => v = .non ∧ Q (.ref a) H2) E) :
    wpAny (model X.prog X.w) X.A (call (.ref C) us (ks.zip ws)) (EP X pins σ Q) X.xe s := by
  obtain ⟨nm, N, qn, bs, bm, hdct, sn, sub, ab, col, dd, k0, k1, k2, k3, k5, hC, hT⟩ := PySem.W.excInit_of I.kIn T.ini
  obtain ⟨hp, gg, dr, tk, os⟩ := s
  have hsz : hp.objs.size ≤ hp.objs.size + 1 := Nat.le_succ _
  have hq := h (hp.objs.size + 1) (I.hok.fresh hsz)
  have kk : ∀ b o, hp.get? b = some o → ((hp.push (PySem.W.kdv_tup us)).push (PySem.HandSPX.excO C hp.objs.size)).get? b = some o := fun b o z => Heap.get?_push_of_some _ (Heap.get?_push_of_some _ z)
  have hnew : ((hp.push (PySem.W.kdv_tup us)).push (PySem.HandSPX.excO C hp.objs.size)).get? (hp.objs.size + 1) = some (PySem.HandSPX.excO C hp.objs.size) := by heap_get
  have I2 : Inv X pins σ (upd H (hp.objs.size + 1) (exo (hp.objs.size + 1) C none)) ⟨(hp.push (PySem.W.kdv_tup us)).push (PySem.HandSPX.excO C hp.objs.size), gg, dr, tk, os⟩ :=
    I.laid (t' := tk) (o := exo (hp.objs.size + 1) C none) kk hsz (exo_ok hnew)
  have r2 : Vals (V.ref (hp.objs.size + 1) :: vs) (Value.ref (hp.objs.size + 1) :: us) := .cons rfl r
  have r3 := hb.rel r2 rz
  have hus : us.length ≤ sizeLine := by
    rw [← Paired.length r, sizeLine_eq]
    omega
  refine wpAny_call (ck_call T.fb hT hC (PySem.W.looks_findIn I.kIn iC) (fun self => PySem.W.bind_fn I.kIn self tI) hus
    (codeAny_mono (F.run _ X.stack _ _ ⟨Value.ref (hp.objs.size + 1) :: us, ks.zip ws⟩ (g (Value.ref (hp.objs.size + 1) :: us) ws) _ _ E (hr.make C us (ks.zip ws)) (I2.env0.make C us (ks.zip ws))
      (hb.to _ (Value.ref (hp.objs.size + 1) :: us) ws I2.kIn (r2.length.symm.trans (congrArg Nat.succ l1)) (rz.length.symm.trans l2)) r3 hq) fun r s' hq' => ?_))
  cases r with
  | error er => exact hx pins σ _ _ er s' I2 hq'
  | ok fl =>
    cases fl with
    | ret u =>
      obtain ⟨v, H', I3, rv, ev, q3⟩ := I2.after hq'
      subst ev
      exact ⟨rv, V.ref (hp.objs.size + 1), H', I3, rfl, q3⟩
    | next => exact False.elim hq'
    | brk => exact False.elim hq'
    | cont => exact False.elim hq'
/-- C(e, ..) -/
theorem pe_xmk (T : XC X.K C B newId initId bmB) (iC : PySem.W.findIn X.K (.ref C) "__init__" = some (some (.ref fI))) (tI : PySem.W.typeIn X.K (.ref fI) = some (.type "function"))
    (F : FnOk X.prog X.w X.K X.mg X.base CX k fI fd ps sp) (hr : Room (k + 1) X.A) (hg : Gl X x) (hm : X.mg x = some (.ref C)) (hb : KBn X.K fd ps (n + 1) [] g gV) (hx : Passes CX X E) (ha : PA X (e :: es) ta)
    (hdb : (x == ("__debug__" : Str)) = false := by decide) (he : starEach (e :: es) X.env = (false, eval e X.env) :: starEach es X.env := by rfl) (hpl : (backTo pos (starEach es X.env)).any (·.1) = false := by rfl) :
    PE X (.Call (.Name x p) (e :: es) [] pos) (tXmk C n 0 sp E gV ta tNil) := by
  refine ⟨fun pins s σ H Q I h => ?_⟩
  refine wpAny_Call_Name_kw (ld_glob I hg hm ?_ hdb)
  exact PySem.W.callWith_K (h₀ := X.base) I.ok.mod.kin T.kp (thn (ha.run pos pins s σ H _ I h) fun us s1 ⟨vs, H1, I1, r, l1, l2, hn, q⟩ => ⟨I1.kIn, run_xmk (ws := []) (zs := []) T iC tI F hr hb hx I1 r .nil l1 l2 hn q⟩) he hpl
/-- C() -/
theorem pe_xmk0 (T : XC X.K C B newId initId bmB) (iC : PySem.W.findIn X.K (.ref C) "__init__" = some (some (.ref fI))) (tI : PySem.W.typeIn X.K (.ref fI) = some (.type "function"))
    (F : FnOk X.prog X.w X.K X.mg X.base CX k fI fd ps sp) (hr : Room (k + 1) X.A) (hg : Gl X x) (hm : X.mg x = some (.ref C)) (hb : KBn X.K fd ps (0 + 1) [] g gV) (hx : Passes CX X E)
    (hdb : (x == ("__debug__" : Str)) = false := by decide) : PE X (.Call (.Name x p) [] [] pos) (tXmk C 0 0 sp E gV tNil tNil) := by
  refine ⟨fun pins s σ H Q I h => ?_⟩
  refine wpAny_Call_Name_kw (ld_glob I hg hm ?_ hdb)
  obtain ⟨l1, l2, hn, q⟩ := h
  exact PySem.W.callWith_K0 I.kIn T.kp (run_xmk (us := []) (vs := []) (ws := []) (zs := []) T iC tI F hr hb hx I .nil .nil l1 l2 hn q)
/-- C(k = v, ..) -/
theorem pe_xmkK (T : XC X.K C B newId initId bmB) (iC : PySem.W.findIn X.K (.ref C) "__init__" = some (some (.ref fI))) (tI : PySem.W.typeIn X.K (.ref fI) = some (.type "function"))
    (F : FnOk X.prog X.w X.K X.mg X.base CX k fI fd ps sp) (hr : Room (k + 1) X.A) (hg : Gl X x) (hm : X.mg x = some (.ref C)) (hb : KBn X.K fd ps (0 + 1) ks g gV) (hx : Passes CX X E) (hkw : PK X kws tk)
    (hall : (backToKw pos (keywordEach kws X.env)).all (·.1.isSome) = true := by rfl) (hks : (backToKw pos (keywordEach kws X.env)).filterMap (·.1) = ks := by rfl)
    (hdb : (x == ("__debug__" : Str)) = false := by decide) (hpl : ((backTo pos (starEach [] X.env)).any (·.1) || (backToKw pos (keywordEach kws X.env)).any (·.1.isNone)) = false := by rfl) :
    PE X (.Call (.Name x p) [] kws pos) (tXmk C 0 ks.length sp E gV tNil tk) := by
  refine ⟨fun pins s σ H Q I h => ?_⟩
  refine wpAny_Call_Name_kw (ld_glob I hg hm ?_ hdb)
  refine PySem.W.callWith_KW0 (h₀ := X.base) I.ok.mod.kin T.kp hall (thn (hkw.run pos pins s σ H _ I h) fun ws s1 ⟨zs, H1, I1, rz, l1, l2, hn, q⟩ => ⟨I1.kIn, ?_⟩) hpl
  rw [hks]
  exact run_xmk (us := []) (vs := []) T iC tI F hr hb hx I1 .nil rz l1 l2 hn q
end
end WXE

set_option Elab.async false
set_option linter.all false
set_option maxRecDepth 100000
set_option maxHeartbeats 2000000
/-! readings that only add objects: predicates of values, lists of them -/
namespace WLf
open PySem PySem.Spec L2 WEv WRd WXE
def Is (x : V) : HP V := fun v _ => v = x
def Fa : List (HP V) → List V → Hp → Prop
  | [], [], _ => True
  | P :: Ps, v :: vs, H => P v H ∧ Fa Ps vs H
  | _, _, _ => False
/-- a list object whose items are told -/
def LF (Ps : List (HP V)) : HP V := fun v H => ∃ p xs, v = .ref p ∧ H p = some (.lst xs) ∧ Fa Ps xs H
theorem Fa.len : ∀ {Ps : List (HP V)} {vs : List V} {H : Hp}, Fa Ps vs H → vs.length = Ps.length
  | [], [], _, _ => rfl
  | _ :: _, _ :: _, _, h => congrArg (· + 1) (Fa.len h.2)
  | [], _ :: _, _, h => h.elim
  | _ :: _, [], _, h => h.elim
theorem Fa.app : ∀ {Ps Qs : List (HP V)} {vs us : List V} {H : Hp}, Fa Ps vs H → Fa Qs us H → Fa (Ps ++ Qs) (vs ++ us) H
  | [], _, [], _, _, _, g => g
  | _ :: _, _, _ :: _, _, _, h, g => ⟨h.1, Fa.app h.2 g⟩
  | [], _, _ :: _, _, _, h, _ => h.elim
  | _ :: _, _, [], _, _, h, _ => h.elim
theorem Fa.get : ∀ {Ps : List (HP V)} {vs : List V} {H : Hp} {n : Nat} {P : HP V}, Fa Ps vs H → Ps[n]? = some P → ∃ v, vs[n]? = some v ∧ P v H
  | _ :: _, _ :: _, _, 0, _, h, e => ⟨_, rfl, by cases e; exact h.1⟩
  | _ :: _, _ :: _, _, n + 1, _, h, e => Fa.get (n := n) h.2 e
  | [], _ :: _, _, _, _, h, _ => h.elim
  | _ :: _, [], _, _, _, h, _ => h.elim
theorem Fa.is : ∀ {ys : List V} {vs : List V} {H : Hp}, Fa (ys.map Is) vs H → vs = ys
  | [], [], _, _ => rfl
  | _ :: _, _ :: _, _, h => by rw [show _ = _ from h.1, Fa.is h.2]
  | [], _ :: _, _, h => h.elim
  | _ :: _, [], _, h => h.elim
theorem mn_nil : Mn (Fa []) := fun vs H H' _ h => by
  cases vs with
  | nil => exact h
  | cons _ _ => exact h
theorem mn_cons {P : HP V} {Ps : List (HP V)} (m : Mn P) (ms : Mn (Fa Ps)) : Mn (Fa (P :: Ps)) := fun vs H H' s h => by
  cases vs with
  | nil => exact h
  | cons v vs => exact ⟨m _ _ _ s h.1, ms _ _ _ s h.2⟩
theorem Fa.cut : ∀ {Ps Qs : List (HP V)} {vs : List V} {H : Hp}, Fa (Ps ++ Qs) vs H → ∃ us ws, vs = us ++ ws ∧ Fa Ps us H ∧ Fa Qs ws H
  | [], _, vs, _, h => ⟨[], vs, rfl, trivial, h⟩
  | _ :: _, _, v :: vs, _, h => by
    obtain ⟨us, ws, e, h1, h2⟩ := Fa.cut h.2
    exact ⟨v :: us, ws, by rw [e]; rfl, ⟨h.1, h1⟩, h2⟩
  | _ :: _, _, [], _, h => h.elim
theorem mn_app {Ps Qs : List (HP V)} (ms : Mn (Fa Ps)) (mt : Mn (Fa Qs)) : Mn (Fa (Ps ++ Qs)) := fun vs H H' s h => by
  obtain ⟨us, ws, rfl, h1, h2⟩ := h.cut
  exact (ms _ _ _ s h1).app (mt _ _ _ s h2)
theorem mn_lf {Ps : List (HP V)} (m : Mn (Fa Ps)) : Mn (LF Ps) := fun _ _ _ s ⟨p, xs, e, h, q⟩ => ⟨p, xs, e, s _ _ h, m _ _ _ s q⟩
theorem mn_i {x : V} : Mn (Is x) := fun _ _ _ _ e => e
structure G (te : TE) (σ : L2.St) (H : Hp) (P : HP V) : Prop where
  ev : EvP te σ H P
  mn : Mn P
structure GA (ta : TA) (σ : L2.St) (H : Hp) (Ps : List (HP V)) : Prop where
  ev : EvA ta σ H (Fa Ps)
  mn : Mn (Fa Ps)
section
variable {K : PySem.W.Frag} {σ : L2.St} {H H' : Hp} {te ta tb td ty tv : TE} {tr : TA} {v x y : V} {vs : List V} {P Pa Pb : HP V} {Ps Qs : List (HP V)} {D : Ends} {n : Nat} {C : Addr} {f : Str} {B newId initId : String} {bmB : List Value}
theorem g_var {i : Nat} (h : σ[i]? = some (some v)) : G (tVar i) σ H (Is v) := ⟨p_var h, mn_i⟩
theorem g_varP {i : Nat} (h : σ[i]? = some (some v)) (p : P v H) (m : Mn P) : G (tVar i) σ H P := ⟨fun H1 s _ q => ⟨v, h, q _ H1 (Same.refl H1) (m _ _ _ s p)⟩, m⟩
theorem g_c : G (tC v) σ H (Is v) := ⟨p_c, mn_i⟩
theorem ga_nil : GA tNil σ H [] := ⟨fun H1 _ _ q => q _ H1 (Same.refl H1) trivial, mn_nil⟩
theorem ga_cons (h : G te σ H P) (g : GA tr σ H Ps) : GA (tCons te tr) σ H (P :: Ps) := ⟨fun H1 e Q q => h.ev H1 e _ fun x H2 s2 p2 => g.ev H2 (e.trans s2) _ fun xs H3 s3 p3 => q _ H3 (s2.trans s3) ⟨h.mn _ _ _ s3 p2, p3⟩, mn_cons h.mn g.mn⟩
theorem g_lst (h : GA tr σ H Ps) (hn : Ps.length ≤ 100000 := by exact Nat.le_of_ble_eq_true rfl) : G (tLst tr) σ H (LF Ps) := ⟨fun H1 e _ q =>
  h.ev H1 e _ fun xs H2 s2 p2 => ⟨by rw [p2.len]; exact Nat.le_trans hn (by decide), fun p hp => q _ _ (s2.trans (same_new hp)) ⟨p, xs, rfl, upd_same, h.mn _ _ _ (same_new hp) p2⟩⟩, mn_lf h.mn⟩
theorem g_cat (ha : G ta σ H (LF Ps)) (hb : G tb σ H (LF Qs)) (ma : Mn (Fa Ps)) (mb : Mn (Fa Qs)) (hn : Ps.length + Qs.length ≤ 100000 := by exact Nat.le_of_ble_eq_true rfl) : G (tOp rCat ta tb) σ H (LF (Ps ++ Qs)) := ⟨fun H1 e _ q =>
  ha.ev H1 e _ fun a H2 s2 pa => hb.ev H2 (e.trans s2) _ fun b H3 s3 pb => by
    obtain ⟨p, xs, rfl, hp, fa⟩ := ha.mn _ _ _ s3 pa
    obtain ⟨p', zs, rfl, hp', fb⟩ := pb
    refine ⟨p, p', xs, zs, rfl, rfl, hp, hp', by rw [fa.len, fb.len]; exact Nat.le_trans hn (by decide), fun r hr => q _ _ ((s2.trans s3).trans (same_new hr)) ⟨r, _, rfl, upd_same, (ma _ _ _ (same_new hr) fa).app (mb _ _ _ (same_new hr) fb)⟩⟩, mn_lf (mn_app ma mb)⟩
theorem g_asg {i : Nat} (h : G te σ H P) (k : ∀ v H1, Same H H1 → P v H1 → D.nx (σ.set i (some v)) H1) : tAsg te (gName i) D σ H := h.ev H (Same.refl H) _ k
theorem g_ret (h : G te σ H P) (k : ∀ v H1, Same H H1 → P v H1 → D.rt v H1) : tRet te D σ H := h.ev H (Same.refl H) _ k
/-- the n-th of a list -/
theorem g_ix {i : Nat} (h : σ[i]? = some (some v)) (p : LF Ps v H) (hn : Ps[n]? = some P) (m : Mn P) : G (tOp (rIxL K) (tVar i) (tC (.int (n : Int)))) σ H P := ⟨fun H1 e _ q => by
  obtain ⟨l, xs, rfl, hl, fa⟩ := p
  obtain ⟨x, hx, px⟩ := fa.get hn
  exact ⟨_, h, l, xs, n, x, rfl, rfl, .of (e _ _ hl), atI_nat hx, q _ H1 (Same.refl H1) (m _ _ _ e px)⟩, m⟩
/-! exceptions -/
def XN (C : Addr) : HP V := fun v H => ∃ e, v = .ref e ∧ H e = some (exo e C none)
def XF (C : Addr) (f : Str) (y : V) : HP V := fun v H => ∃ e dx, v = .ref e ∧ H e = some (exo e C (some dx)) ∧ H dx = some (exd dx [(f, y)])
theorem mn_xn : Mn (XN C) := fun _ _ _ s ⟨e, q, h⟩ => ⟨e, q, s _ _ h⟩
theorem mn_xf : Mn (XF C f y) := fun _ _ _ s ⟨e, dx, q, h, g⟩ => ⟨e, dx, q, s _ _ h, s _ _ g⟩
def spI0 (C : Addr) : Sp := fun vs H Q _ => ∃ a, vs = [.ref a] ∧ H a = some (exo a C none) ∧ Q .non H
def spI1 (C : Addr) (f : Str) : Sp := fun vs H Q _ => ∃ a y, vs = [.ref a, y] ∧ H a = some (exo a C none) ∧ ∀ dx, H dx = none → dx ≠ a → Q .non (upd (upd H dx (exd dx [(f, y)])) a (exo a C (some dx)))
theorem spI1_of {H : Hp} {a : Addr} {E : XK} {Q : VK} (ha : H a = none) (q : ∀ H2, Same H H2 → XF C f y (.ref a) H2 → Q (.ref a) H2) : spI1 C f [.ref a, y] (upd H a (exo a C none)) (fun v H3 => v = .non ∧ Q (.ref a) H3) E := by
  refine ⟨a, y, rfl, upd_same, fun dx hdx hne => ⟨rfl, q _ (fun b o e => ?_) ⟨a, dx, rfl, upd_same, ?_⟩⟩⟩
  · have h1 : b ≠ a := ne_of_none e ha
    have h2 : H dx = none := by rwa [upd_ne hne] at hdx
    rw [upd_ne h1, upd_ne (ne_of_none e h2), upd_ne h1]
    exact e
  · rw [upd_ne hne]
    exact upd_same
theorem g_mk1 {E : XK} (h : G te σ H (Is y)) : G (tXmk C 1 0 (spI1 C f) E (fun us _ => us) (tCons te tNil) tNil) σ H (XF C f y) := ⟨fun H1 e _ q =>
  h.ev H1 e _ fun x H2 s2 px => by
    obtain rfl : x = y := px
    exact ⟨rfl, rfl, by decide, fun a ha => spI1_of ha fun H3 s3 p3 => q _ _ (s2.trans s3) p3⟩, mn_xf⟩
theorem g_mkK {E : XK} (h : G te σ H (Is y)) : G (tXmk C 0 1 (spI1 C f) E (fun vs zs => vs ++ zs) tNil (tCons te tNil)) σ H (XF C f y) := ⟨fun H1 e _ q =>
  h.ev H1 e _ fun x H2 s2 px => by
    obtain rfl : x = y := px
    exact ⟨rfl, rfl, by decide, fun a ha => spI1_of ha fun H3 s3 p3 => q _ _ (s2.trans s3) p3⟩, mn_xf⟩
theorem g_mk0 {E : XK} : G (tXmk C 0 0 (spI0 C) E (fun us _ => us) tNil tNil) σ H (XN C) := ⟨fun H1 e _ q =>
  ⟨rfl, rfl, by decide, fun a ha => ⟨a, rfl, upd_same, rfl, q _ _ (same_new ha) ⟨a, rfl, upd_same⟩⟩⟩, mn_xn⟩
theorem g_fld (T : XC K C B newId initId bmB) (hn : PySem.W.findIn K (.ref C) f = some none) (h : G te σ H (XF C f y)) : G (tXfld K f te) σ H (Is y) := ⟨fun H1 e _ q =>
  h.ev H1 e _ fun x H2 s2 px => by
    obtain ⟨a, dx, rfl, h1, h2⟩ := px
    exact ⟨a, C, dx, [(f, y)], y, B, newId, initId, bmB, rfl, h1, h2, T, hn, by simp [List.lookup], q _ _ s2 rfl⟩, mn_i⟩
/-- isinstance(e, c), c a class or a type -/
theorem g_xis {a : Addr} {c : V} {cv : Value} {b : Bool} {i : Nat} (h : σ[i]? = some (some (.ref a))) (hx : XAt H a C) (T : XC K C B newId initId bmB) (hc : ∀ u, RelV c u → u = cv) (hk : PySem.W.kitOne K (.ref C) cv = some b) :
    G (tCB (rXis K) (tCons (tVar i) (tCons (tC c) tNil))) σ H (Is (.bl b)) := ⟨fun H1 e Q q => ⟨_, h, a, C, c, B, newId, initId, bmB, b, rfl, by
      rcases hx with hx | ⟨dx, fs, h1, h2⟩
      · exact .inl (e _ _ hx)
      · exact .inr ⟨dx, fs, e _ _ h1, e _ _ h2⟩, T, .inl ⟨cv, hc, hk⟩, q _ H1 (Same.refl H1) rfl⟩, mn_i⟩
theorem mv_xat (a : Addr) (H H' : Hp) (s : Same H H') (h : XAt H a C) : XAt H' a C := by
  rcases h with h | ⟨dx, fs, h1, h2⟩
  · exact .inl (s _ _ h)
  · exact .inr ⟨dx, fs, s _ _ h1, s _ _ h2⟩
theorem pe_globR {X : Cx} {x : Str} {a : Addr} {pos : Pos} (hg : Gl X x) (hm : X.mg x = some (.ref a)) (hd : (x == ("__debug__" : Str)) = false := by decide) : PE X (.Name x pos) (tC (.ref a)) := pe_glob hg hm rfl hd
theorem pe_bltnT {X : Cx} {x : Str} {n : String} {pos : Pos} (hg : Gl X x) (hm : X.mg x = none) (hv : bootBuiltins x = some (.type n)) (hn : x ≠ "__name__" := by decide) (hd : (x == ("__debug__" : Str)) = false := by decide) : PE X (.Name x pos) (tC (.ty n)) := pe_bltn (v := .ty n) hg hm hv rfl hn hd
theorem ref_cls {a : Addr} : ∀ u, RelV (.ref a) u → u = .ref a := fun _ h => h
theorem ty_cls {n : String} : ∀ u, RelV (.ty n) u → u = .type n := fun _ h => h
end
end WLf

set_option Elab.async false
set_option linter.all false
set_option maxRecDepth 100000
set_option maxHeartbeats 2000000
namespace WLf
open PySem PySem.Spec L2 WEv WRd WXE
theorem dpall_bls {K : PySem.W.Frag} {H : Hp} : ∀ bs : List Bool, DpAll K H (bs.map V.bl) (bs.map PyData.bool)
  | [] => .nil
  | b :: bs => .cons (.bl b) (dpall_bls bs)
theorem is_list {ys xs : List V} {H : Hp} (h : Fa (ys.map Is) xs H) : xs = ys := h.is
section
variable {K : PySem.W.Frag} {σ : L2.St} {H H' : Hp} {te ta tb td ty tv : TE} {tr : TA} {tt tu : TT} {v x y : V} {vs : List V} {P Pa Pb : HP V} {Ps Qs : List (HP V)} {D : Ends} {n : Nat} {b c : Bool}
theorem lf_dp {bs : List Bool} (h : LF ((bs.map V.bl).map Is) v H) : Dp K H v (.list (bs.map PyData.bool)) := by
  obtain ⟨p, xs, rfl, hp, fa⟩ := h
  obtain rfl := fa.is
  exact .lst (.of hp) (dpall_bls bs)
theorem mn_is {ys : List V} : Mn (Fa (ys.map Is)) := by
  induction ys with
  | nil => exact mn_nil
  | cons y ys ih => exact mn_cons mn_i ih
theorem et_ne {bs : List Bool} (ha : G ta σ H (LF ((bs.map V.bl).map Is))) (hb : G tb σ H (LF ((bs.map V.bl).map Is))) (hs : SeqAt.shaped (.list (bs.map PyData.bool)) = true) : EvT (tTest (tOp (rNeD K) ta tb)) σ H false := fun H1 e _ q =>
  ha.ev H1 e _ fun a H2 s2 pa => hb.ev H2 (e.trans s2) _ fun c H3 s3 pc => by
    refine ⟨_, _, lf_dp (ha.mn _ _ _ s3 pa), lf_dp pc, hs, hs, ?_⟩
    rw [SeqAt.eqv_refl _ (SeqAt.canLay_of_shaped hs)]
    exact ⟨false, rfl, q _ (s2.trans s3)⟩
theorem et_or0 (h : EvT tt σ H false) (g : EvT tu σ H b) : EvT (tOr tt tu) σ H b := fun H1 e Q q => h H1 e _ fun H2 s2 => g H2 (e.trans s2) _ fun H3 s3 => q _ (s2.trans s3)
theorem et_val (h : G te σ H (Is (.bl b))) : EvT (tB te) σ H b := fun H1 e Q q => h.ev H1 e _ fun x H2 s2 p => ⟨b, p, q _ s2⟩
theorem s_no {t u : TS} (h : EvT tt σ H false) (q : ∀ H1, Same H H1 → u D σ H1) : tIfS tt t u D σ H := h H (Same.refl H) _ fun H1 s => q H1 s
theorem s_yes {t u : TS} (h : EvT tt σ H true) (q : ∀ H1, Same H H1 → t D σ H1) : tIfS tt t u D σ H := h H (Same.refl H) _ fun H1 s => q H1 s
/-- [e for v in range(n)], e only read -/
theorem g_lcr {v : Nat} {m : Nat} (f : Nat → V) (hm : m ≤ 1000) (h : ∀ i H1, i < m → Same H H1 → Ev te ((σ.set v none).set v (some (.int ((0 : Int) + (i : Nat))))) H1 (f i)) :
    G (tLc (iRng1 (tCons (tC (.int (m : Int))) tNil)) (gName v) tYes te [v]) σ H (LF (((List.range m).map f).map Is)) := by
  refine ⟨fun H1 e Q q => ?_, mn_lf mn_is⟩
  refine ⟨m, rfl, by omega, by omega, fun D hD => ?_⟩
  show ∃ W, _
  refine lc_it (walk_range (lo := 0) (n := m)) (fun i H' => Same H1 H' ∧ H' D = some (.lst ((List.range i).map f))) ⟨same_new hD, upd_same⟩ (fun _ _ _ _ => trivial) (fun i x H2 H3 hi p y => ?_) (fun H2 p => ?_)
  · obtain ⟨s2, hd⟩ := p
    obtain ⟨rfl, rfl⟩ := y
    refine ⟨(List.set_set ..).trans (List.set_set ..), ?_⟩
    refine h i _ hi (e.trans s2) _ ⟨_, hd, ?_, same_put s2 hD, ?_⟩
    · rw [List.length_map, List.length_range]
      exact Nat.lt_of_lt_of_le hi (Nat.le_trans hm (by decide))
    · rw [upd_same, List.range_succ, List.map_append]
      rfl
  · exact q _ _ p.1 ⟨D, _, rfl, p.2, by
      have : ∀ ys : List V, Fa (ys.map Is) ys H2 := fun ys => by
        induction ys with
        | nil => trivial
        | cons y ys ih => exact ⟨rfl, ih⟩
      exact this _⟩
theorem g_eq {xs ys : List V} (h : G te σ H (LF (xs.map Is))) (e : xs = ys) : G te σ H (LF (ys.map Is)) := e ▸ h
theorem ty2 {n1 n2 : String} : ∀ us, Vals [V.ty n1, V.ty n2] us → us = [.type n1, .type n2] := fun us r => by
  cases r with
  | cons r1 r =>
    cases r with
    | cons r2 r =>
      cases r
      cases r1
      cases r2
      rfl
/-- isinstance(e, (T1, T2)) -/
theorem g_xis2 {a C : Addr} {n1 n2 B newId initId : String} {bmB : List Value} {b : Bool} {i : Nat} (h : σ[i]? = some (some (.ref a))) (hx : XAt H a C) (T : XC K C B newId initId bmB) (hk : PySem.W.kitAny K (.ref C) [.type n1, .type n2] = some b) :
    G (tCB (rXis K) (tCons (tVar i) (tCons (tTup (tCons (tC (.ty n1)) (tCons (tC (.ty n2)) tNil))) tNil))) σ H (Is (.bl b)) := ⟨fun H1 e Q q => ⟨_, h, (by decide : 2 ≤ sizeLine), fun p hp => ⟨a, C, .ref p, B, newId, initId, bmB, b, rfl, mv_xat a _ _ (same_new hp) (mv_xat a _ _ e hx), T, .inr ⟨p, _, rfl, upd_same, fun us r => by rw [ty2 us r]; exact hk⟩, q _ _ (same_new hp) rfl⟩⟩, mn_i⟩
theorem g_imp (h : G te σ H P) (k : ∀ v H, P v H → Pa v H) (m : Mn Pa) : G te σ H Pa := ⟨h.ev.imp k, m⟩
theorem ev_g (h : ∀ H1, Same H H1 → Ev te σ H1 v) : G te σ H (Is v) := ⟨fun H1 e Q q => h H1 e _ (q _ H1 (Same.refl H1) rfl), mn_i⟩
/-- a call that only adds objects -/
theorem g_call1 {sp : Sp} {E : XK} (ha : G ta σ H (Is x)) (hs : ∀ H1, Same H H1 → ∀ Q : VK, (∀ v H2, Same H1 H2 → P v H2 → Q v H2) → sp [x] H1 Q E) (m : Mn P) : G (tCall sp [] E (tCons ta tNil)) σ H P := ⟨fun H1 e Q q =>
  ha.ev H1 e _ fun a H2 s2 pa => by
    obtain rfl : a = x := pa
    exact hs H2 (e.trans s2) _ fun v H3 s3 p3 => q _ _ (s2.trans s3) p3, m⟩
end
end WLf

set_option Elab.async false
set_option linter.all false
set_option maxRecDepth 100000
set_option maxHeartbeats 2000000
/-! dict(zip(tuple, tuple, strict=True)) -/
namespace WZd
open PySem PySem.Spec PyProof.Rows L2 WEn WZs
/-- a strict zip whose tuple T is still out -/
abbrev ZSH (h : Heap) (z TI TO T : Addr) (f : Bool) : Prop := h.get? z = some { cls := .type "zip", dict := none, data := .fields #[rawInt T, .bool f, .bool true, .ref TI, .ref TO], slots := #[] }
section
variable {prog : Program} {w : World} {A : Around} {E : Value → Shared → Prop} {s : Shared} {z TI TO T i1 i2 : Addr} {fp1 fp2 : List Addr} {n i : Nat} {P1 P2 : Nat → Value → Prop} {St1 St2 : Nat → Heap → Prop} {a1 a2 : Value} {f : Bool} {oT : Obj}
theorem held_free {Q : Bool → Shared → Prop} (hz : ZSH s.heap z TI TO T f) (hT : s.heap.get? T = some oT)
    (h : ∀ h', ZSH h' z TI TO T true → Heap.SameBut z s.heap h' → Q false { s with heap := h' }) : wpAny (model prog w) A (Builtin.SmallTypes.ownedTupleIsFree (.ref z)) Q E s := by
  unfold Builtin.SmallTypes.ownedTupleIsFree
  refine wpAny_bind (wpAny_field hz rfl (x := rawInt T) rfl ?_)
  show wpAny _ _ (loadIfAlive ((T : Int).toNat) >>= _) _ _ _
  rw [Int.toNat_natCast]
  refine wpAny_bind (PySem.W.kdx_alive hT ?_)
  simp only [Option.isNone_some, Bool.false_eq_true, if_false]
  refine wpAny_bind (wpAny_field hz rfl (x := .bool f) rfl ?_)
  cases f with
  | true =>
    rw [if_neg (show ¬ ((Value.bool true != Value.bool true) = true) from Bool.false_ne_true)]
    exact wpAny_pure (h s.heap hz (Heap.SameBut.refl _ _))
  | false =>
    rw [if_pos (show (Value.bool false != Value.bool true) = true from rfl)]
    exact wpAny_bind (wpAny_setField_rec hz (by simp) fun h₁ hz₁ hs₁ => wpAny_pure (h h₁ hz₁ hs₁))
theorem zs_item_held {Q : Value → Shared → Prop} (S : ZipSep2 z TI TO i1 i2 fp1 fp2) (D1 : Draws prog w A i1 fp1 n P1 St1) (D2 : Draws prog w A i2 fp2 n P2 St2)
    (hz : ZSH s.heap z TI TO T f) (hT : s.heap.get? T = some oT) (hTI : IsTupOf2 s.heap TI (.ref i1) (.ref i2)) (st1 : St1 i s.heap) (st2 : St2 i s.heap) (hlt : i < n)
    (hQ : ∀ x1 x2 h' tk, P1 i x1 → P2 i x2 → ZSH h' z TI TO T true → St1 (i + 1) h' → St2 (i + 1) h' → IsTupOf2 h' s.heap.objs.size x1 x2 →
      (∀ c o, c ≠ z → c ≠ i1 → c ≠ i2 → s.heap.get? c = some o → h'.get? c = some o) → Q (.ref s.heap.objs.size) { s with heap := h', toks := tk }) :
    wpAny (model prog w) A (Builtin.«zip.__next__» ⟨[.ref z], []⟩) (fun fin s' => ∃ v, fin = .done (.ret v) ∧ Q v s') E s := by
  obtain ⟨hp, g, d, tk0, os⟩ := s
  show wpAny _ _ (field (.ref z) 2 >>= _) _ _ _
  refine wpAny_bind (wpAny_field hz rfl (x := .bool true) rfl ?_)
  show wpAny _ _ (field (.ref z) 3 >>= _) _ _ _
  refine wpAny_bind (wpAny_field hz rfl (x := .ref TI) rfl ?_)
  refine wpAny_bind (wpAny_seqItems hTI rfl ?_)
  show wpAny _ _ (Builtin.SmallTypes.ownedTupleIsFree (.ref z) >>= _) _ _ _
  refine wpAny_bind (held_free hz hT fun g0 hz0 hs0 => ?_)
  replace hs0 : Heap.SameBut z hp g0 := hs0
  simp only [Bool.false_eq_true, if_false]
  refine wpAny_bind ?_
  rw [← Array.forIn_toList]
  simp only [List.forIn_cons, List.forIn_nil]
  refine wpAny_bind (wpAny_bind (wpAny_holding ?_))
  show wpAny _ _ (Builtin.SmallTypes.nextOrEnd (.ref i1)) _ _ ⟨g0, g, d, tk0, os⟩
  refine draw_more (s := ⟨g0, g, d, tk0, os⟩) D1 (D1.over st1 hs0 S.zf1) hlt fun x1 p1 tk1 hx1 sn1 hp1 => ?_
  replace hp1 : Heap.SameBut i1 g0 p1 := hp1
  refine wpAny_pure ?_
  refine wpAny_bind (wpAny_bind (wpAny_holding ?_))
  show wpAny _ _ (Builtin.SmallTypes.nextOrEnd (.ref i2)) _ _ ⟨p1, g, d, tk1, os⟩
  refine draw_more (s := ⟨p1, g, d, tk1, os⟩) D2 (D2.over (D2.over st2 hs0 S.zf2) hp1 S.sep1_2) hlt fun x2 p2 tk2 hx2 sn2 hp2 => ?_
  replace hp2 : Heap.SameBut i2 p1 p2 := hp2
  refine wpAny_pure (wpAny_pure ?_)
  show wpAny _ _ (newTuple [x1, x2] >>= _) _ _ _
  refine wpAny_bind (wpAny_newTuple ?_)
  have hsz : p2.objs.size = hp.objs.size := by rw [hp2.1, hp1.1, hs0.1]
  have hzz : ZSH p2 z TI TO T true := hp2.extBut _ _ S.zi2 (hp1.extBut _ _ S.zi1 hz0)
  have hk : ∀ c o, c ≠ z → c ≠ i1 → c ≠ i2 → hp.get? c = some o → p2.get? c = some o := fun c o c1 c2 c3 e => hp2.extBut _ _ c3 (hp1.extBut _ _ c2 (hs0.extBut _ _ c1 e))
  have hj1 : St1 (i + 1) p2 := D1.over sn1 hp2 S.sep2_1
  refine wpAny_pure ⟨_, rfl, ?_⟩
  show Q (.ref p2.objs.size) ⟨p2.push { cls := .type "tuple", data := .seq #[x1, x2] }, g, d, tk2, os⟩
  have hp' : IsTupOf2 (p2.push { cls := .type "tuple", data := .seq #[x1, x2] }) p2.objs.size x1 x2 := Heap.get?_push_size _ rfl
  rw [hsz] at hp' ⊢
  exact hQ x1 x2 _ tk2 hx1 hx2 (Heap.get?_push_of_some _ hzz) (D1.frame _ _ _ hj1 fun b hb o e => Heap.get?_push_of_some _ e) (D2.frame _ _ _ sn2 fun b hb o e => Heap.get?_push_of_some _ e) hp' fun c o c1 c2 c3 e => Heap.get?_push_of_some _ (hk c o c1 c2 c3 e)
theorem zs_over_held {Q : Fin → Shared → Prop} (hh : A.handled = none) (S : ZipSep2 z TI TO i1 i2 fp1 fp2) (D1 : Draws prog w A i1 fp1 n P1 St1) (D2 : Draws prog w A i2 fp2 n P2 St2)
    (hz : ZSH s.heap z TI TO T f) (hT : s.heap.get? T = some oT) (hTI : IsTupOf2 s.heap TI (.ref i1) (.ref i2)) (st1 : St1 n s.heap) (st2 : St2 n s.heap)
    (hE : ∀ h' e, (∀ c o, c ≠ z → c ≠ i1 → c ≠ i2 → s.heap.get? c = some o → h'.get? c = some o) → (∃ o, h'.get? e = some o ∧ o.cls = .type "StopIteration") → E (.ref e) { s with heap := h' }) :
    wpAny (model prog w) A (Builtin.«zip.__next__» ⟨[.ref z], []⟩) Q E s := by
  obtain ⟨hp, g, d, tk0, os⟩ := s
  show wpAny _ _ (field (.ref z) 2 >>= _) _ _ _
  refine wpAny_bind (wpAny_field hz rfl (x := .bool true) rfl ?_)
  show wpAny _ _ (field (.ref z) 3 >>= _) _ _ _
  refine wpAny_bind (wpAny_field hz rfl (x := .ref TI) rfl ?_)
  refine wpAny_bind (wpAny_seqItems hTI rfl ?_)
  show wpAny _ _ (Builtin.SmallTypes.ownedTupleIsFree (.ref z) >>= _) _ _ _
  refine wpAny_bind (held_free hz hT fun g0 hz0 hs0 => ?_)
  replace hs0 : Heap.SameBut z hp g0 := hs0
  simp only [Bool.false_eq_true, if_false]
  refine wpAny_bind ?_
  rw [← Array.forIn_toList]
  simp only [List.forIn_cons, List.forIn_nil]
  refine wpAny_bind (wpAny_bind (wpAny_holding ?_))
  show wpAny _ _ (Builtin.SmallTypes.nextOrEnd (.ref i1)) _ _ ⟨g0, g, d, tk0, os⟩
  refine draw_over (s := ⟨g0, g, d, tk0, os⟩) D1 (D1.over st1 hs0 S.zf1) fun p1 hp1 => ?_
  replace hp1 : Heap.ExtBut i1 g0 p1 := hp1
  have st2' : St2 n p1 := D2.frame _ _ _ (D2.over st2 hs0 S.zf2) fun b hb o e => hp1 b o (fun q => S.sep1_2 (q ▸ hb)) e
  dsimp only
  refine wpAny_bind ?_
  refine wpAny_mono (Q := fun _ _ => False) ?_ (fun _ _ h => h.elim) fun _ _ h => h
  wp_delta
  iterate 2 wp_step
  rw [show (List.drop 1 [Value.ref i1, Value.ref i2]).zipIdx 1 = [(Value.ref i2, 1)] from rfl, List.forIn_cons]
  refine wpAny_bind ?_
  refine wpAny_bind (draw_over (s := ⟨p1, g, d, tk0, os⟩) D2 st2' fun h2 he2 => ?_)
  rw [if_neg (by simp)]
  refine wpAny_pure ?_
  dsimp only
  rw [List.forIn_nil]
  refine wpAny_pure ?_
  refine wpAny_bind (wpAny_rule ?_)
  have hk2 : ∀ c o, c ≠ z → c ≠ i1 → c ≠ i2 → hp.get? c = some o → h2.get? c = some o := fun c o cz c1 c2 e => he2 c o c2 (hp1 c o c1 (hs0.extBut c o cz e))
  show wpAny _ _ (newExc (.type "StopIteration") [] >>= _) _ _ _
  refine wpAny_bind ?_
  simp only [newExc, newTuple]
  refine wpAny_bind (wpAny_newObj_type ?_ (by size_fits))
  refine wpAny_bind (m := firstArgMember _ _) (wpAny_of_eq (a := Value.none) (by first | rfl | (simp only [firstArgMember]; rfl)) ?_)
  refine wpAny_newObj_type ?_ (by size_fits)
  simp only [raiseNew]
  refine wpAny_bind (wpAny_handled ?_)
  rw [hh]
  refine wpAny_bind (wpAny_pure (wpAny_throw ?_))
  exact hE _ _ (fun c o cz c1 c2 e => Heap.get?_push_of_some _ (Heap.get?_push_of_some _ (hk2 c o cz c1 c2 e))) ⟨_, Heap.get?_push_size _ rfl, rfl⟩
theorem next_zs_item_held {Q : Option Value → Shared → Prop} (S : ZipSep2 z TI TO i1 i2 fp1 fp2) (D1 : Draws prog w A.in1 i1 fp1 n P1 St1) (D2 : Draws prog w A.in1 i2 fp2 n P2 St2)
    (hz : ZSH s.heap z TI TO T f) (hT : s.heap.get? T = some oT) (hTI : IsTupOf2 s.heap TI (.ref i1) (.ref i2)) (st1 : St1 i s.heap) (st2 : St2 i s.heap) (hlt : i < n)
    (hQ : ∀ x1 x2 h' tk, P1 i x1 → P2 i x2 → ZSH h' z TI TO T true → St1 (i + 1) h' → St2 (i + 1) h' → IsTupOf2 h' s.heap.objs.size x1 x2 →
      (∀ c o, c ≠ z → c ≠ i1 → c ≠ i2 → s.heap.get? c = some o → h'.get? c = some o) → Q (some (.ref s.heap.objs.size)) { s with heap := h', toks := tk }) :
    wpAny (model prog w) A (pyNext (.ref z)) Q E s := by
  have hTy : s.TypeIs (.ref z) "zip" := ⟨_, hz, rfl⟩
  unfold pyNext
  exact wpAny_bind (wpAny_attempt (wpAny_callSpecial?_slot (name := Str.ofString "__next__") hTy F.slot_zip_next
    (wpAny_call_entry F.slot_zip_next hTy F.entry_zip_next (zs_item_held S D1 D2 hz hT hTI st1 st2 hlt fun x1 x2 h' tk b1 b2 b3 b4 b5 b6 b8 => wpAny_pure (hQ x1 x2 h' tk b1 b2 b3 b4 b5 b6 b8)) (F.args_zip_next_1 _))))
theorem next_zs_over_held {Q : Option Value → Shared → Prop} (hh : A.handled = none) (S : ZipSep2 z TI TO i1 i2 fp1 fp2) (D1 : Draws prog w A.in1 i1 fp1 n P1 St1) (D2 : Draws prog w A.in1 i2 fp2 n P2 St2)
    (hz : ZSH s.heap z TI TO T f) (hT : s.heap.get? T = some oT) (hTI : IsTupOf2 s.heap TI (.ref i1) (.ref i2)) (st1 : St1 n s.heap) (st2 : St2 n s.heap)
    (hQ : ∀ h', (∀ c o, c ≠ z → c ≠ i1 → c ≠ i2 → s.heap.get? c = some o → h'.get? c = some o) → Q none { s with heap := h' }) : wpAny (model prog w) A (pyNext (.ref z)) Q E s := by
  have hTy : s.TypeIs (.ref z) "zip" := ⟨_, hz, rfl⟩
  unfold pyNext
  refine wpAny_bind (wpAny_attempt (wpAny_callSpecial?_slot (name := Str.ofString "__next__") hTy F.slot_zip_next
    (wpAny_call_entry F.slot_zip_next hTy F.entry_zip_next (zs_over_held hh S D1 D2 hz hT hTI st1 st2 fun h' e hk he => ?_) (F.args_zip_next_1 _))))
  obtain ⟨o, ho, hc⟩ := he
  refine wpAny_bind (wpAny_isInstance (T := "StopIteration") (b := true) ⟨o, ho, hc⟩ isSubtype_stop ?_)
  exact wpAny_pure (hQ _ hk)
end
section
variable {prog : Program} {w : World}
theorem zs_no_keys {A : Around} {E : Value → Shared → Prop} {s : Shared} {z TI TO : Addr} {f0 : Value} {Q : Option Value → Shared → Prop} (hz : ZS s.heap z TI TO f0) (hA : A.handled = none)
    (h : ∀ h' tk, (∀ b o, s.heap.get? b = some o → h'.get? b = some o) → Q none { s with heap := h', toks := tk }) : wpAny (model prog w) A (getAttr? (.ref z) "keys") Q E s :=
  getAttrOr_miss_zip hz rfl rfl rfl zip_no_keys (by decide +kernel) hA h
/-- the strict zip of two tuples as the argument of dict() -/
theorem PairArg.zs (z TI TO i1 i2 a b : Addr) (ha : a ≠ i1) (hb : b ≠ i2) (S : ZipSep2 z TI TO i1 i2 [i1, a] [i2, b]) (xs ys : Array Value) (hl : xs.size = ys.size) :
    PairArg prog w "zip" z [z, TI, TO, i1, i2, a, b] [z, TO, i1, i2] xs.size (fun i k v => xs[i]? = some k ∧ ys[i]? = some v)
      (fun h => ZS h z TI TO .none ∧ IsTupOf2 h TI (.ref i1) (.ref i2) ∧ (∃ u v, IsTupOf2 h TO u v) ∧ (h.IsTupleIter i1 a 0 ∧ h.IsTuple a xs) ∧ (h.IsTupleIter i2 b 0 ∧ h.IsTuple b ys)) where
  type := fun s ok => ⟨_, ok.1, rfl⟩
  notDict := by decide
  keep := fun h h' ok hk => by
    obtain ⟨hz, hTI, ⟨u, v, hTO⟩, ⟨h1, h2⟩, ⟨h3, h4⟩⟩ := ok
    exact ⟨hk _ _ hz, hk _ _ hTI, ⟨u, v, hk _ _ hTO⟩, ⟨h1.at fun o e => hk _ o e, h2.at fun o e => hk _ o e⟩, h3.at fun o e => hk _ o e, h4.at fun o e => hk _ o e⟩
  there := fun h ok c hc => by
    obtain ⟨hz, hTI, ⟨u, v, hTO⟩, ⟨⟨o1, h1, _⟩, ⟨o2, h2, _⟩⟩, ⟨⟨o3, h3, _⟩, ⟨o4, h4, _⟩⟩⟩ := ok
    simp only [List.mem_cons, List.not_mem_nil, or_false] at hc
    rcases hc with rfl | rfl | rfl | rfl | rfl | rfl | rfl
    all_goals first | exact ⟨_, hz⟩ | exact ⟨_, hTI⟩ | exact ⟨_, hTO⟩ | exact ⟨_, h1⟩ | exact ⟨_, h2⟩ | exact ⟨_, h3⟩ | exact ⟨_, h4⟩
  sub := fun c hc => by simp at hc ⊢; rcases hc with rfl | rfl | rfl | rfl <;> simp
  noKeys := fun A s Q E hA ok h => zs_no_keys ok.1 hA h
  iter := fun A s d Q E hA ok hd hdf h => by
    obtain ⟨hz, hTI, ⟨u, v, hTO⟩, hs1, hs2⟩ := ok
    simp only [List.mem_cons, List.not_mem_nil, or_false, not_or] at hdf
    obtain ⟨dz, dTI, dTO, di1, di2, da, db⟩ := hdf
    have hA1 : A.in1.handled = none := hA
    have D1 : Draws prog w A.in1 i1 [i1, a] xs.size (fun i v => xs[i]? = some v) (fun i h => h.IsTupleIter i1 a i ∧ h.IsTuple a xs) := Draws.tuple hA1 i1 a ha xs
    have D2 : Draws prog w A.in1 i2 [i2, b] xs.size (fun i v => ys[i]? = some v) (fun i h => h.IsTupleIter i2 b i ∧ h.IsTuple b ys) := by
      rw [hl]
      exact Draws.tuple hA1 i2 b hb ys
    refine iter_zs hz (h z [z, TO, i1, i2] (fun i h => IsTupOf2 h TI (.ref i1) (.ref i2) ∧ (h.IsTupleIter i1 a i ∧ h.IsTuple a xs) ∧ (h.IsTupleIter i2 b i ∧ h.IsTuple b ys) ∧
      ((ZS h z TI TO .none ∧ ∃ u v, IsTupOf2 h TO u v) ∨ ∃ T f oT, ZSH h z TI TO T f ∧ h.get? T = some oT ∧ T ≠ z ∧ T ≠ i1 ∧ T ≠ i2 ∧ T ≠ d)) s.heap s.toks ?_
      ⟨hTI, hs1, hs2, .inl ⟨hz, u, v, hTO⟩⟩ (fun _ _ e => e) fun b hb => .inl hb)
    exact {
      off := fun hm => by
        simp only [List.mem_cons, List.not_mem_nil, or_false] at hm
        rcases hm with e | e | e | e
        · exact dz e
        · exact dTO e
        · exact di1 e
        · exact di2 e
      frame := fun i h₁ h₂ st hk => by
        obtain ⟨hTI, h1, h2, hz⟩ := st
        refine ⟨hk _ _ (Ne.symm dTI) hTI, D1.frame _ _ _ h1 (fun c hc o e => hk c o (fun q => ?_) e), D2.frame _ _ _ h2 (fun c hc o e => hk c o (fun q => ?_) e), ?_⟩
        · subst q
          simp only [List.mem_cons, List.not_mem_nil, or_false] at hc
          rcases hc with e | e
          · exact di1 e
          · exact da e
        · subst q
          simp only [List.mem_cons, List.not_mem_nil, or_false] at hc
          rcases hc with e | e
          · exact di2 e
          · exact db e
        · rcases hz with ⟨hz, u, v, hTO⟩ | ⟨T, f, oT, hz, hT, r1, r2, r3, r4⟩
          · exact .inl ⟨hk _ _ (Ne.symm dz) hz, u, v, hk _ _ (Ne.symm dTO) hTO⟩
          · exact .inr ⟨T, f, oT, hk _ _ (Ne.symm dz) hz, hk _ _ r4 hT, r1, r2, r3, r4⟩
      item := fun i s₁ Q₁ E₁ hi st hds hQ => by
        obtain ⟨hTI, h1, h2, hz⟩ := st
        have lt : ∀ {c o}, s₁.heap.get? c = some o → s₁.heap.objs.size ≠ c := fun e => Nat.ne_of_gt (Heap.lt_size e)
        have n1 : s₁.heap.objs.size ≠ i1 := let ⟨_, e⟩ := D1.live _ _ h1; lt e
        have n2 : s₁.heap.objs.size ≠ i2 := let ⟨_, e⟩ := D2.live _ _ h2; lt e
        rcases hz with ⟨hz, u, v, hTO⟩ | ⟨T, f, oT, hz, hT, r1, r2, r3, r4⟩
        · refine next_zs_item S D1 D2 hz hTI hTO h1 h2 hi fun x1 x2 h' tk p1 p2 a1 a2 a3 a4 a5 hk => ?_
          exact hQ s₁.heap.objs.size _ _ h' tk ⟨p1, p2⟩ (.inl ⟨_, a5, rfl, _, rfl⟩)
            ⟨hk _ _ S.TIz S.TITO S.TIi1 S.TIi2 hTI, a3, a4, .inr ⟨s₁.heap.objs.size, false, _, a1, a5, lt hz, n1, n2, Nat.ne_of_gt hds⟩⟩
            fun c o hc e => hk c o (fun x => hc (by simp [x])) (fun x => hc (by simp [x])) (fun x => hc (by simp [x])) (fun x => hc (by simp [x])) e
        · refine next_zs_item_held S D1 D2 hz hT hTI h1 h2 hi fun x1 x2 h' tk p1 p2 a1 a3 a4 a5 hk => ?_
          exact hQ s₁.heap.objs.size _ _ h' tk ⟨p1, p2⟩ (.inl ⟨_, a5, rfl, _, rfl⟩)
            ⟨hk _ _ S.TIz S.TIi1 S.TIi2 hTI, a3, a4, .inr ⟨T, true, oT, a1, hk _ _ r1 r2 r3 hT, r1, r2, r3, r4⟩⟩
            fun c o hc e => hk c o (fun x => hc (by simp [x])) (fun x => hc (by simp [x])) (fun x => hc (by simp [x])) e
      done := fun s₁ Q₁ E₁ st hQ => by
        obtain ⟨hTI, h1, h2, hz⟩ := st
        rcases hz with ⟨hz, u, v, hTO⟩ | ⟨T, f, oT, hz, hT, r1, r2, r3, r4⟩
        · exact next_zs_over hA S D1 D2 hz hTI hTO h1 h2 fun h' hk => hQ h' s₁.toks fun c o hc e => hk c o (fun x => hc (by simp [x])) (fun x => hc (by simp [x])) (fun x => hc (by simp [x])) (fun x => hc (by simp [x])) e
        · exact next_zs_over_held hA S D1 D2 hz hT hTI h1 h2 fun h' hk => hQ h' s₁.toks fun c o hc e => hk c o (fun x => hc (by simp [x])) (fun x => hc (by simp [x])) (fun x => hc (by simp [x])) e }
end
/-- dict(zip(names, values, strict=True)) -/
def zipK (ks : List Str) (ys : List V) : List (Key × V) := (ks.zip ys).map fun p => (Sum.inr p.1, p.2)
theorem kv_zip (P : Program) (w : World) : ∀ {ks : List Str} {ys : List V} {its its2 : List Value}, Vals (ks.map V.str) its → Vals ys its2 → ks.length = ys.length →
    ∃ prs : List (Key × Value), KV (zipK ks ys) prs ∧ prs.length = its.length ∧ ∀ (i : Nat) (u v : Value), its[i]? = some u → its2[i]? = some v → ∃ k : Key, prs[i]? = some (k, v) ∧ (mixKind P w).is k u = true
  | [], [], its, its2, r, r2, _ => by
    cases r
    cases r2
    exact ⟨[], .nil, rfl, fun i u v e _ => by simp at e⟩
  | k :: ks, y :: ys, its, its2, r, r2, hl => by
    cases r with
    | cons h t =>
      cases r2 with
      | cons h2 t2 =>
        obtain ⟨prs, rel, hl', hp⟩ := kv_zip P w t t2 (Nat.succ.inj hl)
        refine ⟨(Sum.inr k, _) :: prs, .cons ⟨rfl, h2⟩ rel, by rw [List.length_cons, List.length_cons, hl'], fun i u v e e2 => ?_⟩
        cases i with
        | zero =>
          cases e
          cases e2
          exact ⟨Sum.inr k, rfl, kV_is (k := Sum.inr k) h⟩
        | succ i => exact hp i u v (by simpa using e) (by simpa using e2)
  | [], _ :: _, _, _, _, _, hl => by cases hl
  | _ :: _, [], _, _, _, _, hl => by cases hl
def tDictZip (K : PySem.W.Frag) (ta tk : TA) : TE := fun σ H Q => ta σ H fun vs H1 => tk σ H1 fun zs H2 => ∃ a b ks ys, vs = [.ref a, .ref b] ∧ zs = [.bl true] ∧ SqT K H2 a (ks.map V.str) ∧ SqT K H2 b ys ∧ ks.length = ys.length ∧ ∀ p, H2 p = none → Q (.ref p) (upd H2 p (.dK (mergeK [] (zipK ks ys))))
theorem pe_dictZip {X : Cx} {e e2 : Expr} {ta tk : TA} {p p2 pos pos2 : Pos} {kws : List Keyword} (hcalm : X.calm = true) (hgd : Gl X "dict") (hmd : X.mg "dict" = none) (hg : Gl X "zip") (hm : X.mg "zip" = none) (ha : PA X [e, e2] ta) (hkw : PK X kws tk)
    (hall : (backToKw pos2 (keywordEach kws X.env)).all (·.1.isSome) = true := by rfl) (hks : (backToKw pos2 (keywordEach kws X.env)).filterMap (·.1) = [("strict" : Str)] := by rfl)
    (he : starEach [e, e2] X.env = (false, eval e X.env) :: starEach [e2] X.env := by rfl) (hpl : ((backTo pos2 (starEach [e, e2] X.env)).any (·.1) || (backToKw pos2 (keywordEach kws X.env)).any (·.1.isNone)) = false := by rfl)
    (hed : starEach [.Call (.Name "zip" p2) [e, e2] kws pos2] X.env = (false, eval (.Call (.Name "zip" p2) [e, e2] kws pos2) X.env) :: starEach [] X.env := by rfl) :
    PE X (.Call (.Name "dict" p) [.Call (.Name "zip" p2) [e, e2] kws pos2] [] pos) (tDictZip X.K ta tk) := by
  refine ⟨fun pins s σ H Q I h => ?_⟩
  refine wpAny_Call_Name_kw (ld_blt I hgd hmd (by decide +kernel : bootBuiltins "dict" = some (.type "dict")) ?_)
  refine PyProof.Rows.callWith_type1 ?_ hed rfl
  rw [hed]
  refine Calls.spliced_cons ?_
  refine wpAny_Call_Name_kw (ld_blt I hg hm PyProof.Rows.boot_zip (callWith_typeK hall (thn (ha.run pos2 pins s σ H _ I h) fun us s1 ⟨vs, H1, I1, r1, q1⟩ => ?_) hpl he))
  refine thn (hkw.run pos2 pins s1 σ H1 _ I1 q1) fun ws s2 ⟨zs, H2, I2, rz, a, b, ks, ys, e1, e2', hqx, hqy, hlen, q⟩ => ?_
  subst e1 e2'
  rw [hks]
  cases r1 with
  | cons r rr =>
    cases rr with
    | cons r' rr =>
      cases rr
      cases r
      cases r'
      cases rz with
      | cons rk rr =>
        cases rr
        cases rk
        obtain ⟨its, rv, p1, z1⟩ := I2.tuple hqx
        obtain ⟨its2, rv2, p2', _⟩ := I2.tuple hqy
        obtain ⟨o1, ho1, _⟩ := id p1
        obtain ⟨o2, ho2, _⟩ := id p2'
        have la : a < s2.heap.objs.size := Heap.lt_size ho1
        have lb : b < s2.heap.objs.size := Heap.lt_size ho2
        obtain ⟨prs, rel, hl1, hpr⟩ := kv_zip X.prog X.w rv rv2 hlen
        have l1 : its.length = ks.length := by
          have := rv.length
          rw [List.length_map] at this
          exact this.symm
        have l2 : its2.length = ys.length := rv2.length.symm
        rw [List.length_map] at z1
        refine zs_begins (begins_tuple a its.toArray) (begins_tuple b its2.toArray) p1 p2' fun h' hz hTI hTO h1 h2 hk => Calls.spliced_nil ?_
        have I3 : Inv X pins σ H2 { s2 with heap := h' } := I2.kept (t' := s2.toks) hk
        have PA1 := PairArg.zs (prog := X.prog) (w := X.w) (s2.heap.objs.size + 4) (s2.heap.objs.size + 2) (s2.heap.objs.size + 3) s2.heap.objs.size (s2.heap.objs.size + 1) a b (Nat.ne_of_lt la) (Nat.ne_of_lt (Nat.lt_succ_of_lt lb)) (sep_of s2.heap.objs.size a b la lb) its.toArray its2.toArray (by simp [l1, l2, hlen])
        have zlt : s2.heap.objs.size + 4 < h'.objs.size := Heap.lt_size hz
        refine PySem.call_dict_pairs (knd := mixKind X.prog X.w) (kvs := prs) PA1 (I.ok.hd hcalm) ⟨hz, hTI, ⟨_, _, hTO⟩, ⟨⟨_, h1, rfl, rfl⟩, (let ⟨o, e, r⟩ := p1; ⟨o, hk _ o e, r⟩)⟩, ⟨_, h2, rfl, rfl⟩, (let ⟨o, e, r⟩ := p2'; ⟨o, hk _ o e, r⟩)⟩ ⟨by rw [hl1, List.size_toArray], fun i key v e => hpr i key v (by simpa using e.1) (by simpa using e.2)⟩ (by rw [List.size_toArray, l1]; exact z1) fun h3 tk hd' hk' => ?_
        have hle : s2.heap.objs.size ≤ h'.objs.size := by
          have : s2.heap.objs.size + 4 < h'.objs.size := zlt
          omega
        have kk : ∀ b o, s2.heap.get? b = some o → h3.get? b = some o := fun c o e => hk' c o (fun hm => by
          have hc := Heap.lt_size e
          simp only [List.mem_cons, List.not_mem_nil, or_false] at hm
          rcases hm with z | z | z | z
          · rw [z] at hc; exact absurd hc (Nat.not_lt.mpr (Nat.le_add_right _ _))
          · rw [z] at hc; exact absurd hc (Nat.not_lt.mpr (Nat.le_add_right _ _))
          · rw [z] at hc; exact absurd hc (Nat.lt_irrefl _)
          · rw [z] at hc; exact absurd hc (Nat.not_lt.mpr (Nat.le_add_right _ _))) (hk c o e)
        have hms : (h'.objs.size == sysModules) = false := beq_eq_false_iff_ne.mpr (Nat.ne_of_gt (Nat.lt_of_lt_of_le I2.big hle))
        have hlen2 : (mergeK [] (zipK ks ys)).length ≤ sizeLine := by
          refine Nat.le_trans (length_mergeK (zipK ks ys) []) ?_
          rw [List.length_nil, Nat.zero_add, rel.length, hl1, l1]
          exact z1
        exact ⟨.ref h'.objs.size, upd H2 h'.objs.size (.dK (mergeK [] (zipK ks ys))), I2.laid (t' := tk) kk hle (show ObjOk X.prog X.w _ _ _ (.dK (mergeK [] (zipK ks ys))) from ⟨hlen2, hms, merged [] prs, KV.merge rel .nil, hd'⟩), rfl, q _ (I2.hok.fresh hle)⟩
end WZd

set_option Elab.async false
set_option linter.all false
set_option maxRecDepth 100000
set_option maxHeartbeats 4000000
namespace W06
open PySem PySem.Spec PyProof.Rows L2 WXG WEv WRd WLf WEn WZs WRu WSt StX WDc
/-! ### the source of draws -/
def src (s : Addr) (k l : Int) : List (Key × V) := [(Sum.inr "script", .ref s), (Sum.inr "at", .int k), (Sum.inr "left", .int l)]
theorem v_script {s : Addr} {k l : Int} : valV (src s k l) (Sum.inr "script") = some (.ref s) := rfl
theorem v_at {s : Addr} {k l : Int} : valV (src s k l) (Sum.inr "at") = some (.int k) := rfl
theorem v_left {s : Addr} {k l : Int} : valV (src s k l) (Sum.inr "left") = some (.int l) := rfl
theorem p_at {s : Addr} {k l x : Int} : putK (src s k l) (Sum.inr "at") (.int x) = src s x l := rfl
theorem p_left {s : Addr} {k l x : Int} : putK (src s k l) (Sum.inr "left") (.int x) = src s k x := rfl
/-- the source at m: it has drawn at most a times, and given c names -/
def SrcAt (K : PySem.W.Frag) (S : Addr × List Int) (H : Hp) (m : Addr) (a c : Nat) : Prop := ∃ (s : Addr) (cs : List Int) (k l : Int), H m = some (.dK (src s k l)) ∧ SqL K H s (cs.map V.int) ∧ cs.length ≤ 1000 ∧ 0 ≤ k ∧ k ≤ a ∧ (s, cs) = S
/-- all but what stands at m is as it was -/
def But (m : Addr) (H H' : Hp) : Prop := ∀ b o, H b = some o → b ≠ m → H' b = some o
theorem But.refl {m : Addr} {H : Hp} : But m H H := fun _ _ h _ => h
theorem But.trans {m : Addr} {H H' H'' : Hp} (h : But m H H') (g : But m H' H'') : But m H H'' := fun b o e n => g b o (h b o e n) n
theorem But.put {m : Addr} {H H' : Hp} {x : HO} (h : But m H H') : But m H (upd H' m x) := fun b o e n => by rw [upd_ne n]; exact h b o e n
theorem But.new {m p : Addr} {H H' : Hp} {x : HO} (h : But m H H') (hp : H' p = none) : But m H (upd H' p x) := fun b o e n => by
  have := h b o e n
  rw [upd_ne (fun z => by rw [z, hp] at this; cases this)]
  exact this
theorem But.seq {K : PySem.W.Frag} {m s : Addr} {H H' : Hp} {kvs : List (Key × V)} {xs : List V} (h : But m H H') (hm : H m = some (.dK kvs)) (q : SqL K H s xs) : SqL K H' s xs := by
  rcases q with (q | ⟨o, q⟩) | q
  · exact .inl (.inl (h _ _ q fun z => by rw [z, hm] at q; cases q))
  · exact .inl (.inr ⟨o, h _ _ q fun z => by rw [z, hm] at q; cases q⟩)
  · exact .inr q
theorem five {s : Addr} {k l : Int} : (src s k l).length < sizeLine := (by decide : 3 < sizeLine)
theorem fmod_nn {a b : Int} (h : 0 < b) : 0 ≤ a.fmod b ∧ a.fmod b < b := by
  rw [Int.fmod_eq_emod_of_nonneg a (Int.le_of_lt h)]
  exact ⟨Int.emod_nonneg a (by omega), Int.emod_lt_of_pos a h⟩
theorem st_any {te : TE} {σ : L2.St} {H : Hp} {D : Ends} {i : Nat} {R : V → Hp → Prop} (h : ∀ Q : VK, (∀ v H', R v H' → Q v H') → te σ H Q) (q : ∀ v H', R v H' → D.nx (σ.set i (some v)) H') : tAsg te (gName i) D σ H := h _ q
def spBegun (K : PySem.W.Frag) (S : Addr × List Int) : Sp := fun vs H Q _ => vs = [.ref S.1] ∧ SqL K H S.1 (S.2.map V.int) ∧ S.2.length ≤ 1000 ∧ ∀ m H', H m = none → Same H H' → SrcAt K S H' m 0 0 → Q (.ref m) H'
def spNext (K : PySem.W.Frag) (S : Addr × List Int) : Sp := fun vs H Q _ => ∃ (m : Addr) (b : Int) (a c : Nat), vs = [.ref m, .int b] ∧ 0 < b ∧ b ≤ 1000 ∧ SrcAt K S H m a c ∧ a ≤ 100000 ∧ ∀ r H', 0 ≤ r → r < b → But m H H' → SrcAt K S H' m (a + 1) c → Q (.int r) H'
section
variable {P : Program} {w : World} {K : PySem.W.Frag} {S : Addr × List Int} {mg : Str → Option Value} {base : Heap}
theorem ok_begun (T : Env K mg) : FnOk P w K mg base CX0 1 (d_L_begun.loc K) T.fd_L_begun ["cells"] (spBegun K S) := by
  refine T.F_L_begun.ok sc_L_begun (fun vs H Q E h => ?_) (fun cdv A outer s H vs Q E hr h => ?_)
  · obtain ⟨rfl, _⟩ := h
    rfl
  · have nd := sc_L_begun.nd
    have hu := hu_of hr
    obtain ⟨rfl, hS, hl, k⟩ := h
    refine ⟨_, PSs.nox (pss_one (ps_ret (pe_disp (pps_cons pe_str (pv 0) (pps_cons pe_str pe_int (pps_cons pe_str pe_int pps_nil))) (by rfl) (by rfl) (fun z => by cases z) (by decide)))), ?_⟩
    intro p hp
    have s1 : Same H (upd H p (.dK [])) := same_new hp
    refine ⟨_, rfl, upd_same, src S.1 0 0, rfl, (by decide : 3 ≤ 15), ?_⟩
    exact k p _ hp (same_put s1 hp) ⟨S.1, S.2, 0, 0, upd_same, (same_put s1 hp).seq hS, hl, by decide, by decide, rfl⟩
theorem ok_next (T : Env K mg) : FnOk P w K mg base CX0 1 (d_L_next.loc K) T.fd_L_next ["m", "total"] (spNext K S) := by
  refine T.F_L_next.ok sc_L_next (fun vs H Q E h => ?_) (fun cdv A outer s H vs Q E hr h => ?_)
  · obtain ⟨m, b, a, c, rfl, _⟩ := h
    rfl
  · have nd := sc_L_next.nd
    have hu := hu_of hr
    obtain ⟨m, b, a, c, rfl, hb0, hb1, hS, ha, k⟩ := h
    obtain ⟨s0, cs, kk, l, hm, hc, hlen, hk0, hka, hs0⟩ := hS
    refine ⟨_, PSs.nox (pss_cons (ps_if (pt_cmpR op_gt (pe_dget hu (pv 0) pe_str (fun _ _ => rfl)) pe_int (nomark _))
  (pss_cons (ps_set (i := 2) nd rfl (Or.inl rfl) (pe_op op_modN (pe_callTy call_int1 (by rfl) T.b_int (by decide +kernel) (pa_cons (pe_dget hu (pv 0) pe_str (fun _ _ => rfl)) pa_nil)) (pv 1)))
 (pss_cons (ps_dput hu (pv 0) pe_str (pe_op op_fdivN (pe_dget hu (pv 0) pe_str (fun _ _ => rfl)) (pv 1)) rfl)
 (pss_one (ps_ret (pv 2)))))
  pss_nil)
 (pss_cons (ps_set (i := 3) nd rfl (Or.inl rfl) (pe_dget hu (pv 0) pe_str (fun _ _ => rfl)))
 (pss_cons (ps_dput hu (pv 0) pe_str (pe_op op_add (pv 3) pe_int) rfl)
 (pss_cons (ps_set (i := 4) nd rfl (Or.inl rfl) (pe_ifExp (pt_cmpR (op_neN hr.units) (pe_dget hu (pv 0) pe_str (fun _ _ => rfl)) (pe_lst pa_nil) (nomark _)) (pe_ix (ixlK (K := K)) (pe_dget hu (pv 0) pe_str (fun _ _ => rfl)) (pe_op op_modN (pe_callTy call_int1 (by rfl) T.b_int (by decide +kernel) (pa_cons (pv 3) pa_nil)) (pe_callB call_len_seq (by rfl) T.b_len (by decide +kernel) (pa_cons (pe_dget hu (pv 0) pe_str (fun _ _ => rfl)) pa_nil))) (fun _ _ => rfl)) pe_int))
 (pss_cons (ps_if (PW.pt (pw_and (pt_cmpR op_ge (pv 4) (pe_op op_pow pe_int pe_int) (nomark _)) (pw_and1 (pt_cmpR op_lt (pv 3) (pe_callB call_len_seq (by rfl) T.b_len (by decide +kernel) (pa_cons (pe_dget hu (pv 0) pe_str (fun _ _ => rfl)) pa_nil)) (nomark _)))))
  (pss_cons (ps_dput hu (pv 0) pe_str (pe_op op_fdivN (pv 4) (pv 1)) rfl)
 (pss_one (ps_ret (pe_op op_modN (pe_callTy call_int1 (by rfl) T.b_int (by decide +kernel) (pa_cons (pv 4) pa_nil)) (pv 1)))))
  pss_nil)
 (pss_cons (ps_set (i := 5) nd rfl (Or.inl rfl) (pe_op op_add (pe_op op_mul (pe_op op_modN (pe_callTy call_int1 (by rfl) T.b_int (by decide +kernel) (pa_cons (pv 4) pa_nil)) pe_int) pe_int) (pe_op op_modN (pe_callTy call_int1 (by rfl) T.b_int (by decide +kernel) (pa_cons (pe_op op_fdivN (pv 4) pe_int) pa_nil)) pe_int)))
 (pss_cons (ps_set (i := 5) nd rfl (Or.inl rfl) (pe_op op_modN (pe_callTy call_int1 (by rfl) T.b_int (by decide +kernel) (pa_cons (pe_op op_add (pe_op op_add (pe_op op_add (pv 5) (pe_op op_mul (pe_op op_mul pe_int (pv 3)) (pv 3))) (pe_op op_mul pe_int (pv 3))) pe_int) pa_nil)) pe_int))
 (pss_cons (ps_set (i := 5) nd rfl (Or.inl rfl) (pe_op op_modN (pe_callTy call_int1 (by rfl) T.b_int (by decide +kernel) (pa_cons (pe_op op_mul (pe_op op_modN (pe_callTy call_int1 (by rfl) T.b_int (by decide +kernel) (pa_cons (pe_op op_mul (pv 5) (pv 5)) pa_nil)) pe_int) pe_int) pa_nil)) pe_int))
 (pss_one (ps_ret (pe_op op_modN (pe_callTy call_int1 (by rfl) T.b_int (by decide +kernel) (pa_cons (pe_op op_fdivN (pv 5) pe_int) pa_nil)) (pv 1)))))))))))), ?_⟩
    have fin : ∀ (z : Int) (H' : Hp) (k' l' : Int), H' m = some (.dK (src s0 k' l')) → But m H H' → 0 ≤ k' → k' ≤ a + 1 → Q (.int (z.fmod b)) H' := by
      intro z H' k' l' hm' hb' h0 h1
      exact k _ _ (fmod_nn hb0).1 (fmod_nn hb0).2 hb' ⟨s0, cs, k', l', hm', hb'.seq hm hc, hlen, h0, by omega, hs0⟩
    refine st_if (evb_cmp (ev_dget (ev_var rfl) ev_c hm (k := Sum.inr "left") v_left) ev_c) ?_
    split
    · refine st_asg (ev_iI (ev_int1 (evl_cons (ev_dget (ev_var rfl) ev_c hm (k := Sum.inr "left") v_left) evl_nil)) (ev_var rfl) (by omega)) ?_
      refine st_dput (k := Sum.inr "left") (ev_iI (ev_dget (ev_var rfl) ev_c hm (k := Sum.inr "left") v_left) (ev_var rfl) ⟨by omega, by omega⟩) (ev_var rfl) ev_c hm five ?_
      rw [p_left]
      refine st_ret (ev_var rfl) ?_
      exact fin _ _ _ _ upd_same But.refl.put hk0 (by omega)
    · refine st_asg (ev_dget (ev_var rfl) ev_c hm (k := Sum.inr "at") v_at) ?_
      refine st_dput (k := Sum.inr "at") (ev_i0 (ev_var rfl) ev_c) (ev_var rfl) ev_c hm five ?_
      rw [p_at]
      have m1 : upd H m (.dK (src s0 (kk + 1) l)) m = some (.dK (src s0 (kk + 1) l)) := upd_same
      have B1 : But m H (upd H m (.dK (src s0 (kk + 1) l))) := But.refl.put
      generalize upd H m (.dK (src s0 (kk + 1) l)) = H1 at m1 B1 ⊢
      have s1 := B1.seq hm hc
      dsimp only
      show tAsg _ (gName 4) _ _ _
      refine st_any (R := fun v H2 => ∃ cell, v = .int cell ∧ H2 m = some (.dK (src s0 (kk + 1) l)) ∧ But m H H2) (fun Q' q' => ?_) (fun v H2 ⟨cell, hv, m2, B2⟩ => ?_)
      · refine ev_dget (ev_var rfl) ev_c m1 (k := Sum.inr "script") v_script _ ?_
        refine ⟨(by decide : 0 ≤ sizeLine), fun p hp => ?_⟩
        have mp : m ≠ p := fun z => by rw [← z, m1] at hp; cases hp
        have B2 : But m H (upd H1 p (.lst [])) := B1.new hp
        have m2 : upd H1 p (.lst []) m = some (.dK (src s0 (kk + 1) l)) := by rw [upd_ne mp]; exact m1
        have s2 := B2.seq hm hc
        refine ⟨s0, p, cs.map V.int, rfl, rfl, s2, .inl (.of upd_same), ?_⟩
        refine ⟨_, rfl, ?_⟩
        generalize upd H1 p (.lst []) = H2 at B2 m2 s2 ⊢
        by_cases he : cs.map V.int = []
        · rw [decide_eq_true he]
          exact q' _ _ ⟨0, rfl, m2, B2⟩
        · rw [decide_eq_false he]
          have hL : 0 < (cs.length : Int) := by
            cases cs with
            | nil => exact absurd rfl he
            | cons x xs => simp only [List.length_cons]; omega
          have fm := fmod_nn (a := kk) hL
          obtain ⟨cell, hcell⟩ : ∃ cell, cs[(kk.fmod cs.length).toNat]? = some cell := ⟨_, List.getElem?_eq_getElem (by omega)⟩
          have hat : atI (cs.map V.int) (kk.fmod ((cs.map V.int).length : Int)) = some (.int cell) := by
            rw [List.length_map]
            have := atI_nat (xs := cs.map V.int) (j := (kk.fmod cs.length).toNat) (v := .int cell) (by rw [List.getElem?_map, hcell]; rfl)
            rw [Int.toNat_of_nonneg fm.1] at this
            exact this
          refine ev_op (v := .int cell) (ev_dget (ev_var rfl) ev_c m2 (k := Sum.inr "script") v_script)
            (ev_iI (ev_int1 (evl_cons (ev_var rfl) evl_nil)) (ev_cb (vs := [.ref s0]) (v := .int ((cs.map V.int).length : Int)) (evl_cons (ev_dget (ev_var rfl) ev_c m2 (k := Sum.inr "script") v_script) evl_nil) fun Q q => ⟨s0, _, rfl, .inl s2, q⟩)
              (by rw [List.length_map]; omega)) (fun Q q => ⟨s0, _, _, _, rfl, rfl, s2, hat, q⟩) _ (q' _ _ ⟨cell, rfl, m2, B2⟩)
      · subst hv
        have s2 := B2.seq hm hc
        refine st_if (evb_and (evb_cmp (ev_var rfl) (ev_iI ev_c ev_c ⟨by decide, by decide, by decide⟩)) fun _ => evb_cmp (ev_var rfl)
          (ev_cb (vs := [.ref s0]) (v := .int ((cs.map V.int).length : Int)) (evl_cons (ev_dget (ev_var rfl) ev_c m2 (k := Sum.inr "script") v_script) evl_nil) fun Q q => ⟨s0, _, rfl, .inl s2, q⟩)) ?_
        split
        · refine st_dput (k := Sum.inr "left") (ev_iI (ev_var rfl) (ev_var rfl) ⟨by omega, by omega⟩) (ev_var rfl) ev_c m2 five ?_
          rw [p_left]
          refine st_ret (ev_iI (ev_int1 (evl_cons (ev_var rfl) evl_nil)) (ev_var rfl) (by omega)) ?_
          exact fin _ _ _ _ upd_same B2.put (by omega) (by omega)
        · have f1 := fmod_nn (a := cell) (b := 1000003) (by decide)
          refine st_asg (ev_i0 (ev_iI (ev_iI (ev_int1 (evl_cons (ev_var rfl) evl_nil)) ev_c (by decide)) ev_c (.inr (by decide))) (ev_iI (ev_int1 (evl_cons (ev_iI (ev_var rfl) ev_c ⟨by decide, by decide⟩) evl_nil)) ev_c (by decide))) ?_
          generalize cell.fmod 1000003 * 48271 + (cell.fdiv 1000003).fmod 1000003 = z1
          refine st_asg (ev_iI (ev_int1 (evl_cons (ev_i0 (ev_i0 (ev_i0 (ev_var rfl) (ev_iI (ev_iI ev_c (ev_var rfl) (.inl (by decide))) (ev_var rfl) (.inr ⟨by omega, by omega⟩))) (ev_iI ev_c (ev_var rfl) (.inl (by decide)))) ev_c) evl_nil)) ev_c (by decide)) ?_
          generalize z1 + 7919 * kk * kk + 104729 * kk + 73 = z2
          have f2 := fmod_nn (a := z2) (b := 2147483647) (by decide)
          generalize z2.fmod 2147483647 = z3 at f2 ⊢
          refine st_asg (ev_iI (ev_int1 (evl_cons (ev_iI (ev_iI (ev_int1 (evl_cons (ev_iI (ev_var rfl) (ev_var rfl) (.inl ⟨by omega, by omega⟩)) evl_nil)) ev_c (by decide)) ev_c (.inr (by decide))) evl_nil)) ev_c (by decide)) ?_
          refine st_ret (ev_iI (ev_int1 (evl_cons (ev_iI (ev_var rfl) ev_c ⟨by decide, by decide⟩) evl_nil)) (ev_var rfl) (by omega)) ?_
          exact fin _ _ _ _ m2 B2 (by omega) (by omega)
end
end W06

set_option Elab.async false
set_option linter.all false
set_option maxRecDepth 100000
set_option maxHeartbeats 4000000
namespace W06
open PySem PySem.Spec PyProof.Rows L2 WXG WEv WRd WLf WEn WZs WRu WSt StX WDc
/-! ### readings that draw -/
theorem SrcAt.new {K : PySem.W.Frag} {S : Addr × List Int} {H : Hp} {m p : Addr} {a c : Nat} {x : HO} (h : SrcAt K S H m a c) (hp : H p = none) : SrcAt K S (upd H p x) m a c := by
  obtain ⟨s, cs, k, l, hm, hs, r⟩ := h
  have B : But m H (upd H p x) := But.refl.new hp
  exact ⟨s, cs, k, l, by rw [upd_ne (fun z => by rw [← z, hm] at hp; cases hp)]; exact hm, B.seq hm hs, r⟩
theorem SrcAt.mono {K : PySem.W.Frag} {S : Addr × List Int} {H : Hp} {m : Addr} {a a' c : Nat} (h : SrcAt K S H m a c) (ha : a ≤ a') : SrcAt K S H m a' c := by
  obtain ⟨s, cs, k, l, hm, hs, h1, h2, h3, h4⟩ := h
  exact ⟨s, cs, k, l, hm, hs, h1, h2, by omega, h4⟩
theorem SrcAt.ne {K : PySem.W.Frag} {S : Addr × List Int} {H : Hp} {m p : Addr} {a c : Nat} (h : SrcAt K S H m a c) (hp : H p = none) : p ≠ m := by
  obtain ⟨s, cs, k, l, hm, _⟩ := h
  exact fun z => by rw [z, hm] at hp; cases hp
abbrev VP := V → Hp → Prop
abbrev LP := List V → Hp → Prop
def MnB (m : Addr) (P : VP) : Prop := ∀ v H H', But m H H' → P v H → P v H'
def MnL (m : Addr) (P : LP) : Prop := ∀ v H H', But m H H' → P v H → P v H'
def Dr (K : PySem.W.Frag) (S : Addr × List Int) (m : Addr) (te : TE) (σ : L2.St) (n d : Nat) (P : VP) : Prop := ∀ (a c : Nat) (H : Hp), SrcAt K S H m a c → a + n ≤ 100000 → c + d ≤ 100000 → ∀ Q : VK, (∀ v H', But m H H' → SrcAt K S H' m (a + n) (c + d) → P v H' → Q v H') → te σ H Q
def DrA (K : PySem.W.Frag) (S : Addr × List Int) (m : Addr) (te : TA) (σ : L2.St) (n d : Nat) (P : LP) : Prop := ∀ (a c : Nat) (H : Hp), SrcAt K S H m a c → a + n ≤ 100000 → c + d ≤ 100000 → ∀ Q : List V → Hp → Prop, (∀ v H', But m H H' → SrcAt K S H' m (a + n) (c + d) → P v H' → Q v H') → te σ H Q
section
variable {K : PySem.W.Frag} {S : Addr × List Int} {m : Addr} {σ : L2.St} {n d n' d' : Nat} {te ta tb : TE} {tr : TA} {P P' : VP} {Ps Ps' : LP}
theorem mb_pure {p : V → Prop} : MnB m (fun v _ => p v) := fun _ _ _ _ h => h
theorem dr_c {v : V} : Dr K S m (tC v) σ 0 0 (fun x _ => x = v) := fun a c H hS _ _ Q q => q v H But.refl hS rfl
theorem dr_var {i : Nat} {v : V} (h : σ[i]? = some (some v)) : Dr K S m (tVar i) σ 0 0 (fun x _ => x = v) := fun a c H hS _ _ Q q => ⟨v, h, q v H But.refl hS rfl⟩
theorem Dr.imp (h : Dr K S m te σ n d P) (k : ∀ v H, P v H → P' v H) : Dr K S m te σ n d P' := fun a c H hS h1 h2 Q q => h a c H hS h1 h2 Q fun v H' b s p => q v H' b s (k v H' p)
theorem DrA.imp (h : DrA K S m tr σ n d Ps) (k : ∀ v H, Ps v H → Ps' v H) : DrA K S m tr σ n d Ps' := fun a c H hS h1 h2 Q q => h a c H hS h1 h2 Q fun v H' b s p => q v H' b s (k v H' p)
theorem dra_nil : DrA K S m tNil σ 0 0 (fun x _ => x = []) := fun a c H hS _ _ Q q => q [] H But.refl hS rfl
theorem dra_cons (h : Dr K S m te σ n d P) (g : DrA K S m tr σ n' d' Ps) (mP : MnB m P) : DrA K S m (tCons te tr) σ (n + n') (d + d') (fun vs H => ∃ x xs, vs = x :: xs ∧ P x H ∧ Ps xs H) :=
  fun a c H hS h1 h2 Q q => h a c H hS (by omega) (by omega) _ fun x H1 b1 s1 p1 => g (a + n) (c + d) H1 s1 (by omega) (by omega) _ fun xs H2 b2 s2 p2 =>
    q (x :: xs) H2 (b1.trans b2) (by rw [← Nat.add_assoc, ← Nat.add_assoc]; exact s2) ⟨x, xs, rfl, mP _ _ _ b2 p1, p2⟩
theorem dr_lst (h : DrA K S m tr σ n d Ps) (hl : ∀ xs H, Ps xs H → xs.length ≤ 1000) (mP : MnL m Ps) : Dr K S m (tLst tr) σ n d (fun v H => ∃ l xs, v = .ref l ∧ H l = some (.lst xs) ∧ l ≠ m ∧ Ps xs H) :=
  fun a c H hS h1 h2 Q q => h a c H hS h1 h2 _ fun xs H1 b1 s1 p1 => ⟨Nat.le_trans (hl _ _ p1) (by decide), fun l hn => q (.ref l) _ (b1.new hn) (s1.new hn) ⟨l, xs, rfl, upd_same, s1.ne hn, mP _ _ _ (But.refl.new hn) p1⟩⟩
theorem dr_op0 {i j : Int → Prop} {g : Int → Int → V} (h : Dr K S m ta σ n d (fun v _ => ∃ x, v = .int x ∧ i x)) (h' : Dr K S m tb σ n' d' (fun v _ => ∃ x, v = .int x ∧ j x)) :
    Dr K S m (tOp (rI0 g) ta tb) σ (n + n') (d + d') (fun v _ => ∃ x y, v = g x y ∧ i x ∧ j y) :=
  fun a c H hS h1 h2 Q q => h a c H hS (by omega) (by omega) _ fun x H1 b1 s1 ⟨x', ex, px⟩ => h' (a + n) (c + d) H1 s1 (by omega) (by omega) _ fun y H2 b2 s2 ⟨y', ey, py⟩ =>
    ⟨x', y', ex, ey, q _ H2 (b1.trans b2) (by rw [← Nat.add_assoc, ← Nat.add_assoc]; exact s2) ⟨x', y', rfl, px, py⟩⟩
theorem dr_pure {te : TE} {p : V → Prop} (h : ∀ H (Q : VK), (∀ v, p v → Q v H) → te σ H Q) : Dr K S m te σ 0 0 (fun v _ => p v) := fun a c H hS _ _ Q q => h H Q fun v pv => q v H But.refl hS pv
theorem dr_next {b : Int} {E : XK} (h : DrA K S m tr σ n d (fun vs _ => vs = [.ref m, .int b])) (h0 : 0 < b) (hb : b ≤ 1000) : Dr K S m (tCall (spNext K S) [] E tr) σ (n + 1) d (fun v _ => ∃ r, v = .int r ∧ 0 ≤ r ∧ r < b) :=
  fun a c H hS h1 h2 Q q => h a c H hS (by omega) h2 _ fun vs H1 b1 s1 e => ⟨m, b, a + n, c + d, by rw [e]; rfl, h0, hb, s1, by omega, fun r H2 r0 r1 b2 s2 => q _ H2 (b1.trans b2) s2 ⟨r, rfl, r0, r1⟩⟩
theorem dra_mi {b : Int} (hm : σ[0]? = some (some (.ref m))) : DrA K S m (tCons (tVar 0) (tCons (tC (.int b)) tNil)) σ 0 0 (fun vs _ => vs = [.ref m, .int b]) :=
  (dra_cons (dr_var hm) (dra_cons dr_c dra_nil mb_pure) mb_pure).imp fun v H ⟨x, xs, e, ex, y, ys, e2, ey, e3⟩ => by subst e e2 ex ey e3; rfl
theorem dr_next' {b : Int} {E : XK} (hm : σ[0]? = some (some (.ref m))) (h0 : 0 < b) (hb : b ≤ 1000) : Dr K S m (tCall (spNext K S) [] E (tCons (tVar 0) (tCons (tC (.int b)) tNil))) σ 1 0 (fun v _ => ∃ r, v = .int r ∧ 0 ≤ r ∧ r < b) := dr_next (n := 0) (dra_mi hm) h0 hb
end
def spOf (K : PySem.W.Frag) (S : Addr × List Int) : Sp := fun vs H Q _ => ∃ (m l : Addr) (xs : List V) (a c : Nat), vs = [.ref m, .ref l] ∧ H l = some (.lst xs) ∧ xs ≠ [] ∧ xs.length ≤ 1000 ∧ SrcAt K S H m a c ∧ a ≤ 100000 ∧ l ≠ m ∧
  ∀ v H', v ∈ xs → But m H H' → SrcAt K S H' m (a + 1) c → Q v H'
section
variable {P : Program} {w : World} {K : PySem.W.Frag} {S : Addr × List Int} {mg : Str → Option Value} {base : Heap}
theorem ok_of (T : Env K mg) : FnOk P w K mg base CX0 2 (d_L_of.loc K) T.fd_L_of ["m", "items"] (spOf K S) := by
  have G_L_next : FnOk P w K mg base CX0 1 _ _ _ _ := ok_next (S := S) T
  refine T.F_L_of.ok sc_L_of (fun vs H Q E h => ?_) (fun cdv A outer s H vs Q E hr h => ?_)
  · obtain ⟨m, l, xs, a, c, rfl, _⟩ := h
    rfl
  · have nd := sc_L_of.nd
    have hu := hu_of hr
    obtain ⟨m, l, xs, a, c, rfl, hl, hne, hlen, hS, ha, hlm, k⟩ := h
    refine ⟨_, PSs.nox (pss_one (ps_ret (pe_ix (ixlK (K := K)) (pv 1) (pe_call G_L_next (hr.mono (by decide)) (by rfl) T.g__law_next T.F_L_next.kp T.bi_L_next .nil pass0 (pa_cons (pv 0) (pa_cons (pe_callB call_len_seq (by rfl) T.b_len (by decide +kernel) (pa_cons (pv 1) pa_nil)) pa_nil))) (fun _ _ => rfl)))), ?_⟩
    have hx : 0 < xs.length := List.length_pos_iff.mpr hne
    refine ⟨.ref l, rfl, .ref m, rfl, .ref l, rfl, l, xs, rfl, .inl (.inl (.of hl)), ?_⟩
    refine ⟨m, (xs.length : Int), a, c, rfl, by omega, by omega, hS, ha, fun r H' h0 h1 hb hS' => ?_⟩
    obtain ⟨v, hv⟩ : ∃ v, xs[r.toNat]? = some v := ⟨_, List.getElem?_eq_getElem (by omega)⟩
    have hat := atI_nat hv
    rw [Int.toNat_of_nonneg h0] at hat
    exact ⟨l, xs, r, v, rfl, rfl, .inl (.of (hb _ _ hl hlm)), hat, k v H' (List.mem_of_getElem? hv) hb hS'⟩
end
end W06

set_option Elab.async false
set_option linter.all false
set_option maxRecDepth 100000
set_option maxHeartbeats 4000000
namespace W06
open PySem PySem.Spec PyProof.Rows L2 WXG WEv WRd WLf WEn WZs WRu WSt StX WDc
section
variable {K : PySem.W.Frag} {S : Addr × List Int} {m : Addr} {σ : L2.St} {n d n' d' k : Nat} {te ta tb : TE} {tr : TA} {p : V → Prop}
theorem dral_nil : DrA K S m tNil σ 0 0 (fun xs _ => xs.length = 0 ∧ ∀ x ∈ xs, p x) := dra_nil.imp fun v H e => by subst e; exact ⟨rfl, fun x hx => absurd hx (by simp)⟩
theorem dral_cons (h : Dr K S m te σ n d (fun v _ => p v)) (g : DrA K S m tr σ n' d' (fun xs _ => xs.length = k ∧ ∀ x ∈ xs, p x)) : DrA K S m (tCons te tr) σ (n + n') (d + d') (fun xs _ => xs.length = k + 1 ∧ ∀ x ∈ xs, p x) :=
  (dra_cons h g mb_pure).imp fun v H ⟨x, xs, e, px, hl, hp⟩ => by
    subst e
    refine ⟨by rw [List.length_cons, hl], fun y hy => ?_⟩
    rcases List.mem_cons.mp hy with e | hy
    · rw [e]; exact px
    · exact hp y hy
theorem ml_pure {p : List V → Prop} : MnL m (fun v _ => p v) := fun _ _ _ _ h => h
theorem dr_ev {v : V} (h : ∀ H, Ev te σ H v) (hp : p v) : Dr K S m te σ 0 0 (fun v _ => p v) := fun a c H hS _ _ Q q => h H Q (q v H But.refl hS hp)
theorem st_retD {a c : Nat} {H : Hp} {D : Ends} {P : VP} (h : Dr K S m te σ n d P) (hS : SrcAt K S H m a c) (h1 : a + n ≤ 100000) (h2 : c + d ≤ 100000) (q : ∀ v H', But m H H' → SrcAt K S H' m (a + n) (c + d) → P v H' → D.rt v H') : tRet te D σ H := h a c H hS h1 h2 _ q
theorem st_asgD {a c i : Nat} {H : Hp} {D : Ends} {P : VP} (h : Dr K S m te σ n d P) (hS : SrcAt K S H m a c) (h1 : a + n ≤ 100000) (h2 : c + d ≤ 100000) (q : ∀ v H', But m H H' → SrcAt K S H' m (a + n) (c + d) → P v H' → D.nx (σ.set i (some v)) H') : tAsg te (gName i) D σ H := h a c H hS h1 h2 _ q
theorem dr_ix {b : Int} {k : Nat} (h : Dr K S m ta σ n d (fun v H => ∃ l xs, v = .ref l ∧ H l = some (.lst xs) ∧ l ≠ m ∧ xs.length = k ∧ ∀ x ∈ xs, p x)) (g : Dr K S m tb σ n' d' (fun v _ => ∃ r, v = .int r ∧ 0 ≤ r ∧ r < b)) (hb : b ≤ k) : Dr K S m (tOp (rIxL K) ta tb) σ (n + n') (d + d') (fun v _ => p v) :=
  fun a c H hS h1 h2 Q q => h a c H hS (by omega) (by omega) _ fun v H1 b1 s1 ⟨l, xs, ev, hl, hlm, hlen, hp⟩ => g (a + n) (c + d) H1 s1 (by omega) (by omega) _ fun u H2 b2 s2 ⟨r, eu, h0, h1'⟩ => by
    subst ev eu
    obtain ⟨v, hv⟩ : ∃ v, xs[r.toNat]? = some v := ⟨_, List.getElem?_eq_getElem (by omega)⟩
    have hat := atI_nat hv
    rw [Int.toNat_of_nonneg h0] at hat
    exact ⟨l, xs, r, v, rfl, rfl, .inl (.of (b2 _ _ hl hlm)), hat, q v H2 (b1.trans b2) (by rw [← Nat.add_assoc, ← Nat.add_assoc]; exact s2) (hp v (List.mem_of_getElem? hv))⟩
theorem dr_int {z : Int} : Dr K S m (tC (.int z)) σ 0 0 (fun v _ => ∃ x, v = .int x ∧ x = z) := dr_ev (fun H => ev_c) ⟨z, rfl, rfl⟩
end
/-- 0 .. 10 ** 9 -/
def TkV (v : V) : Prop := ∃ i : Int, v = .int i ∧ 0 ≤ i ∧ i ≤ 1000000000
def LimV (v : V) : Prop := v = .non ∨ TkV v
end W06

set_option Elab.async false
set_option linter.all false
set_option maxRecDepth 100000
set_option maxHeartbeats 4000000
namespace W06
open PySem PySem.Spec PyProof.Rows L2 WXG WEv WRd WLf WEn WZs WRu WSt StX WDc
/-! ### what a law's tuple tells -/
structure WD where
  name : Str
  word : Str
  b : Int
  e : Int
  lim : Option Int
  r : Int
structure SD where
  name : Str
  word : Str
  way : Str
  most : Int
  span : Int
  lim : Option Int
def Told : Nat → Type
  | 0 => Empty
  | n + 1 => WD ⊕ (SD × List (Told n))
def limV : Option Int → V
  | none => .non
  | some i => .int i
def WD.vals (d : WD) (s : Addr) : List V := [.str "w", .str d.name, .str d.word, .int d.b, .int d.e, limV d.lim, .int d.r, .ref s]
def SD.vals (d : SD) (q : Addr) : List V := [.str "s", .str d.name, .str d.word, .str d.way, .int d.most, .int d.span, limV d.lim, .ref q]
namespace Told
def size : (n : Nat) → Told n → Nat
  | 0, _ => 0
  | n + 1, t => match (show WD ⊕ (SD × List (Told n)) from t) with
    | .inl _ => 1
    | .inr x => 1 + (x.2.map (size n)).sum
end Told
def SgnOk (c : Nat) : Prop := (97 ≤ c ∧ c ≤ 122) ∨ (48 ≤ c ∧ c ≤ 57) ∨ c = 95
def NameOk (z : Str) : Prop := ∃ cs : List Nat, z = ⟨cs.toArray⟩ ∧ 1 ≤ cs.length ∧ cs.length ≤ 20 ∧ (∀ c ∈ cs, SgnOk c) ∧ (∀ c, cs[0]? = some c → 97 ≤ c ∧ c ≤ 122) ∧ (∀ c, cs[1]? = some c → c ≠ 119 ∧ c ≠ 101 ∧ c ≠ 98)
def TickOk (i : Int) : Prop := 0 ≤ i ∧ i ≤ 1000000000
def LimOk (l : Option Int) : Prop := ∀ i, l = some i → TickOk i
def WordOk (z : Str) : Prop := z = "permanent" ∨ z = "transient" ∨ z = "temporary"
def WayOk (z : Str) : Prop := z = "one" ∨ z = "rest" ∨ z = "all"
def WD.Ok (d : WD) : Prop := NameOk d.name ∧ WordOk d.word ∧ TickOk d.b ∧ TickOk d.e ∧ LimOk d.lim ∧ 0 ≤ d.r ∧ d.r ≤ 100
def SD.Ok (d : SD) : Prop := NameOk d.name ∧ WordOk d.word ∧ WayOk d.way ∧ 0 ≤ d.most ∧ d.most ≤ 20 ∧ 1 ≤ d.span ∧ d.span ≤ 1000000000 ∧ LimOk d.lim
def Told.Ok : (n : Nat) → Told n → Prop
  | 0, _ => True
  | n + 1, t => match (show WD ⊕ (SD × List (Told n)) from t) with
    | .inl d => d.Ok
    | .inr x => x.1.Ok ∧ x.2.length ≤ 12 ∧ ∀ t ∈ x.2, Ok n t
def TW (d : WD) : HP V := fun v H => ∃ p s, v = .ref p ∧ H p = some (.tup (d.vals s)) ∧ H s = some (.tup [])
def TAt : (n : Nat) → Told n → HP V
  | 0, _ => fun _ _ => False
  | n + 1, t => match (show WD ⊕ (SD × List (Told n)) from t) with
    | .inl d => TW d
    | .inr x => fun v H => ∃ p q ys, v = .ref p ∧ H p = some (.tup (x.1.vals q)) ∧ H q = some (.tup ys) ∧ Fa (x.2.map (TAt n)) ys H
theorem limV_lim {v : V} (h : LimV v) : ∃ l, v = limV l ∧ LimOk l := by
  rcases h with rfl | ⟨i, rfl, h0, h1⟩
  · exact ⟨none, rfl, fun i e => nomatch e⟩
  · exact ⟨some i, rfl, fun j e => by cases e; exact ⟨h0, h1⟩⟩
/-! ### all but lists and dicts as it was -/
def Kp (H H' : Hp) : Prop := ∀ b o, H b = some o → (∀ xs, o ≠ .lst xs) → (∀ kvs, o ≠ .dK kvs) → H' b = some o
def MnK (P : HP V) : Prop := ∀ x H H', Kp H H' → P x H → P x H'
theorem Kp.refl (H : Hp) : Kp H H := fun _ _ h _ _ => h
theorem Kp.trans {H H' H'' : Hp} (a : Kp H H') (b : Kp H' H'') : Kp H H'' := fun c o h h1 h2 => b c o (a c o h h1 h2) h1 h2
theorem Kp.same {H H' : Hp} (s : Same H H') : Kp H H' := fun b o h _ _ => s b o h
theorem Kp.but {H H' : Hp} {m : Addr} {kvs : List (Key × V)} (hm : H m = some (.dK kvs)) (s : But m H H') : Kp H H' := fun b o h _ h2 => s b o h fun z => by
  rw [z, hm] at h
  cases h
  exact h2 _ rfl
theorem Kp.lst {H : Hp} {l : Addr} {xs : List V} {x : HO} (hl : H l = some (.lst xs)) : Kp H (upd H l x) := fun b o h h1 _ => by
  rw [upd_ne (fun z => by rw [z, hl] at h; cases h; exact h1 _ rfl)]
  exact h
theorem MnK.mn {P : HP V} (m : MnK P) : Mn P := fun x H H' s h => m x H H' (Kp.same s) h
theorem mk_is {x : V} : MnK (Is x) := fun _ _ _ _ e => e
theorem fa_kp : ∀ {Ps : List (HP V)} {vs : List V} {H H' : Hp}, (∀ P ∈ Ps, MnK P) → Kp H H' → Fa Ps vs H → Fa Ps vs H'
  | [], [], _, _, _, _, _ => trivial
  | P :: _, _ :: _, _, _, m, s, h => ⟨m P List.mem_cons_self _ _ _ s h.1, fa_kp (fun Q hQ => m Q (List.mem_cons_of_mem _ hQ)) s h.2⟩
  | [], _ :: _, _, _, _, _, h => h.elim
  | _ :: _, [], _, _, _, _, h => h.elim
theorem mn_fa {Ps : List (HP V)} (m : ∀ P ∈ Ps, MnK P) : Mn (Fa Ps) := fun _ _ _ s h => fa_kp m (Kp.same s) h
theorem mk_tw {d : WD} : MnK (TW d) := fun _ _ _ s ⟨p, x, e, h, g⟩ => ⟨p, x, e, s _ _ h (fun _ z => nomatch z) (fun _ z => nomatch z), s _ _ g (fun _ z => nomatch z) (fun _ z => nomatch z)⟩
theorem mk_tat : ∀ (n : Nat) (t : Told n), MnK (TAt n t)
  | 0, _ => fun _ _ _ _ h => h.elim
  | n + 1, t => by
    cases t with
    | inl d => exact mk_tw
    | inr x =>
      intro v H H' s h
      obtain ⟨p, q, ys, e, h1, h2, h3⟩ := h
      exact ⟨p, q, ys, e, s _ _ h1 (fun _ z => nomatch z) (fun _ z => nomatch z), s _ _ h2 (fun _ z => nomatch z) (fun _ z => nomatch z), fa_kp (fun P hP => by
        obtain ⟨t, _, rfl⟩ := List.mem_map.mp hP
        exact mk_tat n t) s h3⟩
theorem mk_tats {n : Nat} {ts : List (Told n)} : ∀ P ∈ ts.map (TAt n), MnK P := fun P hP => by
  obtain ⟨t, _, rfl⟩ := List.mem_map.mp hP
  exact mk_tat n t
theorem mk_iss {xs : List V} : ∀ P ∈ xs.map Is, MnK P := fun P hP => by
  obtain ⟨t, _, rfl⟩ := List.mem_map.mp hP
  exact mk_is
theorem fa_take {Ps : List (HP V)} {vs : List V} {H : Hp} {i : Nat} {P : HP V} {v : V} (h : Fa (Ps.take i) vs H) (e : Ps[i]? = some P) (p : P v H) : Fa (Ps.take (i + 1)) (vs ++ [v]) H := by
  rw [List.take_succ, e]
  exact h.app ⟨p, trivial⟩
section
variable {K : PySem.W.Frag} {σ : L2.St} {H : Hp} {te ta tb : TE} {tr : TA} {D : Ends} {P P' : HP V} {tt tu : TT} {a b : Bool} {v : V}
theorem ev_ixT {i : Nat} {p : Addr} {xs : List V} {j : Int} (h : σ[i]? = some (some (.ref p))) (hp : H p = some (.tup xs)) (e : atI xs j = some v) : Ev (tOp (rIxT K) (tVar i) (tC (.int j))) σ H v := fun Q q => ⟨_, h, p, xs, j, v, rfl, rfl, .of hp, e, q⟩
theorem evb_eqS {x y : Str} (ha : Ev ta σ H (.str x)) (hb : Ev tb σ H (.str y)) (h : decide (x = y) = b) : EvB (tTest (tOp rEq ta tb)) σ H b := fun Q q => ha _ (hb _ ⟨rfl, b, by rw [← h]; simp, q⟩)
theorem evb_or (h : EvB tt σ H a) (g : a = false → EvB tu σ H b) : EvB (tOr tt tu) σ H (a || b) := fun Q q => h _ (by
  cases a with
  | true => exact q
  | false => exact g rfl _ q)
theorem ev_if {x : V} (h : EvB tt σ H b) (g : if b = true then Ev ta σ H x else Ev tb σ H x) : Ev (tIf tt ta tb) σ H x := fun Q q => h _ (by
  cases b with
  | true => exact g _ q
  | false => exact g _ q)
theorem evb_isN {x : V} (ha : Ev ta σ H x) : EvB (tTest (tOp (fun x y H Q => y = .non ∧ Q (.bl (decide (x = .non))) H) ta (tC .non))) σ H (decide (x = .non)) := fun Q q => ha _ ⟨rfl, _, rfl, q⟩
theorem g_par {i j : Nat} (ha : G ta σ H P) (hb : G tb σ H P') (k : ∀ v w H1, Same H H1 → P v H1 → P' w H1 → D.nx ((σ.set i (some v)).set j (some w)) H1) : tPar i j (tCons ta (tCons tb tNil)) D σ H :=
  ha.ev H (Same.refl H) _ fun v H1 s1 p1 => hb.ev H1 s1 _ fun w H2 s2 p2 => ⟨v, w, rfl, k v w H2 (s1.trans s2) (ha.mn _ _ _ s2 p1) p2⟩
/-- [e for v in xs], e only adds objects -/
theorem g_lcF {wi : TI} {J : It} {Gw : Hp → Prop} {v : Nat} {ys : List V} {Ps : List (HP V)} (hw : ∀ H1, Same H H1 → ∀ R : It → Hp → Prop, R J H1 → wi σ H1 R) (wk : Walk J ys.length Gw (YAt ys)) (hg : ∀ H1, Same H H1 → Gw H1)
    (hl : Ps.length = ys.length) (hz : ys.length ≤ 1000) (m : ∀ P ∈ Ps, MnK P)
    (h : ∀ (i : Nat) (x : V) (P : HP V) (H1 : Hp), ys[i]? = some x → Ps[i]? = some P → Same H H1 → ∀ Q : VK, (∀ y H2, Same H1 H2 → P y H2 → Q y H2) → te ((σ.set v none).set v (some x)) H1 Q) :
    G (tLc wi (gName v) tYes te [v]) σ H (LF Ps) := by
  refine ⟨fun H1 e Q q => ?_, mn_lf (mn_fa m)⟩
  refine hw H1 e _ ?_
  intro Dd hD
  show ∃ W, _
  refine lc_it wk (fun i H' => Same H1 H' ∧ ∃ acc, H' Dd = some (.lst acc) ∧ Fa (Ps.take i) acc H') ⟨same_new hD, [], upd_same, trivial⟩ (fun _ H' _ p => hg H' (e.trans p.1)) (fun i x H2 H3 hi p y => ?_) (fun H2 p => ?_)
  · obtain ⟨s2, acc, hd, fa⟩ := p
    obtain ⟨rfl, hx⟩ := y
    refine ⟨(List.set_set ..).trans (List.set_set ..), ?_⟩
    obtain ⟨P, hP⟩ : ∃ P, Ps[i]? = some P := ⟨_, List.getElem?_eq_getElem (by omega)⟩
    refine h i x P _ hx hP (e.trans s2) _ fun y H4 s4 py => ?_
    have hd4 := s4 _ _ hd
    have fa4 : Fa (Ps.take i) acc H4 := fa_kp (fun Q hQ => m Q (List.mem_of_mem_take hQ)) (Kp.same s4) fa
    have la := fa.len
    rw [List.length_take] at la
    refine ⟨acc, hd4, Nat.lt_of_le_of_lt (show acc.length ≤ 1000 by omega) (by decide), same_put (s2.trans s4) hD, acc ++ [y], upd_same, ?_⟩
    exact fa_kp (fun Q hQ => m Q (List.mem_of_mem_take hQ)) (Kp.lst hd4) (fa_take fa4 hP py)
  · obtain ⟨s2, acc, hd, fa⟩ := p
    rw [← hl, List.take_length] at fa
    exact q _ _ s2 ⟨Dd, acc, rfl, hd, fa⟩
theorem g_lcT {v i : Nat} {p q : Addr} {xs ys : List V} {j : Int} {Ps : List (HP V)} (h0 : σ[i]? = some (some (.ref p))) (hp : H p = some (.tup xs)) (ej : atI xs j = some (.ref q)) (hq : H q = some (.tup ys))
    (hl : Ps.length = ys.length) (hz : ys.length ≤ 1000) (m : ∀ P ∈ Ps, MnK P)
    (h : ∀ (i : Nat) (x : V) (P : HP V) (H1 : Hp), ys[i]? = some x → Ps[i]? = some P → Same H H1 → ∀ Q : VK, (∀ y H2, Same H1 H2 → P y H2 → Q y H2) → te ((σ.set v none).set v (some x)) H1 Q) :
    G (tLc (iTup K (tOp (rIxT K) (tVar i) (tC (.int j)))) (gName v) tYes te [v]) σ H (LF Ps) :=
  g_lcF (J := Itt K q) (fun H1 s R r => ev_ixT h0 (s _ _ hp) ej _ ⟨q, rfl, ⟨ys, .of (s _ _ hq)⟩, r⟩) walk_tup (fun H1 s => .of (s _ _ hq)) hl hz m h
theorem g_lcL {v i : Nat} {q : Addr} {ys : List V} {Ps : List (HP V)} (h0 : σ[i]? = some (some (.ref q))) (hq : H q = some (.lst ys))
    (hl : Ps.length = ys.length) (hz : ys.length ≤ 1000) (m : ∀ P ∈ Ps, MnK P)
    (h : ∀ (i : Nat) (x : V) (P : HP V) (H1 : Hp), ys[i]? = some x → Ps[i]? = some P → Same H H1 → ∀ Q : VK, (∀ y H2, Same H1 H2 → P y H2 → Q y H2) → te ((σ.set v none).set v (some x)) H1 Q) :
    G (tLc (iList K (tVar i)) (gName v) tYes te [v]) σ H (LF Ps) :=
  g_lcF (J := Itl K q) (fun H1 s R r => ⟨_, h0, q, rfl, ⟨ys, .of (s _ _ hq)⟩, r⟩) walk_list (fun H1 s => .of (s _ _ hq)) hl hz m h
theorem g_sum {ns : List Int} (h : G te σ H (LF ((ns.map V.int).map Is))) : G (tCB (rSum K) (tCons te tNil)) σ H (Is (.int ns.sum)) := ⟨fun H1 e Q q => h.ev H1 e _ fun x H2 s2 px => by
  obtain ⟨p, xs, rfl, hp, fa⟩ := px
  obtain rfl := fa.is
  exact ⟨p, ns, rfl, .of hp, q _ _ s2 rfl⟩, mn_i⟩
end
theorem sup_len {n : Nat} {ts : List (Told n)} {ys : List V} {H : Hp} (h : Fa (ts.map (TAt n)) ys H) : ys.length = ts.length := by
  have := h.len
  rwa [List.length_map] at this
theorem sup_get {n : Nat} {ts : List (Told n)} {ys : List V} {H : Hp} (h : Fa (ts.map (TAt n)) ys H) {i : Nat} {x : V} (hx : ys[i]? = some x) : ∃ t, ts[i]? = some t ∧ TAt n t x H := by
  obtain ⟨t, ht⟩ : ∃ t, ts[i]? = some t := by
    have := (List.getElem?_eq_some_iff.mp hx).1
    rw [sup_len h] at this
    exact ⟨_, List.getElem?_eq_getElem this⟩
  obtain ⟨x', e, px⟩ := h.get (n := i) (P := TAt n t) (by rw [List.getElem?_map, ht]; rfl)
  rw [hx] at e
  cases e
  exact ⟨t, ht, px⟩
theorem ints_get {α : Type} {f : α → Int} {ts : List α} {i : Nat} {P : HP V} {t : α} (h : (((ts.map f).map V.int).map Is)[i]? = some P) (ht : ts[i]? = some t) : P = Is (.int (f t)) := by
  rw [List.getElem?_map, List.getElem?_map, List.getElem?_map, ht] at h
  cases h
  rfl
end W06

set_option Elab.async false
set_option linter.all false
set_option maxRecDepth 100000
set_option maxHeartbeats 4000000
namespace W06
open PySem PySem.Spec PyProof.Rows L2 WXG WEv WRd WLf WEn WZs WRu WSt StX WDc
theorem SrcAt.same {K : PySem.W.Frag} {S : Addr × List Int} {H H' : Hp} {m : Addr} {a c : Nat} (s : Same H H') (h : SrcAt K S H m a c) : SrcAt K S H' m a c := by
  obtain ⟨x, cs, k, l, hm, hs, r⟩ := h
  exact ⟨x, cs, k, l, s _ _ hm, s.seq hs, r⟩
theorem But.same {m : Addr} {H H' : Hp} (s : Same H H') : But m H H' := fun b o e _ => s b o e
theorem But.kp {K : PySem.W.Frag} {S : Addr × List Int} {m : Addr} {H H' : Hp} {a c : Nat} (b : But m H H') (h : SrcAt K S H m a c) : Kp H H' := by
  obtain ⟨x, cs, k, l, hm, _⟩ := h
  exact Kp.but hm b
def Far (K : PySem.W.Frag) (l : Addr) (S : Addr × List Int) : Prop := ∀ (H : Hp) (x : HO), SqL K H S.1 (S.2.map V.int) → SqL K (upd H l x) S.1 (S.2.map V.int)
theorem SrcAt.far {K : PySem.W.Frag} {S : Addr × List Int} {H : Hp} {m l : Addr} {a c : Nat} (h : SrcAt K S H m a c) (hl : H l = none) : Far K l S := by
  obtain ⟨s, cs, k, z, hm, hs, h1, h2, h3, rfl⟩ := h
  intro H' x q
  rcases hs with hs | hs
  · have ne : s ≠ l := fun e => by
      rcases hs with q | ⟨o, q⟩ <;> (rw [e, hl] at q; cases q)
    rcases q with (q | ⟨o, q⟩) | q
    · exact .inl (.inl (by rw [upd_ne ne]; exact q))
    · exact .inl (.inr ⟨o, by rw [upd_ne ne]; exact q⟩)
    · exact .inr q
  · exact .inr hs
theorem SrcAt.putl {K : PySem.W.Frag} {S : Addr × List Int} {H : Hp} {m l : Addr} {a c : Nat} {xs : List V} {x : HO} (hl : H l = some (.lst xs)) (hn : Far K l S) (h : SrcAt K S H m a c) : SrcAt K S (upd H l x) m a c := by
  obtain ⟨s, cs, k, z, hm, hs, h1, h2, h3, rfl⟩ := h
  exact ⟨s, cs, k, z, by rw [upd_ne (fun e => by rw [← e, hm] at hl; cases hl)]; exact hm, hn _ _ hs, h1, h2, h3, rfl⟩
theorem word_ok {v : V} (h : v ∈ [V.str "permanent", .str "transient", .str "temporary"]) : ∃ z, v = .str z ∧ WordOk z := by
  simp only [List.mem_cons, List.not_mem_nil, or_false] at h
  rcases h with rfl | rfl | rfl
  · exact ⟨_, rfl, .inl rfl⟩
  · exact ⟨_, rfl, .inr (.inl rfl)⟩
  · exact ⟨_, rfl, .inr (.inr rfl)⟩
theorem way_ok {v : V} (h : v ∈ [V.str "one", .str "rest", .str "all"]) : ∃ z, v = .str z ∧ WayOk z := by
  simp only [List.mem_cons, List.not_mem_nil, or_false] at h
  rcases h with rfl | rfl | rfl
  · exact ⟨_, rfl, .inl rfl⟩
  · exact ⟨_, rfl, .inr (.inl rfl)⟩
  · exact ⟨_, rfl, .inr (.inr rfl)⟩
theorem st_tSeq {A B : TS} {D : Ends} {σ : L2.St} {H : Hp} (h : A { D with nx := B D } σ H) : tSeq A B D σ H := h
section
variable {K : PySem.W.Frag} {S : Addr × List Int} {m : Addr} {σ : L2.St} {n d n' d' k : Nat} {te ta tb : TE} {tr : TA} {p : V → Prop} {E : XK}
theorem dr_of (hm : σ[0]? = some (some (.ref m))) (h : Dr K S m te σ n d (fun v H => ∃ l xs, v = .ref l ∧ H l = some (.lst xs) ∧ l ≠ m ∧ xs.length = k ∧ ∀ x ∈ xs, p x)) (hk : 0 < k) (hk' : k ≤ 1000) : Dr K S m (tCall (spOf K S) [] E (tCons (tVar 0) (tCons te tNil))) σ (n + 1) d (fun v _ => p v) :=
  fun a c H hS h1 h2 Q q => ⟨_, hm, h a c H hS (by omega) h2 _ fun v H1 b1 s1 ⟨l, xs, ev, hl, hlm, hlen, hp⟩ => by
    subst ev
    exact ⟨m, l, xs, a + n, c + d, rfl, hl, fun z => by (rw [z] at hlen; simp at hlen; omega), by omega, s1, by omega, hlm, fun v H2 hv b2 s2 => q v H2 (b1.trans b2) s2 (hp v hv)⟩⟩
theorem st_parD {a c i j : Nat} {H : Hp} {D : Ends} {P : VP} (h : Dr K S m ta σ n d P) (hS : SrcAt K S H m a c) (h1 : a + n ≤ 100000) (h2 : c + d ≤ 100000) (q : ∀ v H1, But m H H1 → SrcAt K S H1 m (a + n) (c + d) → P v H1 → tb σ H1 fun w H2 => ∃ v' w', [v, w] = [v', w'] ∧ D.nx ((σ.set i (some v')).set j (some w')) H2) : tPar i j (tCons ta (tCons tb tNil)) D σ H := h a c H hS h1 h2 _ q
/-- [a constant, ..] -/
theorem dral_c {v : V} (pv : p v) (g : DrA K S m tr σ n' d' (fun xs _ => xs.length = k ∧ ∀ x ∈ xs, p x)) : DrA K S m (tCons (tC v) tr) σ n' d' (fun xs _ => xs.length = k + 1 ∧ ∀ x ∈ xs, p x) := by
  have := dral_cons (n := 0) (d := 0) (dr_ev (K := K) (S := S) (m := m) (σ := σ) (fun H => ev_c) pv) g
  rwa [Nat.zero_add, Nat.zero_add] at this
theorem dral_e {v : V} (h : ∀ H, Ev te σ H v) (pv : p v) (g : DrA K S m tr σ n' d' (fun xs _ => xs.length = k ∧ ∀ x ∈ xs, p x)) : DrA K S m (tCons te tr) σ n' d' (fun xs _ => xs.length = k + 1 ∧ ∀ x ∈ xs, p x) := by
  have := dral_cons (n := 0) (d := 0) (dr_ev (K := K) (S := S) (m := m) (σ := σ) h pv) g
  rwa [Nat.zero_add, Nat.zero_add] at this
end
theorem ev_pow9 {σ : L2.St} {H : Hp} : Ev (tOp (rI CPow fun i j => .int (i ^ j.toNat)) (tC (.int 10)) (tC (.int 9))) σ H (.int 1000000000) := ev_iI ev_c ev_c ⟨by decide, by decide, by decide⟩
def spWorker (K : PySem.W.Frag) (S : Addr × List Int) : Sp := fun vs H Q _ => ∃ (m : Addr) (z : Str) (a c : Nat), vs = [.ref m, .str z] ∧ NameOk z ∧ SrcAt K S H m a c ∧ a + 10 ≤ 100000 ∧ c ≤ 1000 ∧ ∀ v d H', d.Ok → TW d v H' → But m H H' → SrcAt K S H' m (a + 7) c → Q v H'
def spOver (K : PySem.W.Frag) (S : Addr × List Int) (n : Nat) : Sp := fun vs H Q _ => ∃ (m l : Addr) (z : Str) (ts : List (Told n)) (ys : List V) (a c : Nat), vs = [.ref m, .str z, .ref l] ∧ NameOk z ∧ H l = some (.lst ys) ∧ Fa (ts.map (TAt n)) ys H ∧ (∀ t ∈ ts, Told.Ok n t) ∧ ts.length ≤ 12 ∧ SrcAt K S H m a c ∧ a + 10 ≤ 100000 ∧ c ≤ 1000 ∧
  ∀ v d H', Told.Ok (n + 1) (Sum.inr (d, ts)) → TAt (n + 1) (Sum.inr (d, ts)) v H' → But m H H' → SrcAt K S H' m (a + 6) c → Q v H'
theorem SrcAt.dict {K : PySem.W.Frag} {S : Addr × List Int} {H : Hp} {m : Addr} {a c : Nat} (h : SrcAt K S H m a c) : ∃ kvs, H m = some (.dK kvs) := by
  obtain ⟨_, _, _, _, hm, _⟩ := h
  exact ⟨_, hm⟩
theorem SrcAt.nel {K : PySem.W.Frag} {S : Addr × List Int} {H : Hp} {m l : Addr} {a c : Nat} {xs : List V} (h : SrcAt K S H m a c) (hl : H l = some (.lst xs)) : l ≠ m := by
  obtain ⟨kvs, hm⟩ := h.dict
  exact fun z => by rw [z, hm] at hl; cases hl
def WordV (v : V) : Prop := ∃ z, v = .str z ∧ WordOk z
def WayV (v : V) : Prop := ∃ z, v = .str z ∧ WayOk z
section
variable {P : Program} {w : World} {K : PySem.W.Frag} {S : Addr × List Int} {mg : Str → Option Value} {base : Heap}
theorem dr_words {m : Addr} {σ : L2.St} {E : XK} (hm : σ[0]? = some (some (.ref m))) : Dr K S m (tCall (spOf K S) [] E (tCons (tVar 0) (tCons (tLst (tCons (tC (.str "permanent")) (tCons (tC (.str "transient")) (tCons (tC (.str "temporary")) tNil)))) tNil))) σ 1 0 (fun v _ => WordV v) :=
  dr_of (n := 0) (k := 3) hm (dr_lst (dral_c ⟨_, rfl, .inl rfl⟩ (dral_c ⟨_, rfl, .inr (.inl rfl)⟩ (dral_c ⟨_, rfl, .inr (.inr rfl)⟩ dral_nil))) (fun xs H q => by rw [q.1]; decide) ml_pure) (by decide) (by decide)
theorem dr_ways {m : Addr} {σ : L2.St} {E : XK} (hm : σ[0]? = some (some (.ref m))) : Dr K S m (tCall (spOf K S) [] E (tCons (tVar 0) (tCons (tLst (tCons (tC (.str "one")) (tCons (tC (.str "rest")) (tCons (tC (.str "all")) tNil)))) tNil))) σ 1 0 (fun v _ => WayV v) :=
  dr_of (n := 0) (k := 3) hm (dr_lst (dral_c ⟨_, rfl, .inl rfl⟩ (dral_c ⟨_, rfl, .inr (.inl rfl)⟩ (dral_c ⟨_, rfl, .inr (.inr rfl)⟩ dral_nil))) (fun xs H q => by rw [q.1]; decide) ml_pure) (by decide) (by decide)
theorem dr_wait {m : Addr} {σ : L2.St} {E E' : XK} (hm : σ[0]? = some (some (.ref m))) : Dr K S m (tCall (spOf K S) [] E (tCons (tVar 0) (tCons (tLst (tCons (tC .non) (tCons (tC (.int 0)) (tCons (tOp (rI CPow fun i j => .int (i ^ j.toNat)) (tC (.int 10)) (tC (.int 9))) (tCons (tCall (spNext K S) [] E' (tCons (tVar 0) (tCons (tC (.int 90)) tNil))) tNil))))) tNil))) σ 2 0 (fun v _ => LimV v) :=
  dr_of (n := 1) (k := 4) hm (dr_lst (dral_c (.inl rfl) (dral_c (.inr ⟨0, rfl, by decide, by decide⟩) (dral_e (fun H => ev_pow9) (.inr ⟨_, rfl, by decide, by decide⟩) (dral_cons (n := 1) (n' := 0) (d' := 0) ((dr_next' hm (by decide) (by decide)).imp fun v H ⟨r, e, h0, h1⟩ => .inr ⟨r, e, h0, by omega⟩) dral_nil)))) (fun xs H q => by rw [q.1]; decide) ml_pure) (by decide) (by decide)
theorem ok_worker (T : Env K mg) : FnOk P w K mg base CX0 4 (d_L_worker.loc K) T.fd_L_worker ["m", "label"] (spWorker K S) := by
  have G_L_of : FnOk P w K mg base CX0 2 _ _ _ _ := ok_of (S := S) T
  have G_L_next : FnOk P w K mg base CX0 1 _ _ _ _ := ok_next (S := S) T
  refine T.F_L_worker.ok sc_L_worker (fun vs H Q E h => ?_) (fun cdv A outer s H vs Q E hr h => ?_)
  · obtain ⟨m, z, a, c, rfl, _⟩ := h
    rfl
  · have nd := sc_L_worker.nd
    have hu := hu_of hr
    obtain ⟨m, z, a, c, rfl, hz, hS, ha, hc, k⟩ := h
    refine ⟨_, PSs.nox (pss_cons (ps_set (i := 2) nd rfl (Or.inl rfl) (pe_lst (pa_cons pe_int (pa_cons pe_int (pa_cons pe_int (pa_cons (pe_op op_pow pe_int pe_int) (pa_cons (pe_call G_L_next (hr.mono (by decide)) (by rfl) T.g__law_next T.F_L_next.kp T.bi_L_next .nil pass0 (pa_cons (pv 0) (pa_cons pe_int pa_nil))) pa_nil)))))))
 (pss_cons (ps_set (i := 3) nd rfl (Or.inl rfl) (pe_call G_L_of (hr.mono (by decide)) (by rfl) T.g__law_of T.F_L_of.kp T.bi_L_of .nil pass0 (pa_cons (pv 0) (pa_cons (pe_lst (pa_cons pe_non (pa_cons pe_int (pa_cons (pe_op op_pow pe_int pe_int) (pa_cons (pe_call G_L_next (hr.mono (by decide)) (by rfl) T.g__law_next T.F_L_next.kp T.bi_L_next .nil pass0 (pa_cons (pv 0) (pa_cons pe_int pa_nil))) pa_nil))))) pa_nil))))
 (pss_cons (ps_par (i := 4) (j := 5) (by rfl) nd rfl rfl (by decide) rfl rfl (pa_cons (pe_call G_L_of (hr.mono (by decide)) (by rfl) T.g__law_of T.F_L_of.kp T.bi_L_of .nil pass0 (pa_cons (pv 0) (pa_cons (pe_lst (pa_cons pe_str (pa_cons pe_str (pa_cons pe_str pa_nil)))) pa_nil))) (pa_cons (pe_call G_L_of (hr.mono (by decide)) (by rfl) T.g__law_of T.F_L_of.kp T.bi_L_of .nil pass0 (pa_cons (pv 0) (pa_cons (pv 2) pa_nil))) pa_nil)) (by rfl))
 (pss_one (ps_ret (pe_tup (pa_cons pe_str (pa_cons (pv 1) (pa_cons (pv 4) (pa_cons (pv 5) (pa_cons (pe_call G_L_of (hr.mono (by decide)) (by rfl) T.g__law_of T.F_L_of.kp T.bi_L_of .nil pass0 (pa_cons (pv 0) (pa_cons (pv 2) pa_nil))) (pa_cons (pv 3) (pa_cons (pe_call G_L_of (hr.mono (by decide)) (by rfl) T.g__law_of T.F_L_of.kp T.bi_L_of .nil pass0 (pa_cons (pv 0) (pa_cons (pe_lst (pa_cons pe_int (pa_cons pe_int (pa_cons pe_int (pa_cons pe_int pa_nil))))) pa_nil))) (pa_cons (pe_tup pa_nil) pa_nil)))))))))))))), ?_⟩
    refine st_asgD (n := 1) (d := 0) (dr_lst (m := m) (K := K) (n := 1) (d := 0) (dral_c (p := TkV) ⟨0, rfl, by decide, by decide⟩ (dral_c ⟨1, rfl, by decide, by decide⟩ (dral_c ⟨7, rfl, by decide, by decide⟩ (dral_e (fun H => ev_pow9) ⟨_, rfl, by decide, by decide⟩ (dral_cons (n := 1) (d := 0) (n' := 0) (d' := 0) ((dr_next' rfl (by decide) (by decide)).imp fun v H ⟨r, e, h0, h1⟩ => ⟨r, e, h0, by omega⟩) dral_nil))))) (fun xs H q => by rw [q.1]; decide) ml_pure) hS (by omega) (by omega) fun v H1 b1 s1 ⟨l, xs, ev, hl, hlm, hlen, hp⟩ => ?_
    subst ev
    dsimp only
    show tSeq _ _ _ _ _
    refine st_tSeq (st_asgD (n := 2) (d := 0) (dr_wait rfl) s1 (by omega) (by omega) fun lv H2 b2 s2 hlv => ?_)
    obtain ⟨lim, rfl, hlim⟩ := limV_lim hlv
    dsimp only
    show tSeq _ _ _ _ _
    refine st_tSeq (st_parD (n := 1) (d := 0) (dr_words rfl) s2 (by omega) (by omega) fun v3 H3 b3 s3 ⟨wd, e3, hwd⟩ => ?_)
    subst e3
    have xne : xs ≠ [] := fun z => by rw [z] at hlen; cases hlen
    have hl3 := (b2.trans b3) _ _ hl hlm
    refine ⟨.ref m, rfl, _, rfl, m, l, xs, _, _, rfl, hl3, xne, by omega, s3, by omega, hlm, fun v4 H4 hv4 b4 s4 => ?_⟩
    obtain ⟨i4, rfl, l4, u4⟩ := hp v4 hv4
    have hl4 := b4 _ _ hl3 hlm
    refine ⟨_, _, rfl, ?_⟩
    dsimp only
    show tRet _ _ _ _
    refine ⟨_, rfl, _, rfl, _, rfl, .ref m, rfl, _, rfl, m, l, xs, _, _, rfl, hl4, xne, by omega, s4, by omega, hlm, fun v5 H5 hv5 b5 s5 => ?_⟩
    obtain ⟨i5, rfl, l5, u5⟩ := hp v5 hv5
    refine ⟨_, rfl, .ref m, rfl, (by decide : 4 ≤ sizeLine), fun p hp => ?_⟩
    refine ⟨m, p, _, _, _, rfl, upd_same, by simp, by simp, s5.new hp, by omega, s5.ne hp, fun v6 H6 hv6 b6 s6 => ?_⟩
    have : ∃ r : Int, v6 = .int r ∧ 0 ≤ r ∧ r ≤ 100 := by
      simp only [List.mem_cons, List.not_mem_nil, or_false] at hv6
      rcases hv6 with rfl | rfl | rfl | rfl
      · exact ⟨_, rfl, by decide, by decide⟩
      · exact ⟨_, rfl, by decide, by decide⟩
      · exact ⟨_, rfl, by decide, by decide⟩
      · exact ⟨_, rfl, by decide, by decide⟩
    obtain ⟨r, rfl, r0, r1⟩ := this
    refine ⟨(by decide : 0 ≤ sizeLine), fun s hs => ⟨(by decide : 8 ≤ sizeLine), fun q hq => ?_⟩⟩
    have hs' : upd H6 s (.tup []) s = some (.tup []) := upd_same
    refine k (.ref q) ⟨z, wd, i4, i5, lim, r⟩ _ ⟨hz, hwd, ⟨l4, u4⟩, ⟨l5, u5⟩, hlim, r0, r1⟩ ⟨q, s, rfl, upd_same, (same_new hq) _ _ hs'⟩ ?_ ((s6.new hs).new hq)
    exact ((((((b1.trans b2).trans b3).trans b4).trans b5).trans (But.refl.new hp)).trans b6 |>.new hs).new hq
theorem ok_over (T : Env K mg) (n : Nat) : FnOk P w K mg base CX0 4 (d_L_over.loc K) T.fd_L_over ["m", "label", "kids"] (spOver K S n) := by
  have G_L_of : FnOk P w K mg base CX0 2 _ _ _ _ := ok_of (S := S) T
  have G_L_next : FnOk P w K mg base CX0 1 _ _ _ _ := ok_next (S := S) T
  refine T.F_L_over.ok sc_L_over (fun vs H Q E h => ?_) (fun cdv A outer s H vs Q E hr h => ?_)
  · obtain ⟨m, l, z, ts, ys, a, c, rfl, _⟩ := h
    rfl
  · have nd := sc_L_over.nd
    have hu := hu_of hr
    obtain ⟨m, l, z, ts, ys, a, c, rfl, hz, hl, fa, hok, hts, hS, ha, hc, k⟩ := h
    refine ⟨_, PSs.nox (pss_cons (ps_par (i := 3) (j := 4) (by rfl) nd rfl rfl (by decide) rfl rfl (pa_cons (pe_call G_L_of (hr.mono (by decide)) (by rfl) T.g__law_of T.F_L_of.kp T.bi_L_of .nil pass0 (pa_cons (pv 0) (pa_cons (pe_lst (pa_cons pe_str (pa_cons pe_str (pa_cons pe_str pa_nil)))) pa_nil))) (pa_cons (pe_call G_L_of (hr.mono (by decide)) (by rfl) T.g__law_of T.F_L_of.kp T.bi_L_of .nil pass0 (pa_cons (pv 0) (pa_cons (pe_lst (pa_cons pe_str (pa_cons pe_str (pa_cons pe_str pa_nil)))) pa_nil))) pa_nil)) (by rfl))
 (pss_cons (ps_set (i := 5) nd rfl (Or.inl rfl) (pe_call G_L_of (hr.mono (by decide)) (by rfl) T.g__law_of T.F_L_of.kp T.bi_L_of .nil pass0 (pa_cons (pv 0) (pa_cons (pe_lst (pa_cons pe_non (pa_cons pe_int (pa_cons (pe_op op_pow pe_int pe_int) (pa_cons (pe_call G_L_next (hr.mono (by decide)) (by rfl) T.g__law_next T.F_L_next.kp T.bi_L_next .nil pass0 (pa_cons (pv 0) (pa_cons pe_int pa_nil))) pa_nil))))) pa_nil))))
 (pss_one (ps_ret (pe_tup (pa_cons pe_str (pa_cons (pv 1) (pa_cons (pv 3) (pa_cons (pv 4) (pa_cons (pe_call G_L_of (hr.mono (by decide)) (by rfl) T.g__law_of T.F_L_of.kp T.bi_L_of .nil pass0 (pa_cons (pv 0) (pa_cons (pe_lst (pa_cons pe_int (pa_cons pe_int (pa_cons pe_int (pa_cons pe_int pa_nil))))) pa_nil))) (pa_cons (pe_call G_L_of (hr.mono (by decide)) (by rfl) T.g__law_of T.F_L_of.kp T.bi_L_of .nil pass0 (pa_cons (pv 0) (pa_cons (pe_lst (pa_cons pe_int (pa_cons pe_int (pa_cons (pe_op op_pow pe_int pe_int) pa_nil)))) pa_nil))) (pa_cons (pv 5) (pa_cons (pe_callTy call_tuple_of (by rfl) T.b_tuple (by decide +kernel) (pa_cons (pv 2) pa_nil)) pa_nil))))))))))))), ?_⟩
    have hlm := hS.nel hl
    refine st_tSeq (st_parD (n := 1) (d := 0) (dr_words rfl) hS (by omega) (by omega) fun v1 H1 b1 s1 ⟨wd, e1, hwd⟩ => ?_)
    subst e1
    refine dr_ways (K := K) (S := S) (m := m) rfl _ _ H1 s1 (by omega) (by omega) _ fun v2 H2 b2 s2 ⟨wy, e2, hwy⟩ => ?_
    subst e2
    refine ⟨_, _, rfl, ?_⟩
    dsimp only
    show tSeq _ _ _ _ _
    refine st_tSeq (st_asgD (n := 2) (d := 0) (dr_wait rfl) s2 (by omega) (by omega) fun lv H3 b3 s3 hlv => ?_)
    obtain ⟨lim, rfl, hlim⟩ := limV_lim hlv
    dsimp only
    show tRet _ _ _ _
    refine ⟨_, rfl, _, rfl, _, rfl, .ref m, rfl, (by decide : 4 ≤ sizeLine), fun p hp => ?_⟩
    refine ⟨m, p, _, _, _, rfl, upd_same, by simp, by simp, s3.new hp, by omega, s3.ne hp, fun v4 H4 hv4 b4 s4 => ?_⟩
    have : ∃ r : Int, v4 = .int r ∧ 0 ≤ r ∧ r ≤ 20 := by
      simp only [List.mem_cons, List.not_mem_nil, or_false] at hv4
      rcases hv4 with rfl | rfl | rfl | rfl
      · exact ⟨_, rfl, by decide, by decide⟩
      · exact ⟨_, rfl, by decide, by decide⟩
      · exact ⟨_, rfl, by decide, by decide⟩
      · exact ⟨_, rfl, by decide, by decide⟩
    obtain ⟨r4, rfl, r40, r41⟩ := this
    refine ⟨.ref m, rfl, ?_⟩
    refine (dr_lst (K := K) (S := S) (m := m) (n := 0) (d := 0) (dral_c (p := fun v => ∃ r : Int, v = .int r ∧ 1 ≤ r ∧ r ≤ 1000000000) ⟨1, rfl, by decide, by decide⟩ (dral_c ⟨10, rfl, by decide, by decide⟩ (dral_e (fun H => ev_pow9) ⟨_, rfl, by decide, by decide⟩ dral_nil))) (fun xs H q => by rw [q.1]; decide) ml_pure) _ _ H4 s4 (by omega) (by omega) _ fun v5 H5 b5 s5 ⟨l5, xs5, e5, hl5, hlm5, hlen5, hp5⟩ => ?_
    subst e5
    refine ⟨m, l5, xs5, _, _, rfl, hl5, fun z => by (rw [z] at hlen5; cases hlen5), by omega, s5, by omega, hlm5, fun v6 H6 hv6 b6 s6 => ?_⟩
    obtain ⟨r6, rfl, r60, r61⟩ := hp5 v6 hv6
    have B6 : But m H H6 := ((((b1.trans b2).trans b3).trans (But.refl.new hp)).trans b4).trans (b5.trans b6)
    have hl6 := B6 _ _ hl hlm
    refine ⟨_, rfl, .ref l, rfl, l, ys, rfl, .inl ⟨.of hl6, fun q hq => ?_⟩⟩
    refine ⟨(by decide : 8 ≤ sizeLine), fun r hr => ?_⟩
    have fa6 := fa_kp mk_tats (B6.kp hS) fa
    have hq' : upd H6 q (.tup ys) q = some (.tup ys) := upd_same
    have pq : q ≠ r := fun z => by rw [← z, hq'] at hr; cases hr
    refine k (.ref r) ⟨z, wd, wy, r4, r6, lim⟩ _ ⟨⟨hz, hwd, hwy, r40, r41, r60, r61, hlim⟩, hts, hok⟩ ⟨r, q, ys, rfl, upd_same, by rw [upd_ne pq]; exact hq', fa_kp mk_tats ((Kp.same (same_new hq)).trans (Kp.same (same_new hr))) fa6⟩ ((B6.new hq).new hr) ((s6.new hq).new hr)
end
end W06

set_option Elab.async false
set_option linter.all false
set_option maxRecDepth 100000
set_option maxHeartbeats 4000000
namespace W06
open PySem PySem.Spec PyProof.Rows L2 WXG WEv WRd WLf WEn WZs WRu WSt StX WDc
/-! ### lines -/
def numS (i : Int) : Str := Str.ofString (toString i)
def limS : Option Int → Str
  | none => "-"
  | some i => numS i
def WD.words (d : WD) : List Str := ["worker", d.name, d.word, numS d.b, numS d.e, limS d.lim, numS d.r]
def SD.words (d : SD) : List Str := ["supervisor", d.name, d.word, d.way, numS d.most, numS d.span, limS d.lim]
abbrev Item := WD ⊕ SD
def Item.words : Item → List Str
  | .inl d => d.words
  | .inr d => d.words
def Item.Ok : Item → Prop
  | .inl d => d.Ok
  | .inr d => d.Ok
def lineI (q : Nat × Item) : Str := repS "  " q.1 ++ Txt.join " " (Item.words q.2)
def Told.flat : (n : Nat) → Told n → Nat → List (Nat × Item)
  | 0, _, _ => []
  | n + 1, t, l => match (show WD ⊕ (SD × List (Told n)) from t) with
    | .inl d => [(l, .inl d)]
    | .inr x => (l, .inr x.1) :: x.2.flatMap fun t => flat n t (l + 1)
def shownV : V → Str
  | .non => "-"
  | .int i => numS i
  | .str z => z
  | _ => ""
theorem lim_shown (l : Option Int) : shownV (limV l) = limS l := by cases l <;> rfl
theorem flat_len : ∀ (n : Nat) (t : Told n) (l : Nat), (Told.flat n t l).length = Told.size n t
  | 0, _, _ => rfl
  | n + 1, .inl d, l => rfl
  | n + 1, .inr (d, ts), l => by
    show ((ts.flatMap fun t => Told.flat n t (l + 1)).length + 1) = 1 + (ts.map (Told.size n)).sum
    rw [List.length_flatMap, Nat.add_comm]
    congr 2
    exact List.map_congr_left fun t _ => flat_len n t (l + 1)
theorem flat_ok : ∀ (n : Nat) (t : Told n) (l : Nat), Told.Ok n t → ∀ q ∈ Told.flat n t l, Item.Ok q.2 ∧ q.1 < l + n
  | 0, _, _, _, q, hq => absurd hq (by simp [Told.flat])
  | n + 1, .inl d, l, h, q, hq => by
    cases List.mem_singleton.mp hq
    exact ⟨h, by omega⟩
  | n + 1, .inr (d, ts), l, h, q, hq => by
    rcases List.mem_cons.mp hq with rfl | hq
    · exact ⟨h.1, by show l < _; omega⟩
    · obtain ⟨t, ht, hq⟩ := List.mem_flatMap.mp hq
      have := flat_ok n t (l + 1) (h.2.2 t ht) q hq
      exact ⟨this.1, by omega⟩
/-! ### signs -/
theorem num_tl {i : Int} (h : 0 ≤ i) : TL.tl (numS i) = TL.numL i.toNat := by
  obtain ⟨n, rfl⟩ := Int.eq_ofNat_of_zero_le h
  exact TL.tl_num n
/-- a word of a line: short, without blanks -/
def WOk (z : Str) : Prop := z.length ≤ 20 ∧ 32 ∉ TL.tl z ∧ 10 ∉ TL.tl z ∧ TL.tl z ≠ []
theorem wok_num {i : Int} (h : TickOk i) : WOk (numS i) := by
  have e := num_tl h.1
  have l : (TL.numL i.toNat).length ≤ 10 := TL.numL_len (by decide) (by have := h.2; omega)
  refine ⟨?_, ?_, ?_, ?_⟩
  · rw [TL.len_tl, e]
    omega
  · rw [e]
    exact TL.numL_free (.inl (by decide))
  · rw [e]
    exact TL.numL_free (.inl (by decide))
  · rw [e]
    exact TL.numL_ne _
theorem wok_lit {z : Str} (h : (decide (z.length ≤ 20) && (!(TL.tl z).contains 32 && (!(TL.tl z).contains 10 && !(TL.tl z).isEmpty))) = true) : WOk z := by
  simp only [Bool.and_eq_true, decide_eq_true_eq, Bool.not_eq_true', List.contains_eq_mem, decide_eq_false_iff_not, List.isEmpty_eq_false_iff] at h
  exact h
theorem wok_lim {l : Option Int} (h : LimOk l) : WOk (limS l) := by
  cases l with
  | none => exact wok_lit (z := "-") (by decide)
  | some i => exact wok_num (h i rfl)
theorem wok_name {z : Str} (h : NameOk z) : WOk z := by
  obtain ⟨cs, rfl, h1, h2, h3, _⟩ := h
  refine ⟨?_, fun m => ?_, fun m => ?_, fun e => ?_⟩
  · rw [TL.len_tl]
    show cs.length ≤ 20
    omega
  · exact absurd (h3 32 m) (by unfold SgnOk; omega)
  · exact absurd (h3 10 m) (by unfold SgnOk; omega)
  · rw [show cs = [] from e] at h1
    cases h1
theorem wok_word {z : Str} (h : WordOk z) : WOk z := by
  rcases h with rfl | rfl | rfl
  · exact wok_lit (by decide)
  · exact wok_lit (by decide)
  · exact wok_lit (by decide)
theorem wok_way {z : Str} (h : WayOk z) : WOk z := by
  rcases h with rfl | rfl | rfl
  · exact wok_lit (by decide)
  · exact wok_lit (by decide)
  · exact wok_lit (by decide)
theorem item_words : ∀ {q : Item}, Item.Ok q → (Item.words q).length = 7 ∧ ∀ z ∈ Item.words q, WOk z
  | .inl d, h => ⟨rfl, by
    obtain ⟨h1, h2, h3, h4, h5, h6, h7⟩ := h
    intro z hz
    simp only [Item.words, WD.words, List.mem_cons, List.not_mem_nil, or_false] at hz
    rcases hz with rfl | rfl | rfl | rfl | rfl | rfl | rfl
    · exact wok_lit (by decide)
    · exact wok_name h1
    · exact wok_word h2
    · exact wok_num h3
    · exact wok_num h4
    · exact wok_lim h5
    · exact wok_num ⟨h6, by omega⟩⟩
  | .inr d, h => ⟨rfl, by
    obtain ⟨h1, h2, h3, h4, h5, h6, h7, h8⟩ := h
    intro z hz
    simp only [Item.words, SD.words, List.mem_cons, List.not_mem_nil, or_false] at hz
    rcases hz with rfl | rfl | rfl | rfl | rfl | rfl | rfl
    · exact wok_lit (by decide)
    · exact wok_name h1
    · exact wok_word h2
    · exact wok_way h3
    · exact wok_num ⟨h4, by omega⟩
    · exact wok_num ⟨by omega, h7⟩
    · exact wok_lim h8⟩
theorem sum_len : ∀ {ws : List Str}, (∀ z ∈ ws, WOk z) → (ws.map (·.length)).sum ≤ 20 * ws.length
  | [], _ => Nat.le_refl _
  | z :: ws, h => by
    have h1 := (h z List.mem_cons_self).1
    have h2 := sum_len fun y hy => h y (List.mem_cons_of_mem _ hy)
    rw [List.map_cons, List.sum_cons, List.length_cons]
    omega
theorem joinL_len (S : List Nat) : ∀ (ps : List (List Nat)), (TL.joinL S ps).length ≤ (ps.map (·.length)).sum + ps.length * S.length
  | [] => by simp [TL.joinL]
  | [p] => by simp [TL.joinL]
  | p :: q :: r => by
    have := joinL_len S (q :: r)
    show (p ++ (S ++ TL.joinL S (q :: r))).length ≤ _
    rw [List.length_append, List.length_append]
    simp only [List.map_cons, List.sum_cons, List.length_cons, Nat.add_mul, Nat.one_mul] at this ⊢
    omega
theorem join_len (y : Str) (ps : List Str) : (Txt.join y ps).length ≤ (ps.map (·.length)).sum + ps.length * y.length := by
  rw [TL.len_tl, TL.join_eq, TL.tl_join]
  have := joinL_len (TL.tl y) (ps.map TL.tl)
  rw [List.map_map, List.length_map] at this
  rw [TL.len_tl y]
  exact Nat.le_trans this (by
    rw [show (ps.map (List.length ∘ TL.tl)) = ps.map (·.length) from List.map_congr_left fun z _ => (TL.len_tl z).symm]
    exact Nat.le_refl _)
theorem foldl_arr (a : Array Nat) : ∀ (n : Nat) (x : Array Nat), ((List.replicate n a).foldl (· ++ ·) x).toList = x.toList ++ (List.replicate n a.toList).flatten
  | 0, x => by simp
  | n + 1, x => by
    rw [List.replicate_succ, List.foldl_cons, foldl_arr a n, List.replicate_succ, List.flatten_cons, Array.toList_append, List.append_assoc]
theorem tl_rep2 : ∀ n : Nat, (List.replicate n [32, 32]).flatten = List.replicate (2 * n) 32
  | 0 => rfl
  | n + 1 => by
    rw [List.replicate_succ, List.flatten_cons, tl_rep2 n, show 2 * (n + 1) = 2 * n + 1 + 1 by omega, List.replicate_succ, List.replicate_succ]
    rfl
theorem tl_ind (n : Nat) : TL.tl (repS "  " n) = List.replicate (2 * n) 32 := by
  rw [← tl_rep2]
  exact foldl_arr _ n #[]
theorem line_len {q : Nat × Item} (h : Item.Ok q.2) : (lineI q).length ≤ 2 * q.1 + 147 := by
  obtain ⟨hl, hw⟩ := item_words h
  have h1 := join_len " " (Item.words q.2)
  have h2 := sum_len hw
  rw [hl] at h1 h2
  unfold lineI
  rw [TL.len_tl, TL.tl_append, List.length_append, tl_ind, List.length_replicate, ← TL.len_tl]
  have : (" " : Str).length = 1 := by decide
  omega
end W06

set_option Elab.async false
set_option linter.all false
set_option maxRecDepth 100000
set_option maxHeartbeats 4000000
namespace W06
open PySem PySem.Spec PyProof.Rows L2 WXG WEv WRd WLf WEn WZs WRu WSt StX WDc
def LineP (q : Nat × Item) : V := .str (lineI q)
theorem size_in {n : Nat} {ts : List (Told n)} {t : Told n} (h : t ∈ ts) : Told.size n t ≤ (ts.map (Told.size n)).sum := by
  induction ts with
  | nil => cases h
  | cons a ts ih =>
    rw [List.map_cons, List.sum_cons]
    rcases List.mem_cons.mp h with rfl | h
    · omega
    · have := ih h
      omega
section
variable {K : PySem.W.Frag} {σ : L2.St} {H : Hp} {te ta tb : TE} {tr : TA} {D : Ends} {P P' : HP V} {tt tu : TT} {a b : Bool} {v : V}
/-- [e for v in a new sequence] -/
theorem g_lcG {wi : TI} {v : Nat} {ys : List V} {Ps : List (HP V)} (hw : ∀ H1, Same H H1 → ∀ R : It → Hp → Prop, (∀ (J : It) (Gw : Hp → Prop) (H2 : Hp), Same H1 H2 → Walk J ys.length Gw (YAt ys) → (∀ H3, Same H2 H3 → Gw H3) → R J H2) → wi σ H1 R)
    (hl : Ps.length = ys.length) (hz : ys.length ≤ 1000) (m : ∀ P ∈ Ps, MnK P)
    (h : ∀ (i : Nat) (x : V) (P : HP V) (H1 : Hp), ys[i]? = some x → Ps[i]? = some P → Same H H1 → ∀ Q : VK, (∀ y H2, Same H1 H2 → P y H2 → Q y H2) → te ((σ.set v none).set v (some x)) H1 Q) :
    G (tLc wi (gName v) tYes te [v]) σ H (LF Ps) := by
  refine ⟨fun H1 e Q q => ?_, mn_lf (mn_fa m)⟩
  refine hw H1 e _ ?_
  intro J Gw H0 s0 wk hg
  intro Dd hD
  show ∃ W, _
  refine lc_it wk (fun i H' => Same H0 H' ∧ ∃ acc, H' Dd = some (.lst acc) ∧ Fa (Ps.take i) acc H') ⟨same_new hD, [], upd_same, trivial⟩ (fun _ H' _ p => hg H' p.1) (fun i x H2 H3 hi p y => ?_) (fun H2 p => ?_)
  · obtain ⟨s2, acc, hd, fa⟩ := p
    obtain ⟨rfl, hx⟩ := y
    refine ⟨(List.set_set ..).trans (List.set_set ..), ?_⟩
    obtain ⟨P, hP⟩ : ∃ P, Ps[i]? = some P := ⟨_, List.getElem?_eq_getElem (by omega)⟩
    refine h i x P _ hx hP ((e.trans s0).trans s2) _ fun y H4 s4 py => ?_
    have hd4 := s4 _ _ hd
    have fa4 : Fa (Ps.take i) acc H4 := fa_kp (fun Q hQ => m Q (List.mem_of_mem_take hQ)) (Kp.same s4) fa
    have la := fa.len
    rw [List.length_take] at la
    refine ⟨acc, hd4, Nat.lt_of_le_of_lt (show acc.length ≤ 1000 by omega) (by decide), same_put (s2.trans s4) hD, acc ++ [y], upd_same, ?_⟩
    exact fa_kp (fun Q hQ => m Q (List.mem_of_mem_take hQ)) (Kp.lst hd4) (fa_take fa4 hP py)
  · obtain ⟨s2, acc, hd, fa⟩ := p
    rw [← hl, List.take_length] at fa
    exact q _ _ (s0.trans s2) ⟨Dd, acc, rfl, hd, fa⟩
theorem sl_t {te : TE} {p : Addr} {xs : List V} {lo hi : Int} {Q : VK} (ev : Ev te σ H (.ref p)) (hp : H p = some (.tup xs)) (hc : ¬ (HT.sIx xs.length 0 (some lo) = 0 ∧ HT.sIx xs.length xs.length (some hi) = xs.length))
    (q : ∀ r, H r = none → Q (.ref r) (upd H r (.tup (cutV xs (some lo) (some hi))))) : tSl (rSlT K) te (tPart (tC (.int lo))) (tPart (tC (.int hi))) σ H Q :=
  ev _ ⟨lo, rfl, hi, rfl, p, xs, rfl, .of hp, hc, q⟩
theorem st_no {t : TS} (h : EvB tt σ H false) (k : D.nx σ H) : tIfS tt t tNext D σ H := h _ k
theorem st_asgCB {i : Nat} {r : List V → Hp → VK → Prop} (h : G te σ H P) (k : ∀ v H1, Same H H1 → P v H1 → r [v] H1 fun x H2 => D.nx (σ.set i (some x)) H2) : tAsg (tCB r (tCons te tNil)) (gName i) D σ H := h.ev H (Same.refl _) _ k
/-- a for over the tuple told[j] -/
theorem f_tup {g : TG} {tb : TS} {i : Nat} {p q : Addr} {xs ys : List V} {j : Int} (Pv : Nat → L2.St → Hp → Prop) (h0 : σ[i]? = some (some (.ref p))) (hp : H p = some (.tup xs)) (ej : atI xs j = some (.ref q)) (hq : H q = some (.tup ys)) (hi : Pv 0 σ H)
    (hk : ∀ i σ H', Pv i σ H' → Same H H') (hs : ∀ i x σ H', ys[i]? = some x → Pv i σ H' → g x σ H' fun σ2 H2 => tb { D with nx := Pv (i + 1), ct := Pv (i + 1), bk := D.nx } σ2 H2) (hd : ∀ σ H', Pv ys.length σ H' → D.nx σ H') :
    tFor (iTup K (tOp (rIxT K) (tVar i) (tC (.int j)))) g tb D σ H := by
  refine ev_ixT h0 hp ej _ ⟨q, rfl, ⟨ys, .of hq⟩, ?_⟩
  exact for_it (walk_tup (xs := ys)) Pv hi (fun i σ H' _ p => .of (hk i σ H' p _ _ hq)) (fun i x σ H1 H2 _ p y => by
    obtain ⟨rfl, hx⟩ := y
    exact hs i x σ _ hx p) hd
end
theorem sum_take {α : Type} (f : α → Nat) (ts : List α) (i : Nat) : ((ts.take i).map f).sum ≤ (ts.map f).sum := by
  have e : (ts.map f).sum = ((ts.take i).map f).sum + ((ts.drop i).map f).sum := by
    rw [← List.sum_append, ← List.map_append, List.take_append_drop]
  omega
theorem cut_w (d : WD) (s : Addr) : (cutV (d.vals s) (some 1) (some 7)).map shownV = d.words.tail := by
  show [_, _, _, _, shownV (limV d.lim), _] = _
  rw [lim_shown]
  rfl
theorem cut_s (d : SD) (q : Addr) : (cutV (d.vals q) (some 1) (some 7)).map shownV = d.words.tail := by
  show [_, _, _, _, _, shownV (limV d.lim)] = _
  rw [lim_shown]
  rfl
/-- what str() makes of it -/
def Shows (x : V) : Prop := x = .non ∨ (∃ i, x = .int i ∧ TickOk i) ∨ ∃ z, x = .str z
theorem shows_lim {l : Option Int} (h : LimOk l) : Shows (limV l) := by
  cases l with
  | none => exact .inl rfl
  | some i => exact .inr (.inl ⟨i, rfl, h i rfl⟩)
theorem cut_ws {d : WD} (s : Addr) (h : d.Ok) : ∀ x ∈ cutV (d.vals s) (some 1) (some 7), Shows x := by
  obtain ⟨h1, h2, h3, h4, h5, h6, h7⟩ := h
  intro x hx
  have hx : x ∈ [V.str d.name, .str d.word, .int d.b, .int d.e, limV d.lim, .int d.r] := hx
  simp only [List.mem_cons, List.not_mem_nil, or_false] at hx
  rcases hx with rfl | rfl | rfl | rfl | rfl | rfl
  · exact .inr (.inr ⟨_, rfl⟩)
  · exact .inr (.inr ⟨_, rfl⟩)
  · exact .inr (.inl ⟨_, rfl, h3⟩)
  · exact .inr (.inl ⟨_, rfl, h4⟩)
  · exact shows_lim h5
  · exact .inr (.inl ⟨_, rfl, h6, by omega⟩)
theorem cut_ss {d : SD} (q : Addr) (h : d.Ok) : ∀ x ∈ cutV (d.vals q) (some 1) (some 7), Shows x := by
  obtain ⟨h1, h2, h3, h4, h5, h6, h7, h8⟩ := h
  intro x hx
  have hx : x ∈ [V.str d.name, .str d.word, .str d.way, .int d.most, .int d.span, limV d.lim] := hx
  simp only [List.mem_cons, List.not_mem_nil, or_false] at hx
  rcases hx with rfl | rfl | rfl | rfl | rfl | rfl
  · exact .inr (.inr ⟨_, rfl⟩)
  · exact .inr (.inr ⟨_, rfl⟩)
  · exact .inr (.inr ⟨_, rfl⟩)
  · exact .inr (.inl ⟨_, rfl, h4, by omega⟩)
  · exact .inr (.inl ⟨_, rfl, by omega, h7⟩)
  · exact shows_lim h8
theorem call_str_non {X : Cx} : CallR X (.type "str") (fun xs H Q => xs = [V.non] ∧ Q (.str "None") H) := by
  intro pins s σ H xs us Q I r h
  obtain ⟨rfl, q⟩ := h
  obtain ⟨u, rfl, rfl⟩ := vals1 r
  exact PySem.P.str_of_none ⟨.str "None", H, I.tok _, ⟨_, rfl⟩, q⟩
/-- what str() tells -/
def strV : V → Str
  | .non => "None"
  | .int i => numS i
  | .str z => z
  | _ => ""
def dash (z : Str) : Str := if z = "None" then "-" else z
theorem num_dash {i : Int} (h : 0 ≤ i) : dash (numS i) = numS i := by
  refine if_neg fun e => ?_
  have e1 := num_tl h
  have e2 : (78 : Nat) ∈ TL.numL i.toNat := by rw [← e1, e]; decide
  exact absurd e2 (TL.numL_free (.inr (by decide)))
theorem name_dash {z : Str} (h : NameOk z) : dash z = z := by
  refine if_neg fun e => ?_
  obtain ⟨cs, rfl, h1, h2, h3, h4, h5⟩ := h
  have e2 : TL.tl ⟨cs.toArray⟩ = TL.tl "None" := by rw [e]
  rw [show TL.tl ⟨cs.toArray⟩ = cs from rfl] at e2
  have := h4 78 (by rw [e2]; decide)
  omega
theorem word_dash {z : Str} (h : WordOk z) : dash z = z := by
  rcases h with rfl | rfl | rfl <;> decide
theorem way_dash {z : Str} (h : WayOk z) : dash z = z := by
  rcases h with rfl | rfl | rfl <;> decide
theorem lim_dash {l : Option Int} (h : LimOk l) : dash (strV (limV l)) = limS l := by
  cases l with
  | none => decide
  | some i => exact num_dash (h i rfl).1
theorem dash_w {d : WD} (h : d.Ok) (s : Addr) : ((cutV (d.vals s) (some 1) (some 7)).map strV).map dash = d.words.tail := by
  obtain ⟨h1, h2, h3, h4, h5, h6, h7⟩ := h
  show [dash d.name, dash d.word, dash (numS d.b), dash (numS d.e), dash (strV (limV d.lim)), dash (numS d.r)] = [d.name, d.word, numS d.b, numS d.e, limS d.lim, numS d.r]
  rw [name_dash h1, word_dash h2, num_dash h3.1, num_dash h4.1, lim_dash h5, num_dash h6]
theorem dash_s {d : SD} (h : d.Ok) (q : Addr) : ((cutV (d.vals q) (some 1) (some 7)).map strV).map dash = d.words.tail := by
  obtain ⟨h1, h2, h3, h4, h5, h6, h7, h8⟩ := h
  show [dash d.name, dash d.word, dash d.way, dash (numS d.most), dash (numS d.span), dash (strV (limV d.lim))] = [d.name, d.word, d.way, numS d.most, numS d.span, limS d.lim]
  rw [name_dash h1, word_dash h2, way_dash h3, num_dash h4, num_dash (by omega), lim_dash h8]
theorem evb_eqS' {x y : Str} {σ : L2.St} {H : Hp} {ta tb : TE} (ha : Ev ta σ H (.str x)) (hb : Ev tb σ H (.str y)) : EvB (tTest (tOp rEq ta tb)) σ H (decide (x = y)) := evb_eqS ha hb rfl
theorem log_ok {i : Int} (h0 : 0 ≤ i) (h1 : i ≤ 1000000000) : i.natAbs.log2 < 1920 := by
  have : i.natAbs < 2 ^ 1920 := Nat.lt_of_le_of_lt (show i.natAbs ≤ 1000000000 by omega) (Nat.lt_of_lt_of_le (show 1000000000 < 2 ^ 30 by decide) (Nat.pow_le_pow_right (by decide) (by decide)))
  by_cases z : i.natAbs = 0
  · rw [z]
    decide
  · exact (Nat.log2_lt z).mpr this
def tAddS : TE → TE → TE := tOp fun x y H Q => ∃ i j, x = .str i ∧ y = .str j ∧ i.length + j.length ≤ sizeLine ∧ Q (.str (i ++ j)) H
/-- ["  " * level + " ".join(words)] -/
theorem st_line {K : PySem.W.Frag} {σ : L2.St} {H : Hp} {D : Ends} {l2 : Addr} {l iw ix j : Nat} {ws : List Str} (h1 : σ[ix]? = some (some (.int (l : Int)))) (h2 : σ[iw]? = some (some (.ref l2))) (hl2 : H l2 = some (.lst (ws.map V.str)))
    (hl : l ≤ 20) (hw : ∀ z ∈ ws, WOk z) (hn : ws.length ≤ 7) (k : ∀ l4 H2, Same H H2 → H l4 = none → H2 l4 = some (.lst [.str (repS "  " l ++ Txt.join " " ws)]) → D.nx (σ.set j (some (.ref l4))) H2) :
    tAsg (tLst (tCons (tAddS (tOp rMulS (tC (.str "  ")) (tVar ix)) (tM1 (fun x xs H Q => ∃ a p, ∃ ys : List Str, x = .str a ∧ xs = [.ref p] ∧ (SqL K H p (ys.map V.str) ∨ SqT K H p (ys.map V.str)) ∧
      (ys.map (·.length)).sum + ys.length * a.length ≤ 16777216 ∧ Q (.str (Txt.join a ys)) H) (tC (.str " ")) (tVar iw))) tNil)) (gName j) D σ H := by
  refine ⟨_, h1, "  ", l, rfl, rfl, by omega, by decide, ⟨_, rfl⟩, ?_⟩
  have b1 := sum_len hw
  have b2 := join_len " " ws
  have b3 : (" " : Str).length = 1 := by decide
  rw [b3] at b2
  refine ⟨_, h2, " ", l2, ws, rfl, rfl, .inl (.of hl2), ?_, _, _, rfl, rfl, ?_, ?_⟩
  · rw [b3]
    omega
  · have e1 : (repS "  " l).length ≤ 40 := by
      rw [TL.len_tl, tl_ind, List.length_replicate]
      omega
    exact Nat.le_trans (show _ ≤ 1000 by omega) (by decide)
  · exact ⟨(by decide : 1 ≤ sizeLine), fun c hc => k c _ (same_new hc) hc upd_same⟩
def spLines (n : Nat) : Sp := fun vs H Q _ => ∃ (v : V) (t : Told n) (l : Nat), vs = [v, .int (l : Int)] ∧ Told.Ok n t ∧ Told.size n t ≤ 60 ∧ l + n ≤ 20 ∧ TAt n t v H ∧ ∀ p H', Same H H' → H' p = some (.lst ((Told.flat n t l).map LineP)) → Q (.ref p) H'
theorem flats_len {n l : Nat} (ts : List (Told n)) : (ts.flatMap fun t => Told.flat n t l).length = (ts.map (Told.size n)).sum := by
  rw [List.length_flatMap]
  congr 1
  exact List.map_congr_left fun t _ => flat_len n t l
/-- a for over a tuple -/
theorem f_tupI {K : PySem.W.Frag} {σ : L2.St} {H : Hp} {te : TE} {D : Ends} {g : TG} {tb : TS} {q : Addr} {ys : List V} (Pv : Nat → L2.St → Hp → Prop) (ev : Ev te σ H (.ref q)) (hq : H q = some (.tup ys)) (hi : Pv 0 σ H)
    (hk : ∀ i σ H', Pv i σ H' → H' q = some (.tup ys)) (hs : ∀ i x σ H', ys[i]? = some x → Pv i σ H' → g x σ H' fun σ2 H2 => tb { D with nx := Pv (i + 1), ct := Pv (i + 1), bk := D.nx } σ2 H2) (hd : ∀ σ H', Pv ys.length σ H' → D.nx σ H') :
    tFor (iTup K te) g tb D σ H := by
  refine ev _ ⟨q, rfl, ⟨ys, .of hq⟩, ?_⟩
  exact for_it (walk_tup (xs := ys)) Pv hi (fun i σ H' _ p => .of (hk i σ H' p)) (fun i x σ H1 H2 _ p y => by
    obtain ⟨rfl, hx⟩ := y
    exact hs i x σ _ hx p) hd
section
variable {P : Program} {w : World} {K : PySem.W.Frag} {mg : Str → Option Value} {base : Heap}
theorem ok_lines (T : Env K mg) : ∀ n, FnOk P w K mg base CX0 (n + 1) (d_L_lines.loc K) T.fd_L_lines ["d", "level"] (spLines n)
  | 0 => T.F_L_lines.ok sc_L_lines (fun vs H Q E (h : spLines 0 vs H Q E) => by obtain ⟨v, t, _⟩ := h; cases t) (fun cdv A outer s H vs Q E hr (h : spLines 0 vs H Q E) => by obtain ⟨v, t, _⟩ := h; cases t)
  | n + 1 => by
    have G_L_lines : FnOk P w K mg base CX0 (n + 1) _ _ _ _ := ok_lines T n
    refine T.F_L_lines.ok sc_L_lines (fun vs H Q E h => ?_) (fun cdv A outer s H vs Q E hr h => ?_)
    · obtain ⟨v, t, l, rfl, _⟩ := h
      rfl
    · have nd := sc_L_lines.nd
      have hu := hu_of hr
      obtain ⟨v, t, l, rfl, hok, hz, hl, ht, k⟩ := h
      refine ⟨_, PSs.nox (pss_cons (ps_set (i := 2) nd rfl (Or.inl rfl) (pe_op op_cat (pe_lst (pa_cons (pe_ifExp (pt_cmpR op_eq (pe_ix (ixtK (K := K)) (pv 0) pe_int (fun _ _ => rfl)) pe_str (nomark _)) pe_str pe_str) pa_nil)) (pe_lc (own := [("value", 3)]) (by rfl) nd (pi_tup (pe_slice sl_tup (pv 0) (po_some pe_int) (po_some pe_int))) (blkOk_by (N := ["d", "level", "words", "value", "word", "found", "child"]) (sc := defScope s_L_lines) (by decide +kernel)) (fun _ _ _ _ _ => (pg_name (i := 3) nd rfl (Or.inl rfl))) (fun _ _ _ _ _ => pts_nil) (fun _ _ _ _ _ => (pe_callTy ((call_str_int.or SkE.call_str_str).or call_str_non) (by rfl) T.b_str (by decide +kernel) (pa_cons (pv 3) pa_nil))))))
 (pss_cons (ps_setLc (i := 2) (own := [("word", 4)]) (by rfl) nd rfl rfl (sw_true rfl rfl rfl (by decide +kernel)) (pi_list (pv 2)) (blkOk_by (N := ["d", "level", "words", "value", "word", "found", "child"]) (sc := defScope s_L_lines) (by decide +kernel)) (fun _ _ _ _ _ => (pg_name (i := 4) nd rfl (Or.inl rfl))) (fun _ _ _ _ _ => pts_nil) (fun _ _ _ _ _ => (pe_ifExp (pt_cmpR op_eq (pv 4) pe_str (nomark _)) pe_str (pv 4))))
 (pss_cons (ps_set (i := 5) nd rfl (Or.inl rfl) (pe_lst (pa_cons (pe_op op_add_str (pe_op op_mulS pe_str (pv 1)) (pe_join pe_str (pv 2))) pa_nil)))
 (pss_cons (ps_for PassesOwn.never rfl (pi_tup (pe_ifExp (pt_cmpR op_eq (pe_ix (ixtK (K := K)) (pv 0) pe_int (fun _ _ => rfl)) pe_str (nomark _)) (pe_ix (ixtK (K := K)) (pv 0) pe_int (fun _ _ => rfl)) (pe_tup pa_nil))) (pg_name (i := 6) nd rfl (Or.inl rfl))
  (pss_one (ps_expr (pe_bm PySem.F.plainAttrs_list PySem.F.slot_list_extend PySem.F.type_list_extend mt_extend (pv 5) (pa_cons (pe_call G_L_lines (hr.mono (by omega)) (by rfl) T.g__law_lines T.F_L_lines.kp T.bi_L_lines .nil pass0 (pa_cons (pv 6) (pa_cons (pe_op op_add (pv 1) pe_int) pa_nil))) pa_nil)))))
 (pss_one (ps_ret (pv 5))))))), ?_⟩
      -- up to the line
      have first : ∀ (p : Addr) (xs : List V) (c w0 : Str) (ws : List Str) (R : TS) (D : Ends), H p = some (.tup xs) → atI xs 0 = some (.str c) → (if c = "s" then w0 = "supervisor" else w0 = "worker") → ¬ (HT.sIx xs.length 0 (some 1) = 0 ∧ HT.sIx xs.length xs.length (some 7) = xs.length) → (∀ x ∈ cutV xs (some 1) (some 7), Shows x) → (cutV xs (some 1) (some 7)).length ≤ 6 →
          ((cutV xs (some 1) (some 7)).map strV).map dash = ws → (∀ z ∈ w0 :: ws, WOk z) → dash w0 = w0 →
          (∀ l2 l4 H1, Same H H1 → H l4 = none → H1 l4 = some (.lst [.str (repS "  " l ++ Txt.join " " (w0 :: ws))]) → R D [some (.ref p), some (.int l), some (.ref l2), none, none, some (.ref l4), none] H1) →
          tSeq (tAsg (tOp rCat (tLst (tCons (tIf (tTest (tOp rEq (tOp (rIxT K) (tVar 0) (tC (.int 0))) (tC (.str "s")))) (tC (.str "supervisor")) (tC (.str "worker"))) tNil)) (tLc (iTup K (tSl (rSlT K) (tVar 0) (tPart (tC (.int 1))) (tPart (tC (.int 7))))) (gName 3) tYes
            (tCB (fun xs H Q => ((∃ i, xs = [V.int i] ∧ i.natAbs.log2 < 1920 ∧ Q (.str (toString i)) H) ∨ ∃ a, xs = [V.str a] ∧ Q (.str a) H) ∨ xs = [V.non] ∧ Q (.str "None") H) (tCons (tVar 3) tNil)) [3])) (gName 2))
           (tSeq (tAsg (tLc (iList K (tVar 2)) (gName 4) tYes (tIf (tTest (tOp rEq (tVar 4) (tC (.str "None")))) (tC (.str "-")) (tVar 4)) [4]) (gName 2))
           (tSeq (tAsg (tLst (tCons (tAddS (tOp rMulS (tC (.str "  ")) (tVar 1)) (tM1 (fun x xs H Q => ∃ a p, ∃ ys : List Str, x = .str a ∧ xs = [.ref p] ∧ (SqL K H p (ys.map V.str) ∨ SqT K H p (ys.map V.str)) ∧ (ys.map (·.length)).sum + ys.length * a.length ≤ 16777216 ∧ Q (.str (Txt.join a ys)) H) (tC (.str " ")) (tVar 2))) tNil)) (gName 5)) R)) D
            [some (.ref p), some (.int l), none, none, none, none, none] H := by
        intro p xs c w0 ws R D hp h0 hw0 hc hsh hlen hws hwk hd kk
        refine st_tSeq (g_asg (P := LF ((((w0 :: (cutV xs (some 1) (some 7)).map strV)).map V.str).map Is)) ?_ fun v1 H1 s1 e1 => ?_)
        · refine g_cat (Ps := [Is (.str w0)]) (Qs := (((cutV xs (some 1) (some 7)).map strV).map V.str).map Is) (g_lst (ga_cons (ev_g fun H1 s => ?_) ga_nil)) ?_ (mn_fa fun P hP => by cases List.mem_singleton.mp hP; exact mk_is) (mn_fa mk_iss) ?_
          · refine ev_if (evb_eqS' (ev_ixT rfl (s _ _ hp) h0) ev_c) ?_
            by_cases e : c = "s"
            · rw [if_pos (decide_eq_true e)]
              rw [if_pos e] at hw0
              rw [hw0]
              exact ev_c
            · rw [if_neg (by simp [e])]
              rw [if_neg e] at hw0
              rw [hw0]
              exact ev_c
          · refine g_lcG (ys := cutV xs (some 1) (some 7)) (fun H1 s R r => sl_t (ev_var rfl) (s _ _ hp) hc fun q hq => ⟨q, rfl, ⟨_, .of upd_same⟩, r _ _ _ (same_new hq) walk_tup fun H3 s3 => .of (s3 _ _ upd_same)⟩) (by simp) (by omega) mk_iss fun i x P H1 hx hP s Q q => ?_
            rw [List.getElem?_map, List.getElem?_map, List.getElem?_map, hx] at hP
            cases hP
            rcases hsh x (List.mem_of_getElem? hx) with rfl | ⟨i, rfl, h0, h1⟩ | ⟨z, rfl⟩
            · exact ⟨_, rfl, .inr ⟨rfl, q _ _ (Same.refl _) rfl⟩⟩
            · exact ⟨_, rfl, .inl (.inl ⟨i, rfl, log_ok h0 h1, q _ _ (Same.refl _) rfl⟩)⟩
            · exact ⟨_, rfl, .inl (.inr ⟨z, rfl, q _ _ (Same.refl _) rfl⟩)⟩
          · simp only [List.length_map, List.length_cons, List.length_nil]
            omega
        · obtain ⟨l1, xs1, rfl, hl1, fa1⟩ := e1
          obtain rfl := fa1.is
          dsimp only
          show tSeq _ _ _ _ _
          refine st_tSeq (g_asg (P := LF (((w0 :: ws).map V.str).map Is)) ?_ fun v2 H2 s2 e2 => ?_)
          · refine g_lcL (i := 2) rfl hl1 (by rw [← hws]; simp) (by simp only [List.length_map, List.length_cons]; omega) mk_iss fun i x P H2 hx hP s Q q => ?_
            have : ∃ z, x = .str z ∧ P = Is (.str (dash z)) := by
              rw [List.getElem?_map, List.getElem?_map] at hP
              rw [List.getElem?_map] at hx
              cases i with
              | zero =>
                cases hx
                cases hP
                exact ⟨w0, rfl, by rw [hd]⟩
              | succ i =>
                rw [List.getElem?_cons_succ] at hx hP
                rw [← hws, List.getElem?_map] at hP
                cases hz : ((cutV xs (some 1) (some 7)).map strV)[i]? with
                | none => rw [hz] at hx; cases hx
                | some z =>
                  rw [hz] at hx hP
                  cases hx
                  cases hP
                  exact ⟨z, rfl, rfl⟩
            obtain ⟨z, rfl, rfl⟩ := this
            refine evb_eqS' (ev_var rfl) ev_c _ ?_
            by_cases e : z = "None"
            · rw [if_pos (decide_eq_true e)]
              exact q _ _ (Same.refl _) (by rw [dash, if_pos e]; rfl)
            · rw [if_neg (by simp [e])]
              exact ⟨_, rfl, q _ _ (Same.refl _) (by rw [dash, if_neg e]; rfl)⟩
          · obtain ⟨l2, xs2, rfl, hl2, fa2⟩ := e2
            obtain rfl := fa2.is
            have s12 := s1.trans s2
            dsimp only
            show tSeq _ _ _ _ _
            exact st_tSeq (st_line (ix := 1) (iw := 2) rfl rfl hl2 (by omega) hwk (by rw [List.length_cons, ← hws]; simp only [List.length_map]; omega) fun l4 H4 s4 hn hl4 => kk l2 l4 H4 (s12.trans s4) (Same.free s12 hn) hl4)
      cases t with
      | inl d =>
        obtain ⟨p, s, rfl, hp, hs⟩ := ht
        refine first p (d.vals s) "w" "worker" d.words.tail _ _ hp rfl (by decide) (show ¬ (HT.sIx 8 0 (some 1) = 0 ∧ HT.sIx 8 8 (some 7) = 8) by decide) (cut_ws s hok) (Nat.le_of_ble_eq_true rfl) (dash_w hok s) (item_words (q := .inl d) hok).2 (by decide) fun l2 l4 H1 s1 hn hl4 => ?_
        refine st_tSeq ?_
        refine evb_eqS (b := false) (ev_ixT rfl (s1 _ _ hp) rfl) ev_c rfl _ ?_
        refine ⟨(by decide : 0 ≤ sizeLine), fun r hr => ?_⟩
        have s2 : Same H (upd H1 r (.tup [])) := s1.trans (same_new hr)
        have hl4' : upd H1 r (.tup []) l4 = some (.lst [.str (repS "  " l ++ Txt.join " " d.words)]) := (same_new hr) _ _ hl4
        refine ⟨r, rfl, ⟨[], .of upd_same⟩, ?_⟩
        refine for_it (walk_tup (xs := [])) (fun i σ H' => σ = [some (.ref p), some (.int (l : Int)), some (.ref l2), none, none, some (.ref l4), none] ∧ H' = upd H1 r (.tup [])) ⟨rfl, rfl⟩ (fun i σ H' _ e => by rw [e.2]; exact .of upd_same) (fun i x σ H1 H2 hi _ _ => nomatch hi) (fun σ H' e => ?_)
        obtain ⟨rfl, rfl⟩ := e
        exact st_ret (ev_var rfl) (k l4 _ s2 hl4')
      | inr x =>
        obtain ⟨d, ts⟩ := x
        obtain ⟨p, q, ys, rfl, hp, hq, fa⟩ := ht
        refine first p (d.vals q) "s" "supervisor" d.words.tail _ _ hp rfl (by decide) (show ¬ (HT.sIx 8 0 (some 1) = 0 ∧ HT.sIx 8 8 (some 7) = 8) by decide) (cut_ss q hok.1) (Nat.le_of_ble_eq_true rfl) (dash_s hok.1 q) (item_words (q := .inr d) hok.1).2 (by decide) fun l2 l4 H1 s1 hn hl4 => ?_
        refine st_tSeq ?_
        refine f_tupI (q := q) (ys := ys) (fun i σ H' => ∃ a6, σ = [some (.ref p), some (.int (l : Int)), some (.ref l2), none, none, some (.ref l4), a6] ∧ Same H H' ∧ H' l4 = some (.lst ((((l, Sum.inr d) : Nat × Item) :: (ts.take i).flatMap fun t => Told.flat n t (l + 1)).map LineP)))
          (fun Q q' => evb_eqS (b := true) (ev_ixT rfl (s1 _ _ hp) rfl) ev_c rfl _ (ev_ixT rfl (s1 _ _ hp) rfl _ q')) (s1 _ _ hq) ⟨none, rfl, s1, hl4⟩ (fun i σ H' ⟨_, _, s, _⟩ => s _ _ hq) (fun i x σ H3 hx ⟨a6, hσ, s3, hl3⟩ => ?_) (fun σ H3 ⟨a6, hσ, s3, hl3⟩ => ?_)
        · subst hσ
          obtain ⟨t, ht, px⟩ := sup_get fa hx
          have tm := List.mem_of_getElem? ht
          have sz : Told.size n t ≤ (ts.map (Told.size n)).sum := size_in tm
          have hz' : 1 + (ts.map (Told.size n)).sum ≤ 60 := hz
          have sk := sum_take (Told.size n) ts i
          refine ⟨_, rfl, .inl ⟨rfl, _, .of hl3⟩, _, rfl, _, rfl, l, 1, rfl, rfl, x, t, l + 1, rfl, hok.2.2 t tm, by omega, by omega, (mk_tat n t).mn _ _ _ s3 px, fun p6 H6 s6 hl6 => ?_⟩
          refine ⟨l4, p6, _, _, rfl, rfl, s6 _ _ hl3, hl6, ?_, ?_⟩
          · rw [List.length_map, List.length_map, List.length_cons, flats_len, flat_len]
            exact Nat.le_trans (show _ ≤ 1000 by omega) (by decide)
          · refine ⟨_, rfl, same_put (s3.trans s6) hn, ?_⟩
            rw [List.take_succ, ht, upd_same, ← List.map_append]
            simp
        · subst hσ
          refine st_ret (ev_var rfl) (k l4 H3 s3 ?_)
          rw [hl3, sup_len fa, List.take_length]
          rfl
end
end W06

set_option Elab.async false
set_option linter.all false
set_option maxRecDepth 100000
set_option maxHeartbeats 4000000
namespace W06
open PySem PySem.Spec PyProof.Rows L2 WXG WEv WRd WLf WEn WZs WRu WSt StX WDc
section
variable {K : PySem.W.Frag} {σ : L2.St} {H : Hp} {te ta tb tc : TE} {tr : TA} {D : Ends} {P P' : HP V} {tt tu : TT} {a b : Bool} {v : V}
theorem evb_not (h : EvB tt σ H b) : EvB (tNot tt) σ H (!b) := fun Q q => h _ q
theorem evb_B (h : Ev te σ H (.bl b)) : EvB (tB te) σ H b := fun Q q => h _ ⟨b, rfl, q⟩
theorem ev_isi {x : V} {n : String} {t : Value} (ha : Ev ta σ H x) (ht : TyX K H x t) (hk : PySem.W.kitOne K t (.type n) = some b) : Ev (tCB (rIsi K) (tCons ta (tCons (tC (.ty n)) tNil))) σ H (.bl b) := fun Q q => ha _ ⟨x, .ty n, t, .type n, b, rfl, .ty _, ht, hk, q⟩
theorem ev_isiC {x : V} {C : Addr} {t : Value} (ha : Ev ta σ H x) (ht : TyX K H x t) (hk : PySem.W.kitOne K t (.ref C) = some b) : Ev (tCB (rIsi K) (tCons ta (tCons (tC (.ref C)) tNil))) σ H (.bl b) := fun Q q => ha _ ⟨x, .ref C, t, .ref C, b, rfl, .own _, ht, hk, q⟩
theorem ev_lenS {z : Str} (ha : Ev ta σ H (.str z)) (hz : z.length ≤ sizeLine) : Ev (tCB (fun xs H Q => ∃ z, xs = [V.str z] ∧ z.length ≤ sizeLine ∧ Q (.int z.length) H) (tCons ta tNil)) σ H (.int (z.length : Int)) := fun Q q => ha _ ⟨z, rfl, hz, q⟩
theorem ev_chain {i j k : Int} (ha : Ev ta σ H (.int i)) (hb : Ev tb σ H (.int j)) (hc : Ev tc σ H (.int k)) (h1 : i ≤ j) (h2 : j ≤ k) : Ev (tChain (rI0 fun i j => .bl (decide (i ≤ j))) (rI0 fun i j => .bl (decide (i ≤ j))) ta tb tc) σ H (.bl true) := fun Q q =>
  ha _ (hb _ ⟨i, j, rfl, rfl, true, congrArg V.bl (decide_eq_true h1), hc _ ⟨j, k, rfl, rfl, (congrArg (fun b => Q (.bl b) H) (decide_eq_true h2)).mpr q⟩⟩)
theorem ev_and (ha : Ev ta σ H (.bl true)) (hb : Ev tb σ H v) : Ev (tAndV ta tb) σ H v := fun Q q => ha _ ⟨true, rfl, hb _ q⟩
theorem g_ev (h : ∀ H1, Same H H1 → Ev te σ H1 v) : G te σ H (Is v) := ev_g h
theorem g_and (ha : G ta σ H (Is (.bl true))) (hb : G tb σ H P) : G (tAndV ta tb) σ H P := ⟨fun H1 e Q q => ha.ev H1 e _ fun x H2 s2 px => by
  cases px
  exact ⟨true, rfl, hb.ev H2 (e.trans s2) _ fun y H3 s3 py => q y H3 (s2.trans s3) py⟩, hb.mn⟩
theorem g_all {bs : List Bool} (h : G te σ H (LF ((bs.map V.bl).map Is))) : G (tCB (rAll K) (tCons te tNil)) σ H (Is (.bl (bs.all id))) := ⟨fun H1 e Q q => h.ev H1 e _ fun x H2 s2 px => by
  obtain ⟨p, xs, rfl, hp, fa⟩ := px
  obtain rfl := fa.is
  exact ⟨p, bs, rfl, .of hp, q _ _ s2 rfl⟩, mn_i⟩
theorem g_callL {sp : Sp} {E : XK} {vs : List V} (ha : ∀ H1, Same H H1 → EvL tr σ H1 vs) (hs : ∀ H1, Same H H1 → ∀ Q : VK, (∀ v H2, Same H1 H2 → P v H2 → Q v H2) → sp (vs ++ []) H1 Q E) (m : Mn P) : G (tCall sp [] E tr) σ H P :=
  ⟨fun H1 e Q q => ha H1 e _ (hs H1 e _ q), m⟩
/-- a list comprehension over the signs of a text -/
theorem g_lcS {v i : Nat} {cs : List Nat} {Ps : List (HP V)} (h0 : σ[i]? = some (some (.str ⟨cs.toArray⟩)))
    (hl : Ps.length = cs.length) (hz : cs.length ≤ 1000) (m : ∀ P ∈ Ps, MnK P)
    (h : ∀ (i : Nat) (c : Nat) (P : HP V) (H1 : Hp), cs[i]? = some c → Ps[i]? = some P → Same H H1 → ∀ Q : VK, (∀ y H2, Same H1 H2 → P y H2 → Q y H2) → te ((σ.set v none).set v (some (.str ⟨#[c]⟩))) H1 Q) :
    G (tLc (iStr (tVar i)) (gName v) tYes te [v]) σ H (LF Ps) :=
  g_lcF (ys := cs.map fun c => .str ⟨#[c]⟩) (J := Its ⟨cs.toArray⟩) (Gw := fun _ => True) (fun H1 s R r => ⟨_, h0, _, rfl, r⟩) (by
    have := walk_str (z := ⟨cs.toArray⟩)
    rw [show (⟨cs.toArray⟩ : Str).cps.size = (cs.map fun c => V.str ⟨#[c]⟩).length by simp] at this
    exact this.mono (fun _ g => g) fun i H x H' hi g y => by
      obtain ⟨e, c, hc, ex⟩ := y
      refine ⟨e, ?_⟩
      rw [List.getElem?_map, show cs[i]? = some c by simpa using hc, ex]
      rfl) (fun _ _ => trivial) (by rw [hl, List.length_map]) (by rw [List.length_map]; exact hz) m fun i x P H1 hx hP s Q q => by
    rw [List.getElem?_map] at hx
    obtain ⟨c, hc, rfl⟩ := Option.map_eq_some_iff.mp hx
    exact h i c P H1 hc hP s Q q
end
theorem ty_str {K : PySem.W.Frag} {H : Hp} {z : Str} : TyX K H (.str z) (.type "str") := .base (.str z)
theorem ty_int {K : PySem.W.Frag} {H : Hp} {i : Int} : TyX K H (.int i) (.type "int") := .base (.int i)
theorem kit_ss {K : PySem.W.Frag} : PySem.W.kitOne K (.type "str") (.type "str") = some true := kit_ty (by decide +kernel)
theorem kit_ii {K : PySem.W.Frag} : PySem.W.kitOne K (.type "int") (.type "int") = some true := kit_ty (by decide +kernel)
theorem kit_ib {K : PySem.W.Frag} : PySem.W.kitOne K (.type "int") (.type "bool") = some false := kit_ty (by decide +kernel)
theorem kit_tt {K : PySem.W.Frag} : PySem.W.kitOne K (.type "tuple") (.type "tuple") = some true := kit_ty (by decide +kernel)
theorem in_signs {c : Nat} (h : SgnOk c) : decide (c ∈ (Str.ofString "abcdefghijklmnopqrstuvwxyz0123456789_").cps.toList) = true := by
  have e : (Str.ofString "abcdefghijklmnopqrstuvwxyz0123456789_").cps.toList = [97, 98, 99, 100, 101, 102, 103, 104, 105, 106, 107, 108, 109, 110, 111, 112, 113, 114, 115, 116, 117, 118, 119, 120, 121, 122, 48, 49, 50, 51, 52, 53, 54, 55, 56, 57, 95] := by decide +kernel
  rw [e]
  apply decide_eq_true
  unfold SgnOk at h
  simp only [List.mem_cons, List.not_mem_nil, or_false]
  omega
theorem in_letters {c : Nat} (h : 97 ≤ c) (h' : c ≤ 122) : decide (c ∈ (Str.ofString "abcdefghijklmnopqrstuvwxyz").cps.toList) = true ∧ decide (c ∈ (Str.ofString "abcdefghijklmnopqrstuvwxyz0123456789_").cps.toList) = true := by
  have : ∀ j : Fin 26, decide (97 + j.val ∈ (Str.ofString "abcdefghijklmnopqrstuvwxyz").cps.toList) = true ∧ decide (97 + j.val ∈ (Str.ofString "abcdefghijklmnopqrstuvwxyz0123456789_").cps.toList) = true := by decide +kernel
  have := this ⟨c - 97, by omega⟩
  rw [show 97 + (c - 97) = c by omega] at this
  exact this
def spTrue1 : Sp := fun vs H Q _ => ∃ z, vs = [.str z] ∧ NameOk z ∧ ∀ H', Same H H' → Q (.bl true) H'
def spBetween : Sp := fun vs H Q _ => ∃ i lo hi : Int, vs = [.int i, .int lo, .int hi] ∧ lo ≤ i ∧ i ≤ hi ∧ Q (.bl true) H
def spOneOf (K : PySem.W.Frag) : Sp := fun vs H Q _ => ∃ z a ws, vs = [.str z, .ref a] ∧ SqT K H a ws ∧ ws.all flatV = true ∧ inV (.str z) ws = true ∧ Q (.bl true) H
def spDeadline : Sp := fun vs H Q _ => ∃ l, vs = [limV l] ∧ LimOk l ∧ Q (.bl true) H
def ReqRow : HP V := fun v H => ∃ p s, v = .ref p ∧ H p = some (.tup [.str s, .bl true])
def spRequire : Sp := fun vs H Q _ => ∃ l xs, vs = [.ref l] ∧ H l = some (.lst xs) ∧ (∀ x ∈ xs, ReqRow x H) ∧ Q .non H
def spNoScript (r : V) : Sp := fun vs H Q _ => ∃ p, vs = [.ref p] ∧ H p = some (.tup []) ∧ ∀ H', Same H H' → Q r H'
theorem mk_req : MnK ReqRow := fun _ _ _ s ⟨p, x, e, h⟩ => ⟨p, x, e, s _ _ h (fun _ z => nomatch z) (fun _ z => nomatch z)⟩
section
variable {P : Program} {w : World} {K : PySem.W.Frag} {mg : Str → Option Value} {base : Heap}
theorem ok_is_word (T : Env K mg) : FnOk P w K mg base CX0 1 (d_is_word.loc K) T.fd_is_word ["value"] spTrue1 := by
  refine T.F_is_word.ok sc_is_word (fun vs H Q E h => ?_) (fun cdv A outer s H vs Q E hr h => ?_)
  · obtain ⟨z, rfl, _⟩ := h
    rfl
  · have nd := sc_is_word.nd
    have hu := hu_of hr
    obtain ⟨z, rfl, hz, k⟩ := h
    refine ⟨_, PSs.nox (pss_cons (ps_if (PW.pt (pw_or (pt_not (pt_val (pe_callB (isiK (K := K)) (by rfl) T.b_isinstance (by decide +kernel) (pa_cons (pv 0) (pa_cons (pe_bltnT (n := "str") (by rfl) T.b_str (by decide +kernel)) pa_nil))))) (pw_or (pt_not (pt_chain op_le op_le pe_int (pe_callB call_len_str (by rfl) T.b_len (by decide +kernel) (pa_cons (pv 0) pa_nil)) (C8.pe_gc (by rfl) T.c_MOST_SIGNS))) (pw_or1 (pt_cmpR op_notIn_sign (pe_ix ix_str (pv 0) pe_int (fun _ _ => rfl)) (C8.pe_gc (by rfl) T.c_LETTERS) (by rfl))))))
  (pss_one (ps_ret pe_bl))
  pss_nil)
 (pss_one (ps_ret (pe_callB (cr_all rfl) (by rfl) T.b_all (by decide +kernel) (pa_cons (pe_lc (own := [("sign", 1)]) (by rfl) nd (pi_str (pv 0)) (blkOk_by (N := ["value", "sign"]) (sc := defScope s_is_word) (by decide +kernel)) (fun _ _ _ _ _ => (pg_name (i := 1) nd rfl (Or.inl rfl))) (fun _ _ _ _ _ => pts_nil) (fun _ _ _ _ _ => (pe_cmpR op_in_sign (pv 1) (C8.pe_gc (by rfl) T.c_SIGNS) (by rfl)))) pa_nil))))), ?_⟩
    obtain ⟨cs, rfl, h1, h2, h3, h4, h5⟩ := hz
    have hlen : (⟨cs.toArray⟩ : Str).length = cs.length := TL.len_tl _
    obtain ⟨c0, hc0⟩ : ∃ c, cs[0]? = some c := ⟨_, List.getElem?_eq_getElem (by omega)⟩
    have hm := h4 c0 hc0
    refine st_no (evb_or (a := false) (evb_not (b := true) (evb_B (ev_isi (ev_var rfl) ty_str kit_ss))) fun _ => evb_or (a := false) (evb_not (b := true) (evb_test (ev_chain ev_c (ev_lenS (ev_var rfl) (by rw [hlen]; exact Nat.le_trans h2 (by decide))) ev_c (by rw [hlen]; omega) (by rw [hlen]; omega)))) fun _ => evb_test (b := false) (fun Q q => ?_)) ?_
    · refine ⟨_, rfl, _, 0, c0, rfl, rfl, by rw [hlen]; exact Nat.le_trans h2 (by decide), atI_nat (j := 0) hc0, c0, _, rfl, rfl, ?_⟩
      rw [(in_letters hm.1 hm.2).1]
      exact q
    · refine g_ret (g_all (bs := cs.map fun _ => true) (g_lcS rfl (by simp) (by omega) mk_iss fun i c P H1 hc hP s Q q => ?_)) fun v H1 s1 e => ?_
      · rw [List.getElem?_map, List.getElem?_map, List.getElem?_map, hc] at hP
        cases hP
        have hm := h3 c (List.mem_of_getElem? hc)
        refine ⟨_, rfl, c, _, rfl, rfl, ?_⟩
        rw [in_signs hm]
        exact q _ _ (Same.refl _) rfl
      · cases e
        rw [show ((cs.map fun _ => true).all id) = true by simp]
        exact k _ s1
theorem ok_is_name (T : Env K mg) : FnOk P w K mg base CX0 2 (d_is_name.loc K) T.fd_is_name ["value"] spTrue1 := by
  have G_is_word : FnOk P w K mg base CX0 1 _ _ _ _ := ok_is_word T
  refine T.F_is_name.ok sc_is_name (fun vs H Q E h => ?_) (fun cdv A outer s H vs Q E hr h => ?_)
  · obtain ⟨z, rfl, _⟩ := h
    rfl
  · have nd := sc_is_name.nd
    have hu := hu_of hr
    obtain ⟨z, rfl, hz, k⟩ := h
    refine ⟨_, PSs.nox (pss_one (ps_ret (pe_and (pe_call G_is_word (hr.mono (by decide)) (by rfl) T.g_is_word T.F_is_word.kp T.bi_is_word .nil pass0 (pa_cons (pv 0) pa_nil)) (pe_one (pe_cmpR (op_notIn_seq) (pv 0) (pe_globR (by rfl) T.g_RESERVED) (by rfl)))))), ?_⟩
    refine ⟨_, rfl, z, rfl, hz, fun H1 s1 => ⟨true, rfl, ?_⟩⟩
    refine ⟨_, rfl, _, _, rfl, .inr (T.q_RESERVED _), rfl, rfl, ?_⟩
    have e : inV (V.str z) [.str "own", .str "sender", .str "about"] = false := by
      obtain ⟨cs, rfl, h1, h2, h3, h4, h5⟩ := hz
      have n : ∀ y : Str, ((TL.tl y)[1]?.any fun c => c == 119 || c == 101 || c == 98) = true → y ≠ ⟨cs.toArray⟩ := fun y hy e => by
        rw [e, show TL.tl ⟨cs.toArray⟩ = cs from rfl] at hy
        cases hc : cs[1]? with
        | none => rw [hc] at hy; cases hy
        | some c =>
          rw [hc] at hy
          have := h5 c hc
          simp only [Option.any_some, Bool.or_eq_true, beq_iff_eq] at hy
          omega
      have n1 := n "own" (by decide)
      have n2 := n "sender" (by decide)
      have n3 := n "about" (by decide)
      simp [inV, eqV, n1, n2, n3]
    rw [if_pos rfl, e]
    exact k _ s1
theorem ok_is_between (T : Env K mg) : FnOk P w K mg base CX0 1 (d_is_between.loc K) T.fd_is_between ["value", "low", "high"] spBetween := by
  refine T.F_is_between.ok sc_is_between (fun vs H Q E h => ?_) (fun cdv A outer s H vs Q E hr h => ?_)
  · obtain ⟨i, lo, hi, rfl, _⟩ := h
    rfl
  · have nd := sc_is_between.nd
    have hu := hu_of hr
    obtain ⟨i, lo, hi, rfl, h1, h2, k⟩ := h
    refine ⟨_, PSs.nox (pss_one (ps_ret (pe_and (pe_callB (isiK (K := K)) (by rfl) T.b_isinstance (by decide +kernel) (pa_cons (pv 0) (pa_cons (pe_bltnT (n := "int") (by rfl) T.b_int (by decide +kernel)) pa_nil))) (pe_and (pe_not (pe_callB (isiK (K := K)) (by rfl) T.b_isinstance (by decide +kernel) (pa_cons (pv 0) (pa_cons (pe_bltnT (n := "bool") (by rfl) T.b_bool (by decide +kernel)) pa_nil)))) (pe_one (pe_chain op_le op_le (pv 1) (pv 0) (pv 2))))))), ?_⟩
    exact st_ret (ev_and (ev_isi (ev_var rfl) ty_int kit_ii) (ev_and (fun Q q => ev_isi (ev_var rfl) ty_int kit_ib _ ⟨false, rfl, q⟩) (ev_chain (ev_var rfl) (ev_var rfl) (ev_var rfl) h1 h2))) k
theorem ok_is_one_of (T : Env K mg) : FnOk P w K mg base CX0 1 (d_is_one_of.loc K) T.fd_is_one_of ["value", "words"] (spOneOf K) := by
  refine T.F_is_one_of.ok sc_is_one_of (fun vs H Q E h => ?_) (fun cdv A outer s H vs Q E hr h => ?_)
  · obtain ⟨z, a, ws, rfl, _⟩ := h
    rfl
  · have nd := sc_is_one_of.nd
    have hu := hu_of hr
    obtain ⟨z, a, ws, rfl, hS, hf, hi, k⟩ := h
    refine ⟨_, PSs.nox (pss_one (ps_ret (pe_and (pe_callB (isiK (K := K)) (by rfl) T.b_isinstance (by decide +kernel) (pa_cons (pv 0) (pa_cons (pe_bltnT (n := "str") (by rfl) T.b_str (by decide +kernel)) pa_nil))) (pe_one (pe_cmpR (op_in_seq) (pv 0) (pv 1) (by rfl)))))), ?_⟩
    refine st_ret (v := .bl true) (ev_and (ev_isi (ev_var rfl) ty_str kit_ss) (fun Q q => ⟨_, rfl, _, rfl, a, ws, rfl, .inr hS, rfl, hf, ?_⟩)) k
    rw [if_neg Bool.false_ne_true, hi]
    exact q
theorem ok_is_deadline (T : Env K mg) : FnOk P w K mg base CX0 2 (d_is_deadline.loc K) T.fd_is_deadline ["value"] spDeadline := by
  have G_is_between : FnOk P w K mg base CX0 1 _ _ _ _ := ok_is_between T
  refine T.F_is_deadline.ok sc_is_deadline (fun vs H Q E h => ?_) (fun cdv A outer s H vs Q E hr h => ?_)
  · obtain ⟨l, rfl, _⟩ := h
    rfl
  · have nd := sc_is_deadline.nd
    have hu := hu_of hr
    obtain ⟨l, rfl, hl, k⟩ := h
    refine ⟨_, PSs.nox (pss_one (ps_ret (pe_or (pe_cmpR op_isN (pv 0) pe_non (nomark _)) (pe_one (pe_call G_is_between (hr.mono (by decide)) (by rfl) T.g_is_between T.F_is_between.kp T.bi_is_between .nil pass0 (pa_cons (pv 0) (pa_cons pe_int (pa_cons (C8.pe_gc (by rfl) T.c_MOST_WAIT) pa_nil)))))))), ?_⟩
    cases l with
    | none => exact ⟨_, rfl, rfl, true, rfl, k⟩
    | some i => exact ⟨_, rfl, rfl, false, rfl, _, rfl, i, 0, 1000000000, rfl, (hl i rfl).1, (hl i rfl).2, k⟩
theorem ok_require (T : Env K mg) : FnOk P w K mg base CX0 1 (d_require.loc K) T.fd_require ["rows"] spRequire := by
  refine T.F_require.ok sc_require (fun vs H Q E h => ?_) (fun cdv A outer s H vs Q E hr h => ?_)
  · obtain ⟨l, xs, rfl, _⟩ := h
    rfl
  · have nd := sc_require.nd
    have hu := hu_of hr
    obtain ⟨l, xs, rfl, hl, hx, k⟩ := h
    refine ⟨_, PSs.nox (pss_one (ps_for PassesOwn.never rfl (pi_list (pv 0)) (pg_tup rfl (pgs_cons (pg_name (i := 1) nd rfl (Or.inl rfl)) (pgs_cons (pg_name (i := 2) nd rfl (Or.inl rfl)) pgs_nil)))
  (pss_one (ps_if (pt_not (pt_val (pv 2)))
  (pss_one ps_dead)
  pss_nil)))), ?_⟩
    refine ⟨_, rfl, l, rfl, ⟨xs, .of hl⟩, ?_⟩
    refine for_it (walk_list (xs := xs)) (fun i σ H' => H' = H ∧ ∃ a1 a2, σ = [some (.ref l), a1, a2]) ⟨rfl, _, _, rfl⟩ (fun i σ H' _ q => by rw [q.1]; exact .of hl) (fun i x σ H1 H2 hi q y => ?_) (fun σ H1 q => by rw [q.1]; exact k)
    obtain ⟨rfl, a1, a2, rfl⟩ := q
    obtain ⟨rfl, ex⟩ := y
    obtain ⟨p, s, rfl, hp⟩ := hx x (List.mem_of_getElem? ex)
    refine ⟨p, _, rfl, .of hp, rfl, _, _, rfl, _, _, rfl, rfl, ?_⟩
    exact st_no (evb_not (b := true) (evb_B (ev_var rfl))) ⟨rfl, _, _, rfl⟩
theorem ok_wrong_row (T : Env K mg) : FnOk P w K mg base CX0 1 (d_wrong_row.loc K) T.fd_wrong_row ["script"] (spNoScript .non) := by
  refine T.F_wrong_row.ok sc_wrong_row (fun vs H Q E h => ?_) (fun cdv A outer s H vs Q E hr h => ?_)
  · obtain ⟨p, rfl, _⟩ := h
    rfl
  · have nd := sc_wrong_row.nd
    have hu := hu_of hr
    obtain ⟨p, rfl, hp, k⟩ := h
    refine ⟨_, PSs.nox (pss_cons (ps_if (pt_not (pt_val (pe_callB (isiK (K := K)) (by rfl) T.b_isinstance (by decide +kernel) (pa_cons (pv 0) (pa_cons (pe_bltnT (n := "tuple") (by rfl) T.b_tuple (by decide +kernel)) pa_nil)))))
  (pss_one ps_dead)
  pss_nil)
 (pss_cons (ps_set (i := 1) nd rfl (Or.inl rfl) pe_dnewK)
 (pss_cons (ps_for PassesOwn.never rfl (pi_enumT (by rfl) T.b_enumerate (pa_cons (pv 0) pa_nil)) (pg_tup rfl (pgs_cons (pg_name (i := 2) nd rfl (Or.inl rfl)) (pgs_cons (pg_name (i := 3) nd rfl (Or.inl rfl)) pgs_nil)))
  pss_dead)
 (pss_one (ps_ret pe_non))))), ?_⟩
    refine st_no (evb_not (b := true) (evb_B (ev_isi (ev_var rfl) (.base (.tup hp)) kit_tt))) ?_
    refine fun q hq => ?_
    have s1 : Same H (upd H q (.dK [])) := same_new hq
    refine ⟨_, rfl, p, [], rfl, .of (s1 _ _ hp), ?_⟩
    show ∃ W, _
    refine for_it (tb := fun _ _ _ => False) (walk_enumC (K := K) (t := true) (c := 0) (a := p) (xs := [])) (fun i σ H' => Same H H') s1 (fun i σ H' _ s => (show SqT K H' p [] from .of (s _ _ hp))) (fun i x σ H1 H2 hi _ _ => nomatch hi) (fun σ H1 s => ?_)
    exact k _ s
theorem ok_is_script (T : Env K mg) : FnOk P w K mg base CX0 2 (d_is_script.loc K) T.fd_is_script ["value"] (spNoScript (.bl true)) := by
  have G_wrong_row : FnOk P w K mg base CX0 1 _ _ _ _ := ok_wrong_row T
  refine T.F_is_script.ok sc_is_script (fun vs H Q E h => ?_) (fun cdv A outer s H vs Q E hr h => ?_)
  · obtain ⟨p, rfl, _⟩ := h
    rfl
  · have nd := sc_is_script.nd
    have hu := hu_of hr
    obtain ⟨p, rfl, hp, k⟩ := h
    refine ⟨_, PSs.nox (pss_one (ps_ret (pe_and (pe_callB (isiK (K := K)) (by rfl) T.b_isinstance (by decide +kernel) (pa_cons (pv 0) (pa_cons (pe_bltnT (n := "tuple") (by rfl) T.b_tuple (by decide +kernel)) pa_nil))) (pe_one (pe_cmpR op_isN (pe_call G_wrong_row (hr.mono (by decide)) (by rfl) T.g_wrong_row T.F_wrong_row.kp T.bi_wrong_row .nil pass0 (pa_cons (pv 0) pa_nil)) pe_non (nomark _)))))), ?_⟩
    refine ev_isi (ev_var rfl) (.base (.tup hp)) kit_tt _ ⟨true, rfl, _, rfl, p, rfl, hp, fun H1 s1 => ⟨rfl, k _ s1⟩⟩
end
end W06

set_option Elab.async false
set_option linter.all false
set_option maxRecDepth 100000
set_option maxHeartbeats 4000000
namespace W06
open PySem PySem.Spec PyProof.Rows L2 WXG WEv WRd WLf WEn WZs WRu WSt StX WDc
/-! ### plans -/
abbrev CW (K : PySem.W.Frag) : Addr := He.ga K "WorkerPlan"
abbrev CS (K : PySem.W.Frag) : Addr := He.ga K "SupervisorPlan"
def WD.own (d : WD) (s : Addr) : List V := [.str d.name, .str d.word, .int d.b, .int d.e, limV d.lim, .int d.r, .ref s]
def SD.own (d : SD) : List V := [.str d.name, .str d.word, .str d.way, .int d.most, .int d.span, limV d.lim]
def WIns (K : PySem.W.Frag) (dx q : Addr) : HO := .ins (CW K) dx [("own_settings", .ref q), ("own_count", .int 1), ("own_depth", .int 1)]
def SIns (K : PySem.W.Frag) (dx q c : Addr) (n k : Int) : HO := .ins (CS K) dx [("own_settings", .ref q), ("own_children", .ref c), ("own_count", .int n), ("own_depth", .int k)]
def PW (K : PySem.W.Frag) (d : WD) : HP V := fun v H => ∃ a dx q s, v = .ref a ∧ H a = some (WIns K dx q) ∧ H q = some (.tup (d.own s)) ∧ H s = some (.tup [])
def PAt (K : PySem.W.Frag) : (n : Nat) → Told n → HP V
  | 0, _ => fun _ _ => False
  | n + 1, t => match (show WD ⊕ (SD × List (Told n)) from t) with
    | .inl d => PW K d
    | .inr x => fun v H => ∃ (a dx q c : Addr) (k : Nat) (ys : List V), v = .ref a ∧ H a = some (SIns K dx q c (1 + (x.2.map (Told.size n)).sum : Nat) k) ∧ H q = some (.tup x.1.own) ∧ H c = some (.tup ys) ∧ k ≤ n + 1 ∧ Fa (x.2.map (PAt K n)) ys H
theorem kp_ins {H H' : Hp} {a C dx : Addr} {fs : List (Str × V)} (s : Kp H H') (h : H a = some (.ins C dx fs)) : H' a = some (.ins C dx fs) := s _ _ h (fun _ z => nomatch z) (fun _ z => nomatch z)
theorem kp_tup {H H' : Hp} {a : Addr} {xs : List V} (s : Kp H H') (h : H a = some (.tup xs)) : H' a = some (.tup xs) := s _ _ h (fun _ z => nomatch z) (fun _ z => nomatch z)
theorem mk_pw {K : PySem.W.Frag} {d : WD} : MnK (PW K d) := fun _ _ _ s ⟨a, dx, q, x, e, h1, h2, h3⟩ => ⟨a, dx, q, x, e, kp_ins s h1, kp_tup s h2, kp_tup s h3⟩
theorem mk_pat {K : PySem.W.Frag} : ∀ (n : Nat) (t : Told n), MnK (PAt K n t)
  | 0, _ => fun _ _ _ _ h => h.elim
  | n + 1, t => by
    cases t with
    | inl d => exact mk_pw
    | inr x =>
      intro v H H' s h
      obtain ⟨a, dx, q, c, k, ys, e, h1, h2, h3, h4, h5⟩ := h
      exact ⟨a, dx, q, c, k, ys, e, kp_ins s h1, kp_tup s h2, kp_tup s h3, h4, fa_kp (fun P hP => by
        obtain ⟨t, _, rfl⟩ := List.mem_map.mp hP
        exact mk_pat n t) s h5⟩
theorem mk_pats {K : PySem.W.Frag} {n : Nat} {ts : List (Told n)} : ∀ P ∈ ts.map (PAt K n), MnK P := fun P hP => by
  obtain ⟨t, _, rfl⟩ := List.mem_map.mp hP
  exact mk_pat n t
theorem pat_len {K : PySem.W.Frag} {n : Nat} {ts : List (Told n)} {ys : List V} {H : Hp} (h : Fa (ts.map (PAt K n)) ys H) : ys.length = ts.length := by
  have := h.len
  rwa [List.length_map] at this
theorem pat_get {K : PySem.W.Frag} {n : Nat} {ts : List (Told n)} {ys : List V} {H : Hp} (h : Fa (ts.map (PAt K n)) ys H) {i : Nat} {x : V} (hx : ys[i]? = some x) : ∃ t, ts[i]? = some t ∧ PAt K n t x H := by
  obtain ⟨t, ht⟩ : ∃ t, ts[i]? = some t := by
    have := (List.getElem?_eq_some_iff.mp hx).1
    rw [pat_len h] at this
    exact ⟨_, List.getElem?_eq_getElem this⟩
  obtain ⟨x', e, px⟩ := h.get (n := i) (P := PAt K n t) (by rw [List.getElem?_map, ht]; rfl)
  rw [hx] at e
  cases e
  exact ⟨t, ht, px⟩
/-- a plan's own count and levels, its class -/
theorem pat_cd {K : PySem.W.Frag} : ∀ (n : Nat) (t : Told n) {v : V} {H : Hp}, PAt K n t v H → ∃ (a C dx : Addr) (fs : List (Str × V)) (k : Nat), v = .ref a ∧ H a = some (.ins C dx fs) ∧ (C = CW K ∨ C = CS K) ∧ fs.lookup ("own_count" : Str) = some (V.int (Told.size n t : Nat)) ∧ fs.lookup ("own_depth" : Str) = some (V.int k) ∧ k ≤ n
  | 0, _, _, _, h => h.elim
  | n + 1, .inl d, _, _, h => by
    obtain ⟨a, dx, q, x, e, h1, h2, h3⟩ := h
    exact ⟨a, _, dx, _, 1, e, h1, .inl rfl, rfl, rfl, by omega⟩
  | n + 1, .inr (d, ts), _, _, h => by
    obtain ⟨a, dx, q, c, k, ys, e, h1, h2, h3, h4, h5⟩ := h
    exact ⟨a, _, dx, _, k, e, h1, .inr rfl, rfl, rfl, h4⟩
def InitEnd (x : Addr) (H : Hp) (o : HO) (H' : Hp) : Prop := (∀ b u, H b = some u → b ≠ x → H' b = some u) ∧ H' x = some o
def spWInit (K : PySem.W.Frag) : Sp := fun vs H Q _ => ∃ (x dx s : Addr) (d : WD), vs = .ref x :: d.own s ∧ d.Ok ∧ H x = some (.ins (CW K) dx []) ∧ H s = some (.tup []) ∧ ∀ q H', InitEnd x H (WIns K dx q) H' → H' q = some (.tup (d.own s)) → Q .non H'
def spSInit (K : PySem.W.Frag) (n : Nat) : Sp := fun vs H Q _ => ∃ (x dx c : Addr) (d : SD) (ts : List (Told n)) (ys : List V), vs = .ref x :: (d.own ++ [.ref c]) ∧ d.Ok ∧ ts.length ≤ 12 ∧ n ≤ 19 ∧ (ts.map (Told.size n)).sum ≤ 100 ∧ H x = some (.ins (CS K) dx []) ∧ H c = some (.tup ys) ∧ Fa (ts.map (PAt K n)) ys H ∧
  ∀ q (k : Nat) H', k ≤ n + 1 → InitEnd x H (SIns K dx q c (1 + (ts.map (Told.size n)).sum : Nat) k) H' → H' q = some (.tup d.own) → Q .non H'
section
variable {K : PySem.W.Frag} {σ : L2.St} {H0 H : Hp} {te : TE} {D : Ends} {l : Addr} {xs : List V}
theorem g_req {s : Str} (h : G te σ H (Is (.bl true))) : G (tTup (tCons (tC (.str s)) (tCons te tNil))) σ H ReqRow := ⟨fun H1 e Q q => h.ev H1 e _ fun x H2 s2 px => by
  cases px
  exact ⟨(by decide : 2 ≤ sizeLine), fun p hp => q _ _ (s2.trans (same_new hp)) ⟨p, s, rfl, upd_same⟩⟩, mk_req.mn⟩
/-- rows.append((.., True)), rows a new list -/
theorem st_appR {i : Nat} (s0 : Same H0 H) (hn : H0 l = none) (h0 : σ[i]? = some (some (.ref l))) (hl : H l = some (.lst xs)) (hx : ∀ x ∈ xs, ReqRow x H) (len : xs.length ≤ 20) (h : G te σ H0 ReqRow)
    (k : ∀ H1 ys, Same H0 H1 → H1 l = some (.lst ys) → (∀ x ∈ ys, ReqRow x H1) → ys.length = xs.length + 1 → D.nx σ H1) : tDrop (tBM K "list" rAppend (tVar i) (tCons te tNil)) D σ H := by
  refine ⟨_, h0, .inl ⟨rfl, _, .of hl⟩, h.ev H s0 _ fun y H2 s2 py => ?_⟩
  refine ⟨l, xs, y, rfl, rfl, s2 _ _ hl, Nat.lt_of_le_of_lt len (by decide), ?_⟩
  have kp : Kp H2 (upd H2 l (.lst (xs ++ [y]))) := Kp.lst (s2 _ _ hl)
  refine k _ (xs ++ [y]) (same_put (s0.trans s2) hn) upd_same (fun x hm => ?_) (by simp)
  rcases List.mem_append.mp hm with hm | hm
  · exact mk_req _ _ _ ((Kp.same s2).trans kp) (hx x hm)
  · cases List.mem_singleton.mp hm
    exact mk_req _ _ _ kp py
/-- rows = [(.., True), (.., True)] -/
theorem st_rows {i : Nat} {ta tb : TE} (ha : G ta σ H ReqRow) (hb : G tb σ H ReqRow) (k : ∀ l ys H1, Same H H1 → H l = none → H1 l = some (.lst ys) → (∀ x ∈ ys, ReqRow x H1) → ys.length = 2 → D.nx (σ.set i (some (.ref l))) H1) :
    tAsg (tLst (tCons ta (tCons tb tNil))) (gName i) D σ H := by
  refine ha.ev H (Same.refl _) _ fun v1 H1 s1 p1 => hb.ev H1 s1 _ fun v2 H2 s2 p2 => ⟨(by decide : 2 ≤ sizeLine), fun l hl => ?_⟩
  have s12 := s1.trans s2
  refine k l _ _ (s12.trans (same_new hl)) (Same.free s12 hl) upd_same (fun x hx => ?_) rfl
  simp only [List.mem_cons, List.not_mem_nil, or_false] at hx
  rcases hx with rfl | rfl
  · exact mk_req.mn _ _ _ (s2.trans (same_new hl)) p1
  · exact mk_req.mn _ _ _ (same_new hl) p2
/-- self.f = v at a new object -/
theorem st_fld {ta tv : TE} {x C dx : Addr} {fs : List (Str × V)} {f : Str} {v : V} (hv : Ev tv σ H v) (ha : Ev ta σ H (.ref x)) (hx : H x = some (.ins C dx fs)) (hc : Cls K C) (hn : NoAttr K C f) (hl : fs.length < 1000) (k : D.nx σ (upd H x (.ins C dx (putF f v fs)))) : sFld K ta tv f D σ H :=
  hv _ (ha _ ⟨x, C, dx, fs, rfl, hx, hc, hn, hl, k⟩)
end
theorem evb_cmpF {σ : L2.St} {H : Hp} {ta tb : TE} {i j : Int} {b : Bool} {g : Int → Int → Bool} (ha : Ev ta σ H (.int i)) (hb : Ev tb σ H (.int j)) (h : g i j = b) : EvB (tTest (tOp (rI0 fun i j => .bl (g i j)) ta tb)) σ H b := fun Q q => ha _ (hb _ ⟨i, j, rfl, rfl, b, congrArg V.bl h, q⟩)
theorem tyx_w {K : PySem.W.Frag} {mg : Str → Option Value} (T : Env K mg) {H : Hp} {a dx : Addr} {fs : List (Str × V)} (h : H a = some (.ins (CW K) dx fs)) : TyX K H (.ref a) (.ref (CW K)) := .base (.ins h T.dc_WorkerPlan.cls T.dc_WorkerPlan.ca T.dc_WorkerPlan.cn T.dc_WorkerPlan.ct T.dc_WorkerPlan.ob)
theorem tyx_s {K : PySem.W.Frag} {mg : Str → Option Value} (T : Env K mg) {H : Hp} {a dx : Addr} {fs : List (Str × V)} (h : H a = some (.ins (CS K) dx fs)) : TyX K H (.ref a) (.ref (CS K)) := .base (.ins h T.dc_SupervisorPlan.cls T.dc_SupervisorPlan.ca T.dc_SupervisorPlan.cn T.dc_SupervisorPlan.ct T.dc_SupervisorPlan.ob)
theorem inv_word {z : Str} (h : WordOk z) : inV (.str z) [.str "permanent", .str "transient", .str "temporary"] = true := by
  rcases h with rfl | rfl | rfl <;> decide
theorem inv_way {z : Str} (h : WayOk z) : inV (.str z) [.str "one", .str "rest", .str "all"] = true := by
  rcases h with rfl | rfl | rfl <;> decide
section
variable {P : Program} {w : World} {K : PySem.W.Frag} {mg : Str → Option Value} {base : Heap}
theorem ok_winit (T : Env K mg) : FnOk P w K mg base CX0 3 (d_WorkerPlan__init.loc K) T.fd_WorkerPlan__init ["self", "name", "restart", "opening", "closing", "deadline", "refused", "script"] (spWInit K) := by
  have G_is_name : FnOk P w K mg base CX0 2 _ _ _ _ := ok_is_name T
  have G_is_one_of : FnOk P w K mg base CX0 1 _ _ _ _ := ok_is_one_of T
  have G_is_between : FnOk P w K mg base CX0 1 _ _ _ _ := ok_is_between T
  have G_is_deadline : FnOk P w K mg base CX0 2 _ _ _ _ := ok_is_deadline T
  have G_is_script : FnOk P w K mg base CX0 2 _ _ _ _ := ok_is_script T
  have G_require : FnOk P w K mg base CX0 1 _ _ _ _ := ok_require T
  refine T.F_WorkerPlan__init.ok sc_WorkerPlan__init (fun vs H Q E h => ?_) (fun cdv A outer s H vs Q E hr h => ?_)
  · obtain ⟨x, dx, s, d, rfl, _⟩ := h
    rfl
  · have nd := sc_WorkerPlan__init.nd
    have hu := hu_of hr
    obtain ⟨x, dx, s, d, rfl, hok, hx, hs, k⟩ := h
    obtain ⟨o1, o2, o3, o4, o5, o6, o7⟩ := hok
    refine ⟨_, PSs.nox (pss_cons (ps_set (i := 8) nd rfl (Or.inl rfl) (pe_lst (pa_cons (pe_tup (pa_cons pe_str (pa_cons (pe_call G_is_name (hr.mono (by decide)) (by rfl) T.g_is_name T.F_is_name.kp T.bi_is_name .nil pass0 (pa_cons (pv 1) pa_nil)) pa_nil))) (pa_cons (pe_tup (pa_cons pe_str (pa_cons (pe_call G_is_one_of (hr.mono (by decide)) (by rfl) T.g_is_one_of T.F_is_one_of.kp T.bi_is_one_of .nil pass0 (pa_cons (pv 2) (pa_cons (pe_globR (by rfl) T.g_RESTARTS) pa_nil))) pa_nil))) pa_nil))))
 (pss_cons (ps_expr (pe_bm PySem.F.plainAttrs_list PySem.F.slot_list_append PySem.F.type_list_append mt_append (pv 8) (pa_cons (pe_tup (pa_cons pe_str (pa_cons (pe_call G_is_between (hr.mono (by decide)) (by rfl) T.g_is_between T.F_is_between.kp T.bi_is_between .nil pass0 (pa_cons (pv 3) (pa_cons pe_int (pa_cons (C8.pe_gc (by rfl) T.c_MOST_WAIT) pa_nil)))) pa_nil))) pa_nil)))
 (pss_cons (ps_expr (pe_bm PySem.F.plainAttrs_list PySem.F.slot_list_append PySem.F.type_list_append mt_append (pv 8) (pa_cons (pe_tup (pa_cons pe_str (pa_cons (pe_call G_is_between (hr.mono (by decide)) (by rfl) T.g_is_between T.F_is_between.kp T.bi_is_between .nil pass0 (pa_cons (pv 4) (pa_cons pe_int (pa_cons (C8.pe_gc (by rfl) T.c_MOST_WAIT) pa_nil)))) pa_nil))) pa_nil)))
 (pss_cons (ps_expr (pe_bm PySem.F.plainAttrs_list PySem.F.slot_list_append PySem.F.type_list_append mt_append (pv 8) (pa_cons (pe_tup (pa_cons pe_str (pa_cons (pe_call G_is_deadline (hr.mono (by decide)) (by rfl) T.g_is_deadline T.F_is_deadline.kp T.bi_is_deadline .nil pass0 (pa_cons (pv 5) pa_nil)) pa_nil))) pa_nil)))
 (pss_cons (ps_expr (pe_bm PySem.F.plainAttrs_list PySem.F.slot_list_append PySem.F.type_list_append mt_append (pv 8) (pa_cons (pe_tup (pa_cons pe_str (pa_cons (pe_call G_is_between (hr.mono (by decide)) (by rfl) T.g_is_between T.F_is_between.kp T.bi_is_between .nil pass0 (pa_cons (pv 6) (pa_cons pe_int (pa_cons pe_int pa_nil)))) pa_nil))) pa_nil)))
 (pss_cons (ps_expr (pe_bm PySem.F.plainAttrs_list PySem.F.slot_list_append PySem.F.type_list_append mt_append (pv 8) (pa_cons (pe_tup (pa_cons pe_str (pa_cons (pe_call G_is_script (hr.mono (by decide)) (by rfl) T.g_is_script T.F_is_script.kp T.bi_is_script .nil pass0 (pa_cons (pv 7) pa_nil)) pa_nil))) pa_nil)))
 (pss_cons (ps_expr (pe_call G_require (hr.mono (by decide)) (by rfl) T.g_require T.F_require.kp T.bi_require .nil pass0 (pa_cons (pv 8) pa_nil)))
 (pss_cons (ps_fld (pv 0) (pe_tup (pa_cons (pv 1) (pa_cons (pv 2) (pa_cons (pv 3) (pa_cons (pv 4) (pa_cons (pv 5) (pa_cons (pv 6) (pa_cons (pv 7) pa_nil)))))))) rfl)
 (pss_cons (ps_fld (pv 0) pe_int rfl)
 (pss_one (ps_fld (pv 0) pe_int rfl))))))))))), ?_⟩
    have btw : ∀ (i lo hi : Int) (H1 : Hp) (Q : VK), lo ≤ i → i ≤ hi → (∀ v H2, Same H1 H2 → Is (.bl true) v H2 → Q v H2) → spBetween [.int i, .int lo, .int hi] H1 Q E0 := fun i lo hi H1 Q h1 h2 q => ⟨i, lo, hi, rfl, h1, h2, q _ _ (Same.refl _) rfl⟩
    refine st_rows (g_req (s := "name") (g_callL (sp := spTrue1) (E := E0) (vs := [.str d.name]) (fun H1 _ => evl_cons (ev_var rfl) evl_nil) (fun H1 s Q q => ⟨d.name, rfl, o1, fun H' s' => q _ _ s' rfl⟩) mn_i))
      (g_req (s := "restart") (g_callL (sp := spOneOf K) (E := E0) (vs := [.str d.word, .ref (He.ga K "RESTARTS")]) (fun H1 _ => evl_cons (ev_var rfl) (evl_cons ev_c evl_nil)) (fun H1 s Q q => ⟨d.word, _, _, rfl, T.q_RESTARTS _, rfl, inv_word o2, q _ _ (Same.refl _) rfl⟩) mn_i)) fun l ys H3 sn hn el rq n3 => ?_
    dsimp only
    show tSeq _ _ _ _ _
    refine st_appR sn hn rfl el rq (by rw [n3]; decide) (g_req (g_callL (sp := spBetween) (E := E0) (vs := [.int d.b, .int 0, .int 1000000000]) (fun H1 _ => evl_cons (ev_var rfl) (evl_cons ev_c (evl_cons ev_c evl_nil))) (fun H1 s Q q => btw _ _ _ _ _ o3.1 o3.2 q) mn_i)) fun H4 xs4 s4 el4 rq4 n4 => ?_
    refine st_appR s4 hn rfl el4 rq4 (by rw [n4, n3]; decide) (g_req (g_callL (sp := spBetween) (E := E0) (vs := [.int d.e, .int 0, .int 1000000000]) (fun H1 _ => evl_cons (ev_var rfl) (evl_cons ev_c (evl_cons ev_c evl_nil))) (fun H1 s Q q => btw _ _ _ _ _ o4.1 o4.2 q) mn_i)) fun H5 xs5 s5 el5 rq5 n5 => ?_
    refine st_appR s5 hn rfl el5 rq5 (by rw [n5, n4, n3]; decide) (g_req (g_callL (sp := spDeadline) (E := E0) (vs := [limV d.lim]) (fun H1 _ => evl_cons (ev_var rfl) evl_nil) (fun H1 s Q q => ⟨d.lim, rfl, o5, q _ _ (Same.refl _) rfl⟩) mn_i)) fun H6 xs6 s6 el6 rq6 n6 => ?_
    refine st_appR s6 hn rfl el6 rq6 (by rw [n6, n5, n4, n3]; decide) (g_req (g_callL (sp := spBetween) (E := E0) (vs := [.int d.r, .int 0, .int 100]) (fun H1 _ => evl_cons (ev_var rfl) (evl_cons ev_c (evl_cons ev_c evl_nil))) (fun H1 s Q q => btw _ _ _ _ _ o6 o7 q) mn_i)) fun H7 xs7 s7 el7 rq7 n7 => ?_
    refine st_appR s7 hn rfl el7 rq7 (by rw [n7, n6, n5, n4, n3]; decide) (g_req (g_callL (sp := spNoScript (.bl true)) (E := E0) (vs := [.ref s]) (fun H1 _ => evl_cons (ev_var rfl) evl_nil) (fun H1 s Q q => ⟨_, rfl, s _ _ hs, fun H' s' => q _ _ s' rfl⟩) mn_i)) fun H8 xs8 s8 el8 rq8 n8 => ?_
    refine ⟨_, rfl, l, xs8, rfl, el8, rq8, ?_⟩
    refine ⟨_, rfl, _, rfl, _, rfl, _, rfl, _, rfl, _, rfl, _, rfl, (by decide : 7 ≤ sizeLine), fun q hq => ?_⟩
    have hx8 := s8 _ _ hx
    have xq : x ≠ q := fun z => by rw [← z, hx8] at hq; cases hq
    have sq : Same H (upd H8 q (.tup (d.own s))) := s8.trans (same_new hq)
    have eq8 : upd H8 q (.tup (d.own s)) q = some (.tup (d.own s)) := upd_same
    refine ⟨_, rfl, x, CW K, dx, [], rfl, sq _ _ hx, T.dc_WorkerPlan.cls, T.n_WorkerPlan_own_settings, (by decide : 0 < 1000), ?_⟩
    refine ⟨_, rfl, x, CW K, dx, [("own_settings", .ref q)], rfl, upd_same, T.dc_WorkerPlan.cls, T.n_WorkerPlan_own_count, (by decide : 1 < 1000), ?_⟩
    refine ⟨_, rfl, x, CW K, dx, [("own_settings", .ref q), ("own_count", .int 1)], rfl, upd_same, T.dc_WorkerPlan.cls, T.n_WorkerPlan_own_depth, (by decide : 2 < 1000), ?_⟩
    refine k q _ ⟨fun b u hb ne => ?_, upd_same⟩ ?_
    · rw [upd_ne ne, upd_ne ne, upd_ne ne]
      exact sq _ _ hb
    · rw [upd_ne (Ne.symm xq), upd_ne (Ne.symm xq), upd_ne (Ne.symm xq)]
      exact eq8
theorem ok_sinit (T : Env K mg) (n : Nat) {fa : Addr} {cdv : Value} (A : Around) (outer : List PySem.Env) (s : Shared) (H : Hp) (vs : List V) (Q : VK) (E : XK) (hr : Room 2 (A.deeper (envOfC d_SupervisorPlan__init.qual d_SupervisorPlan__init.scope s.heap.objs.size fa cdv))) (h : spSInit K n vs H Q E) :
    ∃ t, PSs (cxOf CX0 P w K mg base ["self", "name", "restart", "strategy", "most", "span", "deadline", "children", "rows", "count", "depth", "index", "child"] d_SupervisorPlan__init.qual d_SupervisorPlan__init.scope fa cdv A outer s H E) d_SupervisorPlan__init.body t ∧ t { nx := fun _ H' => Q .non H', rt := Q } (start ["self", "name", "restart", "strategy", "most", "span", "deadline", "children", "rows", "count", "depth", "index", "child"] vs) H := by
  have G_is_name : FnOk P w K mg base CX0 2 _ _ _ _ := ok_is_name T
  have G_is_one_of : FnOk P w K mg base CX0 1 _ _ _ _ := ok_is_one_of T
  have G_is_between : FnOk P w K mg base CX0 1 _ _ _ _ := ok_is_between T
  have G_is_deadline : FnOk P w K mg base CX0 2 _ _ _ _ := ok_is_deadline T
  have G_require : FnOk P w K mg base CX0 1 _ _ _ _ := ok_require T
  have nd := sc_SupervisorPlan__init.nd
  have hu := hu_of hr
  obtain ⟨x, dx, c, d, ts, ys, rfl, hok, hts, hn15, hsz, hx, hc, fa, k⟩ := h
  obtain ⟨o1, o2, o3, o4, o5, o6, o7, o8⟩ := hok
  refine ⟨_, PSs.nox (pss_cons (ps_set (i := 8) nd rfl (Or.inl rfl) (pe_lst (pa_cons (pe_tup (pa_cons pe_str (pa_cons (pe_call G_is_name (hr.mono (by decide)) (by rfl) T.g_is_name T.F_is_name.kp T.bi_is_name .nil pass0 (pa_cons (pv 1) pa_nil)) pa_nil))) (pa_cons (pe_tup (pa_cons pe_str (pa_cons (pe_call G_is_one_of (hr.mono (by decide)) (by rfl) T.g_is_one_of T.F_is_one_of.kp T.bi_is_one_of .nil pass0 (pa_cons (pv 2) (pa_cons (pe_globR (by rfl) T.g_RESTARTS) pa_nil))) pa_nil))) pa_nil))))
 (pss_cons (ps_expr (pe_bm PySem.F.plainAttrs_list PySem.F.slot_list_append PySem.F.type_list_append mt_append (pv 8) (pa_cons (pe_tup (pa_cons pe_str (pa_cons (pe_call G_is_one_of (hr.mono (by decide)) (by rfl) T.g_is_one_of T.F_is_one_of.kp T.bi_is_one_of .nil pass0 (pa_cons (pv 3) (pa_cons (pe_globR (by rfl) T.g_STRATEGIES) pa_nil))) pa_nil))) pa_nil)))
 (pss_cons (ps_expr (pe_bm PySem.F.plainAttrs_list PySem.F.slot_list_append PySem.F.type_list_append mt_append (pv 8) (pa_cons (pe_tup (pa_cons pe_str (pa_cons (pe_call G_is_between (hr.mono (by decide)) (by rfl) T.g_is_between T.F_is_between.kp T.bi_is_between .nil pass0 (pa_cons (pv 4) (pa_cons pe_int (pa_cons pe_int pa_nil)))) pa_nil))) pa_nil)))
 (pss_cons (ps_expr (pe_bm PySem.F.plainAttrs_list PySem.F.slot_list_append PySem.F.type_list_append mt_append (pv 8) (pa_cons (pe_tup (pa_cons pe_str (pa_cons (pe_call G_is_between (hr.mono (by decide)) (by rfl) T.g_is_between T.F_is_between.kp T.bi_is_between .nil pass0 (pa_cons (pv 5) (pa_cons pe_int (pa_cons (C8.pe_gc (by rfl) T.c_MOST_WAIT) pa_nil)))) pa_nil))) pa_nil)))
 (pss_cons (ps_expr (pe_bm PySem.F.plainAttrs_list PySem.F.slot_list_append PySem.F.type_list_append mt_append (pv 8) (pa_cons (pe_tup (pa_cons pe_str (pa_cons (pe_call G_is_deadline (hr.mono (by decide)) (by rfl) T.g_is_deadline T.F_is_deadline.kp T.bi_is_deadline .nil pass0 (pa_cons (pv 6) pa_nil)) pa_nil))) pa_nil)))
 (pss_cons (ps_expr (pe_call G_require (hr.mono (by decide)) (by rfl) T.g_require T.F_require.kp T.bi_require .nil pass0 (pa_cons (pv 8) pa_nil)))
 (pss_cons (ps_asg (pe_tup (pa_cons pe_int (pa_cons pe_int pa_nil))) (pg_tup rfl (pgs_cons (pg_name (i := 9) nd rfl (Or.inl rfl)) (pgs_cons (pg_name (i := 10) nd rfl (Or.inl rfl)) pgs_nil))))
 (pss_cons (ps_for PassesOwn.never rfl (pi_enumT (by rfl) T.b_enumerate (pa_cons (pv 7) pa_nil)) (pg_tup rfl (pgs_cons (pg_name (i := 11) nd rfl (Or.inl rfl)) (pgs_cons (pg_name (i := 12) nd rfl (Or.inl rfl)) pgs_nil)))
  (pss_cons (ps_if (PW.pt (pw_or (pt_not (pt_val (pe_callB (isiK (K := K)) (by rfl) T.b_isinstance (by decide +kernel) (pa_cons (pv 12) (pa_cons (pe_globR (by rfl) T.g_Plan) pa_nil))))) (pw_or1 (pt_cmpR op_ge (pv 11) (C8.pe_gc (by rfl) T.c_MOST_CHILDREN) (nomark _)))))
  (pss_one ps_dead)
  pss_nil)
 (pss_cons (ps_par (i := 9) (j := 10) (by rfl) nd rfl rfl (by decide) rfl rfl (pa_cons (pe_op op_add (pv 9) (pe_fld (pv 12) rfl)) (pa_cons (pe_callB (call_max2 rfl) (by rfl) T.b_max (by decide +kernel) (pa_cons (pv 10) (pa_cons (pe_op op_add (pe_fld (pv 12) rfl) pe_int) pa_nil))) pa_nil)) (by rfl))
 (pss_one (ps_if (PW.pt (pw_or (pt_cmpR op_gt (pv 9) (C8.pe_gc (by rfl) T.c_MOST_WHOLE) (nomark _)) (pw_or1 (pt_cmpR op_gt (pv 10) (C8.pe_gc (by rfl) T.c_MOST_DEPTH) (nomark _)))))
  (pss_one ps_dead)
  pss_nil)))))
 (pss_cons (ps_fld (pv 0) (pe_tup (pa_cons (pv 1) (pa_cons (pv 2) (pa_cons (pv 3) (pa_cons (pv 4) (pa_cons (pv 5) (pa_cons (pv 6) pa_nil))))))) rfl)
 (pss_cons (ps_fld (pv 0) (pv 7) rfl)
 (pss_cons (ps_fld (pv 0) (pv 9) rfl)
 (pss_one (ps_fld (pv 0) (pv 10) rfl))))))))))))), ?_⟩
  have btw : ∀ (i lo hi : Int) (H1 : Hp) (Q : VK), lo ≤ i → i ≤ hi → (∀ v H2, Same H1 H2 → Is (.bl true) v H2 → Q v H2) → spBetween [.int i, .int lo, .int hi] H1 Q E0 := fun i lo hi H1 Q h1 h2 q => ⟨i, lo, hi, rfl, h1, h2, q _ _ (Same.refl _) rfl⟩
  refine st_rows (g_req (s := "name") (g_callL (sp := spTrue1) (E := E0) (vs := [.str d.name]) (fun H1 _ => evl_cons (ev_var rfl) evl_nil) (fun H1 s Q q => ⟨d.name, rfl, o1, fun H' s' => q _ _ s' rfl⟩) mn_i))
    (g_req (s := "restart") (g_callL (sp := spOneOf K) (E := E0) (vs := [.str d.word, .ref (He.ga K "RESTARTS")]) (fun H1 _ => evl_cons (ev_var rfl) (evl_cons ev_c evl_nil)) (fun H1 s Q q => ⟨d.word, _, _, rfl, T.q_RESTARTS _, rfl, inv_word o2, q _ _ (Same.refl _) rfl⟩) mn_i)) fun l xs3 H3 s3 hn el3 rq3 n3 => ?_
  dsimp only
  show tSeq _ _ _ _ _
  refine st_appR s3 hn rfl el3 rq3 (by rw [n3]; decide) (g_req (s := "strategy") (g_callL (sp := spOneOf K) (E := E0) (vs := [.str d.way, .ref (He.ga K "STRATEGIES")]) (fun H1 _ => evl_cons (ev_var rfl) (evl_cons ev_c evl_nil)) (fun H1 s Q q => ⟨d.way, _, _, rfl, T.q_STRATEGIES _, rfl, inv_way o3, q _ _ (Same.refl _) rfl⟩) mn_i)) fun H4 xs4 s4 el4 rq4 n4 => ?_
  refine st_appR s4 hn rfl el4 rq4 (by rw [n4, n3]; decide) (g_req (g_callL (sp := spBetween) (E := E0) (vs := [.int d.most, .int 0, .int 20]) (fun H1 _ => evl_cons (ev_var rfl) (evl_cons ev_c (evl_cons ev_c evl_nil))) (fun H1 s Q q => btw _ _ _ _ _ o4 o5 q) mn_i)) fun H5 xs5 s5 el5 rq5 n5 => ?_
  refine st_appR s5 hn rfl el5 rq5 (by rw [n5, n4, n3]; decide) (g_req (g_callL (sp := spBetween) (E := E0) (vs := [.int d.span, .int 1, .int 1000000000]) (fun H1 _ => evl_cons (ev_var rfl) (evl_cons ev_c (evl_cons ev_c evl_nil))) (fun H1 s Q q => btw _ _ _ _ _ o6 o7 q) mn_i)) fun H6 xs6 s6 el6 rq6 n6 => ?_
  refine st_appR s6 hn rfl el6 rq6 (by rw [n6, n5, n4, n3]; decide) (g_req (g_callL (sp := spDeadline) (E := E0) (vs := [limV d.lim]) (fun H1 _ => evl_cons (ev_var rfl) evl_nil) (fun H1 s Q q => ⟨d.lim, rfl, o8, q _ _ (Same.refl _) rfl⟩) mn_i)) fun H8 xs8 s8 el8 rq8 n8 => ?_
  refine ⟨_, rfl, l, xs8, rfl, el8, rq8, ?_⟩
  clear el3 rq3 el4 rq4 el5 rq5 el6 rq6 el8 rq8 s3 s4 s5 s6
  refine ⟨(by decide : 2 ≤ sizeLine), fun p hp => ?_⟩
  refine ⟨p, _, rfl, .of upd_same, rfl, _, _, rfl, _, _, rfl, rfl, ?_⟩
  have s9 : Same H (upd H8 p (.tup [.int 1, .int 1])) := s8.trans (same_new hp)
  generalize upd H8 p (.tup [.int 1, .int 1]) = H9 at s9 ⊢
  have yl := pat_len fa
  refine ⟨_, rfl, c, ys, rfl, .of (s9 _ _ hc), ?_⟩
  show ∃ W, _
  refine for_it (walk_enumC (K := K) (t := true) (c := 0) (a := c) (xs := ys)) (fun i σ H' => Same H H' ∧ ∃ (a11 a12 : Option V) (kk : Nat), kk ≤ n + 1 ∧ σ = [some (.ref x), some (.str d.name), some (.str d.word), some (.str d.way), some (.int d.most), some (.int d.span), some (limV d.lim), some (.ref c), some (.ref l), some (.int (1 + ((ts.take i).map (Told.size n)).sum : Nat)), some (.int kk), a11, a12])
    ⟨s9, none, none, 1, by omega, rfl⟩ (fun i σ H' _ q => (show SqT K H' c ys from .of (q.1 _ _ hc))) (fun i y σ H1 H2 hi q yy => ?_) (fun σ H1 q => ?_)
  · obtain ⟨s10, a11, a12, kk, hkk, rfl⟩ := q
    obtain ⟨t0, u, g, rfl, ht0, rfl, eu, eg⟩ := yy
    cases eu
    obtain ⟨t, ht, px⟩ := pat_get fa eg
    obtain ⟨b, C, dy, fs, k2, rfl, hb, hC, l1, l2, hk2⟩ := pat_cd n t px
    have hi4 : i < 12 := by omega
    have s11 := s10.trans (same_new (o := .tup [.int (0 + (i : Nat)), .ref b]) ht0)
    refine ⟨t0, _, rfl, .of upd_same, rfl, _, _, rfl, _, _, rfl, rfl, ?_⟩
    generalize upd H1 t0 (.tup [.int (0 + (i : Nat)), .ref b]) = H2 at s11 ⊢
    have hb2 := s11 _ _ hb
    have cl : Cls K C ∧ NoAttr K C "own_count" ∧ NoAttr K C "own_depth" ∧ PySem.W.kitOne K (.ref C) (.ref (He.ga K "Plan")) = some true ∧ TyX K H2 (.ref b) (.ref C) := by
      rcases hC with rfl | rfl
      · exact ⟨T.dc_WorkerPlan.cls, T.n_WorkerPlan_own_count, T.n_WorkerPlan_own_depth, T.k_WorkerPlan_Plan, tyx_w T hb2⟩
      · exact ⟨T.dc_SupervisorPlan.cls, T.n_SupervisorPlan_own_count, T.n_SupervisorPlan_own_depth, T.k_SupervisorPlan_Plan, tyx_s T hb2⟩
    have sz : Told.size n t ≤ (ts.map (Told.size n)).sum := size_in (List.mem_of_getElem? ht)
    have e1 : ((ts.take (i + 1)).map (Told.size n)).sum = ((ts.take i).map (Told.size n)).sum + Told.size n t := by
      rw [List.take_succ, ht, List.map_append, List.sum_append]
      simp
    have sk := sum_take (Told.size n) ts (i + 1)
    refine st_no (evb_or (a := false) (evb_not (b := true) (evb_B (ev_isiC (ev_var rfl) cl.2.2.2.2 cl.2.2.2.1))) fun _ => evb_cmpF (ev_var rfl) ev_c (decide_eq_false (by omega))) ?_
    refine ⟨_, rfl, _, rfl, b, C, dy, fs, _, rfl, hb2, cl.1, cl.2.1, l1, _, _, rfl, rfl, ?_⟩
    refine ⟨_, rfl, _, rfl, b, C, dy, fs, _, rfl, hb2, cl.1, cl.2.2.1, l2, _, _, rfl, rfl, _, _, rfl, ?_⟩
    refine ⟨_, _, rfl, ?_⟩
    have ec : ((1 + ((ts.take i).map (Told.size n)).sum : Nat) : Int) + (Told.size n t : Nat) = ((1 + ((ts.take (i + 1)).map (Told.size n)).sum : Nat) : Int) := by rw [e1]; omega
    obtain ⟨k3, hk3, hk3'⟩ : ∃ k3 : Nat, (if (k2 : Int) + 1 > (kk : Int) then (k2 : Int) + 1 else kk) = (k3 : Int) ∧ k3 ≤ n + 1 := by
      split
      · exact ⟨k2 + 1, by omega, by omega⟩
      · exact ⟨kk, rfl, hkk⟩
    dsimp only
    rw [ec, hk3]
    refine st_no (evb_or (a := false) (evb_cmpF (ev_var rfl) ev_c (decide_eq_false (by omega))) fun _ => evb_cmpF (ev_var rfl) ev_c (decide_eq_false (by omega))) ?_
    exact ⟨s11, _, _, k3, hk3', rfl⟩
  · obtain ⟨s10, a11, a12, kk, hkk, rfl⟩ := q
    rw [yl, List.take_length]
    refine ⟨_, rfl, _, rfl, _, rfl, _, rfl, _, rfl, _, rfl, (by decide : 6 ≤ sizeLine), fun q hq => ?_⟩
    have hx8 := s10 _ _ hx
    have xq : x ≠ q := fun z => by rw [← z, hx8] at hq; cases hq
    have sq : Same H (upd H1 q (.tup d.own)) := s10.trans (same_new hq)
    have eq8 : upd H1 q (.tup d.own) q = some (.tup d.own) := upd_same
    refine ⟨_, rfl, x, CS K, dx, [], rfl, sq _ _ hx, T.dc_SupervisorPlan.cls, T.n_SupervisorPlan_own_settings, (by decide : 0 < 1000), ?_⟩
    refine ⟨_, rfl, _, rfl, x, CS K, dx, [("own_settings", .ref q)], rfl, upd_same, T.dc_SupervisorPlan.cls, T.n_SupervisorPlan_own_children, (by decide : 1 < 1000), ?_⟩
    refine ⟨_, rfl, _, rfl, x, CS K, dx, [("own_settings", .ref q), ("own_children", .ref c)], rfl, upd_same, T.dc_SupervisorPlan.cls, T.n_SupervisorPlan_own_count, (by decide : 2 < 1000), ?_⟩
    refine ⟨_, rfl, _, rfl, x, CS K, dx, [("own_settings", .ref q), ("own_children", .ref c), ("own_count", .int (1 + (ts.map (Told.size n)).sum : Nat))], rfl, upd_same, T.dc_SupervisorPlan.cls, T.n_SupervisorPlan_own_depth, (by decide : 3 < 1000), ?_⟩
    refine k q kk _ hkk ⟨fun b u hb ne => ?_, upd_same⟩ ?_
    · rw [upd_ne ne, upd_ne ne, upd_ne ne, upd_ne ne]
      exact sq _ _ hb
    · rw [upd_ne (Ne.symm xq), upd_ne (Ne.symm xq), upd_ne (Ne.symm xq), upd_ne (Ne.symm xq)]
      exact eq8
end
end W06

set_option Elab.async false
set_option linter.all false
set_option maxRecDepth 100000
set_option maxHeartbeats 4000000
namespace W06
open PySem PySem.Spec PyProof.Rows L2 WXG WEv WRd WLf WEn WZs WRu WSt StX WDc
section
variable {P : Program} {w : World} {K : PySem.W.Frag} {mg : Str → Option Value} {base : Heap}
theorem kb_worker (T : Env K mg) : KBn K T.fd_WorkerPlan__init ["self", "name", "restart", "opening", "closing", "deadline", "refused", "script"] 2 ["restart", "opening", "closing", "deadline", "refused", "script"] (fun us ws => us ++ ws) (fun vs zs => vs ++ zs) := by
  obtain ⟨oc, od, dV, kV, doc, pm, an, cdv, ct, osl, e, lk, hcd, hD, hK⟩ := T.F_WorkerPlan__init.ex
  obtain rfl : dV = .none := hD.elim (fun h => h.2) fun h => absurd rfl h.1
  refine ⟨fun s us ws X l1 l2 => ?_, fun r1 r2 => r1.append r2⟩
  rw [e]
  refine BindsTo.of_looks fun M => PySem.W.Looks.of_pure ?_
  match us, ws, l1, l2 with
  | [a, b], [c, d, e, f, g, h], _, _ => rfl
def spkW (K : PySem.W.Frag) : SpK := fun vs zs H Q E => vs.length = 2 ∧ spWInit K (vs ++ zs) H Q E
theorem fk_worker (T : Env K mg) : FnK P w K mg base CX0 3 (He.fAd K ("WorkerPlan", some "__init__")) ["restart", "opening", "closing", "deadline", "refused", "script"] (spkW K) :=
  FnK.of_ok (ok_winit T) (kb_worker T) fun e => e.mod.kin.keeps fun b o h => (e.bs b o h).1
def spkS (K : PySem.W.Frag) (n : Nat) : SpK := fun vs zs H Q E => ∃ as rest, vs = as ++ rest ∧ as.length = 2 ∧ rest.length ≤ sizeLine ∧ ∀ p, H p = Option.none → spSInit K n (as ++ zs ++ [V.ref p]) (upd H p (.tup rest)) Q E
theorem fk_super (T : Env K mg) (n : Nat) : FnK P w K mg base CX0 3 (He.fAd K ("SupervisorPlan", some "__init__")) ["restart", "strategy", "most", "span", "deadline"] (spkS K n) := by
  obtain ⟨oc, od, dV, kV, doc, pm, an, cdv, ct, osl, e, lk, hcd, hD, hK⟩ := T.F_SupervisorPlan__init.ex
  obtain rfl : dV = .none := hD.elim (fun h => h.2) fun h => absurd rfl h.1
  rw [e] at lk
  refine fn_starK (ps := ["self", "name"]) (ks := ["restart", "strategy", "most", "span", "deadline"]) (pv := "children") lk hcd sc_SupervisorPlan__init (fun _ _ _ _ _ _ _ _ _ _ _ h => h) (fun us rest ws l1 l2 => ?_) (fun A outer s H vs Q E hr h => ok_sinit T n A outer s H vs Q E hr h)
  match us, ws, rest, l1, l2 with
  | [a, b], [c, d, e, f, g], [], _, _ => rfl
  | [a, b], [c, d, e, f, g], r :: rs, _, _ => rfl
def WD.kvs (d : WD) (s : Addr) : List (Key × V) := [(Sum.inr "script", .ref s), (Sum.inr "name", .str d.name), (Sum.inr "restart", .str d.word), (Sum.inr "opening", .int d.b), (Sum.inr "closing", .int d.e), (Sum.inr "deadline", limV d.lim), (Sum.inr "refused", .int d.r)]
def SD.kvs (d : SD) : List (Key × V) := [(Sum.inr "name", .str d.name), (Sum.inr "restart", .str d.word), (Sum.inr "strategy", .str d.way), (Sum.inr "most", .int d.most), (Sum.inr "span", .int d.span), (Sum.inr "deadline", limV d.lim)]
def WD.made (d : WD) (s : Addr) : List (Key × V) := [(Sum.inr "restart", .str d.word), (Sum.inr "opening", .int d.b), (Sum.inr "closing", .int d.e), (Sum.inr "deadline", limV d.lim), (Sum.inr "refused", .int d.r), (Sum.inr "script", .ref s)]
def SD.made (d : SD) : List (Key × V) := [(Sum.inr "restart", .str d.word), (Sum.inr "strategy", .str d.way), (Sum.inr "most", .int d.most), (Sum.inr "span", .int d.span), (Sum.inr "deadline", limV d.lim)]
/-- the settings of a worker as a dict -/
def WV (d : WD) : HP V := fun v H => ∃ m s, v = .ref m ∧ H m = some (.dK (d.kvs s)) ∧ H s = some (.tup [])
def SV (d : SD) : HP V := fun v H => ∃ m, v = .ref m ∧ H m = some (.dK d.kvs)
theorem mn_wv {d : WD} : Mn (WV d) := fun _ _ _ s ⟨m, x, e, h1, h2⟩ => ⟨m, x, e, s _ _ h1, s _ _ h2⟩
theorem mn_sv {d : SD} : Mn (SV d) := fun _ _ _ s ⟨m, e, h1⟩ => ⟨m, e, s _ _ h1⟩
/-- made = {s: values[s] for s in SETTINGS[1:]} -/
theorem st_made {σ : L2.St} {H : Hp} {D : Ends} {i j v : Nat} {m S : Addr} {kvs kvs2 : List (Key × V)} {xs : List V} {ns : List Str} (hS : ∀ H, SqT K H S xs) (hc : ¬ (HT.sIx xs.length 0 (some 1) = 0 ∧ HT.sIx xs.length xs.length none = xs.length)) (hcut : cutV xs (some 1) none = ns.map V.str)
    (h0 : ∀ x, ((σ.set v none).set v (some x))[j]? = some (some (.ref m))) (hv : ∀ x, ((σ.set v none).set v (some x))[v]? = some (some x)) (hm : H m = some (.dK kvs)) (hl : kvs2.length = ns.length) (hz : kvs2.length ≤ 100)
    (hp : ∀ i n, ns[i]? = some n → ∃ x, valV kvs (Sum.inr n) = some x ∧ putK (kvs2.take i) (Sum.inr n) x = kvs2.take (i + 1))
    (k : ∀ dm H1, Same H H1 → H1 dm = some (.dK kvs2) → D.nx (σ.set i (some (.ref dm))) H1) :
    tAsg (tDc (iTup K (tSl (rSlT K) (tC (.ref S)) (tPart (tC (.int 1))) tNoPart)) (gName v) tYes (tVar v) (tDGet (tVar j) (tVar v)) [v]) (gName i) D σ H := by
  refine ⟨1, rfl, S, xs, rfl, hS _, hc, fun r hr => ?_⟩
  rw [hcut]
  have s1 : Same H (upd H r (.tup (ns.map V.str))) := same_new hr
  have er : upd H r (.tup (ns.map V.str)) r = some (.tup (ns.map V.str)) := upd_same
  generalize upd H r (.tup (ns.map V.str)) = H1 at s1 er ⊢
  refine ⟨r, rfl, ⟨_, .of er⟩, fun Dd hD => ?_⟩
  show ∃ W, _
  refine dc_tup (xs := ns.map V.str) (fun i H' => Same H1 H' ∧ H' Dd = some (.dK (kvs2.take i))) ⟨same_new hD, upd_same⟩ (fun i H' _ p => .of (p.1 _ _ er)) (fun i x H' hx p => ?_) (fun H' p => ?_)
  · obtain ⟨s2, hd⟩ := p
    rw [List.getElem?_map] at hx
    obtain ⟨n, hn, rfl⟩ := Option.map_eq_some_iff.mp hx
    obtain ⟨x, e1, e2⟩ := hp i n hn
    refine ⟨(List.set_set ..).trans (List.set_set ..), ?_⟩
    refine ⟨_, hv _, _, h0 _, _, hv _, m, x, rfl, .inl ⟨kvs, Sum.inr n, .inl (s2 _ _ (s1 _ _ hm)), rfl, e1.symm⟩, _, Sum.inr n, rfl, hd, ?_, same_put s2 hD, ?_⟩
    · rw [List.length_take]
      exact Nat.lt_of_le_of_lt (show _ ≤ 100 by omega) (by decide)
    · rw [upd_same, e2]
  · obtain ⟨s2, hd⟩ := p
    rw [List.length_map, ← hl, List.take_length] at hd
    exact k Dd H' (s1.trans s2) hd
theorem same_init {H H1 H' : Hp} {d x dx C : Addr} {kvs : List (Key × V)} {o : HO} (s : Same H H1) (hd : H1 d = none) (hx : upd (upd H1 d (.dK [])) d (.dK kvs) x = none) (hdx : upd (upd H1 d (.dK [])) d (.dK kvs) dx = none) (ne : dx ≠ x)
    (e : InitEnd x (upd (upd (upd (upd H1 d (.dK [])) d (.dK kvs)) dx (.own x)) x (.ins C dx [])) o H') : Same H1 H' := by
  have s1 : Same H1 (upd (upd H1 d (.dK [])) d (.dK kvs)) := same_put (same_new hd) hd
  generalize upd (upd H1 d (.dK [])) d (.dK kvs) = H2 at s1 hx hdx e
  intro b u hb
  have hb2 := s1 _ _ hb
  have bx : b ≠ x := fun z => by rw [z, hx] at hb2; cases hb2
  have bd : b ≠ dx := fun z => by rw [z, hdx] at hb2; cases hb2
  exact e.1 b u (by rw [upd_ne bx, upd_ne bd]; exact hb2) bx
theorem same_pre {H1 : Hp} {d x dx C : Addr} {kvs : List (Key × V)} (hd : H1 d = none) (hx : upd (upd H1 d (.dK [])) d (.dK kvs) x = none) (hdx : upd (upd H1 d (.dK [])) d (.dK kvs) dx = none) (ne : dx ≠ x) : Same H1 (upd (upd (upd (upd H1 d (.dK [])) d (.dK kvs)) dx (.own x)) x (.ins C dx [])) := by
  have s1 : Same H1 (upd (upd H1 d (.dK [])) d (.dK kvs)) := same_put (same_new hd) hd
  generalize upd (upd H1 d (.dK [])) d (.dK kvs) = H2 at s1 hx hdx
  refine s1.trans ((same_new hdx).trans (same_new ?_))
  rw [upd_ne (Ne.symm ne)]
  exact hx
def spWOf (K : PySem.W.Frag) : Sp := fun vs H Q _ => ∃ (v : V) (d : WD), vs = [v] ∧ d.Ok ∧ WV d v H ∧ ∀ v' H', Same H H' → PW K d v' H' → Q v' H'
theorem ok_worker_of (T : Env K mg) : FnOk P w K mg base CX0 5 (d_worker_of.loc K) T.fd_worker_of ["values"] (spWOf K) := by
  have G_mk_WorkerPlan : FnK P w K mg base CX0 3 _ _ _ := fk_worker T
  refine T.F_worker_of.ok sc_worker_of (fun vs H Q E h => ?_) (fun cdv A outer s H vs Q E hr h => ?_)
  · obtain ⟨v, d, rfl, _⟩ := h
    rfl
  · have nd := sc_worker_of.nd
    have hu := hu_of hr
    obtain ⟨v, d, rfl, hok, hv, k⟩ := h
    obtain ⟨m, sc, rfl, hm, hs⟩ := hv
    refine ⟨_, PSs.nox (pss_cons (ps_setDc (i := 1) (own := [("setting", 2)]) (by rfl) nd rfl rfl (sw_trueD rfl rfl rfl (by decide +kernel)) (pi_tup (pe_slice sl_tup (pe_globR (by rfl) T.g_WORKER_SETTINGS) (po_some pe_int) po_none)) (blkOk_by (N := ["values", "made", "setting", "name"]) (sc := defScope s_worker_of) (by decide +kernel)) (fun _ _ _ _ _ => (pg_name (i := 2) nd rfl (Or.inl rfl))) (fun _ _ _ _ _ => pts_nil) (fun _ _ _ _ _ => (pv 2)) (fun _ _ _ _ _ => (pe_dget hu (pv 0) (pv 2) (fun _ _ => rfl))))
 (pss_cons (ps_set (i := 3) nd rfl (Or.inl rfl) (pe_dget hu (pv 0) pe_str (fun _ _ => rfl)))
 (pss_one (ps_ret (pe_mkSS T.mk_WorkerPlan G_mk_WorkerPlan (hr.mono (by decide)) (by rfl) T.g_WorkerPlan pass0 (pa_cons (pv 3) pa_nil) (pv 1)))))), ?_⟩
    refine st_made (m := m) (kvs := d.kvs sc) (kvs2 := d.made sc) (ns := ["restart", "opening", "closing", "deadline", "refused", "script"]) T.q_WORKER_SETTINGS (show ¬ (HT.sIx 7 0 (some 1) = 0 ∧ HT.sIx 7 7 none = 7) by decide) rfl (fun _ => rfl) (fun _ => rfl) hm rfl (Nat.le_of_ble_eq_true rfl) (fun i n hn => ?_) fun dm H1 s1 hdm => ?_
    · match i, hn with
      | 0, hn => cases hn; exact ⟨_, rfl, rfl⟩
      | 1, hn => cases hn; exact ⟨_, rfl, rfl⟩
      | 2, hn => cases hn; exact ⟨_, rfl, rfl⟩
      | 3, hn => cases hn; exact ⟨_, rfl, rfl⟩
      | 4, hn => cases hn; exact ⟨_, rfl, rfl⟩
      | 5, hn => cases hn; exact ⟨_, rfl, rfl⟩
      | n + 6, hn => cases hn
    · dsimp only
      show tAsg _ (gName 3) _ _ _
      refine st_asg (ev_dget (ev_var rfl) ev_c (s1 _ _ hm) (k := Sum.inr "name") (v := .str d.name) rfl) ?_
      refine ⟨_, rfl, fun dd hd => ⟨_, rfl, dm, d.made sc, rfl, ?_, upd_same, ?_, rfl, fun x dx hx hdx ne => ?_⟩⟩
      · exact (same_new hd) _ _ hdm
      · exact fun z => by rw [z, hd] at hdm; cases hdm
      · refine ⟨rfl, x, dx, sc, d, rfl, hok, upd_same, same_pre hd hx hdx ne _ _ (s1 _ _ hs), fun q H' he hq => ⟨rfl, k (.ref x) H' (s1.trans (same_init (Same.refl _) hd hx hdx ne he)) ⟨x, dx, q, sc, rfl, he.2, hq, same_init (Same.refl _) hd hx hdx ne he _ _ (s1 _ _ hs)⟩⟩⟩
end
end W06

set_option Elab.async false
set_option linter.all false
set_option maxRecDepth 100000
set_option maxHeartbeats 4000000
namespace W06
open PySem PySem.Spec PyProof.Rows L2 WXG WEv WRd WLf WEn WZs WRu WSt StX WDc
def spSOf (K : PySem.W.Frag) (n : Nat) : Sp := fun vs H Q _ => ∃ (v : V) (l : Addr) (d : SD) (ts : List (Told n)) (ys : List V), vs = [v, .ref l] ∧ d.Ok ∧ SV d v H ∧ H l = some (.lst ys) ∧ Fa (ts.map (PAt K n)) ys H ∧ ts.length ≤ 12 ∧ n ≤ 19 ∧ (ts.map (Told.size n)).sum ≤ 100 ∧
  ∀ v' H', Same H H' → PAt K (n + 1) (Sum.inr (d, ts)) v' H' → Q v' H'
/-- self.own_settings[j] -/
def spPr (C : Addr) (j : Int) : Sp := fun vs H Q _ => ∃ (a dx q : Addr) (fs : List (Str × V)) (xs : List V) (x : V), vs = [.ref a] ∧ H a = some (.ins C dx fs) ∧ fs.lookup ("own_settings" : Str) = some (.ref q) ∧ H q = some (.tup xs) ∧ atI xs j = some x ∧ Q x H
def spCh (K : PySem.W.Frag) : Sp := fun vs H Q _ => ∃ (a dx : Addr) (fs : List (Str × V)) (x : V), vs = [.ref a] ∧ H a = some (.ins (CS K) dx fs) ∧ fs.lookup ("own_children" : Str) = some x ∧ Q x H
def spBelowW : Sp := fun vs H Q _ => ∃ v, vs = [v] ∧ ∀ p H', Same H H' → H' p = some (.tup []) → Q (.ref p) H'
def spSet (K : PySem.W.Frag) : Sp := fun vs H Q _ => ∃ (a dx q : Addr) (fs : List (Str × V)), vs = [.ref a] ∧ fs.lookup ("own_settings" : Str) = some (.ref q) ∧ fs.lookup ("below" : Str) = none ∧
  ((H a = some (.ins (CW K) dx fs) ∧ ∀ p b H', Same H H' → H' p = some (.tup [.ref q, .ref b]) → H' b = some (.tup []) → Q (.ref p) H') ∨
   (∃ c, H a = some (.ins (CS K) dx fs) ∧ fs.lookup ("own_children" : Str) = some c ∧ ∀ p H', Same H H' → H' p = some (.tup [.ref q, c]) → Q (.ref p) H'))
section
variable {P : Program} {w : World} {K : PySem.W.Frag} {mg : Str → Option Value} {base : Heap}
theorem ok_supervisor_of (T : Env K mg) (n : Nat) : FnOk P w K mg base CX0 5 (d_supervisor_of.loc K) T.fd_supervisor_of ["values", "children"] (spSOf K n) := by
  have G_mk_SupervisorPlan : FnK P w K mg base CX0 3 _ _ _ := fk_super T n
  refine T.F_supervisor_of.ok sc_supervisor_of (fun vs H Q E h => ?_) (fun cdv A outer s H vs Q E hr h => ?_)
  · obtain ⟨v, l, d, ts, ys, rfl, _⟩ := h
    rfl
  · have nd := sc_supervisor_of.nd
    have hu := hu_of hr
    obtain ⟨v, l, d, ts, ys, rfl, hok, hv, hl, fa, hts, hn15, hsz, k⟩ := h
    obtain ⟨m, rfl, hm⟩ := hv
    have yl := pat_len fa
    refine ⟨_, PSs.nox (pss_cons (ps_setDc (i := 2) (own := [("setting", 3)]) (by rfl) nd rfl rfl (sw_trueD rfl rfl rfl (by decide +kernel)) (pi_tup (pe_slice sl_tup (pe_globR (by rfl) T.g_SUPERVISOR_SETTINGS) (po_some pe_int) po_none)) (blkOk_by (N := ["values", "children", "made", "setting", "name"]) (sc := defScope s_supervisor_of) (by decide +kernel)) (fun _ _ _ _ _ => (pg_name (i := 3) nd rfl (Or.inl rfl))) (fun _ _ _ _ _ => pts_nil) (fun _ _ _ _ _ => (pv 3)) (fun _ _ _ _ _ => (pe_dget hu (pv 0) (pv 3) (fun _ _ => rfl))))
 (pss_cons (ps_set (i := 4) nd rfl (Or.inl rfl) (pe_dget hu (pv 0) pe_str (fun _ _ => rfl)))
 (pss_one (ps_ret (pe_mkSS T.mk_SupervisorPlan G_mk_SupervisorPlan (hr.mono (by decide)) (by rfl) T.g_SupervisorPlan pass0 (pa_cons (pv 4) (pa_star (pv 1) pa_nil)) (pv 2)))))), ?_⟩
    refine st_made (m := m) (kvs := d.kvs) (kvs2 := d.made) (ns := ["restart", "strategy", "most", "span", "deadline"]) T.q_SUPERVISOR_SETTINGS (show ¬ (HT.sIx 6 0 (some 1) = 0 ∧ HT.sIx 6 6 none = 6) by decide) rfl (fun _ => rfl) (fun _ => rfl) hm rfl (Nat.le_of_ble_eq_true rfl) (fun i n hn => ?_) fun dm H1 s1 hdm => ?_
    · match i, hn with
      | 0, hn => cases hn; exact ⟨_, rfl, rfl⟩
      | 1, hn => cases hn; exact ⟨_, rfl, rfl⟩
      | 2, hn => cases hn; exact ⟨_, rfl, rfl⟩
      | 3, hn => cases hn; exact ⟨_, rfl, rfl⟩
      | 4, hn => cases hn; exact ⟨_, rfl, rfl⟩
      | n + 5, hn => cases hn
    · dsimp only
      show tAsg _ (gName 4) _ _ _
      refine st_asg (ev_dget (ev_var rfl) ev_c (s1 _ _ hm) (k := Sum.inr "name") (v := .str d.name) rfl) ?_
      refine ⟨_, rfl, _, rfl, l, ys, rfl, .inr (.of (s1 _ _ hl)), fun dd hd => ⟨_, rfl, dm, d.made, rfl, ?_, upd_same, ?_, rfl, fun x dx hx hdx ne => ?_⟩⟩
      · exact (same_new hd) _ _ hdm
      · exact fun z => by rw [z, hd] at hdm; cases hdm
      · refine ⟨[.ref x, .str d.name], ys ++ [], rfl, rfl, ?_, fun p hp => ?_⟩
        · rw [List.append_nil]
          exact Nat.le_trans (show ys.length ≤ 12 by omega) (by decide)
        · rw [List.append_nil]
          have spre := s1.trans (same_pre (C := CS K) (kvs := d.made) hd hx hdx ne)
          have e1 : upd (upd (upd (upd H1 dd (.dK [])) dd (.dK d.made)) dx (.own x)) x (.ins (CS K) dx []) x = some (.ins (CS K) dx []) := upd_same
          have si := fun {o : HO} {H' : Hp} (e : InitEnd x (upd (upd (upd (upd H1 dd (.dK [])) dd (.dK d.made)) dx (.own x)) x (.ins (CS K) dx [])) o H') => same_init (Same.refl _) hd hx hdx ne e
          generalize upd (upd (upd (upd H1 dd (.dK [])) dd (.dK d.made)) dx (.own x)) x (.ins (CS K) dx []) = H2 at *
          have xp : x ≠ p := fun z => by rw [← z, e1] at hp; cases hp
          have fa2 := fa_kp mk_pats (Kp.same (spre.trans (same_new (o := .tup ys) hp))) fa
          refine ⟨x, dx, p, d, ts, ys, rfl, hok, hts, hn15, hsz, (same_new hp) _ _ e1, upd_same, fa2, fun q kk H' hk he hq => ⟨rfl, ?_⟩⟩
          have sH := s1.trans (si ⟨fun b u hb ne => he.1 b u ((same_new hp) _ _ hb) ne, he.2⟩)
          exact k (.ref x) H' sH ⟨x, dx, q, p, kk, ys, rfl, he.2, hq, he.1 p _ upd_same (Ne.symm xp), hk, mn_fa mk_pats _ _ _ sH fa⟩
theorem ok_SP_below (T : Env K mg) : FnOk P w K mg base CX0 1 (d_SupervisorPlan_below.loc K) T.fd_SupervisorPlan_below ["self"] (spCh K) := by
  refine T.F_SupervisorPlan_below.ok sc_SupervisorPlan_below (fun vs H Q E h => ?_) (fun cdv A outer s H vs Q E hr h => ?_)
  · obtain ⟨a, dx, fs, x, rfl, _⟩ := h
    rfl
  · have nd := sc_SupervisorPlan_below.nd
    have hu := hu_of hr
    obtain ⟨a, dx, fs, x, rfl, ha, hf, k⟩ := h
    refine ⟨_, PSs.nox (pss_one (ps_ret (pe_fld (pv 0) rfl))), ?_⟩
    exact ⟨_, rfl, a, _, dx, fs, _, rfl, ha, T.dc_SupervisorPlan.cls, T.n_SupervisorPlan_own_children, hf, k⟩
theorem ok_P_below (T : Env K mg) : FnOk P w K mg base CX0 1 (d_Plan_below.loc K) T.fd_Plan_below ["self"] spBelowW := by
  refine T.F_Plan_below.ok sc_Plan_below (fun vs H Q E h => ?_) (fun cdv A outer s H vs Q E hr h => ?_)
  · obtain ⟨v, rfl, _⟩ := h
    rfl
  · have nd := sc_Plan_below.nd
    have hu := hu_of hr
    obtain ⟨v, rfl, k⟩ := h
    refine ⟨_, PSs.nox (pss_one (ps_ret (pe_tup pa_nil))), ?_⟩
    exact ⟨Nat.zero_le _, fun p hp => k p _ (same_new hp) upd_same⟩
theorem ok_P_settings (T : Env K mg) : FnOk P w K mg base CX0 2 (d_Plan_settings.loc K) T.fd_Plan_settings ["self"] (spSet K) := by
  have G_Plan_below : FnOk P w K mg base CX0 1 _ _ _ _ := ok_P_below T
  have G_SupervisorPlan_below : FnOk P w K mg base CX0 1 _ _ _ _ := ok_SP_below T
  refine T.F_Plan_settings.ok sc_Plan_settings (fun vs H Q E h => ?_) (fun cdv A outer s H vs Q E hr h => ?_)
  · obtain ⟨a, dx, q, fs, rfl, _⟩ := h
    rfl
  · have nd := sc_Plan_settings.nd
    have hu := hu_of hr
    obtain ⟨a, dx, q, fs, rfl, hf, hb, h⟩ := h
    refine ⟨_, PSs.nox (pss_one (ps_ret (pe_tup (pa_cons (pe_fld (pv 0) rfl) (pa_cons (pe_or (pe_meth0 (pv 0) T.dc_WorkerPlan.cls T.m_WorkerPlan_below G_Plan_below (hr.mono (by decide)) T.bi_Plan_below .nil pass0) (pe_meth0 (pv 0) T.dc_SupervisorPlan.cls T.m_SupervisorPlan_below G_SupervisorPlan_below (hr.mono (by decide)) T.bi_SupervisorPlan_below .nil pass0)) pa_nil))))), ?_⟩
    rcases h with ⟨ha, k⟩ | ⟨c, ha, hc, k⟩
    · refine ⟨_, rfl, a, CW K, dx, fs, _, rfl, ha, T.dc_WorkerPlan.cls, T.n_WorkerPlan_own_settings, hf, .inl ⟨_, rfl, a, dx, fs, rfl, ha, hb, .ref a, rfl, fun p H1 s1 hp => ?_⟩⟩
      exact ⟨(by decide : 2 ≤ sizeLine), fun r hr => k r p _ (s1.trans (same_new hr)) upd_same ((same_new hr) _ _ hp)⟩
    · refine ⟨_, rfl, a, CS K, dx, fs, _, rfl, ha, T.dc_SupervisorPlan.cls, T.n_SupervisorPlan_own_settings, hf, .inr ⟨_, rfl, a, dx, fs, rfl, ha, hb, a, dx, fs, c, rfl, ha, hc, ?_⟩⟩
      exact ⟨(by decide : 2 ≤ sizeLine), fun r hr => k r _ (same_new hr) upd_same⟩
/-! ### equal plans -/
def RW (K : PySem.W.Frag) (a b : Addr) (H : Hp) : Prop := ∃ d : WD, PW K d (.ref a) H ∧ PW K d (.ref b) H
def RS (K : PySem.W.Frag) (n : Nat) (a b : Addr) (H : Hp) : Prop := ∃ x : SD × List (Told n), PAt K (n + 1) (Sum.inr x) (.ref a) H ∧ PAt K (n + 1) (Sum.inr x) (.ref b) H
def D1 (K : PySem.W.Frag) : Eqv := fun x y H => DFlat x y H ∨ DTup K DFlat x y H
def DW (K : PySem.W.Frag) : Eqv := DTup K (DTup K (D1 K))
def ChD (K : PySem.W.Frag) : Nat → Eqv
  | 0 => fun _ _ _ => False
  | n + 1 => fun x y H => DIns (CW K) (RW K) x y H ∨ DIns (CS K) (RS K n) x y H
def D2 (K : PySem.W.Frag) (n : Nat) : Eqv := fun x y H => DTup K DFlat x y H ∨ DTup K (ChD K n) x y H
def DS (K : PySem.W.Frag) (n : Nat) : Eqv := DTup K (D2 K n)
theorem mon_rw {K : PySem.W.Frag} : ∀ a b H H', Ext H H' → RW K a b H → RW K a b H' := fun a b H H' e ⟨d, h1, h2⟩ => ⟨d, mk_pw.mn _ _ _ e h1, mk_pw.mn _ _ _ e h2⟩
theorem mon_rs {K : PySem.W.Frag} {n : Nat} : ∀ a b H H', Ext H H' → RS K n a b H → RS K n a b H' := fun a b H H' e ⟨x, h1, h2⟩ => ⟨x, (mk_pat (n + 1) (Sum.inr x)).mn _ _ _ e h1, (mk_pat (n + 1) (Sum.inr x)).mn _ _ _ e h2⟩
theorem mon_d1 {K : PySem.W.Frag} : Mon (D1 K) := mon_flat.or (mon_tup mon_flat)
theorem mon_ch {K : PySem.W.Frag} : ∀ n, Mon (ChD K n)
  | 0 => fun _ _ _ _ _ h => h.elim
  | n + 1 => (mon_ins mon_rw).or (mon_ins mon_rs)
theorem mon_d2 {K : PySem.W.Frag} {n : Nat} : Mon (D2 K n) := (mon_tup mon_flat).or (mon_tup (mon_ch n))
theorem flat_refl {H : Hp} : ∀ x, flatV x = true → DFlat x x H
  | .non, _ => ⟨rfl, rfl, rfl⟩
  | .bl b, _ => ⟨rfl, rfl, by simp [eqV]⟩
  | .int i, _ => ⟨rfl, rfl, by simp [eqV]⟩
  | .str z, _ => ⟨rfl, rfl, by simp [eqV]⟩
  | .ref _, h => by cases h
  | .flt _, h => by cases h
  | .byt _, h => by cases h
  | .ty _, h => by cases h
theorem flat_lim (l : Option Int) : flatV (limV l) = true := by cases l <;> rfl
theorem own_eq {K : PySem.W.Frag} {H : Hp} {d : WD} {s s' : Addr} (h : H s = some (.tup [])) (h' : H s' = some (.tup [])) : Prs (D1 K) (d.own s) (d.own s') H :=
  .cons (.inl (flat_refl _ rfl)) (.cons (.inl (flat_refl _ rfl)) (.cons (.inl (flat_refl _ rfl)) (.cons (.inl (flat_refl _ rfl)) (.cons (.inl (flat_refl _ (flat_lim _))) (.cons (.inl (flat_refl _ rfl)) (.cons (.inr ⟨s, s', [], [], rfl, rfl, .of h, .of h', .nil⟩) .nil))))))
theorem owns_eq {H : Hp} {d : SD} : Prs DFlat d.own d.own H :=
  .cons (flat_refl _ rfl) (.cons (flat_refl _ rfl) (.cons (flat_refl _ rfl) (.cons (flat_refl _ rfl) (.cons (flat_refl _ rfl) (.cons (flat_refl _ (flat_lim _)) .nil)))))
theorem pat_ch {K : PySem.W.Frag} {H : Hp} : ∀ (n : Nat) (t : Told n) {x y : V}, PAt K n t x H → PAt K n t y H → ChD K n x y H
  | 0, _, _, _, h, _ => h.elim
  | n + 1, .inl d, x, y, h, h' => by
    have g := h
    have g' := h'
    obtain ⟨a, dx, q, s, rfl, h1, _⟩ := h
    obtain ⟨a', dx', q', s', rfl, h1', _⟩ := h'
    exact .inl ⟨a, a', dx, dx', _, _, rfl, rfl, h1, h1', d, g, g'⟩
  | n + 1, .inr z, x, y, h, h' => by
    have g := h
    have g' := h'
    obtain ⟨a, dx, q, c, k, ys, rfl, h1, _⟩ := h
    obtain ⟨a', dx', q', c', k', ys', rfl, h1', _⟩ := h'
    exact .inr ⟨a, a', dx, dx', _, _, rfl, rfl, h1, h1', z, g, g'⟩
theorem chs_eq {K : PySem.W.Frag} {H : Hp} {n : Nat} {ts : List (Told n)} {ys zs : List V} (h : Fa (ts.map (PAt K n)) ys H) (h' : Fa (ts.map (PAt K n)) zs H) : Prs (ChD K n) ys zs H := by
  refine ⟨(pat_len h).trans (pat_len h').symm, fun i x y hx hy => ?_⟩
  obtain ⟨t, ht, px⟩ := pat_get h hx
  obtain ⟨t', ht', py⟩ := pat_get h' hy
  rw [ht] at ht'
  cases ht'
  exact pat_ch n t px py
theorem rc_w {X : Cx} {K : PySem.W.Frag} (h : X.K = K) : RcG X 3 (DW K) := by
  subst h
  exact rcG_tup (mon_tup mon_d1) (eqG_tup mon_d1 ((eqG_flat.mono (by decide)).or (eqG_tup mon_flat eqG_flat)))
theorem ok_W_eq (T : Env K mg) : FnOk P w K mg base CX0 5 (d_WorkerPlan__eq.loc K) T.fd_WorkerPlan__eq ["self", "other"] (spEq (RW K)) := by
  have G_Plan_settings : FnOk P w K mg base CX0 2 _ _ _ _ := ok_P_settings T
  have RC : ∀ X : Cx, X.prog = P → X.w = w → X.K = K → X.mg = mg → X.base = base → RcG X 3 (DW K) := fun X _ _ h _ _ => rc_w h
  have RM : 3 ≤ 4 := by decide
  refine T.F_WorkerPlan__eq.ok sc_WorkerPlan__eq (fun vs H Q E h => ?_) (fun cdv A outer s H vs Q E hr h => ?_)
  · obtain ⟨a, b, rfl, _⟩ := h
    rfl
  · have nd := sc_WorkerPlan__eq.nd
    have hu := hu_of hr
    obtain ⟨a, b, rfl, hR, k⟩ := h
    obtain ⟨d, ⟨a', dx, q, s, e, h1, h2, h3⟩, ⟨b', dy, q', s', e', h1', h2', h3'⟩⟩ := hR
    cases e
    cases e'
    refine ⟨_, PSs.nox (pss_one (ps_ret (pe_and (pe_callB (isiK (K := K)) (by rfl) T.b_isinstance (by decide +kernel) (pa_cons (pv 1) (pa_cons (pe_globR (by rfl) T.g_WorkerPlan) pa_nil))) (pe_one (pe_cmpR (op_eqG (RC _ rfl rfl rfl rfl rfl) (hr.mono RM)) (pe_or (pe_meth0 (pv 0) T.dc_WorkerPlan.cls T.m_WorkerPlan_settings G_Plan_settings (hr.mono (by decide)) T.bi_Plan_settings .nil pass0) (pe_meth0 (pv 0) T.dc_SupervisorPlan.cls T.m_SupervisorPlan_settings G_Plan_settings (hr.mono (by decide)) T.bi_Plan_settings .nil pass0)) (pe_or (pe_meth0 (pv 1) T.dc_WorkerPlan.cls T.m_WorkerPlan_settings G_Plan_settings (hr.mono (by decide)) T.bi_Plan_settings .nil pass0) (pe_meth0 (pv 1) T.dc_SupervisorPlan.cls T.m_SupervisorPlan_settings G_Plan_settings (hr.mono (by decide)) T.bi_Plan_settings .nil pass0)) (nomark _)))))), ?_⟩
    refine ev_isiC (ev_var rfl) (tyx_w T h1') T.k_WorkerPlan_WorkerPlan _ ⟨true, rfl, ?_⟩
    refine .inl ⟨_, rfl, a, dx, _, rfl, h1, rfl, a, dx, q, _, rfl, rfl, rfl, .inl ⟨h1, fun p b1 H1 s1 hp hb1 => ?_⟩⟩
    refine .inl ⟨_, rfl, b, dy, _, rfl, s1 _ _ h1', rfl, b, dy, q', _, rfl, rfl, rfl, .inl ⟨s1 _ _ h1', fun p' b2 H2 s2 hp' hb2 => ?_⟩⟩
    refine ⟨⟨p, p', _, _, rfl, rfl, .of (s2 _ _ hp), .of hp', .cons ⟨q, q', _, _, rfl, rfl, .of (s2 _ _ (s1 _ _ h2)), .of (s2 _ _ (s1 _ _ h2')), own_eq (s2 _ _ (s1 _ _ h3)) (s2 _ _ (s1 _ _ h3'))⟩ (.cons ⟨b1, b2, [], [], rfl, rfl, .of (s2 _ _ hb1), .of hb2, .nil⟩ .nil)⟩, fun H' e => ?_⟩
    exact k H' ((s1.trans s2).trans e)
theorem ok_S_eq (T : Env K mg) : ∀ n, FnOk P w K mg base CX0 (3 * n + 8) (d_SupervisorPlan__eq.loc K) T.fd_SupervisorPlan__eq ["self", "other"] (spEq (RS K n)) := by
  have body : ∀ n, (∀ X : Cx, X.prog = P → X.w = w → X.K = K → X.mg = mg → X.base = base → EqG X (3 * n + 5) (ChD K n)) → FnOk P w K mg base CX0 (3 * n + 8) (d_SupervisorPlan__eq.loc K) T.fd_SupervisorPlan__eq ["self", "other"] (spEq (RS K n)) := by
    intro n EG
    have G_Plan_settings : FnOk P w K mg base CX0 2 _ _ _ _ := ok_P_settings T
    have RC : ∀ X : Cx, X.prog = P → X.w = w → X.K = K → X.mg = mg → X.base = base → RcG X (3 * n + 7) (DS K n) := fun X e1 e2 e3 e4 e5 => by
      have g := EG X e1 e2 e3 e4 e5
      subst e3
      exact rcG_tup mon_d2 (((eqG_tup mon_flat eqG_flat).mono (by omega)).or (eqG_tup (mon_ch n) g))
    have RM : 3 * n + 7 ≤ 3 * n + 7 := Nat.le_refl _
    refine T.F_SupervisorPlan__eq.ok sc_SupervisorPlan__eq (fun vs H Q E h => ?_) (fun cdv A outer s H vs Q E hr h => ?_)
    · obtain ⟨a, b, rfl, _⟩ := h
      rfl
    · have nd := sc_SupervisorPlan__eq.nd
      have hu := hu_of hr
      obtain ⟨a, b, rfl, hR, k⟩ := h
      obtain ⟨x, ⟨a', dx, q, c, kk, ys, e, h1, h2, h3, h4, h5⟩, ⟨b', dy, q', c', kk', zs, e', h1', h2', h3', h4', h5'⟩⟩ := hR
      cases e
      cases e'
      refine ⟨_, PSs.nox (pss_one (ps_ret (pe_and (pe_callB (isiK (K := K)) (by rfl) T.b_isinstance (by decide +kernel) (pa_cons (pv 1) (pa_cons (pe_globR (by rfl) T.g_SupervisorPlan) pa_nil))) (pe_one (pe_cmpR (op_eqG (RC _ rfl rfl rfl rfl rfl) (hr.mono RM)) (pe_or (pe_meth0 (pv 0) T.dc_WorkerPlan.cls T.m_WorkerPlan_settings G_Plan_settings (hr.mono (by omega)) T.bi_Plan_settings .nil pass0) (pe_meth0 (pv 0) T.dc_SupervisorPlan.cls T.m_SupervisorPlan_settings G_Plan_settings (hr.mono (by omega)) T.bi_Plan_settings .nil pass0)) (pe_or (pe_meth0 (pv 1) T.dc_WorkerPlan.cls T.m_WorkerPlan_settings G_Plan_settings (hr.mono (by omega)) T.bi_Plan_settings .nil pass0) (pe_meth0 (pv 1) T.dc_SupervisorPlan.cls T.m_SupervisorPlan_settings G_Plan_settings (hr.mono (by omega)) T.bi_Plan_settings .nil pass0)) (nomark _)))))), ?_⟩
      refine ev_isiC (ev_var rfl) (tyx_s T h1') T.k_SupervisorPlan_SupervisorPlan _ ⟨true, rfl, ?_⟩
      refine .inr ⟨_, rfl, a, dx, _, rfl, h1, rfl, a, dx, q, _, rfl, rfl, rfl, .inr ⟨_, h1, rfl, fun p H1 s1 hp => ?_⟩⟩
      refine .inr ⟨_, rfl, b, dy, _, rfl, s1 _ _ h1', rfl, b, dy, q', _, rfl, rfl, rfl, .inr ⟨_, s1 _ _ h1', rfl, fun p' H2 s2 hp' => ?_⟩⟩
      have s12 := s1.trans s2
      refine ⟨⟨p, p', _, _, rfl, rfl, .of (s2 _ _ hp), .of hp', .cons (.inl ⟨q, q', _, _, rfl, rfl, .of (s12 _ _ h2), .of (s12 _ _ h2'), owns_eq⟩) (.cons (.inr ⟨c, c', ys, zs, rfl, rfl, .of (s12 _ _ h3), .of (s12 _ _ h3'), chs_eq (mn_fa mk_pats _ _ _ s12 h5) (mn_fa mk_pats _ _ _ s12 h5')⟩) .nil)⟩, fun H' e => ?_⟩
      exact k H' (s12.trans e)
  intro n
  induction n with
  | zero => exact body 0 fun X _ _ _ _ _ A pins s σ H x y u v _ _ _ _ h => h.elim
  | succ n ih =>
    refine body (n + 1) fun X e1 e2 e3 e4 e5 => ?_
    have FW := ok_W_eq (P := P) (w := w) (base := base) T
    have FS := ih
    subst e1 e2 e3 e4 e5
    exact ((eqG_ins FW T.dc_WorkerPlan.eq T.dc_WorkerPlan.fn T.bi_WorkerPlan__eq (pass0 : Passes CX0 X E0)).mono (by omega)).or ((eqG_ins FS T.dc_SupervisorPlan.eq T.dc_SupervisorPlan.fn T.bi_SupervisorPlan__eq (pass0 : Passes CX0 X E0)).mono (by omega))
end
end W06

set_option Elab.async false
set_option linter.all false
set_option maxRecDepth 100000
set_option maxHeartbeats 4000000
namespace W06
open PySem PySem.Spec PyProof.Rows L2 WXG WEv WRd WLf WEn WZs WRu WSt StX WDc
section
variable {K : PySem.W.Frag} {σ : L2.St} {H : Hp} {te ta tb : TE} {tr : TA} {D : Ends} {P P' : HP V} {tt tu : TT} {a b : Bool} {v : V}
theorem st_retIf1 (h : EvB tt σ H true) (q : tRet ta D σ H) : tRet (tIf tt ta tb) D σ H := h _ q
theorem st_retIf0 (h : EvB tt σ H false) (q : tRet tb D σ H) : tRet (tIf tt ta tb) D σ H := h _ q
theorem st_asgIf1 {i : Nat} (h : EvB tt σ H true) (q : tAsg ta (gName i) D σ H) : tAsg (tIf tt ta tb) (gName i) D σ H := h _ q
theorem st_asgIf0 {i : Nat} (h : EvB tt σ H false) (q : tAsg tb (gName i) D σ H) : tAsg (tIf tt ta tb) (gName i) D σ H := h _ q
/-- [v for v in xs if ..], none -/
theorem g_lcNone {wi : TI} {J : It} {Gw : Hp → Prop} {v : Nat} {ys : List V} (hw : ∀ H1, Same H H1 → ∀ R : It → Hp → Prop, R J H1 → wi σ H1 R) (wk : Walk J ys.length Gw (YAt ys)) (hg : ∀ H1, Same H H1 → Gw H1)
    (h : ∀ (i : Nat) (x : V) (H1 : Hp), ys[i]? = some x → EvB tt ((σ.set v none).set v (some x)) H1 false) :
    G (tLc wi (gName v) tt te [v]) σ H (LF []) := by
  refine ⟨fun H1 e Q q => ?_, mn_lf mn_nil⟩
  refine hw H1 e _ ?_
  intro Dd hD
  show ∃ W, _
  refine lc_it wk (fun i H' => Same H1 H' ∧ H' Dd = some (.lst [])) ⟨same_new hD, upd_same⟩ (fun _ H' _ p => hg H' (e.trans p.1)) (fun i x H2 H3 hi p y => ?_) (fun H2 p => q _ _ p.1 ⟨Dd, [], rfl, p.2, trivial⟩)
  obtain ⟨rfl, hx⟩ := y
  exact ⟨(List.set_set ..).trans (List.set_set ..), h i x _ hx _ p⟩
theorem et_neN (h : G te σ H (LF [])) : EvT (tTest (tOp (rNeN K) te (tLst tNil))) σ H false := fun H1 e Q q => h.ev H1 e _ fun x H2 s2 px => by
  obtain ⟨l, xs, rfl, hl, fa⟩ := px
  obtain rfl : xs = [] := List.length_eq_zero_iff.mp fa.len
  exact ⟨Nat.zero_le _, fun b hb => ⟨l, b, [], rfl, rfl, .of ((same_new hb) _ _ hl), .of upd_same, false, rfl, q _ (s2.trans (same_new hb))⟩⟩
end
def spIsS (K : PySem.W.Frag) : Sp := fun vs H Q _ => ∃ (a dx : Addr) (fs : List (Str × V)), vs = [.ref a] ∧ ((H a = some (.ins (CW K) dx fs) ∧ Q (.bl false) H) ∨ (H a = some (.ins (CS K) dx fs) ∧ Q (.bl true) H))
section
variable {P : Program} {w : World} {K : PySem.W.Frag} {mg : Str → Option Value} {base : Heap}
theorem ok_is_supervisor (T : Env K mg) : FnOk P w K mg base CX0 1 (d_is_supervisor.loc K) T.fd_is_supervisor ["plan"] (spIsS K) := by
  refine T.F_is_supervisor.ok sc_is_supervisor (fun vs H Q E h => ?_) (fun cdv A outer s H vs Q E hr h => ?_)
  · obtain ⟨a, dx, fs, rfl, _⟩ := h
    rfl
  · have nd := sc_is_supervisor.nd
    have hu := hu_of hr
    obtain ⟨a, dx, fs, rfl, h⟩ := h
    refine ⟨_, PSs.nox (pss_one (ps_ret (pe_callB (isiK (K := K)) (by rfl) T.b_isinstance (by decide +kernel) (pa_cons (pv 0) (pa_cons (pe_globR (by rfl) T.g_SupervisorPlan) pa_nil))))), ?_⟩
    rcases h with ⟨h, k⟩ | ⟨h, k⟩
    · exact st_ret (ev_isiC (ev_var rfl) (tyx_w T h) T.k_WorkerPlan_SupervisorPlan) k
    · exact st_ret (ev_isiC (ev_var rfl) (tyx_s T h) T.k_SupervisorPlan_SupervisorPlan) k
end
end W06

set_option Elab.async false
set_option linter.all false
set_option maxRecDepth 100000
set_option maxHeartbeats 4000000
namespace W06
open PySem PySem.Spec PyProof.Rows L2 WXG WEv WRd WLf WEn WZs WRu WSt StX WDc PySem.Builtin.Str PySem.Builtin PySem.P
theorem getD_tl (x : Str) (k : Nat) : x.cps.getD k 0 = (TL.tl x).getD k 0 := by
  simp [TL.tl, Array.getD_eq_getD_getElem?, List.getD_eq_getElem?_getD]
theorem goes32 (c : Nat) : (" " : Str).cps.contains c = decide (c = 32) := by
  show (#[32] : Array Nat).contains c = _
  by_cases h : c = 32
  · subst h
    simp
  · rw [decide_eq_false h]
    simp [h]
theorem lstrip_ind {n c : Nat} {b : Str} {cs : List Nat} (h : TL.tl b = c :: cs) (hc : c ≠ 32) : Txt.lstripChars (repS "  " n ++ b) " " = b := by
  have ex : TL.tl (repS "  " n ++ b) = List.replicate (2 * n) 32 ++ (c :: cs) := by rw [TL.tl_append, tl_ind, h]
  generalize repS "  " n ++ b = x at ex
  unfold Txt.lstripChars
  rw [stripBy_eq]
  obtain ⟨f1, f2, f3⟩ := lo_facts (" " : Str).cps.contains x
  have hlen : x.length = 2 * n + (cs.length + 1) := by rw [TL.len_tl, ex]; simp
  have at1 : ∀ k, k < 2 * n → (TL.tl x).getD k 0 = 32 := fun k hk => by
    rw [ex, List.getD_eq_getElem?_getD, List.getElem?_append_left (by simpa using hk), List.getElem?_replicate, if_pos hk]
    rfl
  have at2 : (TL.tl x).getD (2 * n) 0 = c := by
    rw [ex, List.getD_eq_getElem?_getD, List.getElem?_append_right (by simp)]
    simp
  generalize hlo : stripLo (" " : Str).cps.contains true x = lo at *
  have e : lo = 2 * n := by
    rcases Nat.lt_trichotomy lo (2 * n) with h1 | h1 | h1
    · rcases f3 with f3 | f3
      · omega
      · rw [getD_tl, at1 lo h1, goes32] at f3
        cases f3
    · exact h1
    · have := f2 (2 * n) h1
      rw [getD_tl, at2, goes32, decide_eq_false hc] at this
      cases this
  subst e
  show strSub x (2 * n) x.length = b
  refine TL.ext_tl ?_
  rw [TL.tl_strSub_end, ex, h]
  simp
theorem num_head : ∀ n : Nat, 0 < n → ∃ c cs, TL.numL n = c :: cs ∧ c ≠ 48 := by
  intro n
  induction n using Nat.strongRecOn with
  | _ n ih =>
    intro hn
    by_cases h : n < 10
    · exact ⟨48 + n, [], TL.numL_lt h, by omega⟩
    · obtain ⟨c, cs, e, hc⟩ := ih (n / 10) (by omega) (by omega)
      exact ⟨c, cs ++ [48 + n % 10], by rw [TL.numL_step (by omega), e]; rfl, hc⟩
section
variable {K : PySem.W.Frag} {σ : L2.St} {H : Hp} {te ta tb : TE} {tr : TA} {D : Ends} {P P' : HP V} {tt tu : TT} {a b : Bool} {v : V}
theorem s_noN {t : TS} (h : EvT tt σ H false) (q : ∀ H1, Same H H1 → D.nx σ H1) : tIfS tt t tNext D σ H := h H (Same.refl H) _ fun H1 s => q H1 s
theorem et_ev (h : ∀ H1, Same H H1 → EvB tt σ H1 b) : EvT tt σ H b := fun H1 e Q q => h H1 e _ (q H1 (Same.refl _))
theorem et_not (h : EvT tt σ H b) : EvT (tNot tt) σ H (!b) := fun H1 e _ q => h H1 e _ fun H2 s => q H2 s
theorem evb_neS {x y : Str} (ha : Ev ta σ H (.str x)) (hb : Ev tb σ H (.str y)) (h : (!decide (x = y)) = b) : EvB (tTest (tOp (fun x y H Q => scal x y = true ∧ Q (.bl (!decide (x = y))) H) ta tb)) σ H b := fun Q q => ha _ (hb _ ⟨rfl, b, by rw [← h]; simp, q⟩)
end
theorem in_digits {c : Nat} (h : 48 ≤ c) (h' : c ≤ 57) : decide (c ∈ (Str.ofString "0123456789").cps.toList) = true := by
  have : ∀ j : Fin 10, decide (48 + j.val ∈ (Str.ofString "0123456789").cps.toList) = true := by decide +kernel
  have := this ⟨c - 48, by omega⟩
  rw [show 48 + (c - 48) = c by omega] at this
  exact this
def spNumber : Sp := fun vs H Q _ => (∃ i, vs = [.str (numS i)] ∧ TickOk i ∧ ∀ H', Same H H' → Q (.int i) H') ∨ (vs = [.str "-"] ∧ ∀ H', Same H H' → Q (.int (-1)) H')
section
variable {P : Program} {w : World} {K : PySem.W.Frag} {mg : Str → Option Value} {base : Heap}
theorem ok_number_of (T : Env K mg) : FnOk P w K mg base CX0 1 (d_number_of.loc K) T.fd_number_of ["word"] spNumber := by
  refine T.F_number_of.ok sc_number_of (fun vs H Q E h => ?_) (fun cdv A outer s H vs Q E hr h => ?_)
  · rcases h with ⟨i, rfl, _⟩ | ⟨rfl, _⟩ <;> rfl
  · have nd := sc_number_of.nd
    have hu := hu_of hr
    refine ⟨_, PSs.nox (pss_cons (ps_if (PW.pt (pw_or (pt_cmpR op_eq (pv 0) pe_str (nomark _)) (pw_or (pt_cmpR op_gt (pe_callB call_len_str (by rfl) T.b_len (by decide +kernel) (pa_cons (pv 0) pa_nil)) pe_int (nomark _)) (pw_or1 (pt_not (pt_val (pe_callB (cr_all rfl) (by rfl) T.b_all (by decide +kernel) (pa_cons (pe_lc (own := [("sign", 1)]) (by rfl) nd (pi_str (pv 0)) (blkOk_by (N := ["word", "sign"]) (sc := defScope s_number_of) (by decide +kernel)) (fun _ _ _ _ _ => (pg_name (i := 1) nd rfl (Or.inl rfl))) (fun _ _ _ _ _ => pts_nil) (fun _ _ _ _ _ => (pe_cmpR op_in_sign (pv 1) (C8.pe_gc (by rfl) T.c_DIGITS) (by rfl)))) pa_nil))))))))
  (pss_one (ps_ret (pe_un un_neg pe_int)))
  pss_nil)
 (pss_one (ps_ret (pe_ifExp (PW.pt (pw_or (pt_cmpR op_eq (pv 0) pe_str (nomark _)) (pw_or1 (pt_cmpR op_ne (pe_ix ix_str (pv 0) pe_int (fun _ _ => rfl)) pe_str (nomark _))))) (pe_callTy call_int_str (by rfl) T.b_int (by decide +kernel) (pa_cons (pv 0) pa_nil)) (pe_un un_neg pe_int))))), ?_⟩
    rcases h with ⟨i, rfl, hi, k⟩ | ⟨rfl, k⟩
    · have et := num_tl hi.1
      obtain ⟨n, rfl⟩ := Int.eq_ofNat_of_zero_le hi.1
      rw [Int.toNat_natCast] at et
      have hlen : (numS n).length ≤ 10 := by
        rw [TL.len_tl, et]
        exact TL.numL_len (by decide) (by have := hi.2; omega)
      have hdig := TL.numL_digits n
      have hint : intText? (numS n) = some (n : Int) := TL.int_num (by
        rw [TL.len_tl, et] at hlen
        omega)
      generalize hcs : TL.numL n = cs at et hdig
      have ez : numS n = ⟨cs.toArray⟩ := TL.ext_tl et
      have hne : cs ≠ [] := by rw [← hcs]; exact TL.numL_ne n
      have hl2 : cs.length ≤ 10 := by rw [TL.len_tl, et] at hlen; exact hlen
      have n0 : n = 0 ∨ ∃ c r, cs = c :: r ∧ c ≠ 48 := by
        rcases Nat.eq_zero_or_pos n with h | h
        · exact .inl h
        · obtain ⟨c, r, e, hc⟩ := num_head n h
          exact .inr ⟨c, r, hcs.symm.trans e, hc⟩
      rw [ez] at hint hlen ⊢
      refine s_noN (et_or0 (et_ev fun H1 _ => evb_eqS (ev_var rfl) ev_c (decide_eq_false fun e => hne (congrArg TL.tl e))) (et_or0 (et_ev fun H1 _ => evb_cmpF (ev_lenS (ev_var rfl) (Nat.le_trans hlen (by decide))) ev_c (decide_eq_false (by omega)))
        (et_not (b := true) (et_val (g_imp (P := Is (.bl ((cs.map fun _ => true).all id))) (g_all (bs := cs.map fun _ => true) (g_lcS rfl (by simp) (by omega) mk_iss fun i c P H1 hc hP s Q q => ?_)) (fun v H e => by rw [show ((cs.map fun _ => true).all id) = true by simp] at e; exact e) mn_i))))) fun H1 s1 => ?_
      · rw [List.getElem?_map, List.getElem?_map, List.getElem?_map, hc] at hP
        cases hP
        have hm := hdig c (List.mem_of_getElem? hc)
        refine ⟨_, rfl, c, _, rfl, rfl, ?_⟩
        rw [in_digits hm.1 hm.2]
        exact q _ _ (Same.refl _) rfl
      · dsimp only
        show tRet _ _ _ _
        refine st_retIf1 ?_ (st_ret (v := .int n) (fun Q q => ⟨_, rfl, _, _, rfl, hint, Nat.le_trans hlen (by decide), q⟩) (k _ s1))
        rcases n0 with rfl | ⟨c, r, e, hc⟩
        · have e0 : (⟨cs.toArray⟩ : Str) = "0" := by
            rw [← hcs]
            decide
          exact fun Q q => evb_eqS (ev_var rfl) ev_c (decide_eq_true e0) _ q
        · have e0 : (⟨cs.toArray⟩ : Str) ≠ "0" := fun z => by
            have := congrArg TL.tl z
            rw [show TL.tl (⟨cs.toArray⟩ : Str) = cs from rfl, e] at this
            exact hc (List.cons.inj (this.trans (show TL.tl ("0" : Str) = [48] by decide))).1
          have e1 : (⟨#[c]⟩ : Str) ≠ "0" := fun z => hc (List.cons.inj ((congrArg TL.tl z).trans (show TL.tl ("0" : Str) = [48] by decide))).1
          exact evb_or (a := false) (evb_eqS (ev_var rfl) ev_c (decide_eq_false e0)) fun _ => evb_neS (x := ⟨#[c]⟩) (fun Q q => ⟨_, rfl, _, 0, c, rfl, rfl, Nat.le_trans hlen (by decide), atI_nat (j := 0) (show cs[0]? = some c by rw [e]; rfl), q⟩) ev_c (by rw [decide_eq_false e1]; rfl)
    · refine s_yes (et_or0 (et_ev fun H1 _ => evb_eqS (ev_var rfl) ev_c (by decide)) (et_or0 (et_ev fun H1 _ => evb_cmpF (ev_lenS (ev_var rfl) (by decide)) ev_c (by decide))
        (et_not (b := false) (et_val (g_imp (P := Is (.bl (([45].map fun _ => false).all id))) (g_all (bs := [45].map fun _ => false) (g_lcS (cs := [45]) rfl rfl (by decide) mk_iss fun i c P H1 hc hP s Q q => ?_)) (fun v H e => e) mn_i))))) fun H1 s1 => st_ret (v := .int (-1)) (fun Q q => ⟨1, rfl, q⟩) (k _ s1)
      match i, hc with
      | 0, hc =>
        cases hc
        cases hP
        refine ⟨_, rfl, 45, _, rfl, rfl, ?_⟩
        rw [show decide (45 ∈ (Str.ofString "0123456789").cps.toList) = false by decide +kernel]
        exact q _ _ (Same.refl _) rfl
      | i + 1, hc => cases hc
end
end W06

set_option Elab.async false
set_option linter.all false
set_option maxRecDepth 100000
set_option maxHeartbeats 4000000
namespace W06
open PySem PySem.Spec PyProof.Rows L2 WXG WEv WRd WLf WEn WZs WRu WSt StX WDc
namespace Item
def names : Item → List Str
  | .inl _ => ["name", "restart", "opening", "closing", "deadline", "refused"]
  | .inr _ => ["name", "restart", "strategy", "most", "span", "deadline"]
def full : Item → Addr → List (Key × V)
  | .inl d, s => d.kvs s
  | .inr d, _ => d.kvs
def off : Item → Nat
  | .inl _ => 1
  | .inr _ => 0
def sup : Item → Bool
  | .inl _ => false
  | .inr _ => true
end Item
/-- the settings of an item as a dict -/
def IV : Item → HP V
  | .inl d => WV d
  | .inr d => SV d
/-- the first i of them -/
def IP (q : Item) (i : Nat) : HP V := fun v H => ∃ m s, v = .ref m ∧ H m = some (.dK ((Item.full q s).take (Item.off q + i))) ∧ (Item.sup q = true ∨ H s = some (.tup []))
theorem ip_iv {q : Item} {v : V} {H : Hp} (h : IP q 6 v H) : IV q v H := by
  obtain ⟨m, s, rfl, h1, h2⟩ := h
  cases q with
  | inl d => exact ⟨m, s, rfl, h1, h2.resolve_left (fun z => by cases z)⟩
  | inr d => exact ⟨m, rfl, h1⟩
def worded : List V := [.str "name", .str "restart", .str "strategy"]
def StepOk (q : Item) (s : Addr) (i : Nat) : Prop := ∃ n z x, (Item.names q)[i]? = some n ∧ (Item.words q)[i + 1]? = some z ∧ (∀ y, putK ((Item.full q s).take (Item.off q + i)) (Sum.inr n) y = (Item.full q s).take (Item.off q + i) ++ [(Sum.inr n, y)]) ∧
  (∀ y y', putK ((Item.full q s).take (Item.off q + i) ++ [(Sum.inr n, y)]) (Sum.inr n) y' = (Item.full q s).take (Item.off q + i) ++ [(Sum.inr n, y')]) ∧ (Item.full q s).take (Item.off q + (i + 1)) = (Item.full q s).take (Item.off q + i) ++ [(Sum.inr n, x)] ∧
  ((inV (.str n) worded = true ∧ n ≠ "deadline" ∧ x = .str z) ∨ (inV (.str n) worded = false ∧ ∃ k, TickOk k ∧ z = numS k ∧ x = .int k) ∨ (inV (.str n) worded = false ∧ n = "deadline" ∧ z = "-" ∧ x = .non))
theorem step_ok {q : Item} (h : Item.Ok q) (s : Addr) : ∀ i, i < 6 → StepOk q s i := by
  intro i hi
  cases q with
  | inl d =>
    obtain ⟨h1, h2, h3, h4, h5, h6, h7⟩ := h
    match i, hi with
    | 0, _ => exact ⟨"name", d.name, _, rfl, rfl, fun _ => rfl, fun _ _ => rfl, rfl, .inl ⟨by decide, by decide, rfl⟩⟩
    | 1, _ => exact ⟨"restart", d.word, _, rfl, rfl, fun _ => rfl, fun _ _ => rfl, rfl, .inl ⟨by decide, by decide, rfl⟩⟩
    | 2, _ => exact ⟨"opening", numS d.b, _, rfl, rfl, fun _ => rfl, fun _ _ => rfl, rfl, .inr (.inl ⟨by decide, d.b, h3, rfl, rfl⟩)⟩
    | 3, _ => exact ⟨"closing", numS d.e, _, rfl, rfl, fun _ => rfl, fun _ _ => rfl, rfl, .inr (.inl ⟨by decide, d.e, h4, rfl, rfl⟩)⟩
    | 4, _ =>
      refine ⟨"deadline", limS d.lim, limV d.lim, rfl, rfl, fun _ => rfl, fun _ _ => rfl, rfl, ?_⟩
      cases e : d.lim with
      | none => exact .inr (.inr ⟨by decide, rfl, rfl, rfl⟩)
      | some k => exact .inr (.inl ⟨by decide, k, h5 k e, rfl, rfl⟩)
    | 5, _ => exact ⟨"refused", numS d.r, _, rfl, rfl, fun _ => rfl, fun _ _ => rfl, rfl, .inr (.inl ⟨by decide, d.r, ⟨h6, by omega⟩, rfl, rfl⟩)⟩
  | inr d =>
    obtain ⟨h1, h2, h3, h4, h5, h6, h7, h8⟩ := h
    match i, hi with
    | 0, _ => exact ⟨"name", d.name, _, rfl, rfl, fun _ => rfl, fun _ _ => rfl, rfl, .inl ⟨by decide, by decide, rfl⟩⟩
    | 1, _ => exact ⟨"restart", d.word, _, rfl, rfl, fun _ => rfl, fun _ _ => rfl, rfl, .inl ⟨by decide, by decide, rfl⟩⟩
    | 2, _ => exact ⟨"strategy", d.way, _, rfl, rfl, fun _ => rfl, fun _ _ => rfl, rfl, .inl ⟨by decide, by decide, rfl⟩⟩
    | 3, _ => exact ⟨"most", numS d.most, _, rfl, rfl, fun _ => rfl, fun _ _ => rfl, rfl, .inr (.inl ⟨by decide, d.most, ⟨h4, by omega⟩, rfl, rfl⟩)⟩
    | 4, _ => exact ⟨"span", numS d.span, _, rfl, rfl, fun _ => rfl, fun _ _ => rfl, rfl, .inr (.inl ⟨by decide, d.span, ⟨by omega, h7⟩, rfl, rfl⟩)⟩
    | 5, _ =>
      refine ⟨"deadline", limS d.lim, limV d.lim, rfl, rfl, fun _ => rfl, fun _ _ => rfl, rfl, ?_⟩
      cases e : d.lim with
      | none => exact .inr (.inr ⟨by decide, rfl, rfl, rfl⟩)
      | some k => exact .inr (.inl ⟨by decide, k, h8 k e, rfl, rfl⟩)
theorem num_ne {k : Int} (h : TickOk k) : numS k ≠ "-" := fun e => by
  have e1 := num_tl h.1
  rw [e] at e1
  have := TL.numL_digits k.toNat 45 (by rw [← e1]; decide)
  omega
theorem dp_strs {K : PySem.W.Frag} {H : Hp} : ∀ ws : List Str, DpAll K H (ws.map V.str) (ws.map PyData.str)
  | [] => .nil
  | b :: bs => .cons (.str b) (dp_strs bs)
theorem names_sh (q : Item) : SeqAt.shaped (.tuple ((Item.names q).map PyData.str)) = true ∧ PyData.eqv (.tuple ((Item.names q).map PyData.str)) (.tuple []) = false ∧ (Item.names q).length = 6 := by
  cases q
  · exact ⟨show SeqAt.shaped (.tuple ([("name" : Str), "restart", "opening", "closing", "deadline", "refused"].map PyData.str)) = true by decide +kernel, show PyData.eqv (.tuple ([("name" : Str), "restart", "opening", "closing", "deadline", "refused"].map PyData.str)) (.tuple []) = false by decide +kernel, rfl⟩
  · exact ⟨show SeqAt.shaped (.tuple ([("name" : Str), "restart", "strategy", "most", "span", "deadline"].map PyData.str)) = true by decide +kernel, show PyData.eqv (.tuple ([("name" : Str), "restart", "strategy", "most", "span", "deadline"].map PyData.str)) (.tuple []) = false by decide +kernel, rfl⟩
theorem mn_ip {q : Item} {i : Nat} : Mn (IP q i) := fun _ _ _ s ⟨m, x, e, h1, h2⟩ => ⟨m, x, e, s _ _ h1, h2.imp id (s _ _)⟩
section
variable {K : PySem.W.Frag} {σ : L2.St} {H : Hp} {te ta tb : TE} {tr : TA} {D : Ends} {P P' : HP V} {tt tu : TT} {a b : Bool} {v : V}
theorem g_if1 (h : ∀ H1, Same H H1 → EvB tt σ H1 true) (g : G ta σ H P) : G (tIf tt ta tb) σ H P := ⟨fun H1 e Q q => h H1 e _ (g.ev H1 e _ q), g.mn⟩
theorem g_if0 (h : ∀ H1, Same H H1 → EvB tt σ H1 false) (g : G tb σ H P) : G (tIf tt ta tb) σ H P := ⟨fun H1 e Q q => h H1 e _ (g.ev H1 e _ q), g.mn⟩
theorem ev_ixL {i : Nat} {p : Addr} {xs : List V} {j : Int} (h : σ[i]? = some (some (.ref p))) (hp : H p = some (.lst xs)) (e : atI xs j = some v) : Ev (tOp (rIxL K) (tVar i) (tC (.int j))) σ H v := fun Q q => ⟨_, h, p, xs, j, v, rfl, rfl, .of hp, e, q⟩
theorem But.seqT {m s : Addr} {H H' : Hp} {kvs : List (Key × V)} {xs : List V} (h : But m H H') (hm : H m = some (.dK kvs)) (q : SqT K H s xs) : SqT K H' s xs := by
  rcases q with (q | ⟨o, q⟩) | q
  · exact .inl (.inl (h _ _ q fun z => by rw [z, hm] at q; cases q))
  · exact .inl (.inr ⟨o, h _ _ q fun z => by rw [z, hm] at q; cases q⟩)
  · exact .inr q
end
theorem words_cut (q : Item) : cutV ((Item.words q).map V.str) (some 1) none = (Item.words q).tail.map V.str ∧ (Item.words q).tail.length = 6 := by
  cases q <;> exact ⟨rfl, rfl⟩
def spValues : Sp := fun vs H Q _ => ∃ (l : Addr) (q : Item), vs = [.ref l] ∧ Item.Ok q ∧ H l = some (.lst ((Item.words q).map V.str)) ∧ ∀ v H', Same H H' → IV q v H' → Q v H'
section
variable {P : Program} {w : World} {K : PySem.W.Frag} {mg : Str → Option Value} {base : Heap}
theorem ok_values_in (T : Env K mg) : FnOk P w K mg base CX0 2 (d_values_in.loc K) T.fd_values_in ["words"] spValues := by
  have G_number_of : FnOk P w K mg base CX0 1 _ _ _ _ := ok_number_of T
  refine T.F_values_in.ok sc_values_in (fun vs H Q E h => ?_) (fun cdv A outer s H vs Q E hr h => ?_)
  · obtain ⟨l, q, rfl, _⟩ := h
    rfl
  · have nd := sc_values_in.nd
    have hu := hu_of hr
    obtain ⟨l, q, rfl, hok, hl, k⟩ := h
    obtain ⟨wl, wk⟩ := item_words hok
    obtain ⟨sh, ne, nl⟩ := names_sh q
    refine ⟨_, PSs.nox (pss_cons (ps_set (i := 1) nd rfl (Or.inl rfl) (pe_dget2 hu (pe_disp (pps_cons pe_str (pe_slice sl_tup (pe_globR (by rfl) T.g_WORKER_SETTINGS) po_none (po_some (pe_un un_neg pe_int))) (pps_cons pe_str (pe_globR (by rfl) T.g_SUPERVISOR_SETTINGS) pps_nil)) (by rfl) (by rfl) (fun z => by cases z) (by decide)) (pe_ix (ixlK (K := K)) (pv 0) pe_int (fun _ _ => rfl)) (pe_tup pa_nil) ⟨by rfl, by rfl, by rfl, by rfl⟩))
 (pss_cons (ps_if (PW.pt (pw_or (pt_cmpR (op_eqD hr.units) (pv 1) (pe_tup pa_nil) (nomark _)) (pw_or1 (pt_cmpR op_ne (pe_callB call_len_seq (by rfl) T.b_len (by decide +kernel) (pa_cons (pv 0) pa_nil)) (pe_op op_add (pe_callB call_len_seq (by rfl) T.b_len (by decide +kernel) (pa_cons (pv 1) pa_nil)) pe_int) (nomark _)))))
  (pss_one (ps_ret pe_non))
  pss_nil)
 (pss_cons (ps_set (i := 2) nd rfl (Or.inl rfl) (pe_ifExp (pt_cmpR op_eq (pe_ix (ixlK (K := K)) (pv 0) pe_int (fun _ _ => rfl)) pe_str (nomark _)) (pe_disp (pps_cons pe_str (pe_tup pa_nil) pps_nil) (by rfl) (by rfl) (fun z => by cases z) (by decide)) pe_dnewK))
 (pss_cons (ps_for PassesOwn.never rfl (pi_zipS (by rfl) T.b_zip (pa_cons (pv 1) (pa_cons (pe_slice sl_list (pv 0) (po_some pe_int) po_none) pa_nil)) (pk_cons pe_bl pk_nil)) (pg_tup rfl (pgs_cons (pg_name (i := 3) nd rfl (Or.inl rfl)) (pgs_cons (pg_name (i := 4) nd rfl (Or.inl rfl)) pgs_nil)))
  (pss_cons (ps_dput hu (pv 2) (pv 3) (pe_ifExp (pt_cmpR (op_in_seq) (pv 3) (pe_globR (by rfl) T.g_WORDED) (by rfl)) (pv 4) (pe_call G_number_of (hr.mono (by decide)) (by rfl) T.g_number_of T.F_number_of.kp T.bi_number_of .nil pass0 (pa_cons (pv 4) pa_nil))) rfl)
 (pss_one (ps_if (PW.pt (pw_and (pt_cmpR op_eq (pv 3) pe_str (nomark _)) (pw_and1 (pt_cmpR op_eq (pv 4) pe_str (nomark _)))))
  (pss_one (ps_dput hu (pv 2) (pv 3) pe_non rfl))
  pss_nil))))
 (pss_one (ps_ret (pv 2))))))), ?_⟩
    -- known
    refine g_asg (P := fun v H => ∃ kn, v = .ref kn ∧ SqT K H kn ((Item.names q).map V.str)) ⟨fun H1 s1 Q1 q1 => ?_, fun v H H' s ⟨kn, e, h⟩ => ⟨kn, e, h.ext s⟩⟩ fun v1 H1 s1 hk => ?_
    · refine fun p hp => ⟨1, rfl, -1, rfl, _, _, rfl, T.q_WORKER_SETTINGS _, (show ¬ (HT.sIx 7 0 none = 0 ∧ HT.sIx 7 7 (some (-1)) = 7) by decide), fun r hr => ?_⟩
      have s2 : Same (upd H1 p (.dK [])) _ := same_new (o := .tup (cutV [V.str "name", .str "restart", .str "opening", .str "closing", .str "deadline", .str "refused", .str "script"] none (some (-1)))) hr
      have hr2 : upd (upd H1 p (.dK [])) r (.tup (cutV [V.str "name", .str "restart", .str "opening", .str "closing", .str "deadline", .str "refused", .str "script"] none (some (-1)))) r = some (.tup ([("name" : Str), "restart", "opening", "closing", "deadline", "refused"].map V.str)) := upd_same
      have hp2 := s2 _ _ (show upd H1 p (.dK []) p = some (.dK []) from upd_same)
      have s3 : Same H1 (upd (upd H1 p (.dK [])) r (.tup (cutV [V.str "name", .str "restart", .str "opening", .str "closing", .str "deadline", .str "refused", .str "script"] none (some (-1))))) := (same_new hp).trans s2
      generalize upd (upd H1 p (.dK [])) r (.tup (cutV [V.str "name", .str "restart", .str "opening", .str "closing", .str "deadline", .str "refused", .str "script"] none (some (-1)))) = H2 at *
      have rp : r ≠ p := fun z => by rw [z, hp2] at hr2; cases hr2
      refine ⟨hp2, [(Sum.inr "worker", .ref r), (Sum.inr "supervisor", .ref (He.ga K "SUPERVISOR_SETTINGS"))], rfl, Nat.le_of_ble_eq_true rfl, p, rfl, .inl ⟨_, .inl upd_same⟩, ?_⟩
      have s4 := same_put (o := .dK (mergeK [] [(Sum.inr "worker", V.ref r), (Sum.inr "supervisor", .ref (He.ga K "SUPERVISOR_SETTINGS"))])) s3 hp
      have hr3 : upd H2 p (.dK (mergeK [] [(Sum.inr "worker", V.ref r), (Sum.inr "supervisor", .ref (He.ga K "SUPERVISOR_SETTINGS"))])) r = some (.tup ([("name" : Str), "restart", "opening", "closing", "deadline", "refused"].map V.str)) := by rw [upd_ne rp]; exact hr2
      have hp3 : upd H2 p (.dK (mergeK [] [(Sum.inr "worker", V.ref r), (Sum.inr "supervisor", .ref (He.ga K "SUPERVISOR_SETTINGS"))])) p = some (.dK [(Sum.inr "worker", V.ref r), (Sum.inr "supervisor", .ref (He.ga K "SUPERVISOR_SETTINGS"))]) := upd_same
      generalize upd H2 p (.dK (mergeK [] [(Sum.inr "worker", V.ref r), (Sum.inr "supervisor", .ref (He.ga K "SUPERVISOR_SETTINGS"))])) = H3 at *
      have hl3 := s4 _ _ (s1 _ _ hl)
      cases q with
      | inl d =>
        refine ⟨_, rfl, l, _, 0, .str "worker", rfl, rfl, .of hl3, rfl, Nat.zero_le _, fun e he => ⟨some (.ref r), .inl ⟨_, Sum.inr "worker", .inl ((same_new he) _ _ hp3), rfl, rfl⟩, ?_⟩⟩
        exact q1 _ _ (s4.trans (same_new he)) ⟨r, rfl, .of ((same_new he) _ _ hr3)⟩
      | inr d =>
        refine ⟨_, rfl, l, _, 0, .str "supervisor", rfl, rfl, .of hl3, rfl, Nat.zero_le _, fun e he => ⟨some (.ref (He.ga K "SUPERVISOR_SETTINGS")), .inl ⟨_, Sum.inr "supervisor", .inl ((same_new he) _ _ hp3), rfl, rfl⟩, ?_⟩⟩
        exact q1 _ _ (s4.trans (same_new he)) ⟨_, rfl, T.q_SUPERVISOR_SETTINGS _⟩
    obtain ⟨kn, rfl, hkn⟩ := hk
    dsimp only
    show tSeq _ _ _ _ _
    refine s_noN (et_or0 (fun H2 s2 Q1 q1 => ?_) (et_ev fun H2 s2 Q1 q1 => ?_)) fun H2 s2 => ?_
    · refine ⟨_, rfl, Nat.zero_le _, fun p hp => ⟨_, .tuple [], .tup (hkn.ext (s2.trans (same_new hp))) (dp_strs _), .tup (.of upd_same) .nil, sh, by decide +kernel, false, by rw [ne], q1 _ (same_new hp)⟩⟩
    · refine ⟨_, rfl, l, _, rfl, .inl (.of (s2 _ _ (s1 _ _ hl))), _, rfl, kn, _, rfl, .inr (hkn.ext s2), _, _, rfl, rfl, rfl, false, ?_, q1⟩
      rw [List.length_map, List.length_map, wl, nl]
      decide
    dsimp only
    show tSeq _ _ _ _ _
    refine g_asg (P := fun v H' => IP q 0 v H' ∧ ∀ m, v = .ref m → H m = none) ?_ fun v3 H3 s3 hv => ?_
    · have hl2 := s2 _ _ (s1 _ _ hl)
      cases q with
      | inl d =>
        refine g_if1 (fun H3 s3 => evb_eqS (x := "worker") (ev_ixL rfl (s3 _ _ hl2) rfl) ev_c rfl) ⟨fun H3 s3 Q1 q1 => ?_, fun v H H' s h => ⟨mn_ip _ _ _ s h.1, h.2⟩⟩
        refine fun p hp => ⟨Nat.zero_le _, fun e he => ⟨(same_new he) _ _ upd_same, [(Sum.inr "script", .ref e)], rfl, by simp, ?_⟩⟩
        have ep : e ≠ p := fun z => by rw [z, upd_same] at he; cases he
        refine q1 _ _ (same_put ((same_new hp).trans (same_new he)) hp) ⟨⟨p, e, rfl, upd_same, .inr (by rw [upd_ne ep]; exact upd_same)⟩, fun m z => by cases z; exact Same.free ((s1.trans s2).trans s3) hp⟩
      | inr d =>
        refine g_if0 (fun H3 s3 => evb_eqS (x := "supervisor") (ev_ixL rfl (s3 _ _ hl2) rfl) ev_c rfl) ⟨fun H3 s3 Q1 q1 => ?_, fun v H H' s h => ⟨mn_ip _ _ _ s h.1, h.2⟩⟩
        exact fun p hp => q1 _ _ (same_new hp) ⟨⟨p, 0, rfl, upd_same, .inl rfl⟩, fun m z => by cases z; exact Same.free ((s1.trans s2).trans s3) hp⟩
    obtain ⟨⟨m, s, rfl, hm, hs⟩, hfr⟩ := hv
    have hm0 := hfr m rfl
    have s123 := (s1.trans s2).trans s3
    obtain ⟨cut, tl⟩ := words_cut q
    dsimp only
    show tSeq _ _ _ _ _
    refine ⟨_, rfl, _, rfl, 1, rfl, l, _, rfl, .of (s123 _ _ hl), fun r hr => ?_⟩
    rw [cut]
    have s4 := same_new (o := .lst ((Item.words q).tail.map V.str)) hr
    have er : upd H3 r (.lst ((Item.words q).tail.map V.str)) r = some (.lst ((Item.words q).tail.map V.str)) := upd_same
    generalize upd H3 r (.lst ((Item.words q).tail.map V.str)) = H4 at s4 er ⊢
    have hm4 := s4 _ _ hm
    have hs4 := hs.imp id (s4 _ _)
    have hk4 : SqT K H4 kn ((Item.names q).map V.str) := hkn.ext ((s2.trans s3).trans s4)
    refine ⟨kn, r, _, _, rfl, rfl, hk4, .of er, ?_⟩
    show ∃ W, _
    have len6 : ((Item.names q).map V.str).length = ((Item.words q).tail.map V.str).length := by rw [List.length_map, List.length_map, nl, tl]
    refine for_it (walk_zs (K := K) (a := kn) (b := r) len6) (fun i σ H' => But m H4 H' ∧ H' m = some (.dK ((Item.full q s).take (Item.off q + i))) ∧ ∃ a3 a4, σ = [some (.ref l), some (.ref kn), some (.ref m), a3, a4]) ⟨But.refl, hm4, none, none, rfl⟩ (fun i σ H' _ p => ⟨p.1.seqT hm4 hk4, p.1.seq hm4 (.of er)⟩) (fun i y σ H5 H6 hi p yy => ?_) (fun σ H5 p => ?_)
    · obtain ⟨b5, hm5, a3, a4, rfl⟩ := p
      obtain ⟨t0, u, g, rfl, ht0, rfl, eu, eg⟩ := yy
      rw [List.length_map, nl] at hi
      obtain ⟨n, z, x, e1, e2, e3, e4, e5, e6⟩ := step_ok hok s i hi
      have eu : ((Item.names q).map V.str)[i]? = some u := eu
      have eg : ((Item.words q).tail.map V.str)[i]? = some g := eg
      rw [List.getElem?_map, e1] at eu
      cases eu
      rw [List.getElem?_map, List.getElem?_tail, e2] at eg
      cases eg
      refine ⟨t0, _, rfl, .of upd_same, rfl, _, _, rfl, _, _, rfl, rfl, ?_⟩
      have b6 : But m H4 (upd H5 t0 (.tup [.str n, .str z])) := b5.new ht0
      have hm6 := (same_new (o := .tup [.str n, .str z]) ht0) _ _ hm5
      generalize upd H5 t0 (.tup [V.str n, .str z]) = H6 at b6 hm6 ⊢
      have flen : ((Item.full q s).take (Item.off q + i)).length ≤ 100 := by
        rw [List.length_take]
        exact Nat.le_trans (Nat.min_le_left _ _) (by cases q <;> simp [Item.off] <;> omega)
      -- the second look
      have fin : ∀ (y : V) (H7 : Hp) (D : Ends), Same H6 H7 → ((n = "deadline" ∧ z = "-" ∧ x = .non) ∨ (¬ (n = "deadline" ∧ z = "-") ∧ y = x)) → (∀ H', But m H4 H' → H' m = some (.dK ((Item.full q s).take (Item.off q + (i + 1)))) → D.nx [some (.ref l), some (.ref kn), some (.ref m), some (.str n), some (.str z)] H') →
          tIfS (tAnd (tTest (tOp rEq (tVar 3) (tC (.str "deadline")))) (tTest (tOp rEq (tVar 4) (tC (.str "-"))))) (sDPut (tVar 2) (tVar 3) (tC .non)) tNext D [some (.ref l), some (.ref kn), some (.ref m), some (.str n), some (.str z)] (upd H7 m (.dK (putK ((Item.full q s).take (Item.off q + i)) (Sum.inr n) y))) := by
        intro y H7 D s7 hy kk
        have b7 : But m H4 (upd H7 m (.dK (putK ((Item.full q s).take (Item.off q + i)) (Sum.inr n) y))) := (b6.trans (But.same s7)).put
        refine st_if (b := decide (n = "deadline") && decide (z = "-")) (evb_and (evb_eqS (ev_var rfl) ev_c rfl) fun _ => evb_eqS (ev_var rfl) ev_c rfl) ?_
        rcases hy with ⟨h1, h2, h3⟩ | ⟨h1, h2⟩
        · rw [decide_eq_true h1, decide_eq_true h2, if_pos (show (true && true) = true from rfl)]
          refine ⟨_, rfl, _, rfl, m, _, rfl, .inl ⟨_, Sum.inr n, upd_same, rfl, ?_, rfl⟩, kk _ b7.put ?_⟩
          · rw [e3, List.length_append]
            exact Nat.lt_of_le_of_lt (show _ ≤ 101 by simpa using flen) (by decide)
          · rw [upd_same, e3, e4, e5, h3]
        · rw [if_neg (by simpa using h1)]
          refine kk _ b7 ?_
          rw [upd_same, e3, e5, h2]
      have put : ∀ (y : V) (H7 : Hp), Same H6 H7 → DPut H7 m (.str n) y (upd H7 m (.dK (putK ((Item.full q s).take (Item.off q + i)) (Sum.inr n) y))) := fun y H7 s7 => .inl ⟨_, Sum.inr n, s7 _ _ hm6, rfl, Nat.lt_of_le_of_lt flen (by decide), rfl⟩
      rcases e6 with ⟨h1, h2, h3⟩ | ⟨h1, kv, hk1, h2, h3⟩ | ⟨h1, h2, h3, h4⟩
      · refine ⟨_, rfl, _, _, rfl, .inr (T.q_WORDED _), rfl, rfl, true, congrArg V.bl (show (if false = true then _ else inV (.str n) worded) = true by rw [if_neg Bool.false_ne_true]; exact h1), _, rfl, ?_⟩
        refine ⟨_, rfl, _, rfl, m, _, rfl, put _ _ (Same.refl _), ?_⟩
        exact fin _ H6 _ (Same.refl _) (.inr ⟨fun z => h2 z.1, h3.symm⟩) fun H' b h => ⟨b, h, _, _, rfl⟩
      · refine ⟨_, rfl, _, _, rfl, .inr (T.q_WORDED _), rfl, rfl, false, congrArg V.bl (show (if false = true then _ else inV (.str n) worded) = false by rw [if_neg Bool.false_ne_true]; exact h1), _, rfl, .inl ⟨kv, by rw [h2]; rfl, hk1, fun H7 s7 => ?_⟩⟩
        refine ⟨_, rfl, _, rfl, m, _, rfl, put _ _ s7, ?_⟩
        exact fin _ H7 _ s7 (.inr ⟨fun z => num_ne hk1 (h2.symm.trans z.2), h3.symm⟩) fun H' b h => ⟨b, h, _, _, rfl⟩
      · refine ⟨_, rfl, _, _, rfl, .inr (T.q_WORDED _), rfl, rfl, false, congrArg V.bl (show (if false = true then _ else inV (.str n) worded) = false by rw [if_neg Bool.false_ne_true]; exact h1), _, rfl, .inr ⟨by rw [h3]; rfl, fun H7 s7 => ?_⟩⟩
        refine ⟨_, rfl, _, rfl, m, _, rfl, put _ _ s7, ?_⟩
        exact fin _ H7 _ s7 (.inl ⟨h2, h3, h4⟩) fun H' b h => ⟨b, h, _, _, rfl⟩
    · obtain ⟨b5, hm5, a3, a4, rfl⟩ := p
      rw [List.length_map, nl] at hm5
      have sH : Same H H5 := fun b o hb => b5 b o ((s123.trans s4) _ _ hb) fun z => by rw [z, hm0] at hb; cases hb
      refine st_ret (ev_var rfl) (k _ H5 sH (ip_iv ⟨m, s, rfl, hm5, hs4.imp id fun h => b5 _ _ h fun z => by rw [z, hm4] at h; cases h⟩))
end
end W06

set_option Elab.async false
set_option linter.all false
set_option maxRecDepth 100000
set_option maxHeartbeats 4000000
namespace W06
open PySem PySem.Spec PyProof.Rows L2 WXG WEv WRd WLf WEn WZs WRu WSt StX WDc
/-! ### rows -/
def RowAt (q : Nat × Item) : HP V := fun v H => ∃ p m, v = .ref p ∧ H p = some (.tup [.int q.1, .bl (Item.sup q.2), m]) ∧ IV q.2 m H
/-- all but lists as it was -/
def KpL (H H' : Hp) : Prop := ∀ b o, H b = some o → (∀ xs, o ≠ .lst xs) → H' b = some o
theorem KpL.same {H H' : Hp} (s : Same H H') : KpL H H' := fun b o h _ => s b o h
theorem KpL.trans {H H' H'' : Hp} (a : KpL H H') (b : KpL H' H'') : KpL H H'' := fun c o h h1 => b c o (a c o h h1) h1
theorem KpL.lst {H : Hp} {l : Addr} {xs : List V} {x : HO} (hl : H l = some (.lst xs)) : KpL H (upd H l x) := fun b o h h1 => by
  rw [upd_ne (fun z => by rw [z, hl] at h; cases h; exact h1 _ rfl)]
  exact h
theorem iv_kpl {q : Item} {v : V} {H H' : Hp} (s : KpL H H') (h : IV q v H) : IV q v H' := by
  cases q with
  | inl d =>
    obtain ⟨m, x, e, h1, h2⟩ := h
    exact ⟨m, x, e, s _ _ h1 (fun _ z => nomatch z), s _ _ h2 (fun _ z => nomatch z)⟩
  | inr d =>
    obtain ⟨m, e, h1⟩ := h
    exact ⟨m, e, s _ _ h1 (fun _ z => nomatch z)⟩
theorem row_kpl {q : Nat × Item} {v : V} {H H' : Hp} (s : KpL H H') (h : RowAt q v H) : RowAt q v H' := by
  obtain ⟨p, m, e, h1, h2⟩ := h
  exact ⟨p, m, e, s _ _ h1 (fun _ z => nomatch z), iv_kpl s h2⟩
theorem rows_kpl {H H' : Hp} (s : KpL H H') : ∀ {qs : List (Nat × Item)} {vs : List V}, Fa (qs.map RowAt) vs H → Fa (qs.map RowAt) vs H'
  | [], [], _ => trivial
  | q :: qs, v :: vs, h => ⟨row_kpl s h.1, rows_kpl s h.2⟩
  | [], _ :: _, h => h.elim
  | _ :: _, [], h => h.elim
theorem mn_iv {q : Item} : Mn (IV q) := fun _ _ _ s h => iv_kpl (KpL.same s) h
def spRow : Sp := fun vs H Q _ => ∃ q : Nat × Item, vs = [.str (lineI q)] ∧ Item.Ok q.2 ∧ q.1 ≤ 20 ∧ ∀ v H', Same H H' → RowAt q v H' → Q v H'
theorem join_head (q : Item) : ∃ c cs, TL.tl (Txt.join " " (Item.words q)) = c :: cs ∧ c ≠ 32 := by
  cases q with
  | inl d =>
    have e : TL.tl (Txt.join " " (Item.words (.inl d))) = 119 :: ([111, 114, 107, 101, 114] ++ ([32] ++ TL.joinL [32] (d.words.tail.map TL.tl))) := by
      rw [TL.join_eq, TL.tl_join]
      rfl
    exact ⟨119, _, e, by decide⟩
  | inr d =>
    have e : TL.tl (Txt.join " " (Item.words (.inr d))) = 115 :: ([117, 112, 101, 114, 118, 105, 115, 111, 114] ++ ([32] ++ TL.joinL [32] (d.words.tail.map TL.tl))) := by
      rw [TL.join_eq, TL.tl_join]
      rfl
    exact ⟨115, _, e, by decide⟩
section
variable {P : Program} {w : World} {K : PySem.W.Frag} {mg : Str → Option Value} {base : Heap}
theorem ok_row_of (T : Env K mg) : FnOk P w K mg base CX0 6 (d_row_of.loc K) T.fd_row_of ["line"] spRow := by
  have G_values_in : FnOk P w K mg base CX0 2 _ _ _ _ := ok_values_in T
  have G_worker_of : FnOk P w K mg base CX0 5 _ _ _ _ := ok_worker_of T
  have G_supervisor_of : FnOk P w K mg base CX0 5 _ _ _ _ := ok_supervisor_of T 0
  refine T.F_row_of.ok sc_row_of (fun vs H Q E h => ?_) (fun cdv A outer s H vs Q E hr h => ?_)
  · obtain ⟨q, rfl, _⟩ := h
    rfl
  · have nd := sc_row_of.nd
    have hu := hu_of hr
    obtain ⟨q, rfl, hok, hlv, k⟩ := h
    refine ⟨_, PSs.nox (pss_cons (ps_set (i := 1) nd rfl (Or.inl rfl) (pe_m1 PySem.F.slot_str_lstrip PySem.F.type_str_lstrip mt_lstripChars (pv 0) pe_str))
 (pss_cons (ps_asg (pe_callB call_divmod (by rfl) T.b_divmod (by decide +kernel) (pa_cons (pe_op op_sub (pe_callB call_len_str (by rfl) T.b_len (by decide +kernel) (pa_cons (pv 0) pa_nil)) (pe_callB call_len_str (by rfl) T.b_len (by decide +kernel) (pa_cons (pv 1) pa_nil))) (pa_cons (pe_callB call_len_str (by rfl) T.b_len (by decide +kernel) (pa_cons (C8.pe_gc (by rfl) T.c_INDENT) pa_nil)) pa_nil))) (pg_tup rfl (pgs_cons (pg_name (i := 2) nd rfl (Or.inl rfl)) (pgs_cons (pg_name (i := 3) nd rfl (Or.inl rfl)) pgs_nil))))
 (pss_cons (ps_set (i := 4) nd rfl (Or.inl rfl) (pe_split (pv 1) pe_str))
 (pss_cons (ps_set (i := 5) nd rfl (Or.inl rfl) (pe_call G_values_in (hr.mono (by decide)) (by rfl) T.g_values_in T.F_values_in.kp T.bi_values_in .nil pass0 (pa_cons (pv 4) pa_nil)))
 (pss_cons (ps_if (PW.pt (pw_or (pt_cmpR op_gt (pv 3) pe_int (nomark _)) (pw_or1 (pt_cmpR op_isN (pv 5) pe_non (nomark _)))))
  (pss_one (ps_ret pe_non))
  pss_nil)
 (pss_cons (ps_try_only rfl rfl ⟨by rfl, by decide, .inl T.g_BadSetting⟩ takes_none5 (fun W pn xe tk po => (pss_one (ps_if (pt_cmpR op_eq (pe_ix (ixlK (K := K)) (pv 4) pe_int (fun _ _ => rfl)) pe_str (nomark _))
  (pss_one (ps_expr (pe_call G_worker_of (hr.mono (by decide)) (by rfl) T.g_worker_of T.F_worker_of.kp T.bi_worker_of .nil pass0 (pa_cons (pv 5) pa_nil))))
  (pss_one (ps_expr (pe_call G_supervisor_of (hr.mono (by decide)) (by rfl) T.g_supervisor_of T.F_supervisor_of.kp T.bi_supervisor_of .nil pass0 (pa_cons (pv 5) (pa_cons (pe_lst pa_nil) pa_nil))))))))
  (fun oa oe cls d pn hz hv => pss_dead))
 (pss_one (ps_ret (pe_tup (pa_cons (pv 2) (pa_cons (pe_cmpR op_eq (pe_ix (ixlK (K := K)) (pv 4) pe_int (fun _ _ => rfl)) pe_str (nomark _)) (pa_cons (pv 5) pa_nil)))))))))))), ?_⟩
    obtain ⟨wl, wk⟩ := item_words hok
    obtain ⟨c, cs, ej, hc⟩ := join_head q.2
    have ll := line_len hok
    have strip : Txt.lstripChars (lineI q) " " = Txt.join " " (Item.words q.2) := lstrip_ind ej hc
    have lens : (lineI q).length = 2 * q.1 + (Txt.join " " (Item.words q.2)).length := by
      unfold lineI
      rw [TL.len_tl, TL.tl_append, List.length_append, tl_ind, List.length_replicate, ← TL.len_tl]
    have split : Txt.split (Txt.join " " (Item.words q.2)) " " = Item.words q.2 := TL.split_join (y := " ") (s := 32) (S := []) (by decide) (by decide +kernel) (fun e => by rw [e] at wl; cases wl) fun z hz => (wk z hz).2.1
    have big : 1000 ≤ sizeLine := by decide
    generalize Txt.join " " (Item.words q.2) = bare at *
    refine ⟨_, rfl, ⟨_, rfl⟩, lineI q, " ", rfl, rfl, by omega, ?_⟩
    rw [strip]
    refine ⟨_, rfl, lineI q, rfl, by omega, _, rfl, bare, rfl, by omega, _, _, rfl, rfl, "  ", rfl, by decide, _, _, rfl, (show CDiv _ ((("  " : Str).length : Nat) : Int) from ⟨by decide, by decide⟩), fun p hp => ⟨p, _, rfl, .of upd_same, rfl, _, _, rfl, _, _, rfl, rfl, ?_⟩⟩
    have e1 : ((lineI q).length - (bare.length : Int)) / ((("  " : Str).length : Nat) : Int) = (q.1 : Int) := by
      have : (("  " : Str).length : Nat) = 2 := by decide
      rw [this, lens]
      omega
    have e2 : ((lineI q).length - (bare.length : Int)) % ((("  " : Str).length : Nat) : Int) = 0 := by
      have : (("  " : Str).length : Nat) = 2 := by decide
      rw [this, lens]
      omega
    dsimp only
    rw [e1, e2]
    have s1 := same_new (o := .tup [V.int q.1, .int 0]) hp
    generalize upd H p (.tup [V.int q.1, .int 0]) = H1 at s1 ⊢
    refine ⟨_, rfl, ⟨_, rfl⟩, bare, " ", rfl, rfl, by decide, by omega, fun l hl => ?_⟩
    rw [split]
    have s2 := s1.trans (same_new (o := .lst ((Item.words q.2).map V.str)) hl)
    have el : upd H1 l (.lst ((Item.words q.2).map V.str)) l = some (.lst ((Item.words q.2).map V.str)) := upd_same
    generalize upd H1 l (.lst ((Item.words q.2).map V.str)) = H2 at s2 el ⊢
    refine ⟨_, rfl, l, q.2, rfl, hok, el, fun v H3 s3 hv => ?_⟩
    have hvr : ∃ m, v = .ref m := by
      obtain ⟨lv, it⟩ := q
      cases it with
      | inl d => obtain ⟨m, _, e, _⟩ := hv; exact ⟨m, e⟩
      | inr d => obtain ⟨m, e, _⟩ := hv; exact ⟨m, e⟩
    obtain ⟨m, rfl⟩ := hvr
    dsimp only
    show tSeq _ _ _ _ _
    refine st_no (evb_or (a := false) (evb_cmpF (ev_var rfl) ev_c (by decide)) fun _ => (fun Q q => ⟨_, rfl, rfl, false, rfl, q⟩)) ?_
    have el3 := s3 _ _ el
    have last : ∀ H4, Same H3 H4 → tRet (tTup (tCons (tVar 2) (tCons (tOp rEq (tOp (rIxL K) (tVar 4) (tC (.int 0))) (tC (.str "supervisor"))) (tCons (tVar 5) tNil)))) { nx := fun _ H' => Q .non H', rt := Q } [some (.str (lineI q)), some (.str bare), some (.int q.1), some (.int 0), some (.ref l), some (.ref m)] H4 := by
      intro H4 s4
      obtain ⟨lv, it⟩ := q
      cases it with
      | inl d => exact ⟨_, rfl, _, rfl, l, _, 0, .str "worker", rfl, rfl, .of (s4 _ _ el3), rfl, rfl, _, rfl, (by decide : 3 ≤ sizeLine), fun r hr => k (.ref r) _ (((s2.trans s3).trans s4).trans (same_new hr)) ⟨r, .ref m, rfl, upd_same, iv_kpl (KpL.same (s4.trans (same_new hr))) hv⟩⟩
      | inr d => exact ⟨_, rfl, _, rfl, l, _, 0, .str "supervisor", rfl, rfl, .of (s4 _ _ el3), rfl, rfl, _, rfl, (by decide : 3 ≤ sizeLine), fun r hr => k (.ref r) _ (((s2.trans s3).trans s4).trans (same_new hr)) ⟨r, .ref m, rfl, upd_same, iv_kpl (KpL.same (s4.trans (same_new hr))) hv⟩⟩
    obtain ⟨lv, it⟩ := q
    cases it with
    | inl d =>
      refine st_if (b := true) (evb_eqS (x := "worker") (ev_ixL rfl el3 rfl) ev_c rfl) ?_
      exact ⟨_, rfl, .ref m, d, rfl, hok, hv, fun v' H4 s4 _ => last H4 s4⟩
    | inr d =>
      refine st_if (b := false) (evb_eqS (x := "supervisor") (ev_ixL rfl el3 rfl) ev_c rfl) ?_
      refine ⟨_, rfl, Nat.zero_le _, fun r hr => ⟨.ref m, r, d, [], [], rfl, hok, mn_sv _ _ _ (same_new hr) hv, upd_same, trivial, by decide, by decide, by decide, fun v' H4 s4 _ => last H4 ((same_new hr).trans s4)⟩⟩
end
end W06

set_option Elab.async false
set_option linter.all false
set_option maxRecDepth 100000
set_option maxHeartbeats 4000000
namespace W06
open PySem PySem.Spec PyProof.Rows L2 WXG WEv WRd WLf WEn WZs WRu WSt StX WDc
/-! ### the way down to a row, and how many children each has -/
abbrev St2 := List Bool × List Int
def bump (l : Nat) (c : List Int) : List Int := (c.take l).set (l - 1) (c.getD (l - 1) 0 + 1)
def stp (s : St2) (q : Nat × Item) : St2 := (s.1.take q.1 ++ [Item.sup q.2], bump q.1 s.2 ++ [0])
def Gd (s : St2) (q : Nat × Item) : Prop := q.1 ≤ s.1.length ∧ s.1.length = s.2.length ∧ (0 < q.1 → s.1[q.1 - 1]? = some true ∧ ∃ k, s.2[q.1 - 1]? = some k ∧ k < 12)
def Runs : St2 → List (Nat × Item) → St2 → Prop
  | s, [], s' => s = s'
  | s, q :: r, s' => Gd s q ∧ Runs (stp s q) r s'
theorem Runs.app : ∀ {r r' : List (Nat × Item)} {s s' s'' : St2}, Runs s r s' → Runs s' r' s'' → Runs s (r ++ r') s''
  | [], _, _, _, _, h, h' => by
    cases h
    exact h'
  | _ :: r, _, _, _, _, h, h' => ⟨h.1, h.2.app h'⟩
theorem stp_facts {s : St2} {l : Nat} {it : Item} (hl : s.1.length = s.2.length) (hle : l ≤ s.1.length) : (stp s (l, it)).1.length = l + 1 ∧ (stp s (l, it)).2.length = l + 1 ∧ (∀ i, i < l → (stp s (l, it)).1[i]? = s.1[i]?) ∧ (stp s (l, it)).1[l]? = some (Item.sup it) ∧
    (∀ i, i + 1 < l → (stp s (l, it)).2[i]? = s.2[i]?) ∧ (0 < l → ∀ k, s.2[l - 1]? = some k → (stp s (l, it)).2[l - 1]? = some (k + 1)) ∧ (stp s (l, it)).2[l]? = some 0 := by
  have hb : (bump l s.2).length = l := by
    unfold bump
    rw [List.length_set, List.length_take]
    omega
  refine ⟨?_, ?_, fun i hi => ?_, ?_, fun i hi => ?_, fun h0 k hk => ?_, ?_⟩
  · show (s.1.take l ++ [Item.sup it]).length = _
    rw [List.length_append, List.length_take]
    simp
    omega
  · show (bump l s.2 ++ [0]).length = _
    rw [List.length_append, hb]
    rfl
  · show (s.1.take l ++ [Item.sup it])[i]? = _
    rw [List.getElem?_append_left (by rw [List.length_take]; omega), List.getElem?_take_of_lt hi]
  · show (s.1.take l ++ [Item.sup it])[l]? = _
    rw [List.getElem?_append_right (by rw [List.length_take]; omega), List.length_take, Nat.min_eq_left hle, Nat.sub_self]
    rfl
  · show (bump l s.2 ++ [0])[i]? = _
    rw [List.getElem?_append_left (by omega)]
    unfold bump
    rw [List.getElem?_set_ne (by omega), List.getElem?_take_of_lt (by omega)]
  · show (bump l s.2 ++ [0])[l - 1]? = _
    rw [List.getElem?_append_left (by omega)]
    unfold bump
    rw [List.getElem?_set_self (by rw [List.length_take]; omega), List.getD_eq_getElem?_getD, hk]
    rfl
  · show (bump l s.2 ++ [0])[l]? = _
    rw [List.getElem?_append_right (by omega), hb, Nat.sub_self]
    rfl
def FR (n : Nat) : Prop := ∀ (t : Told n) (l : Nat) (s : St2), Told.Ok n t → s.1.length = s.2.length → l ≤ s.1.length → (0 < l → s.1[l - 1]? = some true ∧ ∃ k, s.2[l - 1]? = some k ∧ k < 12) →
  ∃ s', Runs s (Told.flat n t l) s' ∧ s'.1.length = s'.2.length ∧ l < s'.1.length ∧ (∀ i, i < l → s'.1[i]? = s.1[i]?) ∧ (∀ i, i + 1 < l → s'.2[i]? = s.2[i]?) ∧ (0 < l → ∀ k, s.2[l - 1]? = some k → s'.2[l - 1]? = some (k + 1))
theorem fr_all {n : Nat} (ih : FR n) (l : Nat) : ∀ (ts : List (Told n)) (s : St2) (j : Int), (∀ t ∈ ts, Told.Ok n t) → s.1.length = s.2.length → l < s.1.length → s.1[l]? = some true → s.2[l]? = some j → j + ts.length ≤ 12 →
    ∃ s', Runs s (ts.flatMap fun t => Told.flat n t (l + 1)) s' ∧ s'.1.length = s'.2.length ∧ l < s'.1.length ∧ (∀ i, i ≤ l → s'.1[i]? = s.1[i]?) ∧ (∀ i, i < l → s'.2[i]? = s.2[i]?)
  | [], s, j, _, h1, h2, _, _, _ => ⟨s, rfl, h1, h2, fun _ _ => rfl, fun _ _ => rfl⟩
  | t :: ts, s, j, hok, h1, h2, h3, h4, h5 => by
    rw [List.length_cons] at h5
    obtain ⟨s2, r2, a1, a2, a3, a4, a5⟩ := ih t (l + 1) s (hok t List.mem_cons_self) h1 (by omega) fun _ => ⟨h3, j, h4, by omega⟩
    have a5' := a5 (by omega) j h4
    obtain ⟨s3, r3, b1, b2, b3, b4⟩ := fr_all ih l ts s2 (j + 1) (fun t ht => hok t (List.mem_cons_of_mem _ ht)) a1 (by omega) ((a3 l (by omega)).trans h3) a5' (by omega)
    exact ⟨s3, r2.app r3, b1, b2, fun i hi => (b3 i hi).trans (a3 i (by omega)), fun i hi => (b4 i hi).trans (a4 i (by omega))⟩
theorem flat_runs : ∀ n, FR n
  | 0 => fun t => by cases t
  | n + 1 => fun t l s hok hlen hle hp => by
    cases t with
    | inl d =>
      obtain ⟨f1, f2, f3, f4, f5, f6, f7⟩ := stp_facts (it := .inl d) hlen hle
      exact ⟨stp s (l, .inl d), ⟨⟨hle, hlen, hp⟩, rfl⟩, f1.trans f2.symm, by omega, f3, f5, f6⟩
    | inr x =>
      obtain ⟨d, ts⟩ := x
      obtain ⟨f1, f2, f3, f4, f5, f6, f7⟩ := stp_facts (it := .inr d) hlen hle
      have h4 : ts.length ≤ 12 := hok.2.1
      obtain ⟨s3, r3, b1, b2, b3, b4⟩ := fr_all (flat_runs n) l ts (stp s (l, .inr d)) 0 hok.2.2 (f1.trans f2.symm) (by omega) f4 f7 (by omega)
      exact ⟨s3, ⟨⟨hle, hlen, hp⟩, r3⟩, b1, b2, fun i hi => (b3 i (by omega)).trans (f3 i hi), fun i hi => (b4 i (by omega)).trans (f5 i hi), fun h0 k hk => (b4 (l - 1) (by omega)).trans (f6 h0 k hk)⟩
theorem flat_cons : ∀ (n : Nat) (t : Told n) (l : Nat), (∃ it rest, Told.flat n t l = (l, it) :: rest ∧ ∀ q ∈ rest, l < q.1) ∨ Told.flat n t l = []
  | 0, t, _ => by cases t
  | n + 1, .inl d, l => .inl ⟨.inl d, [], rfl, fun q hq => by cases hq⟩
  | n + 1, .inr (d, ts), l => .inl ⟨.inr d, _, rfl, fun q hq => by
    obtain ⟨t, ht, hq⟩ := List.mem_flatMap.mp hq
    rcases flat_cons n t (l + 1) with ⟨it, rest, e, h⟩ | e
    · rw [e] at hq
      rcases List.mem_cons.mp hq with rfl | hq
      · exact Nat.lt_succ_self l
      · have := h q hq
        omega
    · rw [e] at hq
      cases hq⟩
theorem cut_take (xs : List V) (k : Nat) : cutV xs none (some (k : Int)) = xs.take k := by
  unfold cutV
  rw [HT.sIx_none, HT.sIx_nat, List.drop_zero, Nat.sub_zero]
  rcases Nat.le_total k xs.length with h | h
  · rw [Nat.min_eq_left h]
  · rw [Nat.min_eq_right h, List.take_length, List.take_of_length_le h]
theorem ixN_last {n : Nat} (h : 0 < n) : ixN n (-1) = some (n - 1) := by
  unfold ixN
  simp
  omega
theorem atI_last {xs : List V} {v : V} (h : xs[xs.length - 1]? = some v) : atI xs (-1) = some v := by
  have hl := (List.getElem?_eq_some_iff.mp h).1
  unfold atI
  rw [ixN_last (by omega)]
  exact h
end W06

set_option Elab.async false
set_option linter.all false
set_option maxRecDepth 100000
set_option maxHeartbeats 4000000
namespace W06
open PySem PySem.Spec PyProof.Rows L2 WXG WEv WRd WLf WEn WZs WRu WSt StX WDc
def spRows (n : Nat) : Sp := fun vs H Q _ => ∃ (t : Told n), vs = [.str (Txt.join "\n" ((Told.flat n t 0).map lineI))] ∧ Told.Ok n t ∧ Told.size n t ≤ 60 ∧ n ≤ 20 ∧
  ∀ l ys H', Same H H' → H' l = some (.lst ys) → Fa ((Told.flat n t 0).map RowAt) ys H' → Q (.ref l) H'
theorem line_free {q : Nat × Item} (h : Item.Ok q.2) : 10 ∉ TL.tl (lineI q) := by
  obtain ⟨wl, wk⟩ := item_words h
  unfold lineI
  rw [TL.tl_append, tl_ind, TL.join_eq, TL.tl_join]
  intro m
  rcases List.mem_append.mp m with m | m
  · have := (List.mem_replicate.mp m).2
    cases this
  · have key : ∀ ps : List (List Nat), (∀ p ∈ ps, 10 ∉ p) → 10 ∉ TL.joinL [32] ps := by
      intro ps
      induction ps with
      | nil => intro _ m; cases m
      | cons p ps ih =>
        intro hp m
        cases ps with
        | nil => exact hp p List.mem_cons_self m
        | cons q r =>
          have m : 10 ∈ p ++ ([32] ++ TL.joinL [32] (q :: r)) := m
          rcases List.mem_append.mp m with m | m
          · exact hp p List.mem_cons_self m
          · rcases List.mem_append.mp m with m | m
            · cases List.mem_singleton.mp m
            · exact ih (fun p hp' => hp p (List.mem_cons_of_mem _ hp')) m
    exact key _ (fun p hp => by
      obtain ⟨z, hz, rfl⟩ := List.mem_map.mp hp
      exact (wk z hz).2.2.1) m
theorem rows_text {n : Nat} {t : Told n} (hok : Told.Ok n t) (hz : Told.size n t ≤ 60) (hn : n ≤ 20) (hs : Told.flat n t 0 ≠ []) : Txt.split (Txt.join "\n" ((Told.flat n t 0).map lineI)) "\n" = (Told.flat n t 0).map lineI ∧ (Txt.join "\n" ((Told.flat n t 0).map lineI)).length ≤ 12000 := by
  refine ⟨TL.split_join (y := "\n") (s := 10) (S := []) (by decide) (by decide +kernel) (fun e => hs (List.map_eq_nil_iff.mp e)) fun p hp => ?_, ?_⟩
  · obtain ⟨q, hq, rfl⟩ := List.mem_map.mp hp
    exact line_free (flat_ok n t 0 hok q hq).1
  · refine Nat.le_trans (join_len _ _) ?_
    have key : ∀ qs : List (Nat × Item), (∀ q ∈ qs, Item.Ok q.2 ∧ q.1 ≤ 20) → (((qs.map lineI).map (·.length)).sum ≤ 187 * qs.length) := by
      intro qs
      induction qs with
      | nil => intro _; exact Nat.le_refl _
      | cons q qs ih =>
        intro h
        have h1 := ih fun q hq => h q (List.mem_cons_of_mem _ hq)
        obtain ⟨h2, h3⟩ := h q List.mem_cons_self
        have h4 := line_len h2
        simp only [List.map_cons, List.sum_cons, List.length_cons]
        omega
    have k1 := key (Told.flat n t 0) fun q hq => by
      have := flat_ok n t 0 hok q hq
      exact ⟨this.1, by omega⟩
    have k2 := flat_len n t 0
    have k3 : ("\n" : Str).length = 1 := by decide
    rw [k3, List.length_map]
    omega
theorem size_pos : ∀ (n : Nat) (t : Told n), 1 ≤ Told.size n t
  | 0, t => by cases t
  | n + 1, .inl d => Nat.le_refl _
  | n + 1, .inr (d, ts) => Nat.le_add_right _ _
theorem flat_ne {n : Nat} {t : Told n} {l : Nat} : ∃ it rest, Told.flat n t l = (l, it) :: rest ∧ ∀ q ∈ rest, l < q.1 := by
  rcases flat_cons n t l with h | h
  · exact h
  · have := flat_len n t l
    rw [h] at this
    have := size_pos n t
    simp only [List.length_nil] at *
    omega
/-- if counts != []: counts[-1] += 1 -/
theorem st_bump {K : PySem.W.Frag} {σ : L2.St} {H : Hp} {D : Ends} {c1 : Addr} {c : List Int} {l : Nat} (h : σ[3]? = some (some (.ref c1))) (hc : H c1 = some (.lst ((c.map V.int).take l))) (hl : l ≤ c.length)
    (k : ∀ H1 HD, Same H H1 → (HD = H1 ∨ HD = upd H1 c1 (.lst ((bump l c).map V.int))) → HD c1 = some (.lst ((bump l c).map V.int)) → D.nx σ HD) :
    tIfS (tTest (tOp (rNeN K) (tVar 3) (tLst tNil))) (tAugS (tVar 3) (tUn (rU fun i => .int (-i)) (tC (.int 1))) (tC (.int 1)) (rIxL K) (ipI fun i j => i + j) rSetL) tNext D σ H := by
  have len : ((c.map V.int).take l).length = l := by rw [List.length_take, List.length_map]; omega
  by_cases h0 : l = 0
  · subst h0
    refine s_noN (fun H1 s Q q => ⟨_, h, Nat.zero_le _, fun b hb => ⟨c1, b, _, rfl, rfl, .of ((same_new hb) _ _ (s _ _ hc)), .of upd_same, false, rfl, q _ (same_new hb)⟩⟩) fun H1 s => k H1 H1 s (.inl rfl) ?_
    rw [s _ _ hc]
    unfold bump
    simp
  · obtain ⟨v, hv⟩ : ∃ v, c[l - 1]? = some v := ⟨_, List.getElem?_eq_getElem (by omega)⟩
    refine s_yes (fun H1 s Q q => ⟨_, h, Nat.zero_le _, fun b hb => ⟨c1, b, _, rfl, rfl, .of ((same_new hb) _ _ (s _ _ hc)), .of upd_same, true, ?_, q _ (same_new hb)⟩⟩) fun H1 s => ?_
    · rw [decide_eq_false fun z => by rw [z] at len; exact h0 len.symm]
      rfl
    · refine ⟨_, h, 1, rfl, c1, _, -1, .int v, rfl, rfl, .of (s _ _ hc), atI_last (by rw [len, List.getElem?_take_of_lt (by omega), List.getElem?_map, hv]; rfl), v, 1, rfl, rfl, c1, _, -1, l - 1, rfl, rfl, s _ _ hc, by rw [ixN_last (by omega), len], ?_⟩
      have e : ((c.map V.int).take l).set (l - 1) (.int (v + 1)) = (bump l c).map V.int := by
        unfold bump
        rw [List.getD_eq_getElem?_getD, hv, ← List.map_take, List.map_set]
        rfl
      dsimp only
      rw [e]
      exact k H1 _ s (.inr rfl) upd_same
section
variable {P : Program} {w : World} {K : PySem.W.Frag} {mg : Str → Option Value} {base : Heap}
theorem ok_rows_of (T : Env K mg) (n : Nat) : FnOk P w K mg base CX0 7 (d_rows_of.loc K) T.fd_rows_of ["text"] (spRows n) := by
  have G_row_of : FnOk P w K mg base CX0 6 _ _ _ _ := ok_row_of T
  refine T.F_rows_of.ok sc_rows_of (fun vs H Q E h => ?_) (fun cdv A outer s H vs Q E hr h => ?_)
  · obtain ⟨t, rfl, _⟩ := h
    rfl
  · have nd := sc_rows_of.nd
    have hu := hu_of hr
    obtain ⟨t, rfl, hok, hz, hn, k⟩ := h
    refine ⟨_, PSs.nox (pss_cons (ps_par3 (i := 1) (j := 2) (l := 3) (by rfl) nd rfl rfl rfl (by decide) (by decide) (by decide) rfl rfl rfl (pa_cons (pe_lst pa_nil) (pa_cons (pe_lst pa_nil) (pa_cons (pe_lst pa_nil) pa_nil))) (by rfl))
 (pss_cons (ps_for PassesOwn.never rfl (pi_enumS (by rfl) T.b_enumerate (pa_cons (pe_split (pv 0) pe_str) pa_nil) (pk_cons pe_int pk_nil)) (pg_tup rfl (pgs_cons (pg_name (i := 4) nd rfl (Or.inl rfl)) (pgs_cons (pg_name (i := 5) nd rfl (Or.inl rfl)) pgs_nil)))
  (pss_cons (ps_set (i := 6) nd rfl (Or.inl rfl) (pe_call G_row_of (hr.mono (by decide)) (by rfl) T.g_row_of T.F_row_of.kp T.bi_row_of .nil pass0 (pa_cons (pv 5) pa_nil)))
 (pss_cons (ps_if (PW.pt (pw_or (pt_cmpR op_isN (pv 6) pe_non (nomark _)) (pw_or (pt_cmpR op_gt (pe_ix (ixtK (K := K)) (pv 6) pe_int (fun _ _ => rfl)) (pe_callB call_len_seq (by rfl) T.b_len (by decide +kernel) (pa_cons (pv 2) pa_nil)) (nomark _)) (pw_or1 (pt_cmpR op_ne (pe_cmpR op_eq (pe_ix (ixtK (K := K)) (pv 6) pe_int (fun _ _ => rfl)) pe_int (nomark _)) (pe_cmpR (op_eqN hr.units) (pv 1) (pe_lst pa_nil) (nomark _)) (nomark _))))))
  (pss_one ps_dead)
  pss_nil)
 (pss_cons (ps_if (PW.pt (pw_or (pt_cmpR op_ge (pe_ix (ixtK (K := K)) (pv 6) pe_int (fun _ _ => rfl)) (C8.pe_gc (by rfl) T.c_MOST_DEPTH) (nomark _)) (pw_or1 (pt_cmpR op_gt (pv 4) (C8.pe_gc (by rfl) T.c_MOST_WHOLE) (nomark _)))))
  (pss_one ps_dead)
  pss_nil)
 (pss_cons (ps_par (i := 2) (j := 3) (by rfl) nd rfl rfl (by decide) rfl rfl (pa_cons (pe_slice sl_list (pv 2) po_none (po_some (pe_ix (ixtK (K := K)) (pv 6) pe_int (fun _ _ => rfl)))) (pa_cons (pe_slice sl_list (pv 3) po_none (po_some (pe_ix (ixtK (K := K)) (pv 6) pe_int (fun _ _ => rfl)))) pa_nil)) (by rfl))
 (pss_cons (ps_if (PW.pt (pw_and (pt_cmpR (op_neN hr.units) (pv 2) (pe_lst pa_nil) (nomark _)) (pw_and1 (PW.pt (pw_or (pt_not (pt_val (pe_ix (ixlK (K := K)) (pv 2) (pe_un un_neg pe_int) (fun _ _ => rfl)))) (pw_or1 (pt_cmpR op_eq (pe_ix (ixlK (K := K)) (pv 3) (pe_un un_neg pe_int) (fun _ _ => rfl)) (C8.pe_gc (by rfl) T.c_MOST_CHILDREN) (nomark _))))))))
  (pss_one ps_dead)
  pss_nil)
 (pss_cons (ps_if (pt_cmpR (op_neN hr.units) (pv 3) (pe_lst pa_nil) (nomark _))
  (pss_one (ps_augS (pv 3) (pe_un un_neg pe_int) pget_list pe_int ip_add set_list))
  pss_nil)
 (pss_cons (ps_par (i := 2) (j := 3) (by rfl) nd rfl rfl (by decide) rfl rfl (pa_cons (pe_op op_cat (pv 2) (pe_lst (pa_cons (pe_ix (ixtK (K := K)) (pv 6) pe_int (fun _ _ => rfl)) pa_nil))) (pa_cons (pe_op op_cat (pv 3) (pe_lst (pa_cons pe_int pa_nil))) pa_nil)) (by rfl))
 (pss_one (ps_expr (pe_bm PySem.F.plainAttrs_list PySem.F.slot_list_append PySem.F.type_list_append mt_append (pv 1) (pa_cons (pv 6) pa_nil))))))))))))
 (pss_one (ps_ret (pv 1))))), ?_⟩
    obtain ⟨it0, rest, ef, hrest⟩ := flat_ne (n := n) (t := t) (l := 0)
    obtain ⟨split, tlen⟩ := rows_text hok hz hn (by rw [ef]; simp)
    obtain ⟨sN, hruns, _⟩ := flat_runs n t 0 ([], []) hok rfl (Nat.le_refl _) (fun z => absurd z (Nat.lt_irrefl _))
    have fok := flat_ok n t 0 hok
    have flen := flat_len n t 0
    generalize Told.flat n t 0 = rows at *
    generalize htxt : Txt.join "\n" (rows.map lineI) = text at *
    have rlen : rows.length ≤ 60 := by omega
    have big : 20000 ≤ sizeLine := by decide
    -- found, way, counts = [], [], []
    refine ⟨Nat.zero_le _, fun lf hlf => ⟨Nat.zero_le _, fun lw hlw => ⟨Nat.zero_le _, fun lc hlc => ⟨_, _, _, rfl, ?_⟩⟩⟩⟩
    have s1 : Same H (upd H lf (.lst [])) := same_new hlf
    have ef1 : upd H lf (.lst []) lf = some (.lst []) := upd_same
    generalize upd H lf (.lst []) = H1 at *
    have s2 : Same H1 (upd H1 lw (.lst [])) := same_new hlw
    have ew2 : upd H1 lw (.lst []) lw = some (.lst []) := upd_same
    generalize upd H1 lw (.lst []) = H2 at *
    have s3 : Same H2 (upd H2 lc (.lst [])) := same_new hlc
    have ec3 : upd H2 lc (.lst []) lc = some (.lst []) := upd_same
    generalize upd H2 lc (.lst []) = H3 at *
    have ef3 := s3 _ _ (s2 _ _ ef1)
    have ew3 := s3 _ _ ew2
    have s123 := (s1.trans s2).trans s3
    refine ⟨_, rfl, ⟨_, rfl⟩, text, "\n", rfl, rfl, by decide, by omega, fun a ha => ?_⟩
    rw [split]
    have s4 : Same H3 (upd H3 a (.lst ((rows.map lineI).map V.str))) := same_new ha
    have ea : upd H3 a (.lst ((rows.map lineI).map V.str)) a = some (.lst ((rows.map lineI).map V.str)) := upd_same
    generalize upd H3 a (.lst ((rows.map lineI).map V.str)) = H4 at *
    have af : a ≠ lf := fun z => by rw [z, ef3] at ha; cases ha
    refine ⟨a, _, 1, rfl, rfl, .of ea, by decide, by decide, ?_⟩
    show ∃ W, _
    have llen : ((rows.map lineI).map V.str).length = rows.length := by rw [List.length_map, List.length_map]
    refine for_it (walk_enumC (K := K) (t := false) (c := 1) (a := a) (xs := (rows.map lineI).map V.str)) (fun i σ H' => ∃ (s : St2) (lw lc : Addr) (ys : List V) (a4 a5 a6 : Option V), σ = [some (.str text), some (.ref lf), some (.ref lw), some (.ref lc), a4, a5, a6] ∧ Same H H' ∧ H' a = some (.lst ((rows.map lineI).map V.str)) ∧ H' lf = some (.lst ys) ∧ Fa ((rows.take i).map RowAt) ys H' ∧ H' lw = some (.lst (s.1.map V.bl)) ∧ H' lc = some (.lst (s.2.map V.int)) ∧ Runs s (rows.drop i) sN)
      ⟨([], []), lw, lc, [], none, none, none, rfl, s123.trans s4, ea, s4 _ _ ef3, trivial, s4 _ _ ew3, s4 _ _ ec3, hruns⟩ (fun i σ H' _ q => ?_) (fun i y σ H5 H6 hi q yy => ?_) (fun σ H5 q => ?_)
    · obtain ⟨_, _, _, _, _, _, _, _, _, ha', _⟩ := q
      exact (show SqL K H' a _ from .of ha')
    · obtain ⟨s, lw, lc, ys, a4, a5, a6, rfl, s5, ea5, ef5, fa5, ew5, ec5, rn⟩ := q
      obtain ⟨t0, u, g, rfl, ht0, rfl, eu, eg⟩ := yy
      rw [llen] at hi
      obtain ⟨q, hq⟩ : ∃ q, rows[i]? = some q := ⟨_, List.getElem?_eq_getElem hi⟩
      have hqm := List.mem_of_getElem? hq
      have eg : ((rows.map lineI).map V.str)[i]? = some g := eg
      rw [List.getElem?_map, List.getElem?_map, hq] at eg
      cases eg
      have eu : some (V.int (1 + (i : Nat))) = some u := eu
      cases eu
      have hlf0 : H lf = none := hlf
      refine ⟨t0, _, rfl, .of upd_same, rfl, _, _, rfl, _, _, rfl, rfl, ?_⟩
      have st0 := same_new (o := .tup [V.int (1 + (i : Nat)), .str (lineI q)]) ht0
      generalize upd H5 t0 (.tup [V.int (1 + (i : Nat)), .str (lineI q)]) = H6 at st0 ⊢
      refine ⟨_, rfl, q, rfl, (fok q hqm).1, by have := (fok q hqm).2; omega, fun v H7 s7 hrow => ?_⟩
      have s57 := st0.trans s7
      have ef7 := s57 _ _ ef5
      have ew7 := s57 _ _ ew5
      have ec7 := s57 _ _ ec5
      have ea7 := s57 _ _ ea5
      have fa7 := rows_kpl (KpL.same s57) fa5
      obtain ⟨p, m, rfl, hp, hiv⟩ := hrow
      have hd : rows.drop i = q :: rows.drop (i + 1) := by
        have := (List.getElem?_eq_some_iff.mp hq)
        rw [← this.2]
        exact List.drop_eq_getElem_cons this.1
      rw [hd] at rn
      obtain ⟨⟨g1, g2, g3⟩, rn⟩ := rn
      have hq15 : q.1 < 20 := by have := (fok q hqm).2; omega
      have hpos : q.1 = 0 ↔ i = 0 := by
        rw [ef] at hq
        cases i with
        | zero => cases hq; simp
        | succ i =>
          have := hrest q (List.mem_of_getElem? hq)
          simp
          omega
      have ylen : ys.length = i := by
        have := fa5.len
        rw [List.length_map, List.length_take] at this
        omega
      -- what stays
      let C : Hp → Prop := fun H' => Same H H' ∧ H' a = some (.lst ((rows.map lineI).map V.str)) ∧ H' lf = some (.lst ys) ∧ Fa ((rows.take i).map RowAt) ys H' ∧ H' p = some (.tup [.int q.1, .bl (Item.sup q.2), m]) ∧ IV q.2 m H'
      have cs : ∀ H1 H2, Same H1 H2 → C H1 → C H2 := fun H1 H2 s c => ⟨c.1.trans s, s _ _ c.2.1, s _ _ c.2.2.1, rows_kpl (KpL.same s) c.2.2.2.1, s _ _ c.2.2.2.2.1, iv_kpl (KpL.same s) c.2.2.2.2.2⟩
      have c7 : C H7 := ⟨s5.trans s57, ea7, ef7, fa7, hp, hiv⟩
      dsimp only
      show tSeq _ _ _ _ _
      refine s_noN (et_or0 (et_ev fun H8 s8 => (fun Q q => ⟨_, rfl, rfl, false, rfl, q⟩)) (et_or0 (et_ev fun H8 s8 => evb_cmpF (ev_ixT rfl (s8 _ _ hp) rfl) (fun Q q => ⟨_, rfl, lw, _, rfl, .inl (.of (s8 _ _ ew7)), q⟩) (decide_eq_false (by rw [List.length_map]; omega))) (fun H8 s8 Q qq => ?_))) fun H8 s8 => ?_
      · refine ⟨_, rfl, p, _, 0, _, rfl, rfl, .of (s8 _ _ hp), rfl, rfl, _, rfl, Nat.zero_le _, fun b hb => ⟨lf, b, ys, rfl, rfl, .of ((same_new hb) _ _ (s8 _ _ ef7)), .of upd_same, rfl, false, ?_, qq _ (same_new hb)⟩⟩
        have e : decide (V.int q.1 = V.int 0) = decide (ys = []) := by
          rw [decide_eq_decide, ← List.length_eq_zero_iff, ylen, ← hpos]
          constructor
          · intro z
            injection z with z
            omega
          · intro z
            rw [z]
            rfl
        rw [e]
        simp
      dsimp only
      show tSeq _ _ _ _ _
      refine s_noN (et_ev fun H9 s9 => evb_or (a := false) (evb_cmpF (ev_ixT rfl (s9 _ _ (s8 _ _ hp)) rfl) ev_c (decide_eq_false (by omega))) fun _ => evb_cmpF (ev_var rfl) ev_c (decide_eq_false (by omega))) fun H9 s9 => ?_
      have s79 := s8.trans s9
      have c9 := cs _ _ s79 c7
      have ew9 := s79 _ _ ew7
      have ec9 := s79 _ _ ec7
      clear s8 s9 s79 c7 hp hiv ef7 ew7 ec7 ea7 fa7
      -- way, counts = way[:row[0]], counts[:row[0]]
      refine ⟨_, rfl, _, rfl, p, _, 0, _, rfl, rfl, .of c9.2.2.2.2.1, rfl, _, rfl, lw, _, rfl, .of ew9, fun w1 hw1 => ?_⟩
      rw [cut_take]
      have sA := same_new (o := .lst ((s.1.map V.bl).take q.1)) hw1
      have ew1 : upd H9 w1 (.lst ((s.1.map V.bl).take q.1)) w1 = some (.lst ((s.1.map V.bl).take q.1)) := upd_same
      have cA := cs _ _ sA c9
      generalize upd H9 w1 (.lst ((s.1.map V.bl).take q.1)) = HA at *
      refine ⟨_, rfl, _, rfl, p, _, 0, _, rfl, rfl, .of cA.2.2.2.2.1, rfl, _, rfl, lc, _, rfl, .of (sA _ _ ec9), fun c1 hc1 => ?_⟩
      rw [cut_take]
      have sB := same_new (o := .lst ((s.2.map V.int).take q.1)) hc1
      have ec1 : upd HA c1 (.lst ((s.2.map V.int).take q.1)) c1 = some (.lst ((s.2.map V.int).take q.1)) := upd_same
      have cB := cs _ _ sB cA
      have hc0 : H c1 = none := Same.free cA.1 hc1
      have c1a : a ≠ c1 := fun z => by rw [← z, cA.2.1] at hc1; cases hc1
      have c1f : lf ≠ c1 := fun z => by rw [← z, cA.2.2.1] at hc1; cases hc1
      have c1w : w1 ≠ c1 := fun z => by rw [← z, ew1] at hc1; cases hc1
      have ew1B := sB _ _ ew1
      generalize upd HA c1 (.lst ((s.2.map V.int).take q.1)) = HB at *
      refine ⟨_, _, rfl, ?_⟩
      have wl1 : ((s.1.map V.bl).take q.1).length = q.1 := by rw [List.length_take, List.length_map]; omega
      have cl1 : ((s.2.map V.int).take q.1).length = q.1 := by rw [List.length_take, List.length_map]; omega
      dsimp only
      show tSeq _ _ _ _ _
      -- if way != [] and ..
      refine s_noN (fun HC sC Q qq => ⟨_, rfl, Nat.zero_le _, fun b hb => ⟨w1, b, _, rfl, rfl, .of ((same_new hb) _ _ (sC _ _ ew1B)), .of upd_same, _, rfl, ?_⟩⟩) fun HC sC => ?_
      · by_cases h0 : q.1 = 0
        · rw [show (!decide ((s.1.map V.bl).take q.1 = [])) = false by rw [decide_eq_true (List.length_eq_zero_iff.mp (wl1.trans h0))]; rfl]
          exact qq _ (same_new hb)
        · obtain ⟨gw, kc, gk, gl⟩ := g3 (by omega)
          rw [show (!decide ((s.1.map V.bl).take q.1 = [])) = true by rw [decide_eq_false fun z => by rw [z] at wl1; exact h0 wl1.symm]; rfl]
          refine ⟨_, rfl, 1, rfl, w1, _, -1, .bl true, rfl, rfl, .of ((same_new hb) _ _ (sC _ _ ew1B)), atI_last (by rw [wl1, List.getElem?_take_of_lt (by omega), List.getElem?_map, gw]; rfl), true, rfl, ?_⟩
          refine ⟨_, rfl, 1, rfl, c1, _, -1, .int kc, rfl, rfl, .of ((same_new hb) _ _ (sC _ _ ec1)), atI_last (by rw [cl1, List.getElem?_take_of_lt (by omega), List.getElem?_map, gk]; rfl), rfl, false, ?_, qq _ (same_new hb)⟩
          rw [decide_eq_false (fun z => by injection z with z; omega)]
      dsimp only
      show tSeq _ _ _ _ _
      refine st_bump (c := s.2) (l := q.1) rfl (sC _ _ ec1) (by omega) fun H1 HD sD hD ecD => ?_
      have c1' := cs _ _ (sC.trans sD) cB
      have ew1' := (sC.trans sD) _ _ ew1B
      have hDD : C HD ∧ HD w1 = some (.lst ((s.1.map V.bl).take q.1)) := by
        rcases hD with rfl | rfl
        · exact ⟨c1', ew1'⟩
        · have kp : KpL H1 (upd H1 c1 (.lst ((bump q.1 s.2).map V.int))) := KpL.lst ((sC.trans sD) _ _ ec1)
          exact ⟨⟨same_put c1'.1 hc0, by rw [upd_ne c1a]; exact c1'.2.1, by rw [upd_ne c1f]; exact c1'.2.2.1, rows_kpl kp c1'.2.2.2.1, kp _ _ c1'.2.2.2.2.1 (fun _ z => nomatch z), iv_kpl kp c1'.2.2.2.2.2⟩, by rw [upd_ne c1w]; exact ew1'⟩
      obtain ⟨cD, ewD⟩ := hDD
      clear c1' ew1' hD sD sC cB ew1B ec1
      have bl : (bump q.1 s.2).length = q.1 := by
        unfold bump
        rw [List.length_set, List.length_take]
        omega
      dsimp only
      show tSeq _ _ _ _ _
      -- way + [row[1]], counts + [0]
      refine ⟨_, rfl, _, rfl, p, _, 1, _, rfl, rfl, .of cD.2.2.2.2.1, rfl, (by decide : 1 ≤ sizeLine), fun x hx => ?_⟩
      refine ⟨w1, x, _, _, rfl, rfl, (same_new hx) _ _ ewD, upd_same, by rw [wl1]; exact Nat.le_trans (show q.1 + 1 ≤ 20000 by omega) big, fun w2 hw2 => ?_⟩
      have sE := (same_new (o := .lst [V.bl (Item.sup q.2)]) hx).trans (same_new (o := .lst ((s.1.map V.bl).take q.1 ++ [V.bl (Item.sup q.2)])) hw2)
      have ew2 : upd (upd HD x (.lst [V.bl (Item.sup q.2)])) w2 (.lst ((s.1.map V.bl).take q.1 ++ [V.bl (Item.sup q.2)])) w2 = some (.lst ((s.1.map V.bl).take q.1 ++ [V.bl (Item.sup q.2)])) := upd_same
      have w2f : w2 ≠ lf := fun z => by rw [z, (same_new hx) _ _ cD.2.2.1] at hw2; cases hw2
      generalize upd (upd HD x (.lst [V.bl (Item.sup q.2)])) w2 (.lst ((s.1.map V.bl).take q.1 ++ [V.bl (Item.sup q.2)])) = HE at *
      have cE := cs _ _ sE cD
      refine ⟨_, rfl, (by decide : 1 ≤ sizeLine), fun x2 hx2 => ?_⟩
      refine ⟨c1, x2, _, _, rfl, rfl, (same_new hx2) _ _ (sE _ _ ecD), upd_same, by rw [List.length_map, bl]; exact Nat.le_trans (show q.1 + 1 ≤ 20000 by omega) big, fun c2 hc2 => ⟨_, _, rfl, ?_⟩⟩
      have sF := (same_new (o := .lst [V.int 0]) hx2).trans (same_new (o := .lst ((bump q.1 s.2).map V.int ++ [V.int 0])) hc2)
      have ec2 : upd (upd HE x2 (.lst [V.int 0])) c2 (.lst ((bump q.1 s.2).map V.int ++ [V.int 0])) c2 = some (.lst ((bump q.1 s.2).map V.int ++ [V.int 0])) := upd_same
      have c2f : c2 ≠ lf := fun z => by rw [z, (same_new hx2) _ _ cE.2.2.1] at hc2; cases hc2
      generalize upd (upd HE x2 (.lst [V.int 0])) c2 (.lst ((bump q.1 s.2).map V.int ++ [V.int 0])) = HF at *
      have cF := cs _ _ sF cE
      have ew2F := sF _ _ ew2
      -- found.append(row)
      refine ⟨_, rfl, .inl ⟨rfl, _, .of cF.2.2.1⟩, _, rfl, lf, ys, .ref p, rfl, rfl, cF.2.2.1, Nat.lt_of_le_of_lt (show ys.length ≤ 1000 by omega) (by decide), ?_⟩
      have kp : KpL HF (upd HF lf (.lst (ys ++ [V.ref p]))) := KpL.lst cF.2.2.1
      refine ⟨stp s q, w2, c2, ys ++ [.ref p], _, _, _, rfl, same_put cF.1 hlf0, by rw [upd_ne af]; exact cF.2.1, upd_same, ?_, ?_, ?_, rn⟩
      · rw [List.take_succ, hq, List.map_append]
        exact (rows_kpl kp cF.2.2.2.1).app ⟨row_kpl kp ⟨p, m, rfl, cF.2.2.2.2.1, cF.2.2.2.2.2⟩, trivial⟩
      · rw [upd_ne w2f, ew2F]
        show _ = some (HO.lst ((s.1.take q.1 ++ [Item.sup q.2]).map V.bl))
        rw [List.map_append, List.map_take]
        rfl
      · rw [upd_ne c2f, ec2]
        show _ = some (HO.lst ((bump q.1 s.2 ++ [0]).map V.int))
        rw [List.map_append]
        rfl
    · obtain ⟨s, lw, lc, ys, a4, a5, a6, rfl, s5, ea5, ef5, fa5, ew5, ec5, rn⟩ := q
      rw [llen, List.take_length] at fa5
      exact st_ret (ev_var rfl) (k lf ys H5 s5 ef5 fa5)
end
end W06

set_option Elab.async false
set_option linter.all false
set_option maxRecDepth 100000
set_option maxHeartbeats 4000000
namespace W06
open PySem PySem.Spec PyProof.Rows L2 WXG WEv WRd WLf WEn WZs WRu WSt StX WDc
def spPlanOf (K : PySem.W.Frag) (n : Nat) : Sp := fun vs H Q _ => ∃ (l : Addr) (ys : List V) (pre post : List (Nat × Item)) (t : Told n) (lv : Nat), vs = [.ref l, .int (pre.length : Nat)] ∧ H l = some (.lst ys) ∧ Fa ((pre ++ (Told.flat n t lv ++ post)).map RowAt) ys H ∧ (∀ q r, post = q :: r → q.1 ≤ lv) ∧
  Told.Ok n t ∧ Told.size n t ≤ 60 ∧ n ≤ 20 ∧ ∀ p v H', Same H H' → H' p = some (.tup [v, .int ((pre.length + Told.size n t : Nat) : Int)]) → PAt K n t v H' → Q (.ref p) H'
theorem row_get {qs : List (Nat × Item)} {ys : List V} {H : Hp} (h : Fa (qs.map RowAt) ys H) {i : Nat} {q : Nat × Item} (hq : qs[i]? = some q) : ∃ x, ys[i]? = some x ∧ RowAt q x H := h.get (n := i) (P := RowAt q) (by rw [List.getElem?_map, hq]; rfl)
theorem flatMap_len {n : Nat} (l : Nat) (ts : List (Told n)) : (ts.flatMap fun t => Told.flat n t l).length = (ts.map (Told.size n)).sum := by
  rw [List.length_flatMap]
  congr 1
  exact List.map_congr_left fun t _ => flat_len n t l
/-- a told tuple: its own item and what is below -/
theorem told_cut {n : Nat} (t : Told (n + 1)) (lv : Nat) (hok : Told.Ok (n + 1) t) : ∃ (it : Item) (ts : List (Told n)), Told.flat (n + 1) t lv = (lv, it) :: ts.flatMap (fun t => Told.flat n t (lv + 1)) ∧ Told.size (n + 1) t = 1 + (ts.map (Told.size n)).sum ∧ ts.length ≤ 12 ∧ (∀ t ∈ ts, Told.Ok n t) ∧
    ((∃ d : WD, it = .inl d ∧ ts = [] ∧ t = Sum.inl d ∧ d.Ok) ∨ (∃ d : SD, it = .inr d ∧ t = Sum.inr (d, ts) ∧ d.Ok)) := by
  cases t with
  | inl d => exact ⟨.inl d, [], rfl, rfl, Nat.zero_le 12, (fun t h => by cases h), .inl ⟨d, rfl, rfl, rfl, hok⟩⟩
  | inr x =>
    obtain ⟨d, ts⟩ := x
    exact ⟨.inr d, ts, rfl, rfl, hok.2.1, hok.2.2, .inr ⟨d, rfl, rfl, hok.1⟩⟩
section
variable {P : Program} {w : World} {K : PySem.W.Frag} {mg : Str → Option Value} {base : Heap}
theorem ok_plan_of (T : Env K mg) : ∀ n, FnOk P w K mg base CX0 (n + 6) (d_plan_of.loc K) T.fd_plan_of ["rows", "at"] (spPlanOf K n)
  | 0 => T.F_plan_of.ok sc_plan_of (fun vs H Q E (h : spPlanOf K 0 vs H Q E) => by obtain ⟨_, _, _, _, t, _⟩ := h; cases t) (fun cdv A outer s H vs Q E hr (h : spPlanOf K 0 vs H Q E) => by obtain ⟨_, _, _, _, t, _⟩ := h; cases t)
  | n + 1 => by
    have G_plan_of : FnOk P w K mg base CX0 (n + 6) _ _ _ _ := ok_plan_of T n
    have G_worker_of : FnOk P w K mg base CX0 5 _ _ _ _ := ok_worker_of T
    have G_supervisor_of : FnOk P w K mg base CX0 5 _ _ _ _ := ok_supervisor_of T n
    refine T.F_plan_of.ok sc_plan_of (fun vs H Q E h => ?_) (fun cdv A outer s H vs Q E hr h => ?_)
    · obtain ⟨_, _, _, _, _, _, rfl, _⟩ := h
      rfl
    · have nd := sc_plan_of.nd
      have hu := hu_of hr
      obtain ⟨l, ys, pre, post, t, lv, rfl, hl, fa, hpost, hok, hz, hn, k⟩ := h
      refine ⟨_, PSs.nox (pss_cons (ps_asg (pe_ix (ixlK (K := K)) (pv 0) (pv 1) (fun _ _ => rfl)) (pg_tup rfl (pgs_cons (pg_name (i := 2) nd rfl (Or.inl rfl)) (pgs_cons (pg_name (i := 3) nd rfl (Or.inl rfl)) (pgs_cons (pg_name (i := 4) nd rfl (Or.inl rfl)) pgs_nil)))))
 (pss_cons (ps_par (i := 5) (j := 6) (by rfl) nd rfl rfl (by decide) rfl rfl (pa_cons (pe_lst pa_nil) (pa_cons (pe_op op_add (pv 1) pe_int) pa_nil)) (by rfl))
 (pss_cons (ps_while PassesOwn.never (PW.pt (pw_and (pt_cmpR op_lt (pv 6) (pe_callB call_len_seq (by rfl) T.b_len (by decide +kernel) (pa_cons (pv 0) pa_nil)) (nomark _)) (pw_and1 (pt_cmpR op_gt (pe_ix (ixtK (K := K)) (pe_ix (ixlK (K := K)) (pv 0) (pv 6) (fun _ _ => rfl)) pe_int (fun _ _ => rfl)) (pv 2) (nomark _)))))
  (pss_cons (ps_asg (pe_call G_plan_of (hr.mono (by omega)) (by rfl) T.g_plan_of T.F_plan_of.kp T.bi_plan_of .nil pass0 (pa_cons (pv 0) (pa_cons (pv 6) pa_nil))) (pg_tup rfl (pgs_cons (pg_name (i := 7) nd rfl (Or.inl rfl)) (pgs_cons (pg_name (i := 6) nd rfl (Or.inl rfl)) pgs_nil))))
 (pss_one (ps_expr (pe_bm PySem.F.plainAttrs_list PySem.F.slot_list_append PySem.F.type_list_append mt_append (pv 5) (pa_cons (pv 7) pa_nil))))))
 (pss_one (ps_ret (pe_tup (pa_cons (pe_ifExp (pt_val (pv 3)) (pe_call G_supervisor_of (hr.mono (by omega)) (by rfl) T.g_supervisor_of T.F_supervisor_of.kp T.bi_supervisor_of .nil pass0 (pa_cons (pv 4) (pa_cons (pv 5) pa_nil))) (pe_call G_worker_of (hr.mono (by omega)) (by rfl) T.g_worker_of T.F_worker_of.kp T.bi_worker_of .nil pass0 (pa_cons (pv 4) pa_nil))) (pa_cons (pv 6) pa_nil)))))))), ?_⟩
      obtain ⟨it, ts, efl, esz, hts, tok, hcase⟩ := told_cut t lv hok
      rw [efl] at fa
      rw [esz] at hz
      generalize hrows : pre ++ ((lv, it) :: ts.flatMap (fun t => Told.flat n t (lv + 1)) ++ post) = rows at *
      have rlen : rows.length = pre.length + 1 + (ts.map (Told.size n)).sum + post.length := by
        rw [← hrows, List.length_append, List.length_append, List.length_cons, flatMap_len]
        omega
      have yl : ys.length = rows.length := by
        have := fa.len
        rwa [List.length_map] at this
      have r0 : rows[pre.length]? = some (lv, it) := by
        rw [← hrows, List.getElem?_append_right (Nat.le_refl _), Nat.sub_self]
        rfl
      obtain ⟨x0, hx0, p0, m, rfl, hp0, hiv⟩ := row_get fa r0
      refine ⟨_, rfl, _, rfl, l, ys, _, _, rfl, rfl, .of hl, atI_nat hx0, ?_⟩
      refine ⟨p0, _, rfl, .of hp0, rfl, _, _, rfl, _, _, rfl, _, _, rfl, rfl, ?_⟩
      refine ⟨Nat.zero_le _, fun lc hlc => ⟨_, rfl, _, _, rfl, rfl, _, _, rfl, ?_⟩⟩
      have s1 := same_new (o := .lst []) hlc
      have ec1 : upd H lc (.lst []) lc = some (.lst []) := upd_same
      generalize upd H lc (.lst []) = H1 at s1 ec1 ⊢
      dsimp only
      show tSeq _ _ _ _ _
      refine ⟨fun mm σ H' => ∃ (i : Nat) (zs : List V) (a7 : Option V), mm = ts.length - i ∧ i ≤ ts.length ∧ σ = [some (.ref l), some (.int (pre.length : Nat)), some (.int lv), some (.bl (Item.sup it)), some m, some (.ref lc), some (.int ((pre.length + 1 + ((ts.take i).map (Told.size n)).sum : Nat) : Int)), a7] ∧ Same H H' ∧ H' lc = some (.lst zs) ∧ Fa ((ts.take i).map (PAt K n)) zs H',
        ⟨ts.length, 0, [], none, rfl, Nat.zero_le _, rfl, s1, ec1, trivial⟩, ?_⟩
      rintro mm σ H2 ⟨i, zs, a7, rfl, hi, rfl, s2, ec2, fz⟩
      have zl := pat_len fz
      rw [List.length_take, Nat.min_eq_left hi] at zl
      have sk := sum_take (Told.size n) ts i
      have len : EvB (tTest (tOp (rI0 fun i j => .bl (decide (i < j))) (tVar 6) (tCB (fun xs H Q => ∃ p ys, xs = [V.ref p] ∧ (SqL K H p ys ∨ SqT K H p ys) ∧ Q (.int ys.length) H) (tCons (tVar 0) tNil)))) [some (.ref l), some (.int (pre.length : Nat)), some (.int lv), some (.bl (Item.sup it)), some m, some (.ref lc), some (.int ((pre.length + 1 + ((ts.take i).map (Told.size n)).sum : Nat) : Int)), a7] H2 (decide ((pre.length + 1 + ((ts.take i).map (Told.size n)).sum : Nat) < rows.length)) :=
        evb_cmpF (ev_var rfl) (fun Q q => ⟨_, rfl, l, ys, rfl, .inl (.of (s2 _ _ hl)), q⟩) (by rw [yl, decide_eq_decide]; omega)
      have lev : ∀ q, rows[pre.length + 1 + ((ts.take i).map (Told.size n)).sum]? = some q → EvB (tTest (tOp (rI0 fun i j => .bl (decide (i > j))) (tOp (rIxT K) (tOp (rIxL K) (tVar 0) (tVar 6)) (tC (.int 0))) (tVar 2))) [some (.ref l), some (.int (pre.length : Nat)), some (.int lv), some (.bl (Item.sup it)), some m, some (.ref lc), some (.int ((pre.length + 1 + ((ts.take i).map (Told.size n)).sum : Nat) : Int)), a7] H2 (decide (q.1 > lv)) := by
        intro q hq
        obtain ⟨x, hx, p, mv, rfl, hp, _⟩ := row_get fa hq
        exact evb_cmpF (fun Q qq => ⟨_, rfl, _, rfl, l, ys, _, _, rfl, rfl, .of (s2 _ _ hl), atI_nat hx, p, _, 0, _, rfl, rfl, .of (s2 _ _ hp), rfl, qq⟩) (ev_var rfl) (by rw [decide_eq_decide]; omega)
      by_cases hlt : i < ts.length
      · obtain ⟨ti, hti⟩ : ∃ ti, ts[i]? = some ti := ⟨_, List.getElem?_eq_getElem hlt⟩
        have tim := List.mem_of_getElem? hti
        have e1 : ((ts.take (i + 1)).map (Told.size n)).sum = ((ts.take i).map (Told.size n)).sum + Told.size n ti := by
          rw [List.take_succ, hti, List.map_append, List.sum_append]
          simp
        have sk1 := sum_take (Told.size n) ts (i + 1)
        have sp := size_pos n ti
        obtain ⟨it', rest', ef', _⟩ := flat_ne (n := n) (t := ti) (l := lv + 1)
        have hsplit : ts = ts.take i ++ ti :: ts.drop (i + 1) := by
          have := List.getElem?_eq_some_iff.mp hti
          conv => lhs; rw [← List.take_append_drop i ts, List.drop_eq_getElem_cons this.1, this.2]
        let pre2 := pre ++ ((lv, it) :: (ts.take i).flatMap fun t => Told.flat n t (lv + 1))
        let post2 := ((ts.drop (i + 1)).flatMap fun t => Told.flat n t (lv + 1)) ++ post
        have hrows2 : pre2 ++ (Told.flat n ti (lv + 1) ++ post2) = rows := by
          rw [← hrows]
          conv => rhs; rw [hsplit]
          simp [pre2, post2, List.flatMap_append, List.flatMap_cons, List.append_assoc]
        have plen : pre2.length = pre.length + 1 + ((ts.take i).map (Told.size n)).sum := by
          show (pre ++ ((lv, it) :: (ts.take i).flatMap fun t => Told.flat n t (lv + 1))).length = _
          rw [List.length_append, List.length_cons, flatMap_len]
          omega
        have row1 : rows[pre.length + 1 + ((ts.take i).map (Told.size n)).sum]? = some (lv + 1, it') := by
          rw [← hrows2, ← plen, List.getElem?_append_right (Nat.le_refl _), Nat.sub_self, ef']
          rfl
        have hp2 : ∀ q r, post2 = q :: r → q.1 ≤ lv + 1 := by
          intro q r e
          have e : ((ts.drop (i + 1)).flatMap fun t => Told.flat n t (lv + 1)) ++ post = q :: r := e
          cases hd : ts.drop (i + 1) with
          | nil =>
            rw [hd] at e
            exact Nat.le_succ_of_le (hpost q r e)
          | cons t2 r2 =>
            rw [hd] at e
            obtain ⟨it2, rest2, ef2, _⟩ := flat_ne (n := n) (t := t2) (l := lv + 1)
            rw [List.flatMap_cons, ef2] at e
            cases e
            exact Nat.le_refl _
        refine evb_and len (fun _ => lev _ row1) _ ?_
        rw [decide_eq_true (show pre.length + 1 + ((ts.take i).map (Told.size n)).sum < rows.length by omega), decide_eq_true (show (lv + 1, it').1 > lv from Nat.lt_succ_self lv), if_pos (show (true && true) = true from rfl)]
        refine ⟨fun σ' H' => ∃ (zs : List V) (a7 : Option V), σ' = [some (.ref l), some (.int (pre.length : Nat)), some (.int lv), some (.bl (Item.sup it)), some m, some (.ref lc), some (.int ((pre.length + 1 + ((ts.take (i + 1)).map (Told.size n)).sum : Nat) : Int)), a7] ∧ Same H H' ∧ H' lc = some (.lst zs) ∧ Fa ((ts.take (i + 1)).map (PAt K n)) zs H',
          (fun σ' H' w => by
            obtain ⟨zs, a7, e1, e2, e3, e4⟩ := w
            exact ⟨ts.length - (i + 1), by omega, i + 1, zs, a7, rfl, hlt, e1, e2, e3, e4⟩), ?_⟩
        refine ⟨_, rfl, _, rfl, l, ys, pre2, post2, ti, lv + 1, by rw [plen]; rfl, s2 _ _ hl, by rw [hrows2]; exact rows_kpl (KpL.same s2) fa, hp2, tok ti tim, by omega, by omega, fun p v H3 s3 hp hpat => ?_⟩
        refine ⟨p, _, rfl, .of hp, rfl, _, _, rfl, _, _, rfl, rfl, ?_⟩
        refine ⟨_, rfl, .inl ⟨rfl, _, .of (s3 _ _ ec2)⟩, _, rfl, lc, zs, v, rfl, rfl, s3 _ _ ec2, Nat.lt_of_le_of_lt (show zs.length ≤ 1000 by omega) (by decide), ?_⟩
        have e2 : pre2.length + Told.size n ti = pre.length + 1 + ((ts.take (i + 1)).map (Told.size n)).sum := by omega
        rw [e2]
        refine ⟨zs ++ [v], _, rfl, same_put (s2.trans s3) hlc, upd_same, ?_⟩
        have kp : Kp H3 (upd H3 lc (.lst (zs ++ [v]))) := Kp.lst (s3 _ _ ec2)
        rw [List.take_succ, hti, List.map_append]
        exact (fa_kp mk_pats ((Kp.same s3).trans kp) fz).app ⟨mk_pat n ti _ _ _ kp hpat, trivial⟩
      · have ei : i = ts.length := by omega
        subst ei
        rw [List.take_length] at *
        have fin : ∀ H3, Same H2 H3 → tRet (tTup (tCons (tIf (tB (tVar 3)) (tCall (spSOf K n) [] E0 (tCons (tVar 4) (tCons (tVar 5) tNil))) (tCall (spWOf K) [] E0 (tCons (tVar 4) tNil))) (tCons (tVar 6) tNil))) { nx := fun _ H' => Q .non H', rt := Q } [some (.ref l), some (.int (pre.length : Nat)), some (.int lv), some (.bl (Item.sup it)), some m, some (.ref lc), some (.int ((pre.length + 1 + (ts.map (Told.size n)).sum : Nat) : Int)), a7] H3 := by
          intro H3 s3
          rw [Nat.add_assoc, ← esz]
          rcases hcase with ⟨d, rfl, rfl, rfl, dok⟩ | ⟨d, rfl, rfl, dok⟩
          · refine ⟨_, rfl, false, rfl, _, rfl, m, d, rfl, dok, iv_kpl (KpL.same (s2.trans s3)) hiv, fun v H4 s4 hp => ⟨_, rfl, (by decide : 2 ≤ sizeLine), fun r hr => ?_⟩⟩
            exact k r v _ (((s2.trans s3).trans s4).trans (same_new hr)) upd_same (mk_pw.mn _ _ _ (same_new hr) hp)
          · refine ⟨_, rfl, true, rfl, _, rfl, _, rfl, m, lc, d, ts, zs, rfl, dok, iv_kpl (KpL.same (s2.trans s3)) hiv, s3 _ _ ec2, mn_fa mk_pats _ _ _ s3 fz, hts, by omega, by omega, fun v H4 s4 hp => ⟨_, rfl, (by decide : 2 ≤ sizeLine), fun r hr => ?_⟩⟩
            exact k r v _ (((s2.trans s3).trans s4).trans (same_new hr)) upd_same ((mk_pat (n + 1) (Sum.inr (d, ts))).mn _ _ _ (same_new hr) hp)
        cases hpo : post with
        | nil =>
          rw [hpo] at rlen
          refine evb_and (b := false) len (fun h => absurd (of_decide_eq_true h) (by rw [rlen]; simp)) _ ?_
          rw [decide_eq_false (by rw [rlen]; simp), if_neg (by simp)]
          exact fin H2 (Same.refl _)
        | cons q r =>
          have row1 : rows[pre.length + 1 + (ts.map (Told.size n)).sum]? = some q := by
            rw [← hrows, List.getElem?_append_right (by omega), show pre.length + 1 + (ts.map (Told.size n)).sum - pre.length = (ts.map (Told.size n)).sum + 1 by omega, List.cons_append, List.getElem?_cons_succ,
              List.getElem?_append_right (by rw [flatMap_len]; exact Nat.le_refl _), flatMap_len, Nat.sub_self, hpo]
            rfl
          have hq := hpost q r hpo
          refine evb_and len (fun _ => lev _ row1) _ ?_
          rw [decide_eq_false (show ¬ (q.1 > lv) by omega), Bool.and_false, if_neg Bool.false_ne_true]
          exact fin H2 (Same.refl _)
end
end W06

set_option Elab.async false
set_option linter.all false
set_option maxRecDepth 100000
set_option maxHeartbeats 4000000
namespace W06
open PySem PySem.Spec PyProof.Rows L2 WXG WEv WRd WLf WEn WZs WRu WSt StX WDc
def spRead (K : PySem.W.Frag) (n : Nat) : Sp := fun vs H Q _ => ∃ (t : Told n), vs = [.str (Txt.join "\n" ((Told.flat n t 0).map lineI))] ∧ Told.Ok n t ∧ Told.size n t ≤ 60 ∧ n ≤ 20 ∧ ∀ v H', Same H H' → PAt K n t v H' → Q v H'
theorem lines_sum {qs : List (Nat × Item)} (h : ∀ q ∈ qs, Item.Ok q.2 ∧ q.1 ≤ 20) : ((qs.map lineI).map (·.length)).sum ≤ 187 * qs.length := by
  induction qs with
  | nil => exact Nat.le_refl _
  | cons q qs ih =>
    have h1 := ih fun q hq => h q (List.mem_cons_of_mem _ hq)
    obtain ⟨h2, h3⟩ := h q List.mem_cons_self
    have h4 := line_len h2
    simp only [List.map_cons, List.sum_cons, List.length_cons]
    omega
section
variable {P : Program} {w : World} {K : PySem.W.Frag} {mg : Str → Option Value} {base : Heap}
theorem ok_read_plan (T : Env K mg) (n : Nat) : FnOk P w K mg base CX0 (n + 8) (d_read_plan.loc K) T.fd_read_plan ["text"] (spRead K n) := by
  have G_rows_of : FnOk P w K mg base CX0 7 _ _ _ _ := ok_rows_of T n
  have G_plan_of : FnOk P w K mg base CX0 (n + 6) _ _ _ _ := ok_plan_of T n
  refine T.F_read_plan.ok sc_read_plan (fun vs H Q E h => ?_) (fun cdv A outer s H vs Q E hr h => ?_)
  · obtain ⟨t, rfl, _⟩ := h
    rfl
  · have nd := sc_read_plan.nd
    have hu := hu_of hr
    obtain ⟨t, rfl, hok, hz, hn, k⟩ := h
    refine ⟨_, PSs.nox (pss_cons (ps_if (pt_not (pt_val (pe_callB (isiK (K := K)) (by rfl) T.b_isinstance (by decide +kernel) (pa_cons (pv 0) (pa_cons (pe_bltnT (n := "str") (by rfl) T.b_str (by decide +kernel)) pa_nil)))))
  (pss_one ps_dead)
  pss_nil)
 (pss_one (ps_ret (pe_ix (ixtK (K := K)) (pe_call G_plan_of (hr.mono (by omega)) (by rfl) T.g_plan_of T.F_plan_of.kp T.bi_plan_of .nil pass0 (pa_cons (pe_call G_rows_of (hr.mono (by omega)) (by rfl) T.g_rows_of T.F_rows_of.kp T.bi_rows_of .nil pass0 (pa_cons (pv 0) pa_nil)) (pa_cons pe_int pa_nil))) pe_int (fun _ _ => rfl))))), ?_⟩
    refine st_no (evb_not (b := true) (evb_B (ev_isi (ev_var rfl) ty_str kit_ss))) ?_
    refine ⟨_, rfl, t, rfl, hok, hz, hn, fun l ys H1 s1 hl fa => ?_⟩
    refine ⟨l, ys, [], [], t, 0, rfl, hl, by rw [List.nil_append, List.append_nil]; exact fa, (fun q r e => nomatch e), hok, hz, hn, fun p v H2 s2 hp hpat => ?_⟩
    exact ⟨p, _, 0, v, rfl, rfl, .of hp, rfl, k v _ (s1.trans s2) hpat⟩
/-! ### for all depths at once -/
theorem fn_any {f : Addr} {fd : FuncData} {ps : List Str} {sp : Nat → Sp} {lv : Nat → Nat} {M : Nat} (N : Nat) (F : ∀ n, FnOk P w K mg base CX0 (lv n) f fd ps (sp n)) (hl : ∀ n, n ≤ N → lv n ≤ M) : FnOk P w K mg base CX0 M f fd ps (fun vs H Q E => ∃ n, n ≤ N ∧ sp n vs H Q E) :=
  ⟨fun vs H Q E ⟨n, _, h⟩ => (F n).len vs H Q E h, fun A outer s H args us vs Q E hr he hb hv ⟨n, hn, h⟩ => (F n).run A outer s H args us vs Q E (hr.mono (hl n hn)) he hb hv h⟩
def RSU (K : PySem.W.Frag) (N : Nat) (a b : Addr) (H : Hp) : Prop := ∃ n, n ≤ N ∧ RS K n a b H
theorem ok_S_eqU (T : Env K mg) (N : Nat) : FnOk P w K mg base CX0 (3 * N + 8) (d_SupervisorPlan__eq.loc K) T.fd_SupervisorPlan__eq ["self", "other"] (spEq (RSU K N)) :=
  (fn_any N (ok_S_eq T) fun n h => by omega).imp fun vs H Q E ⟨a, b, e, ⟨n, hn, h⟩, k⟩ => ⟨n, hn, a, b, e, h, k⟩
end
theorem pat_eq {K : PySem.W.Frag} {N : Nat} : ∀ (n : Nat) (t : Told n) {x y : V} {H : Hp}, n ≤ N + 1 → PAt K n t x H → PAt K n t y H → DIns (CW K) (RW K) x y H ∨ DIns (CS K) (RSU K N) x y H
  | 0, t, _, _, _, _, _, _ => by cases t
  | n + 1, t, x, y, H, hn, h, h' => by
    rcases pat_ch (n + 1) t h h' with z | ⟨a, b, dx, dy, fs, gs, e1, e2, e3, e4, e5⟩
    · exact .inl z
    · exact .inr ⟨a, b, dx, dy, fs, gs, e1, e2, e3, e4, n, by omega, e5⟩
end W06

set_option Elab.async false
set_option linter.all false
set_option maxRecDepth 100000
set_option maxHeartbeats 4000000
namespace W06
open PySem PySem.Spec PyProof.Rows L2 WXG WEv WRd WLf WEn WZs WRu WSt StX WDc
/-! ### plans as texts -/
def WD.kvo (d : WD) (s : Addr) : List (Key × V) := [(Sum.inr "name", .str d.name), (Sum.inr "restart", .str d.word), (Sum.inr "opening", .int d.b), (Sum.inr "closing", .int d.e), (Sum.inr "deadline", limV d.lim), (Sum.inr "refused", .int d.r), (Sum.inr "script", .ref s)]
def Item.kvo : Item → Addr → List (Key × V)
  | .inl d, s => d.kvo s
  | .inr d, _ => d.kvs
theorem shown_ok {q : Item} (h : Item.Ok q) (s : Addr) : ∀ (i : Nat) (n : Str), (Item.names q)[i]? = some n → ∃ x, valV (Item.kvo q s) (Sum.inr n) = some x ∧ Shows x ∧ (Item.words q).tail[i]? = some (shownV x) := by
  intro i n hn
  cases q with
  | inl d =>
    obtain ⟨h1, h2, h3, h4, h5, h6, h7⟩ := h
    match i, hn with
    | 0, hn => cases hn; exact ⟨_, rfl, .inr (.inr ⟨_, rfl⟩), rfl⟩
    | 1, hn => cases hn; exact ⟨_, rfl, .inr (.inr ⟨_, rfl⟩), rfl⟩
    | 2, hn => cases hn; exact ⟨_, rfl, .inr (.inl ⟨_, rfl, h3⟩), rfl⟩
    | 3, hn => cases hn; exact ⟨_, rfl, .inr (.inl ⟨_, rfl, h4⟩), rfl⟩
    | 4, hn => cases hn; exact ⟨_, rfl, shows_lim h5, congrArg some (lim_shown d.lim).symm⟩
    | 5, hn => cases hn; exact ⟨_, rfl, .inr (.inl ⟨_, rfl, h6, by omega⟩), rfl⟩
    | n + 6, hn => cases hn
  | inr d =>
    obtain ⟨h1, h2, h3, h4, h5, h6, h7, h8⟩ := h
    match i, hn with
    | 0, hn => cases hn; exact ⟨_, rfl, .inr (.inr ⟨_, rfl⟩), rfl⟩
    | 1, hn => cases hn; exact ⟨_, rfl, .inr (.inr ⟨_, rfl⟩), rfl⟩
    | 2, hn => cases hn; exact ⟨_, rfl, .inr (.inr ⟨_, rfl⟩), rfl⟩
    | 3, hn => cases hn; exact ⟨_, rfl, .inr (.inl ⟨_, rfl, h4, by omega⟩), rfl⟩
    | 4, hn => cases hn; exact ⟨_, rfl, .inr (.inl ⟨_, rfl, by omega, h7⟩), rfl⟩
    | 5, hn => cases hn; exact ⟨_, rfl, shows_lim h8, congrArg some (lim_shown d.lim).symm⟩
    | n + 6, hn => cases hn
def spShown : Sp := fun vs H Q _ => ∃ x, vs = [x] ∧ Shows x ∧ Q (.str (shownV x)) H
/-- the settings of a plan as a dict -/
def KV1 (q : Item) : HP V := fun v H => ∃ m s, v = .ref m ∧ H m = some (.dK (Item.kvo q s))
theorem mn_kv1 {q : Item} : Mn (KV1 q) := fun _ _ _ s ⟨m, x, e, h⟩ => ⟨m, x, e, s _ _ h⟩
/-- an own plan of one item -/
def PIt (K : PySem.W.Frag) : Item → HP V
  | .inl d => PW K d
  | .inr d => fun v H => ∃ (a dx q c : Addr) (n k : Int), v = .ref a ∧ H a = some (SIns K dx q c n k) ∧ H q = some (.tup d.own)
def spValuesOf (K : PySem.W.Frag) : Sp := fun vs H Q _ => ∃ (v : V) (q : Item), vs = [v] ∧ PIt K q v H ∧ ∀ v' H', Same H H' → KV1 q v' H' → Q v' H'
def spLinesOf (K : PySem.W.Frag) (n : Nat) : Sp := fun vs H Q _ => ∃ (v : V) (t : Told n) (l : Nat), vs = [v, .int (l : Int)] ∧ Told.Ok n t ∧ Told.size n t ≤ 60 ∧ l + n ≤ 20 ∧ PAt K n t v H ∧ ∀ p H', Same H H' → H' p = some (.lst ((Told.flat n t l).map LineP)) → Q (.ref p) H'
section
variable {P : Program} {w : World} {K : PySem.W.Frag} {mg : Str → Option Value} {base : Heap}
theorem ok_shown (T : Env K mg) : FnOk P w K mg base CX0 1 (d_shown.loc K) T.fd_shown ["value"] spShown := by
  refine T.F_shown.ok sc_shown (fun vs H Q E h => ?_) (fun cdv A outer s H vs Q E hr h => ?_)
  · obtain ⟨x, rfl, _⟩ := h
    rfl
  · have nd := sc_shown.nd
    have hu := hu_of hr
    obtain ⟨x, rfl, hx, k⟩ := h
    refine ⟨_, PSs.nox (pss_one (ps_ret (pe_ifExp (pt_cmpR op_isN (pv 0) pe_non (nomark _)) pe_str (pe_callTy (call_str_int.or SkE.call_str_str) (by rfl) T.b_str (by decide +kernel) (pa_cons (pv 0) pa_nil))))), ?_⟩
    rcases hx with rfl | ⟨i, rfl, h0, h1⟩ | ⟨z, rfl⟩
    · exact ⟨_, rfl, rfl, true, rfl, k⟩
    · exact ⟨_, rfl, rfl, false, rfl, _, rfl, .inl ⟨i, rfl, log_ok h0 h1, k⟩⟩
    · exact ⟨_, rfl, rfl, false, rfl, _, rfl, .inr ⟨z, rfl, k⟩⟩
theorem ok_values_of (T : Env K mg) : FnOk P w K mg base CX0 2 (d_values_of.loc K) T.fd_values_of ["plan"] (spValuesOf K) := by
  have G_is_supervisor : FnOk P w K mg base CX0 1 _ _ _ _ := ok_is_supervisor T
  refine T.F_values_of.ok sc_values_of (fun vs H Q E h => ?_) (fun cdv A outer s H vs Q E hr h => ?_)
  · obtain ⟨v, q, rfl, _⟩ := h
    rfl
  · have nd := sc_values_of.nd
    have hu := hu_of hr
    obtain ⟨v, q, rfl, hv, k⟩ := h
    refine ⟨_, PSs.nox (pss_cons (ps_set (i := 1) nd rfl (Or.inl rfl) (pe_ifExp (pt_val (pe_call G_is_supervisor (hr.mono (by decide)) (by rfl) T.g_is_supervisor T.F_is_supervisor.kp T.bi_is_supervisor .nil pass0 (pa_cons (pv 0) pa_nil))) (pe_globR (by rfl) T.g_SUPERVISOR_SETTINGS) (pe_globR (by rfl) T.g_WORKER_SETTINGS)))
 (pss_one (ps_ret (WZd.pe_dictZip rfl (by rfl) T.b_dict (by rfl) T.b_zip (pa_cons (pv 1) (pa_cons (pe_fld (pv 0) rfl) pa_nil)) (pk_cons pe_bl pk_nil))))), ?_⟩
    cases q with
    | inl d =>
      obtain ⟨a, dx, q, s, rfl, ha, hq, hs⟩ := hv
      refine ⟨_, rfl, a, dx, _, rfl, .inl ⟨ha, false, rfl, ?_⟩⟩
      refine ⟨_, rfl, _, rfl, a, _, dx, _, _, rfl, ha, T.dc_WorkerPlan.cls, T.n_WorkerPlan_own_settings, rfl, ?_⟩
      refine ⟨_, q, ["name", "restart", "opening", "closing", "deadline", "refused", "script"], d.own s, rfl, rfl, T.q_WORKER_SETTINGS _, .of hq, rfl, fun p hp => k (.ref p) _ (same_new hp) ⟨p, s, rfl, upd_same⟩⟩
    | inr d =>
      obtain ⟨a, dx, q, c, n, kk, rfl, ha, hq⟩ := hv
      refine ⟨_, rfl, a, dx, _, rfl, .inr ⟨ha, true, rfl, ?_⟩⟩
      refine ⟨_, rfl, _, rfl, a, _, dx, _, _, rfl, ha, T.dc_SupervisorPlan.cls, T.n_SupervisorPlan_own_settings, rfl, ?_⟩
      refine ⟨_, q, ["name", "restart", "strategy", "most", "span", "deadline"], d.own, rfl, rfl, T.q_SUPERVISOR_SETTINGS _, .of hq, rfl, fun p hp => k (.ref p) _ (same_new hp) ⟨p, 0, rfl, upd_same⟩⟩
theorem ok_lines_of (T : Env K mg) : ∀ n, FnOk P w K mg base CX0 (n + 3) (d_lines_of.loc K) T.fd_lines_of ["plan", "level"] (spLinesOf K n)
  | 0 => T.F_lines_of.ok sc_lines_of (fun vs H Q E (h : spLinesOf K 0 vs H Q E) => by obtain ⟨v, t, _⟩ := h; cases t) (fun cdv A outer s H vs Q E hr (h : spLinesOf K 0 vs H Q E) => by obtain ⟨v, t, _⟩ := h; cases t)
  | n + 1 => by
    have G_lines_of : FnOk P w K mg base CX0 (n + 3) _ _ _ _ := ok_lines_of T n
    have G_values_of : FnOk P w K mg base CX0 2 _ _ _ _ := ok_values_of T
    have G_shown : FnOk P w K mg base CX0 1 _ _ _ _ := ok_shown T
    have G_is_supervisor : FnOk P w K mg base CX0 1 _ _ _ _ := ok_is_supervisor T
    have G_Plan_below : FnOk P w K mg base CX0 1 _ _ _ _ := ok_P_below T
    have G_SupervisorPlan_below : FnOk P w K mg base CX0 1 _ _ _ _ := ok_SP_below T
    refine T.F_lines_of.ok sc_lines_of (fun vs H Q E h => ?_) (fun cdv A outer s H vs Q E hr h => ?_)
    · obtain ⟨v, t, l, rfl, _⟩ := h
      rfl
    · have nd := sc_lines_of.nd
      have hu := hu_of hr
      obtain ⟨v, t, l, rfl, hok, hz, hl, ht, k⟩ := h
      refine ⟨_, PSs.nox (pss_cons (ps_set (i := 2) nd rfl (Or.inr rfl) (pe_call G_values_of (hr.mono (by omega)) (by rfl) T.g_values_of T.F_values_of.kp T.bi_values_of .nil pass0 (pa_cons (pv 0) pa_nil)))
 (pss_cons (ps_set (i := 3) nd rfl (Or.inl rfl) (pe_ifExp (pt_val (pe_call G_is_supervisor (hr.mono (by omega)) (by rfl) T.g_is_supervisor T.F_is_supervisor.kp T.bi_is_supervisor .nil pass0 (pa_cons (pv 0) pa_nil))) (pe_globR (by rfl) T.g_SUPERVISOR_SETTINGS) (pe_slice sl_tup (pe_globR (by rfl) T.g_WORKER_SETTINGS) po_none (po_some (pe_un un_neg pe_int)))))
 (pss_cons (ps_set (i := 4) nd rfl (Or.inl rfl) (pe_op op_cat (pe_lst (pa_cons (pe_ifExp (pt_val (pe_call G_is_supervisor (hr.mono (by omega)) (by rfl) T.g_is_supervisor T.F_is_supervisor.kp T.bi_is_supervisor .nil pass0 (pa_cons (pv 0) pa_nil))) pe_str pe_str) pa_nil)) (pe_lc (own := [("setting", 5)]) (by rfl) nd (pi_tup (pv 3)) (blkOk_by (N := ["plan", "level", "values", "known", "words", "setting", "found", "child"]) (sc := defScope s_lines_of) (by decide +kernel)) (fun _ _ _ _ _ => (pg_name (i := 5) nd rfl (Or.inl rfl))) (fun _ _ _ _ _ => pts_nil) (fun _ _ _ _ _ => (pe_call G_shown (hr.mono (by omega)) (by rfl) T.g_shown T.F_shown.kp T.bi_shown .nil pass0 (pa_cons (pe_dget hu (pv 2) (pv 5) (fun _ _ => rfl)) pa_nil))))))
 (pss_cons (ps_set (i := 6) nd rfl (Or.inl rfl) (pe_lst (pa_cons (pe_op op_add_str (pe_op op_mulS (C8.pe_gc (by rfl) T.c_INDENT) (pv 1)) (pe_join pe_str (pv 4))) pa_nil)))
 (pss_cons (ps_for PassesOwn.never rfl (pi_tup (pe_or (pe_meth0 (pv 0) T.dc_WorkerPlan.cls T.m_WorkerPlan_below G_Plan_below (hr.mono (by omega)) T.bi_Plan_below .nil pass0) (pe_meth0 (pv 0) T.dc_SupervisorPlan.cls T.m_SupervisorPlan_below G_SupervisorPlan_below (hr.mono (by omega)) T.bi_SupervisorPlan_below .nil pass0))) (pg_name (i := 7) nd rfl (Or.inl rfl))
  (pss_one (ps_expr (pe_bm PySem.F.plainAttrs_list PySem.F.slot_list_extend PySem.F.type_list_extend mt_extend (pv 6) (pa_cons (pe_call G_lines_of (hr.mono (by omega)) (by rfl) T.g_lines_of T.F_lines_of.kp T.bi_lines_of .nil pass0 (pa_cons (pv 7) (pa_cons (pe_op op_add (pv 1) pe_int) pa_nil))) pa_nil)))))
 (pss_one (ps_ret (pv 6)))))))), ?_⟩
      have first : ∀ (it : Item) (v : V) (R : TS) (D : Ends), PIt K it v H → Item.Ok it → (∀ H', Same H H' → ∃ a dx fs, v = .ref a ∧ ((Item.sup it = false ∧ H' a = some (.ins (CW K) dx fs)) ∨ (Item.sup it = true ∧ H' a = some (.ins (CS K) dx fs)))) →
          (∀ mv kn lw l4 H1, Same H H1 → H l4 = none → H1 l4 = some (.lst [LineP (l, it)]) → R D [some v, some (.int (l : Int)), some mv, some (.ref kn), some (.ref lw), none, some (.ref l4), none] H1) →
          tSeq (tAsg (tCall (spValuesOf K) [] E0 (tCons (tVar 0) tNil)) (gName 2))
          (tSeq (tAsg (tIf (tB (tCall (spIsS K) [] E0 (tCons (tVar 0) tNil))) (tC (.ref (He.ga K "SUPERVISOR_SETTINGS"))) (tSl (rSlT K) (tC (.ref (He.ga K "WORKER_SETTINGS"))) tNoPart (tPart (tUn (rU fun i => .int (-i)) (tC (.int 1)))))) (gName 3))
          (tSeq (tAsg (tOp rCat (tLst (tCons (tIf (tB (tCall (spIsS K) [] E0 (tCons (tVar 0) tNil))) (tC (.str "supervisor")) (tC (.str "worker"))) tNil)) (tLc (iTup K (tVar 3)) (gName 5) tYes (tCall spShown [] E0 (tCons (tDGet (tVar 2) (tVar 5)) tNil)) [5])) (gName 4))
          (tSeq (tAsg (tLst (tCons (tAddS (tOp rMulS (tC (.str "  ")) (tVar 1)) (tM1 (fun x xs H Q => ∃ a p, ∃ ys : List Str, x = .str a ∧ xs = [.ref p] ∧ (SqL K H p (ys.map V.str) ∨ SqT K H p (ys.map V.str)) ∧ (ys.map (·.length)).sum + ys.length * a.length ≤ 16777216 ∧ Q (.str (Txt.join a ys)) H) (tC (.str " ")) (tVar 4))) tNil)) (gName 6)) R))) D
            [some v, some (.int (l : Int)), none, none, none, none, none, none] H := by
        intro it v R D hv hok hc kk
        have evS : ∀ (H' : Hp) (σ : L2.St), Same H H' → σ[0]? = some (some v) → EvB (tB (tCall (spIsS K) [] E0 (tCons (tVar 0) tNil))) σ H' (Item.sup it) := fun H' σ s h0 Q q => ⟨_, h0, by
          obtain ⟨a, dx, fs, rfl, h⟩ := hc H' s
          exact ⟨a, dx, fs, rfl, h.imp (fun ⟨e, h⟩ => ⟨h, false, rfl, e ▸ q⟩) (fun ⟨e, h⟩ => ⟨h, true, rfl, e ▸ q⟩)⟩⟩
        refine st_tSeq ⟨_, rfl, v, it, rfl, hv, fun v2 H1 s1 hv2 => ?_⟩
        obtain ⟨m, s, rfl, hm⟩ := hv2
        dsimp only
        show tSeq _ _ _ _ _
        refine st_tSeq (g_asg (P := fun v H => ∃ kn, v = .ref kn ∧ SqT K H kn ((Item.names it).map V.str)) ⟨fun H2 s2 Q1 q1 => evS H2 _ (s1.trans s2) rfl _ ?_, fun v H H' s ⟨kn, e, h⟩ => ⟨kn, e, h.ext s⟩⟩ fun v2 H2 s2 hk => ?_)
        · cases it with
          | inl d =>
            refine ⟨1, rfl, -1, rfl, _, _, rfl, T.q_WORKER_SETTINGS _, (show ¬ (HT.sIx 7 0 none = 0 ∧ HT.sIx 7 7 (some (-1)) = 7) by decide), fun r hr => ?_⟩
            have e : upd H2 r (.tup (cutV [V.str "name", .str "restart", .str "opening", .str "closing", .str "deadline", .str "refused", .str "script"] none (some (-1)))) r = some (.tup ([("name" : Str), "restart", "opening", "closing", "deadline", "refused"].map V.str)) := upd_same
            exact q1 _ _ (same_new hr) ⟨r, rfl, .of e⟩
          | inr d => exact q1 _ _ (Same.refl _) ⟨_, rfl, T.q_SUPERVISOR_SETTINGS _⟩
        obtain ⟨kn, rfl, hkn⟩ := hk
        have s12 := s1.trans s2
        obtain ⟨nn, wk⟩ := item_words hok
        have ne := (names_sh it).2.2
        have tl := (words_cut it).2
        dsimp only
        show tSeq _ _ _ _ _
        refine st_tSeq (g_asg (P := LF (((Item.words it).map V.str).map Is)) ?_ fun v1 H3 s3 e3 => ?_)
        · have : ((Item.words it).map V.str).map Is = [Is (.str (if Item.sup it = true then "supervisor" else "worker"))] ++ ((Item.words it).tail.map V.str).map Is := by cases it <;> rfl
          rw [this]
          refine g_cat (g_lst (ga_cons (ev_g fun H3 s3 => ?_) ga_nil)) ?_ (mn_fa fun P hP => by cases List.mem_singleton.mp hP; exact mk_is) (mn_fa mk_iss) ?_
          · refine ev_if (evS H3 _ (s12.trans s3) rfl) ?_
            cases it
            · exact ev_c
            · exact ev_c
          · refine g_lcF (J := Itt K kn) (ys := (Item.names it).map V.str) (fun H3 s R r => ⟨_, rfl, kn, rfl, ⟨_, hkn.ext s⟩, r⟩) walk_tup (fun H3 s => hkn.ext s) (by rw [List.length_map, List.length_map, List.length_map, tl, ne]) (by rw [List.length_map, ne]; decide) mk_iss fun i x P H3 hx hP s3 Q q => ?_
            rw [List.getElem?_map] at hx
            obtain ⟨n, hn, rfl⟩ := Option.map_eq_some_iff.mp hx
            obtain ⟨x, e1, e2, e3⟩ := shown_ok hok s i n hn
            rw [List.getElem?_map, List.getElem?_map, e3] at hP
            cases hP
            exact ⟨_, rfl, _, rfl, m, x, rfl, .inl ⟨_, Sum.inr n, .inl (s3 _ _ (s2 _ _ hm)), rfl, e1.symm⟩, x, rfl, e2, q _ _ (Same.refl _) rfl⟩
          · simp only [List.length_map, List.length_cons, List.length_nil]
            omega
        · obtain ⟨lw, xs, rfl, hlw, fa⟩ := e3
          obtain rfl := fa.is
          have s123 := s12.trans s3
          dsimp only
          show tSeq _ _ _ _ _
          exact st_tSeq (st_line (ix := 1) (iw := 4) rfl rfl hlw (by omega) wk (by omega) fun l4 H4 s4 hn hl4 => kk _ kn lw l4 H4 (s123.trans s4) (Same.free s123 hn) hl4)
      cases t with
      | inl d =>
        have ht' : PW K d v H := ht
        obtain ⟨a, dx, q, sc, rfl, ha, hq, hs⟩ := ht'
        refine first (.inl d) (.ref a) _ _ ht hok (fun H' s => ⟨a, dx, _, rfl, .inl ⟨rfl, s _ _ ha⟩⟩) fun mv kn lw l4 H1 s1 hn hl4 => ?_
        refine st_tSeq (.inl ⟨_, rfl, a, dx, _, rfl, s1 _ _ ha, rfl, .ref a, rfl, fun p H2 s2 hp => ⟨p, rfl, ⟨[], .of hp⟩, ?_⟩⟩)
        refine for_it (walk_tup (xs := [])) (fun i σ H' => σ = [some (.ref a), some (.int (l : Int)), some mv, some (.ref kn), some (.ref lw), none, some (.ref l4), none] ∧ H' = H2) ⟨rfl, rfl⟩ (fun i σ H' _ e => by rw [e.2]; exact .of hp) (fun i x σ H1 H2 hi _ _ => nomatch hi) (fun σ H' e => ?_)
        obtain ⟨rfl, rfl⟩ := e
        exact st_ret (ev_var rfl) (k l4 _ (s1.trans s2) (s2 _ _ hl4))
      | inr x =>
        obtain ⟨d, ts⟩ := x
        obtain ⟨a, dx, q, c, kk, ys, rfl, ha, hq, hc, hkk, fa⟩ := ht
        refine first (.inr d) (.ref a) _ _ ⟨a, dx, q, c, _, _, rfl, ha, hq⟩ hok.1 (fun H' s => ⟨a, dx, _, rfl, .inr ⟨rfl, s _ _ ha⟩⟩) fun mv kn lw l4 H1 s1 hn hl4 => ?_
        refine st_tSeq ?_
        refine f_tupI (q := c) (ys := ys) (fun i σ H' => ∃ a7, σ = [some (.ref a), some (.int (l : Int)), some mv, some (.ref kn), some (.ref lw), none, some (.ref l4), a7] ∧ Same H H' ∧ H' l4 = some (.lst ((((l, Sum.inr d) : Nat × Item) :: (ts.take i).flatMap fun t => Told.flat n t (l + 1)).map LineP)))
          (fun Q q' => .inr ⟨_, rfl, a, dx, _, rfl, s1 _ _ ha, rfl, a, dx, _, .ref c, rfl, s1 _ _ ha, rfl, q'⟩) (s1 _ _ hc) ⟨none, rfl, s1, hl4⟩ (fun i σ H' ⟨_, _, s, _⟩ => s _ _ hc) (fun i x σ H3 hx ⟨a7, hσ, s3, hl3⟩ => ?_) (fun σ H3 ⟨a7, hσ, s3, hl3⟩ => ?_)
        · subst hσ
          obtain ⟨t, ht, px⟩ := pat_get fa hx
          have tm := List.mem_of_getElem? ht
          have sz : Told.size n t ≤ (ts.map (Told.size n)).sum := size_in tm
          have hz' : 1 + (ts.map (Told.size n)).sum ≤ 60 := hz
          have sk := sum_take (Told.size n) ts i
          refine ⟨_, rfl, .inl ⟨rfl, _, .of hl3⟩, _, rfl, _, rfl, l, 1, rfl, rfl, x, t, l + 1, rfl, hok.2.2 t tm, by omega, by omega, (mk_pat n t).mn _ _ _ s3 px, fun p6 H6 s6 hl6 => ?_⟩
          refine ⟨l4, p6, _, _, rfl, rfl, s6 _ _ hl3, hl6, ?_, ?_⟩
          · rw [List.length_map, List.length_map, List.length_cons, flats_len, flat_len]
            exact Nat.le_trans (show _ ≤ 1000 by omega) (by decide)
          · refine ⟨_, rfl, same_put (s3.trans s6) hn, ?_⟩
            rw [List.take_succ, ht, upd_same, ← List.map_append]
            simp
        · subst hσ
          refine st_ret (ev_var rfl) (k l4 H3 s3 ?_)
          rw [hl3, pat_len fa, List.take_length]
          rfl
def spText (K : PySem.W.Frag) (n : Nat) : Sp := fun vs H Q _ => ∃ (v : V) (t : Told n), vs = [v] ∧ Told.Ok n t ∧ Told.size n t ≤ 60 ∧ n ≤ 20 ∧ PAt K n t v H ∧ ∀ H', Same H H' → Q (.str (Txt.join "\n" ((Told.flat n t 0).map lineI))) H'
/-- "\n".join of a list of lines -/
theorem g_lines {σ : L2.St} {H : Hp} {te : TE} {qs : List (Nat × Item)} (h : ∀ q ∈ qs, Item.Ok q.2 ∧ q.1 ≤ 20) (hn : qs.length ≤ 60) (ha : ∀ H1, Same H H1 → ∀ Q : VK, (∀ p H2, Same H1 H2 → H2 p = some (.lst (qs.map LineP)) → Q (.ref p) H2) → te σ H1 Q) :
    G (tM1 (fun x xs H Q => ∃ a p, ∃ ys : List Str, x = .str a ∧ xs = [.ref p] ∧ (SqL K H p (ys.map V.str) ∨ SqT K H p (ys.map V.str)) ∧ (ys.map (·.length)).sum + ys.length * a.length ≤ 16777216 ∧ Q (.str (Txt.join a ys)) H) (tC (.str "\n")) te) σ H (Is (.str (Txt.join "\n" (qs.map lineI)))) := ⟨fun H1 e Q q => by
    refine ⟨⟨_, rfl⟩, ha H1 e _ fun p H2 s2 hp => ?_⟩
    have sm := lines_sum h
    refine ⟨"\n", p, qs.map lineI, rfl, rfl, .inl (.of (by rw [hp, List.map_map]; rfl)), ?_, q _ _ s2 rfl⟩
    have k3 : ("\n" : Str).length = 1 := by decide
    rw [k3, List.length_map]
    omega, mn_i⟩
theorem ok_text (T : Env K mg) (n : Nat) : FnOk P w K mg base CX0 (n + 4) (d_plan_text.loc K) T.fd_plan_text ["plan"] (spText K n) := by
  have G_lines_of : FnOk P w K mg base CX0 (n + 3) _ _ _ _ := ok_lines_of T n
  refine T.F_plan_text.ok sc_plan_text (fun vs H Q E h => ?_) (fun cdv A outer s H vs Q E hr h => ?_)
  · obtain ⟨v, t, rfl, _⟩ := h
    rfl
  · have nd := sc_plan_text.nd
    have hu := hu_of hr
    obtain ⟨v, t, rfl, hok, hz, hn, ht, k⟩ := h
    refine ⟨_, PSs.nox (pss_one (ps_ret (pe_join pe_str (pe_call G_lines_of (hr.mono (by omega)) (by rfl) T.g_lines_of T.F_lines_of.kp T.bi_lines_of .nil pass0 (pa_cons (pv 0) (pa_cons pe_int pa_nil)))))), ?_⟩
    refine g_ret (g_lines (qs := Told.flat n t 0) (fun q hq => ?_) (by rw [flat_len]; exact hz) fun H1 s1 Q1 q1 => ?_) fun v1 H1 s1 e => by cases e; exact k _ s1
    · have := flat_ok n t 0 hok q hq
      exact ⟨this.1, by omega⟩
    · exact ⟨_, rfl, v, t, 0, rfl, hok, hz, by omega, (mk_pat n t).mn _ _ _ s1 ht, q1⟩
end
end W06

set_option Elab.async false
set_option linter.all false
set_option maxRecDepth 100000
set_option maxHeartbeats 4000000
namespace W06
open PySem PySem.Spec PyProof.Rows L2 WXG WEv WRd WLf WEn WZs WRu WSt StX WDc
/-! ### plans built by the law -/
theorem len0 {ys : List V} (h : ys.length = 0) : ys = [] := List.length_eq_zero_iff.mp h
theorem len1 : ∀ {ys : List V}, ys.length = 1 → ∃ y0 : V, ys = [y0]
  | [y0], _ => ⟨y0, rfl⟩
theorem len2 : ∀ {ys : List V}, ys.length = 2 → ∃ y0 y1 : V, ys = [y0, y1]
  | [y0, y1], _ => ⟨y0, y1, rfl⟩
theorem len3 : ∀ {ys : List V}, ys.length = 3 → ∃ y0 y1 y2 : V, ys = [y0, y1, y2]
  | [y0, y1, y2], _ => ⟨y0, y1, y2, rfl⟩
theorem len4 : ∀ {ys : List V}, ys.length = 4 → ∃ y0 y1 y2 y3 : V, ys = [y0, y1, y2, y3]
  | [y0, y1, y2, y3], _ => ⟨y0, y1, y2, y3, rfl⟩
theorem len5 : ∀ {ys : List V}, ys.length = 5 → ∃ y0 y1 y2 y3 y4 : V, ys = [y0, y1, y2, y3, y4]
  | [y0, y1, y2, y3, y4], _ => ⟨y0, y1, y2, y3, y4, rfl⟩
theorem len6 : ∀ {ys : List V}, ys.length = 6 → ∃ y0 y1 y2 y3 y4 y5 : V, ys = [y0, y1, y2, y3, y4, y5]
  | [y0, y1, y2, y3, y4, y5], _ => ⟨y0, y1, y2, y3, y4, y5, rfl⟩
theorem len7 : ∀ {ys : List V}, ys.length = 7 → ∃ y0 y1 y2 y3 y4 y5 y6 : V, ys = [y0, y1, y2, y3, y4, y5, y6]
  | [y0, y1, y2, y3, y4, y5, y6], _ => ⟨y0, y1, y2, y3, y4, y5, y6, rfl⟩
theorem len8 : ∀ {ys : List V}, ys.length = 8 → ∃ y0 y1 y2 y3 y4 y5 y6 y7 : V, ys = [y0, y1, y2, y3, y4, y5, y6, y7]
  | [y0, y1, y2, y3, y4, y5, y6, y7], _ => ⟨y0, y1, y2, y3, y4, y5, y6, y7, rfl⟩
theorem len9 : ∀ {ys : List V}, ys.length = 9 → ∃ y0 y1 y2 y3 y4 y5 y6 y7 y8 : V, ys = [y0, y1, y2, y3, y4, y5, y6, y7, y8]
  | [y0, y1, y2, y3, y4, y5, y6, y7, y8], _ => ⟨y0, y1, y2, y3, y4, y5, y6, y7, y8, rfl⟩
theorem len10 : ∀ {ys : List V}, ys.length = 10 → ∃ y0 y1 y2 y3 y4 y5 y6 y7 y8 y9 : V, ys = [y0, y1, y2, y3, y4, y5, y6, y7, y8, y9]
  | [y0, y1, y2, y3, y4, y5, y6, y7, y8, y9], _ => ⟨y0, y1, y2, y3, y4, y5, y6, y7, y8, y9, rfl⟩
theorem len11 : ∀ {ys : List V}, ys.length = 11 → ∃ y0 y1 y2 y3 y4 y5 y6 y7 y8 y9 y10 : V, ys = [y0, y1, y2, y3, y4, y5, y6, y7, y8, y9, y10]
  | [y0, y1, y2, y3, y4, y5, y6, y7, y8, y9, y10], _ => ⟨y0, y1, y2, y3, y4, y5, y6, y7, y8, y9, y10, rfl⟩
theorem len12 : ∀ {ys : List V}, ys.length = 12 → ∃ y0 y1 y2 y3 y4 y5 y6 y7 y8 y9 y10 y11 : V, ys = [y0, y1, y2, y3, y4, y5, y6, y7, y8, y9, y10, y11]
  | [y0, y1, y2, y3, y4, y5, y6, y7, y8, y9, y10, y11], _ => ⟨y0, y1, y2, y3, y4, y5, y6, y7, y8, y9, y10, y11, rfl⟩
theorem same_two {H : Hp} {x dx : Addr} {o o' : HO} (hx : H x = none) (hdx : H dx = none) (ne : dx ≠ x) : Same H (upd (upd H dx o) x o') := (same_new hdx).trans (same_new (by rw [upd_ne (Ne.symm ne)]; exact hx))
section
variable {K : PySem.W.Frag} {σ : L2.St} {H : Hp} {ta tk : TA} {D : Ends} {E : XK}
theorem st_mkW {d : WD} {s : Addr} (hok : d.Ok) (hs : H s = some (.tup [])) (ha : EvL ta σ H [.str d.name]) (hk : EvL tk σ H [.str d.word, .int d.b, .int d.e, limV d.lim, .int d.r, .ref s]) (k : ∀ v' H', Same H H' → PW K d v' H' → D.rt v' H') : tRet (tMkKF (CW K) (spkW K) 6 E ta tk) D σ H :=
  ha _ (hk _ ⟨rfl, fun x dx hx hdx ne => by
    have sp := same_two (o := .own x) (o' := .ins (CW K) dx []) hx hdx ne
    refine ⟨rfl, x, dx, s, d, rfl, hok, upd_same, sp _ _ hs, fun q H' he hq => ⟨rfl, ?_⟩⟩
    have sH : Same H H' := fun b u hb => he.1 b u (sp _ _ hb) fun z => by rw [z, hx] at hb; cases hb
    exact k (.ref x) H' sH ⟨x, dx, q, s, rfl, he.2, hq, sH _ _ hs⟩⟩)
theorem st_mkS {d : SD} {n : Nat} {ts : List (Told n)} {ys : List V} (hok : d.Ok) (hts : ts.length ≤ 12) (hn : n ≤ 19) (hsz : (ts.map (Told.size n)).sum ≤ 100) (fa : Fa (ts.map (PAt K n)) ys H)
    (ha : EvL ta σ H (.str d.name :: ys)) (hk : EvL tk σ H [.str d.word, .str d.way, .int d.most, .int d.span, limV d.lim]) (k : ∀ v' H', Same H H' → PAt K (n + 1) (Sum.inr (d, ts)) v' H' → D.rt v' H') : tRet (tMkKF (CS K) (spkS K n) 5 E ta tk) D σ H :=
  ha _ (hk _ ⟨rfl, fun x dx hx hdx ne => by
    have sp := same_two (o := .own x) (o' := .ins (CS K) dx []) hx hdx ne
    have e1 : upd (upd H dx (.own x)) x (.ins (CS K) dx []) x = some (.ins (CS K) dx []) := upd_same
    have yl := pat_len fa
    generalize upd (upd H dx (.own x)) x (.ins (CS K) dx []) = H2 at *
    refine ⟨[.ref x, .str d.name], ys, rfl, rfl, Nat.le_trans (show ys.length ≤ 12 by omega) (by decide), fun p hp => ?_⟩
    have xp : x ≠ p := fun z => by rw [← z, e1] at hp; cases hp
    refine ⟨x, dx, p, d, ts, ys, rfl, hok, hts, hn, hsz, (same_new hp) _ _ e1, upd_same, fa_kp mk_pats (Kp.same (sp.trans (same_new hp))) fa, fun q kk H' hk he hq => ⟨rfl, ?_⟩⟩
    have sH : Same H H' := fun b u hb => he.1 b u ((same_new hp) _ _ (sp _ _ hb)) fun z => by rw [z, hx] at hb; cases hb
    exact k (.ref x) H' sH ⟨x, dx, q, p, kk, ys, rfl, he.2, hq, he.1 p _ upd_same (Ne.symm xp), hk, mn_fa mk_pats _ _ _ sH fa⟩⟩)
end
def spSupB (K : PySem.W.Frag) (lo n : Nat) : Sp := fun vs H Q _ => ∃ (d : SD) (ts : List (Told n)) (ys : List V) (l p : Addr), vs = [.str d.name, .ref l, .ref p] ∧ H l = some (.lst ys) ∧ H p = some (.tup [.str d.word, .str d.way, .int d.most, .int d.span, limV d.lim]) ∧ Fa (ts.map (PAt K n)) ys H ∧ d.Ok ∧ lo ≤ ts.length ∧ ts.length ≤ 12 ∧ n ≤ 19 ∧ (ts.map (Told.size n)).sum ≤ 100 ∧
  ∀ v' H', Same H H' → PAt K (n + 1) (Sum.inr (d, ts)) v' H' → Q v' H'
section
variable {P : Program} {w : World} {K : PySem.W.Frag} {mg : Str → Option Value} {base : Heap}
theorem ok_greatest (T : Env K mg) (n : Nat) : FnOk P w K mg base CX0 5 (d_L_greatest.loc K) T.fd_L_greatest ["label", "c", "s"] (spSupB K 9 n) := by
  have G_mk_SupervisorPlan : FnK P w K mg base CX0 3 _ _ _ := fk_super T n
  refine T.F_L_greatest.ok sc_L_greatest (fun vs H Q E h => ?_) (fun cdv A outer s H vs Q E hr h => ?_)
  · obtain ⟨d, ts, ys, l, p, rfl, _⟩ := h
    rfl
  · have nd := sc_L_greatest.nd
    have hu := hu_of hr
    obtain ⟨d, ts, ys, l, p, rfl, hl, hp, fa, hok, hlo, hts, hn, hsz, k⟩ := h
    have yl := pat_len fa
    refine ⟨_, PSs.nox (pss_cons (ps_asg (pv 2) (pg_tup rfl (pgs_cons (pg_name (i := 3) nd rfl (Or.inl rfl)) (pgs_cons (pg_name (i := 4) nd rfl (Or.inl rfl)) (pgs_cons (pg_name (i := 5) nd rfl (Or.inl rfl)) (pgs_cons (pg_name (i := 6) nd rfl (Or.inl rfl)) (pgs_cons (pg_name (i := 7) nd rfl (Or.inl rfl)) pgs_nil)))))))
 (pss_cons (ps_set (i := 8) nd rfl (Or.inl rfl) (pe_callB call_len_seq (by rfl) T.b_len (by decide +kernel) (pa_cons (pv 1) pa_nil)))
 (pss_cons (ps_if (pt_cmpR op_eq (pv 8) pe_int (nomark _))
  (pss_one (ps_ret (pe_mkKF T.mk_SupervisorPlan G_mk_SupervisorPlan (hr.mono (by decide)) (by rfl) T.g_SupervisorPlan pass0 (pa_cons (pv 0) (pa_cons (pe_ix (ixlK (K := K)) (pv 1) pe_int (fun _ _ => rfl)) (pa_cons (pe_ix (ixlK (K := K)) (pv 1) pe_int (fun _ _ => rfl)) (pa_cons (pe_ix (ixlK (K := K)) (pv 1) pe_int (fun _ _ => rfl)) (pa_cons (pe_ix (ixlK (K := K)) (pv 1) pe_int (fun _ _ => rfl)) (pa_cons (pe_ix (ixlK (K := K)) (pv 1) pe_int (fun _ _ => rfl)) (pa_cons (pe_ix (ixlK (K := K)) (pv 1) pe_int (fun _ _ => rfl)) (pa_cons (pe_ix (ixlK (K := K)) (pv 1) pe_int (fun _ _ => rfl)) (pa_cons (pe_ix (ixlK (K := K)) (pv 1) pe_int (fun _ _ => rfl)) (pa_cons (pe_ix (ixlK (K := K)) (pv 1) pe_int (fun _ _ => rfl)) pa_nil)))))))))) (pk_cons (pv 3) (pk_cons (pv 4) (pk_cons (pv 5) (pk_cons (pv 6) (pk_cons (pv 7) pk_nil))))))))
  pss_nil)
 (pss_cons (ps_if (pt_cmpR op_eq (pv 8) pe_int (nomark _))
  (pss_one (ps_ret (pe_mkKF T.mk_SupervisorPlan G_mk_SupervisorPlan (hr.mono (by decide)) (by rfl) T.g_SupervisorPlan pass0 (pa_cons (pv 0) (pa_cons (pe_ix (ixlK (K := K)) (pv 1) pe_int (fun _ _ => rfl)) (pa_cons (pe_ix (ixlK (K := K)) (pv 1) pe_int (fun _ _ => rfl)) (pa_cons (pe_ix (ixlK (K := K)) (pv 1) pe_int (fun _ _ => rfl)) (pa_cons (pe_ix (ixlK (K := K)) (pv 1) pe_int (fun _ _ => rfl)) (pa_cons (pe_ix (ixlK (K := K)) (pv 1) pe_int (fun _ _ => rfl)) (pa_cons (pe_ix (ixlK (K := K)) (pv 1) pe_int (fun _ _ => rfl)) (pa_cons (pe_ix (ixlK (K := K)) (pv 1) pe_int (fun _ _ => rfl)) (pa_cons (pe_ix (ixlK (K := K)) (pv 1) pe_int (fun _ _ => rfl)) (pa_cons (pe_ix (ixlK (K := K)) (pv 1) pe_int (fun _ _ => rfl)) (pa_cons (pe_ix (ixlK (K := K)) (pv 1) pe_int (fun _ _ => rfl)) pa_nil))))))))))) (pk_cons (pv 3) (pk_cons (pv 4) (pk_cons (pv 5) (pk_cons (pv 6) (pk_cons (pv 7) pk_nil))))))))
  pss_nil)
 (pss_cons (ps_if (pt_cmpR op_eq (pv 8) pe_int (nomark _))
  (pss_one (ps_ret (pe_mkKF T.mk_SupervisorPlan G_mk_SupervisorPlan (hr.mono (by decide)) (by rfl) T.g_SupervisorPlan pass0 (pa_cons (pv 0) (pa_cons (pe_ix (ixlK (K := K)) (pv 1) pe_int (fun _ _ => rfl)) (pa_cons (pe_ix (ixlK (K := K)) (pv 1) pe_int (fun _ _ => rfl)) (pa_cons (pe_ix (ixlK (K := K)) (pv 1) pe_int (fun _ _ => rfl)) (pa_cons (pe_ix (ixlK (K := K)) (pv 1) pe_int (fun _ _ => rfl)) (pa_cons (pe_ix (ixlK (K := K)) (pv 1) pe_int (fun _ _ => rfl)) (pa_cons (pe_ix (ixlK (K := K)) (pv 1) pe_int (fun _ _ => rfl)) (pa_cons (pe_ix (ixlK (K := K)) (pv 1) pe_int (fun _ _ => rfl)) (pa_cons (pe_ix (ixlK (K := K)) (pv 1) pe_int (fun _ _ => rfl)) (pa_cons (pe_ix (ixlK (K := K)) (pv 1) pe_int (fun _ _ => rfl)) (pa_cons (pe_ix (ixlK (K := K)) (pv 1) pe_int (fun _ _ => rfl)) (pa_cons (pe_ix (ixlK (K := K)) (pv 1) pe_int (fun _ _ => rfl)) pa_nil)))))))))))) (pk_cons (pv 3) (pk_cons (pv 4) (pk_cons (pv 5) (pk_cons (pv 6) (pk_cons (pv 7) pk_nil))))))))
  pss_nil)
 (pss_one (ps_ret (pe_mkKF T.mk_SupervisorPlan G_mk_SupervisorPlan (hr.mono (by decide)) (by rfl) T.g_SupervisorPlan pass0 (pa_cons (pv 0) (pa_cons (pe_ix (ixlK (K := K)) (pv 1) pe_int (fun _ _ => rfl)) (pa_cons (pe_ix (ixlK (K := K)) (pv 1) pe_int (fun _ _ => rfl)) (pa_cons (pe_ix (ixlK (K := K)) (pv 1) pe_int (fun _ _ => rfl)) (pa_cons (pe_ix (ixlK (K := K)) (pv 1) pe_int (fun _ _ => rfl)) (pa_cons (pe_ix (ixlK (K := K)) (pv 1) pe_int (fun _ _ => rfl)) (pa_cons (pe_ix (ixlK (K := K)) (pv 1) pe_int (fun _ _ => rfl)) (pa_cons (pe_ix (ixlK (K := K)) (pv 1) pe_int (fun _ _ => rfl)) (pa_cons (pe_ix (ixlK (K := K)) (pv 1) pe_int (fun _ _ => rfl)) (pa_cons (pe_ix (ixlK (K := K)) (pv 1) pe_int (fun _ _ => rfl)) (pa_cons (pe_ix (ixlK (K := K)) (pv 1) pe_int (fun _ _ => rfl)) (pa_cons (pe_ix (ixlK (K := K)) (pv 1) pe_int (fun _ _ => rfl)) (pa_cons (pe_ix (ixlK (K := K)) (pv 1) pe_int (fun _ _ => rfl)) pa_nil))))))))))))) (pk_cons (pv 3) (pk_cons (pv 4) (pk_cons (pv 5) (pk_cons (pv 6) (pk_cons (pv 7) pk_nil))))))))))))), ?_⟩
    refine ⟨_, rfl, p, _, rfl, .of hp, rfl, _, _, rfl, _, _, rfl, _, _, rfl, _, _, rfl, _, _, rfl, rfl, ?_⟩
    refine ⟨_, rfl, l, ys, rfl, .inl (.of hl), ?_⟩
    dsimp only
    show tSeq _ _ _ _ _
    have hk : ys.length = 9 ∨ ys.length = 10 ∨ ys.length = 11 ∨ ys.length = 12 := by omega
    rcases hk with h | h | h | h
    · obtain ⟨y0, y1, y2, y3, y4, y5, y6, y7, y8, rfl⟩ := len9 h
      refine st_if (b := true) (fun Q q => ⟨_, rfl, rfl, true, rfl, q⟩) ?_
      exact st_mkS hok hts hn hsz fa (evl_cons (ev_var rfl) (evl_cons (ev_ixL rfl hl rfl) (evl_cons (ev_ixL rfl hl rfl) (evl_cons (ev_ixL rfl hl rfl) (evl_cons (ev_ixL rfl hl rfl) (evl_cons (ev_ixL rfl hl rfl) (evl_cons (ev_ixL rfl hl rfl) (evl_cons (ev_ixL rfl hl rfl) (evl_cons (ev_ixL rfl hl rfl) (evl_cons (ev_ixL rfl hl rfl) evl_nil)))))))))) (evl_cons (ev_var rfl) (evl_cons (ev_var rfl) (evl_cons (ev_var rfl) (evl_cons (ev_var rfl) (evl_cons (ev_var rfl) (evl_nil)))))) k
    · obtain ⟨y0, y1, y2, y3, y4, y5, y6, y7, y8, y9, rfl⟩ := len10 h
      refine st_no (fun Q q => ⟨_, rfl, rfl, false, rfl, q⟩) ?_
      dsimp only
      refine st_if (b := true) (fun Q q => ⟨_, rfl, rfl, true, rfl, q⟩) ?_
      exact st_mkS hok hts hn hsz fa (evl_cons (ev_var rfl) (evl_cons (ev_ixL rfl hl rfl) (evl_cons (ev_ixL rfl hl rfl) (evl_cons (ev_ixL rfl hl rfl) (evl_cons (ev_ixL rfl hl rfl) (evl_cons (ev_ixL rfl hl rfl) (evl_cons (ev_ixL rfl hl rfl) (evl_cons (ev_ixL rfl hl rfl) (evl_cons (ev_ixL rfl hl rfl) (evl_cons (ev_ixL rfl hl rfl) (evl_cons (ev_ixL rfl hl rfl) evl_nil))))))))))) (evl_cons (ev_var rfl) (evl_cons (ev_var rfl) (evl_cons (ev_var rfl) (evl_cons (ev_var rfl) (evl_cons (ev_var rfl) (evl_nil)))))) k
    · obtain ⟨y0, y1, y2, y3, y4, y5, y6, y7, y8, y9, y10, rfl⟩ := len11 h
      refine st_no (fun Q q => ⟨_, rfl, rfl, false, rfl, q⟩) ?_
      dsimp only
      refine st_no (fun Q q => ⟨_, rfl, rfl, false, rfl, q⟩) ?_
      dsimp only
      refine st_if (b := true) (fun Q q => ⟨_, rfl, rfl, true, rfl, q⟩) ?_
      exact st_mkS hok hts hn hsz fa (evl_cons (ev_var rfl) (evl_cons (ev_ixL rfl hl rfl) (evl_cons (ev_ixL rfl hl rfl) (evl_cons (ev_ixL rfl hl rfl) (evl_cons (ev_ixL rfl hl rfl) (evl_cons (ev_ixL rfl hl rfl) (evl_cons (ev_ixL rfl hl rfl) (evl_cons (ev_ixL rfl hl rfl) (evl_cons (ev_ixL rfl hl rfl) (evl_cons (ev_ixL rfl hl rfl) (evl_cons (ev_ixL rfl hl rfl) (evl_cons (ev_ixL rfl hl rfl) evl_nil)))))))))))) (evl_cons (ev_var rfl) (evl_cons (ev_var rfl) (evl_cons (ev_var rfl) (evl_cons (ev_var rfl) (evl_cons (ev_var rfl) (evl_nil)))))) k
    · obtain ⟨y0, y1, y2, y3, y4, y5, y6, y7, y8, y9, y10, y11, rfl⟩ := len12 h
      refine st_no (fun Q q => ⟨_, rfl, rfl, false, rfl, q⟩) ?_
      dsimp only
      refine st_no (fun Q q => ⟨_, rfl, rfl, false, rfl, q⟩) ?_
      dsimp only
      refine st_no (fun Q q => ⟨_, rfl, rfl, false, rfl, q⟩) ?_
      dsimp only
      exact st_mkS hok hts hn hsz fa (evl_cons (ev_var rfl) (evl_cons (ev_ixL rfl hl rfl) (evl_cons (ev_ixL rfl hl rfl) (evl_cons (ev_ixL rfl hl rfl) (evl_cons (ev_ixL rfl hl rfl) (evl_cons (ev_ixL rfl hl rfl) (evl_cons (ev_ixL rfl hl rfl) (evl_cons (ev_ixL rfl hl rfl) (evl_cons (ev_ixL rfl hl rfl) (evl_cons (ev_ixL rfl hl rfl) (evl_cons (ev_ixL rfl hl rfl) (evl_cons (ev_ixL rfl hl rfl) (evl_cons (ev_ixL rfl hl rfl) evl_nil))))))))))))) (evl_cons (ev_var rfl) (evl_cons (ev_var rfl) (evl_cons (ev_var rfl) (evl_cons (ev_var rfl) (evl_cons (ev_var rfl) (evl_nil)))))) k
theorem ok_greater (T : Env K mg) (n : Nat) : FnOk P w K mg base CX0 6 (d_L_greater.loc K) T.fd_L_greater ["label", "c", "s"] (spSupB K 5 n) := by
  have G_mk_SupervisorPlan : FnK P w K mg base CX0 3 _ _ _ := fk_super T n
  have G_L_greatest : FnOk P w K mg base CX0 5 _ _ _ _ := ok_greatest T n
  refine T.F_L_greater.ok sc_L_greater (fun vs H Q E h => ?_) (fun cdv A outer s H vs Q E hr h => ?_)
  · obtain ⟨d, ts, ys, l, p, rfl, _⟩ := h
    rfl
  · have nd := sc_L_greater.nd
    have hu := hu_of hr
    obtain ⟨d, ts, ys, l, p, rfl, hl, hp, fa, hok, hlo, hts, hn, hsz, k⟩ := h
    have yl := pat_len fa
    refine ⟨_, PSs.nox (pss_cons (ps_asg (pv 2) (pg_tup rfl (pgs_cons (pg_name (i := 3) nd rfl (Or.inl rfl)) (pgs_cons (pg_name (i := 4) nd rfl (Or.inl rfl)) (pgs_cons (pg_name (i := 5) nd rfl (Or.inl rfl)) (pgs_cons (pg_name (i := 6) nd rfl (Or.inl rfl)) (pgs_cons (pg_name (i := 7) nd rfl (Or.inl rfl)) pgs_nil)))))))
 (pss_cons (ps_set (i := 8) nd rfl (Or.inl rfl) (pe_callB call_len_seq (by rfl) T.b_len (by decide +kernel) (pa_cons (pv 1) pa_nil)))
 (pss_cons (ps_if (pt_cmpR op_gt (pv 8) pe_int (nomark _))
  (pss_one (ps_ret (pe_call G_L_greatest (hr.mono (by decide)) (by rfl) T.g__law_greatest T.F_L_greatest.kp T.bi_L_greatest .nil pass0 (pa_cons (pv 0) (pa_cons (pv 1) (pa_cons (pv 2) pa_nil))))))
  pss_nil)
 (pss_cons (ps_if (pt_cmpR op_eq (pv 8) pe_int (nomark _))
  (pss_one (ps_ret (pe_mkKF T.mk_SupervisorPlan G_mk_SupervisorPlan (hr.mono (by decide)) (by rfl) T.g_SupervisorPlan pass0 (pa_cons (pv 0) (pa_cons (pe_ix (ixlK (K := K)) (pv 1) pe_int (fun _ _ => rfl)) (pa_cons (pe_ix (ixlK (K := K)) (pv 1) pe_int (fun _ _ => rfl)) (pa_cons (pe_ix (ixlK (K := K)) (pv 1) pe_int (fun _ _ => rfl)) (pa_cons (pe_ix (ixlK (K := K)) (pv 1) pe_int (fun _ _ => rfl)) (pa_cons (pe_ix (ixlK (K := K)) (pv 1) pe_int (fun _ _ => rfl)) pa_nil)))))) (pk_cons (pv 3) (pk_cons (pv 4) (pk_cons (pv 5) (pk_cons (pv 6) (pk_cons (pv 7) pk_nil))))))))
  pss_nil)
 (pss_cons (ps_if (pt_cmpR op_eq (pv 8) pe_int (nomark _))
  (pss_one (ps_ret (pe_mkKF T.mk_SupervisorPlan G_mk_SupervisorPlan (hr.mono (by decide)) (by rfl) T.g_SupervisorPlan pass0 (pa_cons (pv 0) (pa_cons (pe_ix (ixlK (K := K)) (pv 1) pe_int (fun _ _ => rfl)) (pa_cons (pe_ix (ixlK (K := K)) (pv 1) pe_int (fun _ _ => rfl)) (pa_cons (pe_ix (ixlK (K := K)) (pv 1) pe_int (fun _ _ => rfl)) (pa_cons (pe_ix (ixlK (K := K)) (pv 1) pe_int (fun _ _ => rfl)) (pa_cons (pe_ix (ixlK (K := K)) (pv 1) pe_int (fun _ _ => rfl)) (pa_cons (pe_ix (ixlK (K := K)) (pv 1) pe_int (fun _ _ => rfl)) pa_nil))))))) (pk_cons (pv 3) (pk_cons (pv 4) (pk_cons (pv 5) (pk_cons (pv 6) (pk_cons (pv 7) pk_nil))))))))
  pss_nil)
 (pss_cons (ps_if (pt_cmpR op_eq (pv 8) pe_int (nomark _))
  (pss_one (ps_ret (pe_mkKF T.mk_SupervisorPlan G_mk_SupervisorPlan (hr.mono (by decide)) (by rfl) T.g_SupervisorPlan pass0 (pa_cons (pv 0) (pa_cons (pe_ix (ixlK (K := K)) (pv 1) pe_int (fun _ _ => rfl)) (pa_cons (pe_ix (ixlK (K := K)) (pv 1) pe_int (fun _ _ => rfl)) (pa_cons (pe_ix (ixlK (K := K)) (pv 1) pe_int (fun _ _ => rfl)) (pa_cons (pe_ix (ixlK (K := K)) (pv 1) pe_int (fun _ _ => rfl)) (pa_cons (pe_ix (ixlK (K := K)) (pv 1) pe_int (fun _ _ => rfl)) (pa_cons (pe_ix (ixlK (K := K)) (pv 1) pe_int (fun _ _ => rfl)) (pa_cons (pe_ix (ixlK (K := K)) (pv 1) pe_int (fun _ _ => rfl)) pa_nil)))))))) (pk_cons (pv 3) (pk_cons (pv 4) (pk_cons (pv 5) (pk_cons (pv 6) (pk_cons (pv 7) pk_nil))))))))
  pss_nil)
 (pss_one (ps_ret (pe_mkKF T.mk_SupervisorPlan G_mk_SupervisorPlan (hr.mono (by decide)) (by rfl) T.g_SupervisorPlan pass0 (pa_cons (pv 0) (pa_cons (pe_ix (ixlK (K := K)) (pv 1) pe_int (fun _ _ => rfl)) (pa_cons (pe_ix (ixlK (K := K)) (pv 1) pe_int (fun _ _ => rfl)) (pa_cons (pe_ix (ixlK (K := K)) (pv 1) pe_int (fun _ _ => rfl)) (pa_cons (pe_ix (ixlK (K := K)) (pv 1) pe_int (fun _ _ => rfl)) (pa_cons (pe_ix (ixlK (K := K)) (pv 1) pe_int (fun _ _ => rfl)) (pa_cons (pe_ix (ixlK (K := K)) (pv 1) pe_int (fun _ _ => rfl)) (pa_cons (pe_ix (ixlK (K := K)) (pv 1) pe_int (fun _ _ => rfl)) (pa_cons (pe_ix (ixlK (K := K)) (pv 1) pe_int (fun _ _ => rfl)) pa_nil))))))))) (pk_cons (pv 3) (pk_cons (pv 4) (pk_cons (pv 5) (pk_cons (pv 6) (pk_cons (pv 7) pk_nil)))))))))))))), ?_⟩
    refine ⟨_, rfl, p, _, rfl, .of hp, rfl, _, _, rfl, _, _, rfl, _, _, rfl, _, _, rfl, _, _, rfl, rfl, ?_⟩
    refine ⟨_, rfl, l, ys, rfl, .inl (.of hl), ?_⟩
    dsimp only
    show tSeq _ _ _ _ _
    by_cases hb : 8 < ys.length
    · refine st_if (b := true) (evb_cmpF (ev_var rfl) ev_c (decide_eq_true (by omega))) ?_
      exact ⟨_, rfl, _, rfl, _, rfl, d, ts, ys, l, p, rfl, hl, hp, fa, hok, by omega, hts, hn, hsz, k⟩
    refine st_no (evb_cmpF (ev_var rfl) ev_c (decide_eq_false (by omega))) ?_
    dsimp only
    show tSeq _ _ _ _ _
    have hk : ys.length = 5 ∨ ys.length = 6 ∨ ys.length = 7 ∨ ys.length = 8 := by omega
    rcases hk with h | h | h | h
    · obtain ⟨y0, y1, y2, y3, y4, rfl⟩ := len5 h
      refine st_if (b := true) (fun Q q => ⟨_, rfl, rfl, true, rfl, q⟩) ?_
      exact st_mkS hok hts hn hsz fa (evl_cons (ev_var rfl) (evl_cons (ev_ixL rfl hl rfl) (evl_cons (ev_ixL rfl hl rfl) (evl_cons (ev_ixL rfl hl rfl) (evl_cons (ev_ixL rfl hl rfl) (evl_cons (ev_ixL rfl hl rfl) evl_nil)))))) (evl_cons (ev_var rfl) (evl_cons (ev_var rfl) (evl_cons (ev_var rfl) (evl_cons (ev_var rfl) (evl_cons (ev_var rfl) (evl_nil)))))) k
    · obtain ⟨y0, y1, y2, y3, y4, y5, rfl⟩ := len6 h
      refine st_no (fun Q q => ⟨_, rfl, rfl, false, rfl, q⟩) ?_
      dsimp only
      refine st_if (b := true) (fun Q q => ⟨_, rfl, rfl, true, rfl, q⟩) ?_
      exact st_mkS hok hts hn hsz fa (evl_cons (ev_var rfl) (evl_cons (ev_ixL rfl hl rfl) (evl_cons (ev_ixL rfl hl rfl) (evl_cons (ev_ixL rfl hl rfl) (evl_cons (ev_ixL rfl hl rfl) (evl_cons (ev_ixL rfl hl rfl) (evl_cons (ev_ixL rfl hl rfl) evl_nil))))))) (evl_cons (ev_var rfl) (evl_cons (ev_var rfl) (evl_cons (ev_var rfl) (evl_cons (ev_var rfl) (evl_cons (ev_var rfl) (evl_nil)))))) k
    · obtain ⟨y0, y1, y2, y3, y4, y5, y6, rfl⟩ := len7 h
      refine st_no (fun Q q => ⟨_, rfl, rfl, false, rfl, q⟩) ?_
      dsimp only
      refine st_no (fun Q q => ⟨_, rfl, rfl, false, rfl, q⟩) ?_
      dsimp only
      refine st_if (b := true) (fun Q q => ⟨_, rfl, rfl, true, rfl, q⟩) ?_
      exact st_mkS hok hts hn hsz fa (evl_cons (ev_var rfl) (evl_cons (ev_ixL rfl hl rfl) (evl_cons (ev_ixL rfl hl rfl) (evl_cons (ev_ixL rfl hl rfl) (evl_cons (ev_ixL rfl hl rfl) (evl_cons (ev_ixL rfl hl rfl) (evl_cons (ev_ixL rfl hl rfl) (evl_cons (ev_ixL rfl hl rfl) evl_nil)))))))) (evl_cons (ev_var rfl) (evl_cons (ev_var rfl) (evl_cons (ev_var rfl) (evl_cons (ev_var rfl) (evl_cons (ev_var rfl) (evl_nil)))))) k
    · obtain ⟨y0, y1, y2, y3, y4, y5, y6, y7, rfl⟩ := len8 h
      refine st_no (fun Q q => ⟨_, rfl, rfl, false, rfl, q⟩) ?_
      dsimp only
      refine st_no (fun Q q => ⟨_, rfl, rfl, false, rfl, q⟩) ?_
      dsimp only
      refine st_no (fun Q q => ⟨_, rfl, rfl, false, rfl, q⟩) ?_
      dsimp only
      exact st_mkS hok hts hn hsz fa (evl_cons (ev_var rfl) (evl_cons (ev_ixL rfl hl rfl) (evl_cons (ev_ixL rfl hl rfl) (evl_cons (ev_ixL rfl hl rfl) (evl_cons (ev_ixL rfl hl rfl) (evl_cons (ev_ixL rfl hl rfl) (evl_cons (ev_ixL rfl hl rfl) (evl_cons (ev_ixL rfl hl rfl) (evl_cons (ev_ixL rfl hl rfl) evl_nil))))))))) (evl_cons (ev_var rfl) (evl_cons (ev_var rfl) (evl_cons (ev_var rfl) (evl_cons (ev_var rfl) (evl_cons (ev_var rfl) (evl_nil)))))) k
theorem ok_sup (T : Env K mg) (n : Nat) : FnOk P w K mg base CX0 7 (d_L_sup.loc K) T.fd_L_sup ["label", "c", "s"] (spSupB K 0 n) := by
  have G_mk_SupervisorPlan : FnK P w K mg base CX0 3 _ _ _ := fk_super T n
  have G_L_greater : FnOk P w K mg base CX0 6 _ _ _ _ := ok_greater T n
  refine T.F_L_sup.ok sc_L_sup (fun vs H Q E h => ?_) (fun cdv A outer s H vs Q E hr h => ?_)
  · obtain ⟨d, ts, ys, l, p, rfl, _⟩ := h
    rfl
  · have nd := sc_L_sup.nd
    have hu := hu_of hr
    obtain ⟨d, ts, ys, l, p, rfl, hl, hp, fa, hok, hlo, hts, hn, hsz, k⟩ := h
    have yl := pat_len fa
    refine ⟨_, PSs.nox (pss_cons (ps_asg (pv 2) (pg_tup rfl (pgs_cons (pg_name (i := 3) nd rfl (Or.inl rfl)) (pgs_cons (pg_name (i := 4) nd rfl (Or.inl rfl)) (pgs_cons (pg_name (i := 5) nd rfl (Or.inl rfl)) (pgs_cons (pg_name (i := 6) nd rfl (Or.inl rfl)) (pgs_cons (pg_name (i := 7) nd rfl (Or.inl rfl)) pgs_nil)))))))
 (pss_cons (ps_set (i := 8) nd rfl (Or.inl rfl) (pe_callB call_len_seq (by rfl) T.b_len (by decide +kernel) (pa_cons (pv 1) pa_nil)))
 (pss_cons (ps_if (pt_cmpR op_gt (pv 8) pe_int (nomark _))
  (pss_one (ps_ret (pe_call G_L_greater (hr.mono (by decide)) (by rfl) T.g__law_greater T.F_L_greater.kp T.bi_L_greater .nil pass0 (pa_cons (pv 0) (pa_cons (pv 1) (pa_cons (pv 2) pa_nil))))))
  pss_nil)
 (pss_cons (ps_if (pt_cmpR op_eq (pv 8) pe_int (nomark _))
  (pss_one (ps_ret (pe_mkKF T.mk_SupervisorPlan G_mk_SupervisorPlan (hr.mono (by decide)) (by rfl) T.g_SupervisorPlan pass0 (pa_cons (pv 0) pa_nil) (pk_cons (pv 3) (pk_cons (pv 4) (pk_cons (pv 5) (pk_cons (pv 6) (pk_cons (pv 7) pk_nil))))))))
  pss_nil)
 (pss_cons (ps_if (pt_cmpR op_eq (pv 8) pe_int (nomark _))
  (pss_one (ps_ret (pe_mkKF T.mk_SupervisorPlan G_mk_SupervisorPlan (hr.mono (by decide)) (by rfl) T.g_SupervisorPlan pass0 (pa_cons (pv 0) (pa_cons (pe_ix (ixlK (K := K)) (pv 1) pe_int (fun _ _ => rfl)) pa_nil)) (pk_cons (pv 3) (pk_cons (pv 4) (pk_cons (pv 5) (pk_cons (pv 6) (pk_cons (pv 7) pk_nil))))))))
  pss_nil)
 (pss_cons (ps_if (pt_cmpR op_eq (pv 8) pe_int (nomark _))
  (pss_one (ps_ret (pe_mkKF T.mk_SupervisorPlan G_mk_SupervisorPlan (hr.mono (by decide)) (by rfl) T.g_SupervisorPlan pass0 (pa_cons (pv 0) (pa_cons (pe_ix (ixlK (K := K)) (pv 1) pe_int (fun _ _ => rfl)) (pa_cons (pe_ix (ixlK (K := K)) (pv 1) pe_int (fun _ _ => rfl)) pa_nil))) (pk_cons (pv 3) (pk_cons (pv 4) (pk_cons (pv 5) (pk_cons (pv 6) (pk_cons (pv 7) pk_nil))))))))
  pss_nil)
 (pss_cons (ps_if (pt_cmpR op_eq (pv 8) pe_int (nomark _))
  (pss_one (ps_ret (pe_mkKF T.mk_SupervisorPlan G_mk_SupervisorPlan (hr.mono (by decide)) (by rfl) T.g_SupervisorPlan pass0 (pa_cons (pv 0) (pa_cons (pe_ix (ixlK (K := K)) (pv 1) pe_int (fun _ _ => rfl)) (pa_cons (pe_ix (ixlK (K := K)) (pv 1) pe_int (fun _ _ => rfl)) (pa_cons (pe_ix (ixlK (K := K)) (pv 1) pe_int (fun _ _ => rfl)) pa_nil)))) (pk_cons (pv 3) (pk_cons (pv 4) (pk_cons (pv 5) (pk_cons (pv 6) (pk_cons (pv 7) pk_nil))))))))
  pss_nil)
 (pss_one (ps_ret (pe_mkKF T.mk_SupervisorPlan G_mk_SupervisorPlan (hr.mono (by decide)) (by rfl) T.g_SupervisorPlan pass0 (pa_cons (pv 0) (pa_cons (pe_ix (ixlK (K := K)) (pv 1) pe_int (fun _ _ => rfl)) (pa_cons (pe_ix (ixlK (K := K)) (pv 1) pe_int (fun _ _ => rfl)) (pa_cons (pe_ix (ixlK (K := K)) (pv 1) pe_int (fun _ _ => rfl)) (pa_cons (pe_ix (ixlK (K := K)) (pv 1) pe_int (fun _ _ => rfl)) pa_nil))))) (pk_cons (pv 3) (pk_cons (pv 4) (pk_cons (pv 5) (pk_cons (pv 6) (pk_cons (pv 7) pk_nil))))))))))))))), ?_⟩
    refine ⟨_, rfl, p, _, rfl, .of hp, rfl, _, _, rfl, _, _, rfl, _, _, rfl, _, _, rfl, _, _, rfl, rfl, ?_⟩
    refine ⟨_, rfl, l, ys, rfl, .inl (.of hl), ?_⟩
    dsimp only
    show tSeq _ _ _ _ _
    by_cases hb : 4 < ys.length
    · refine st_if (b := true) (evb_cmpF (ev_var rfl) ev_c (decide_eq_true (by omega))) ?_
      exact ⟨_, rfl, _, rfl, _, rfl, d, ts, ys, l, p, rfl, hl, hp, fa, hok, by omega, hts, hn, hsz, k⟩
    refine st_no (evb_cmpF (ev_var rfl) ev_c (decide_eq_false (by omega))) ?_
    dsimp only
    show tSeq _ _ _ _ _
    have hk : ys.length = 0 ∨ ys.length = 1 ∨ ys.length = 2 ∨ ys.length = 3 ∨ ys.length = 4 := by omega
    rcases hk with h | h | h | h | h
    · obtain rfl := len0 h
      refine st_if (b := true) (fun Q q => ⟨_, rfl, rfl, true, rfl, q⟩) ?_
      exact st_mkS hok hts hn hsz fa (evl_cons (ev_var rfl) (evl_nil)) (evl_cons (ev_var rfl) (evl_cons (ev_var rfl) (evl_cons (ev_var rfl) (evl_cons (ev_var rfl) (evl_cons (ev_var rfl) (evl_nil)))))) k
    · obtain ⟨y0, rfl⟩ := len1 h
      refine st_no (fun Q q => ⟨_, rfl, rfl, false, rfl, q⟩) ?_
      dsimp only
      refine st_if (b := true) (fun Q q => ⟨_, rfl, rfl, true, rfl, q⟩) ?_
      exact st_mkS hok hts hn hsz fa (evl_cons (ev_var rfl) (evl_cons (ev_ixL rfl hl rfl) evl_nil)) (evl_cons (ev_var rfl) (evl_cons (ev_var rfl) (evl_cons (ev_var rfl) (evl_cons (ev_var rfl) (evl_cons (ev_var rfl) (evl_nil)))))) k
    · obtain ⟨y0, y1, rfl⟩ := len2 h
      refine st_no (fun Q q => ⟨_, rfl, rfl, false, rfl, q⟩) ?_
      dsimp only
      refine st_no (fun Q q => ⟨_, rfl, rfl, false, rfl, q⟩) ?_
      dsimp only
      refine st_if (b := true) (fun Q q => ⟨_, rfl, rfl, true, rfl, q⟩) ?_
      exact st_mkS hok hts hn hsz fa (evl_cons (ev_var rfl) (evl_cons (ev_ixL rfl hl rfl) (evl_cons (ev_ixL rfl hl rfl) evl_nil))) (evl_cons (ev_var rfl) (evl_cons (ev_var rfl) (evl_cons (ev_var rfl) (evl_cons (ev_var rfl) (evl_cons (ev_var rfl) (evl_nil)))))) k
    · obtain ⟨y0, y1, y2, rfl⟩ := len3 h
      refine st_no (fun Q q => ⟨_, rfl, rfl, false, rfl, q⟩) ?_
      dsimp only
      refine st_no (fun Q q => ⟨_, rfl, rfl, false, rfl, q⟩) ?_
      dsimp only
      refine st_no (fun Q q => ⟨_, rfl, rfl, false, rfl, q⟩) ?_
      dsimp only
      refine st_if (b := true) (fun Q q => ⟨_, rfl, rfl, true, rfl, q⟩) ?_
      exact st_mkS hok hts hn hsz fa (evl_cons (ev_var rfl) (evl_cons (ev_ixL rfl hl rfl) (evl_cons (ev_ixL rfl hl rfl) (evl_cons (ev_ixL rfl hl rfl) evl_nil)))) (evl_cons (ev_var rfl) (evl_cons (ev_var rfl) (evl_cons (ev_var rfl) (evl_cons (ev_var rfl) (evl_cons (ev_var rfl) (evl_nil)))))) k
    · obtain ⟨y0, y1, y2, y3, rfl⟩ := len4 h
      refine st_no (fun Q q => ⟨_, rfl, rfl, false, rfl, q⟩) ?_
      dsimp only
      refine st_no (fun Q q => ⟨_, rfl, rfl, false, rfl, q⟩) ?_
      dsimp only
      refine st_no (fun Q q => ⟨_, rfl, rfl, false, rfl, q⟩) ?_
      dsimp only
      refine st_no (fun Q q => ⟨_, rfl, rfl, false, rfl, q⟩) ?_
      dsimp only
      exact st_mkS hok hts hn hsz fa (evl_cons (ev_var rfl) (evl_cons (ev_ixL rfl hl rfl) (evl_cons (ev_ixL rfl hl rfl) (evl_cons (ev_ixL rfl hl rfl) (evl_cons (ev_ixL rfl hl rfl) evl_nil))))) (evl_cons (ev_var rfl) (evl_cons (ev_var rfl) (evl_cons (ev_var rfl) (evl_cons (ev_var rfl) (evl_cons (ev_var rfl) (evl_nil)))))) k
theorem cut_s5 (d : SD) (q : Addr) : cutV (d.vals q) (some 2) (some 7) = [.str d.word, .str d.way, .int d.most, .int d.span, limV d.lim] := rfl
def spBuild (K : PySem.W.Frag) (n : Nat) : Sp := fun vs H Q _ => ∃ (v : V) (t : Told n), vs = [v] ∧ Told.Ok n t ∧ Told.size n t ≤ 60 ∧ n ≤ 20 ∧ TAt n t v H ∧ ∀ v' H', Same H H' → PAt K n t v' H' → Q v' H'
theorem ok_build (T : Env K mg) : ∀ n, FnOk P w K mg base CX0 (n + 7) (d_L_build.loc K) T.fd_L_build ["d"] (spBuild K n)
  | 0 => T.F_L_build.ok sc_L_build (fun vs H Q E (h : spBuild K 0 vs H Q E) => by obtain ⟨v, t, _⟩ := h; cases t) (fun cdv A outer s H vs Q E hr (h : spBuild K 0 vs H Q E) => by obtain ⟨v, t, _⟩ := h; cases t)
  | n + 1 => by
    have G_L_build : FnOk P w K mg base CX0 (n + 7) _ _ _ _ := ok_build T n
    have G_L_sup : FnOk P w K mg base CX0 7 _ _ _ _ := ok_sup T n
    have G_mk_WorkerPlan : FnK P w K mg base CX0 3 _ _ _ := fk_worker T
    refine T.F_L_build.ok sc_L_build (fun vs H Q E h => ?_) (fun cdv A outer s H vs Q E hr h => ?_)
    · obtain ⟨v, t, rfl, _⟩ := h
      rfl
    · have nd := sc_L_build.nd
      have hu := hu_of hr
      obtain ⟨v, t, rfl, hok, hz, hn, ht, k⟩ := h
      refine ⟨_, PSs.nox (pss_cons (ps_if (pt_cmpR op_eq (pe_ix (ixtK (K := K)) (pv 0) pe_int (fun _ _ => rfl)) pe_str (nomark _))
  (pss_one (ps_ret (pe_call G_L_sup (hr.mono (by omega)) (by rfl) T.g__law_sup T.F_L_sup.kp T.bi_L_sup .nil pass0 (pa_cons (pe_ix (ixtK (K := K)) (pv 0) pe_int (fun _ _ => rfl)) (pa_cons (pe_lc (own := [("child", 1)]) (by rfl) nd (pi_tup (pe_ix (ixtK (K := K)) (pv 0) pe_int (fun _ _ => rfl))) (blkOk_by (N := ["d", "child"]) (sc := defScope s_L_build) (by decide +kernel)) (fun _ _ _ _ _ => (pg_name (i := 1) nd rfl (Or.inl rfl))) (fun _ _ _ _ _ => pts_nil) (fun _ _ _ _ _ => (pe_call G_L_build (hr.mono (by omega)) (by rfl) T.g__law_build T.F_L_build.kp T.bi_L_build .nil pass0 (pa_cons (pv 1) pa_nil)))) (pa_cons (pe_slice sl_tup (pv 0) (po_some pe_int) (po_some pe_int)) pa_nil))))))
  pss_nil)
 (pss_one (ps_ret (pe_mkKF T.mk_WorkerPlan G_mk_WorkerPlan (hr.mono (by omega)) (by rfl) T.g_WorkerPlan pass0 (pa_cons (pe_ix (ixtK (K := K)) (pv 0) pe_int (fun _ _ => rfl)) pa_nil) (pk_cons (pe_ix (ixtK (K := K)) (pv 0) pe_int (fun _ _ => rfl)) (pk_cons (pe_ix (ixtK (K := K)) (pv 0) pe_int (fun _ _ => rfl)) (pk_cons (pe_ix (ixtK (K := K)) (pv 0) pe_int (fun _ _ => rfl)) (pk_cons (pe_ix (ixtK (K := K)) (pv 0) pe_int (fun _ _ => rfl)) (pk_cons (pe_ix (ixtK (K := K)) (pv 0) pe_int (fun _ _ => rfl)) (pk_cons (pe_ix (ixtK (K := K)) (pv 0) pe_int (fun _ _ => rfl)) pk_nil)))))))))), ?_⟩
      cases t with
      | inl d =>
        obtain ⟨p, s, rfl, hp, hs⟩ := ht
        refine st_if (b := false) (evb_eqS (ev_ixT rfl hp rfl) ev_c rfl) ?_
        exact st_mkW hok hs (evl_cons (ev_ixT rfl hp rfl) evl_nil) (evl_cons (ev_ixT rfl hp rfl) (evl_cons (ev_ixT rfl hp rfl) (evl_cons (ev_ixT rfl hp rfl) (evl_cons (ev_ixT rfl hp rfl) (evl_cons (ev_ixT rfl hp rfl) (evl_cons (ev_ixT rfl hp rfl) evl_nil)))))) k
      | inr x =>
        obtain ⟨d, ts⟩ := x
        obtain ⟨p, q, ys, rfl, hp, hq, fa⟩ := ht
        have hz' : 1 + (ts.map (Told.size n)).sum ≤ 60 := hz
        refine st_if (b := true) (evb_eqS (ev_ixT rfl hp rfl) ev_c rfl) ?_
        refine ⟨_, rfl, p, d.vals q, 1, _, rfl, rfl, .of hp, rfl, ?_⟩
        refine (g_lcT (Ps := ts.map (PAt K n)) (i := 0) (j := 7) rfl hp rfl hq (by simp [sup_len fa]) (by rw [sup_len fa]; exact Nat.le_trans hok.2.1 (by decide)) mk_pats fun i x P H1 hx hP s Q q => ?_).ev H (Same.refl _) _ fun v1 H1 s1 e => ?_
        · obtain ⟨t, ht, px⟩ := sup_get fa hx
          rw [List.getElem?_map, ht] at hP
          cases hP
          have : Told.size n t ≤ (ts.map (Told.size n)).sum := size_in (List.mem_of_getElem? ht)
          exact ⟨x, rfl, x, t, rfl, hok.2.2 t (List.mem_of_getElem? ht), by omega, by omega, (mk_tat n t).mn _ _ _ s px, fun v' H' s' p' => q v' _ s' p'⟩
        · obtain ⟨l, xs, rfl, hl, fa1⟩ := e
          refine sl_t (ev_var rfl) (s1 _ _ hp) (show ¬ (HT.sIx 8 0 (some 2) = 0 ∧ HT.sIx 8 8 (some 7) = 8) by decide) fun r hr => ?_
          have s2 := same_new (o := .tup (cutV (d.vals q) (some 2) (some 7))) hr
          exact ⟨d, ts, xs, l, r, rfl, s2 _ _ hl, upd_same, mn_fa mk_pats _ _ _ s2 fa1, hok.1, Nat.zero_le _, hok.2.1, by omega, by omega, fun v' H' s' h' => k v' H' ((s1.trans s2).trans s') h'⟩
end
end W06

set_option Elab.async false
set_option linter.all false
set_option maxRecDepth 100000
set_option maxHeartbeats 4000000
namespace W06
open PySem PySem.Spec PyProof.Rows L2 WXG WEv WRd WLf WEn WZs WRu WSt StX WDc
/-! ### names -/
theorem name_of {z : Str} (h1 : 1 ≤ (TL.tl z).length) (h2 : (TL.tl z).length ≤ 20) (h3 : ∀ c ∈ TL.tl z, SgnOk c) (h4 : ∀ c, (TL.tl z)[0]? = some c → 97 ≤ c ∧ c ≤ 122) (h5 : ∀ c, (TL.tl z)[1]? = some c → c ≠ 119 ∧ c ≠ 101 ∧ c ≠ 98) : NameOk z :=
  ⟨TL.tl z, by cases z; simp [TL.tl], h1, h2, h3, h4, h5⟩
/-- z, then a known rest -/
theorem name_cons {y : Str} {z : Nat} {r : List Nat} (e : TL.tl y = z :: r) (h : 97 ≤ z ∧ z ≤ 122) (hl : r.length ≤ 19) (hr : r.all (fun c => (97 ≤ c && c ≤ 122) || (48 ≤ c && c ≤ 57) || c == 95) = true) (h5 : r.head?.all (fun c => c != 119 && c != 101 && c != 98) = true) : NameOk y := by
  refine name_of (by rw [e]; simp) (by rw [e, List.length_cons]; omega) (fun c hc => ?_) (fun c hc => ?_) (fun c hc => ?_)
  · rw [e] at hc
    rcases List.mem_cons.mp hc with rfl | hc
    · exact .inl h
    · have := List.all_eq_true.mp hr c hc
      simp only [Bool.or_eq_true, Bool.and_eq_true, decide_eq_true_eq, beq_iff_eq] at this
      unfold SgnOk
      omega
  · rw [e] at hc
    cases hc
    exact h
  · rw [e, List.getElem?_cons_succ] at hc
    cases r with
    | nil => cases hc
    | cons x r =>
      cases hc
      simp only [List.head?_cons, Option.all_some, Bool.and_eq_true, bne_iff_ne] at h5
      exact ⟨h5.1.1, h5.1.2, h5.2⟩
def sfx : Nat → Str
  | 0 => ""
  | 1 => "_"
  | 2 => "0"
  | _ => "x9"
def word1 (w z n : Nat) (more : Bool) : Str := if more = true then (⟨#[z]⟩ ++ sfx w) ++ numS n else ⟨#[z]⟩ ++ sfx w
def word2 (w z n : Nat) (more : Bool) : Str := if w = 3 then cutS (word1 w z n more ++ "_name_of_twenty_signs") none (some 20) else word1 w z n more
theorem tl_sfx0 : TL.tl (sfx 0) = [] := by decide
theorem tl_sfx1 : TL.tl (sfx 1) = [95] := by decide
theorem tl_sfx2 : TL.tl (sfx 2) = [48] := by decide
theorem tl_sfx3 : TL.tl (sfx 3) = [120, 57] := by decide
theorem tl_n0 : TL.tl (numS (0 : Nat)) = [48] := by decide +kernel
theorem tl_n1 : TL.tl (numS (1 : Nat)) = [49] := by decide +kernel
theorem tl_signs : TL.tl "_name_of_twenty_signs" = [95, 110, 97, 109, 101, 95, 111, 102, 95, 116, 119, 101, 110, 116, 121, 95, 115, 105, 103, 110, 115] := by decide
theorem tl_one (z : Nat) : TL.tl ⟨#[z]⟩ = [z] := rfl
theorem tl_cut20 (y : Str) : TL.tl (cutS y none (some 20)) = (TL.tl y).take 20 := by
  show (((y.cps.toList.drop (HT.sIx y.length 0 none)).take (HT.sIx y.length y.length (some ((20 : Nat) : Int)) - HT.sIx y.length 0 none)).toArray).toList = _
  rw [HT.sIx_none, HT.sIx_nat, List.drop_zero, Nat.sub_zero, List.toList_toArray]
  show y.cps.toList.take (min 20 y.length) = y.cps.toList.take 20
  have e : y.cps.toList.length = y.length := by simp [Str.length]
  rcases Nat.le_total 20 y.length with h | h
  · rw [Nat.min_eq_left h]
  · rw [Nat.min_eq_right h, ← e, List.take_length, List.take_of_length_le (by omega)]
theorem word_name {w z n : Nat} (hw : w < 4) (hz : 97 ≤ z ∧ z ≤ 122) (hn : n < 2) (more : Bool) (hm : 0 < w → more = true) : NameOk (word2 w z n more) := by
  have hn : n = 0 ∨ n = 1 := by omega
  have hw : w = 0 ∨ w = 1 ∨ w = 2 ∨ w = 3 := by omega
  rcases hw with rfl | rfl | rfl | rfl
  · rw [word2, if_neg (by decide), word1]
    split
    · rcases hn with rfl | rfl
      · exact name_cons (r := [48]) (by rw [TL.tl_append, TL.tl_append, tl_one, tl_sfx0, tl_n0]; rfl) hz (by decide) (by decide) (by decide)
      · exact name_cons (r := [49]) (by rw [TL.tl_append, TL.tl_append, tl_one, tl_sfx0, tl_n1]; rfl) hz (by decide) (by decide) (by decide)
    · exact name_cons (r := []) (by rw [TL.tl_append, tl_one, tl_sfx0]; rfl) hz (by decide) (by decide) (by decide)
  · rw [word2, if_neg (by decide), word1, if_pos (hm (by decide))]
    rcases hn with rfl | rfl
    · exact name_cons (r := [95, 48]) (by rw [TL.tl_append, TL.tl_append, tl_one, tl_sfx1, tl_n0]; rfl) hz (by decide) (by decide) (by decide)
    · exact name_cons (r := [95, 49]) (by rw [TL.tl_append, TL.tl_append, tl_one, tl_sfx1, tl_n1]; rfl) hz (by decide) (by decide) (by decide)
  · rw [word2, if_neg (by decide), word1, if_pos (hm (by decide))]
    rcases hn with rfl | rfl
    · exact name_cons (r := [48, 48]) (by rw [TL.tl_append, TL.tl_append, tl_one, tl_sfx2, tl_n0]; rfl) hz (by decide) (by decide) (by decide)
    · exact name_cons (r := [48, 49]) (by rw [TL.tl_append, TL.tl_append, tl_one, tl_sfx2, tl_n1]; rfl) hz (by decide) (by decide) (by decide)
  · rw [word2, if_pos rfl, word1, if_pos (hm (by decide))]
    rcases hn with rfl | rfl
    · exact name_cons (r := [120, 57, 48, 95, 110, 97, 109, 101, 95, 111, 102, 95, 116, 119, 101, 110, 116, 121, 95]) (by rw [tl_cut20, TL.tl_append, TL.tl_append, TL.tl_append, tl_one, tl_sfx3, tl_n0, tl_signs]; rfl) hz (by decide) (by decide) (by decide)
    · exact name_cons (r := [120, 57, 49, 95, 110, 97, 109, 101, 95, 111, 102, 95, 116, 119, 101, 110, 116, 121, 95]) (by rw [tl_cut20, TL.tl_append, TL.tl_append, TL.tl_append, tl_one, tl_sfx3, tl_n1, tl_signs]; rfl) hz (by decide) (by decide) (by decide)
theorem letter (i : Nat) : ∃ z, atI (((Str.ofString "abcdefghijklmnopqrstuvwxyz").cps.toList)) (((0 : Int) + (i : Nat)).fmod 26) = some z ∧ 97 ≤ z ∧ z ≤ 122 := by
  have fm := fmod_nn (a := (0 : Int) + (i : Nat)) (b := 26) (by decide)
  obtain ⟨z, hz, z1, z2⟩ : ∃ z, (Str.ofString "abcdefghijklmnopqrstuvwxyz").cps.toList[(((0 : Int) + (i : Nat)).fmod 26).toNat]? = some z ∧ 97 ≤ z ∧ z ≤ 122 := by
    have : ∀ j, j < 26 → ∃ z, (Str.ofString "abcdefghijklmnopqrstuvwxyz").cps.toList[j]? = some z ∧ 97 ≤ z ∧ z ≤ 122 := by
      intro j hj
      have h1 : (((Str.ofString "abcdefghijklmnopqrstuvwxyz").cps.toList[j]?).any fun z => decide (97 ≤ z) && decide (z ≤ 122)) = true := by
        have := (by decide +kernel : ∀ j : Fin 26, (((Str.ofString "abcdefghijklmnopqrstuvwxyz").cps.toList[j.val]?).any fun z => decide (97 ≤ z) && decide (z ≤ 122)) = true)
        exact this ⟨j, hj⟩
      cases e : (Str.ofString "abcdefghijklmnopqrstuvwxyz").cps.toList[j]? with
      | none => rw [e] at h1; cases h1
      | some z =>
        rw [e] at h1
        simp only [Option.any_some, Bool.and_eq_true, decide_eq_true_eq] at h1
        exact ⟨z, rfl, h1⟩
    exact this _ (by omega)
  have hat := atI_nat hz
  rw [Int.toNat_of_nonneg fm.1] at hat
  exact ⟨z, hat, z1, z2⟩
theorem sfx_len : ∀ w, (sfx w).length ≤ 2
  | 0 => by decide
  | 1 => by decide
  | 2 => by decide
  | n + 3 => show ("x9" : Str).length ≤ 2 by decide
theorem sfx_at {w : Nat} (h : w < 4) : atI [V.str "", .str "_", .str "0", .str "x9"] (w : Int) = some (.str (sfx w)) := by
  have hw : w = 0 ∨ w = 1 ∨ w = 2 ∨ w = 3 := by omega
  rcases hw with rfl | rfl | rfl | rfl <;> rfl
theorem len_num {n : Nat} (h : n ≤ 40) : (numS (n : Int)).length ≤ 10 := by
  rw [TL.len_tl, num_tl (by omega), Int.toNat_natCast]
  exact TL.numL_len (by decide) (by omega)
def spWords (K : PySem.W.Frag) (S : Addr × List Int) : Sp := fun vs H Q _ => ∃ (m : Addr) (many : Nat) (a c : Nat), vs = [.ref m, .int (many : Nat)] ∧ 1 ≤ many ∧ many ≤ 40 ∧ SrcAt K S H m a c ∧ a + 10 ≤ 100000 ∧ c ≤ 1000 ∧
  ∀ l (zs : List Str) H', zs.length = many → (∀ z ∈ zs, NameOk z) → H' l = some (.lst (zs.map V.str)) → Far K l S → But m H H' → SrcAt K S H' m (a + 1) c → Q (.ref l) H'
section
variable {P : Program} {w : World} {K : PySem.W.Frag} {S : Addr × List Int} {mg : Str → Option Value} {base : Heap}
theorem ok_words (T : Env K mg) : FnOk P w K mg base CX0 2 (d_L_words.loc K) T.fd_L_words ["m", "many"] (spWords K S) := by
  have G_L_next : FnOk P w K mg base CX0 1 _ _ _ _ := ok_next (S := S) T
  refine T.F_L_words.ok sc_L_words (fun vs H Q E h => ?_) (fun cdv A outer s H vs Q E hr h => ?_)
  · obtain ⟨m, many, a, c, rfl, _⟩ := h
    rfl
  · have nd := sc_L_words.nd
    have hu := hu_of hr
    obtain ⟨m, many, a, c, rfl, hm0, hm1, hS, ha, hc, k⟩ := h
    refine ⟨_, PSs.nox (pss_cons (ps_par (i := 2) (j := 3) (by rfl) nd rfl rfl (by decide) rfl rfl (pa_cons (pe_call G_L_next (hr.mono (by decide)) (by rfl) T.g__law_next T.F_L_next.kp T.bi_L_next .nil pass0 (pa_cons (pv 0) (pa_cons pe_int pa_nil))) (pa_cons (pe_lst pa_nil) pa_nil)) (by rfl))
 (pss_cons (ps_for PassesOwn.never rfl (pi_range1 (by rfl) T.b_range (pa_cons (pv 1) pa_nil)) (pg_name (i := 4) nd rfl (Or.inl rfl))
  (pss_cons (ps_set (i := 5) nd rfl (Or.inl rfl) (pe_op op_add_str (pe_ix ix_str pe_str (pe_op op_modN (pe_callTy call_int1 (by rfl) T.b_int (by decide +kernel) (pa_cons (pv 4) pa_nil)) pe_int) (fun _ _ => rfl)) (pe_ix (ixlK (K := K)) (pe_lst (pa_cons pe_str (pa_cons pe_str (pa_cons pe_str (pa_cons pe_str pa_nil))))) (pv 2) (fun _ _ => rfl))))
 (pss_cons (ps_if (PW.pt (pw_or (pt_cmpR op_gt (pv 2) pe_int (nomark _)) (pw_or1 (pt_cmpR op_gt (pv 4) pe_int (nomark _)))))
  (pss_one (ps_set (i := 5) nd rfl (Or.inl rfl) (pe_op op_add_str (pv 5) (pe_callTy call_str_int (by rfl) T.b_str (by decide +kernel) (pa_cons (pe_op op_fdivN (pv 4) pe_int) pa_nil)))))
  pss_nil)
 (pss_one (ps_expr (pe_bm PySem.F.plainAttrs_list PySem.F.slot_list_append PySem.F.type_list_append mt_append (pv 3) (pa_cons (pe_ifExp (pt_cmpR op_eq (pv 2) pe_int (nomark _)) (pe_slice sl_str (pe_op op_add_str (pv 5) pe_str) po_none (po_some pe_int)) (pv 5)) pa_nil)))))))
 (pss_one (ps_ret (pv 3))))), ?_⟩
    refine ⟨.ref m, rfl, m, 4, a, c, rfl, by decide, by decide, hS, by omega, fun r H1 r0 r1 b1 s1 => ⟨Nat.zero_le _, fun l hl => ⟨_, _, rfl, ?_⟩⟩⟩
    obtain ⟨wy, rfl⟩ := Int.eq_ofNat_of_zero_le r0
    have hwy : wy < 4 := by omega
    have far : Far K l S := s1.far hl
    have hlm : l ≠ m := s1.ne hl
    have hl0 : ∀ b o, H b = some o → b ≠ m → b ≠ l := fun b o e ne z => by
      have := b1 b o e ne
      rw [z, hl] at this
      cases this
    dsimp only
    show tSeq _ _ _ _ _
    refine st_tSeq ⟨_, rfl, many, rfl, by omega, by omega, ?_⟩
    refine for_range (fun i σ H' => ∃ (zs : List Str) (a4 a5 : Option V), σ = [some (.ref m), some (.int (many : Nat)), some (.int (wy : Nat)), some (.ref l), a4, a5] ∧ H' l = some (.lst (zs.map V.str)) ∧ zs.length = i ∧ (∀ z ∈ zs, NameOk z) ∧ But m H H' ∧ SrcAt K S H' m (a + 1) c)
      ⟨[], none, none, rfl, upd_same, rfl, by simp, b1.new hl, s1.new hl⟩ (fun i σ H2 hi ⟨zs, a4, a5, hσ, h2, n2, o2, b2, s2⟩ => ?_) (fun σ H2 ⟨zs, a4, a5, hσ, h2, n2, o2, b2, s2⟩ => ?_)
    · subst hσ
      rw [Int.toNat_natCast] at hi
      obtain ⟨z, hat, z1, z2⟩ := letter i
      refine st_tSeq ?_
      -- the first word
      refine (ev_op (v := .str ⟨#[z]⟩) ev_c (ev_iI (ev_int1 (evl_cons (ev_var rfl) evl_nil)) ev_c (by decide)) fun Q q => ⟨_, _, z, rfl, rfl, (by decide), hat, q⟩) _ ?_
      refine ⟨(by decide : 4 ≤ sizeLine), fun p hp => ⟨_, rfl, p, _, (wy : Int), _, rfl, rfl, .inl (.of upd_same), sfx_at hwy, ?_⟩⟩
      have b3 := b2.new (x := .lst [V.str "", .str "_", .str "0", .str "x9"]) hp
      have s3 := s2.new (x := .lst [V.str "", .str "_", .str "0", .str "x9"]) hp
      have h3 := (same_new (o := .lst [V.str "", .str "_", .str "0", .str "x9"]) hp) _ _ h2
      generalize upd H2 p (.lst [V.str "", .str "_", .str "0", .str "x9"]) = H3 at b3 s3 h3 ⊢
      have sl := sfx_len wy
      have one : (⟨#[z]⟩ : Str).length = 1 := rfl
      refine ⟨_, _, rfl, rfl, by rw [one]; exact Nat.le_trans (show _ ≤ 3 by omega) (by decide), ?_⟩
      have l1 : ((⟨#[z]⟩ : Str) ++ sfx wy).length ≤ 3 := by
        rw [TL.len_tl, TL.tl_append, List.length_append, ← TL.len_tl, ← TL.len_tl, one]
        omega
      dsimp only
      show tSeq _ _ _ _ _
      -- what is appended
      have fin : ∀ (more : Bool) (D : Ends), (0 < wy → more = true) → (∀ H4, (∃ (zs : List Str) (a4 a5 : Option V), [some (V.ref m), some (.int (many : Nat)), some (.int (wy : Nat)), some (.ref l), some (.int (0 + (i : Nat))), some (.str (word1 wy z (i / 26) more))] = [some (.ref m), some (.int (many : Nat)), some (.int (wy : Nat)), some (.ref l), a4, a5] ∧ H4 l = some (.lst (zs.map V.str)) ∧ zs.length = i + 1 ∧ (∀ z ∈ zs, NameOk z) ∧ But m H H4 ∧ SrcAt K S H4 m (a + 1) c) → D.nx [some (.ref m), some (.int (many : Nat)), some (.int (wy : Nat)), some (.ref l), some (.int (0 + (i : Nat))), some (.str (word1 wy z (i / 26) more))] H4) →
          tDrop (tBM K "list" rAppend (tVar 3) (tCons (tIf (tTest (tOp rEq (tVar 2) (tC (.int 3)))) (tSl rSlS (tAddS (tVar 5) (tC (.str "_name_of_twenty_signs"))) tNoPart (tPart (tC (.int 20)))) (tVar 5)) tNil)) D [some (.ref m), some (.int (many : Nat)), some (.int (wy : Nat)), some (.ref l), some (.int (0 + (i : Nat))), some (.str (word1 wy z (i / 26) more))] H3 := by
        intro more D hmore kk
        have nm := word_name (w := wy) (z := z) (n := i / 26) hwy ⟨z1, z2⟩ (by omega) more hmore
        have wl : (word1 wy z (i / 26) more).length ≤ 20 := by
          unfold word1
          split
          · rw [TL.len_tl, TL.tl_append, List.length_append, ← TL.len_tl, ← TL.len_tl]
            have := len_num (n := i / 26) (by omega)
            omega
          · omega
        have app : ∀ y : Str, y = word2 wy z (i / 26) more → rAppend (.ref l) [.str y] H3 fun _ H5 => D.nx [some (.ref m), some (.int (many : Nat)), some (.int (wy : Nat)), some (.ref l), some (.int (0 + (i : Nat))), some (.str (word1 wy z (i / 26) more))] H5 := by
          rintro y rfl
          refine ⟨l, _, _, rfl, rfl, h3, ?_, kk _ ⟨zs ++ [word2 wy z (i / 26) more], _, _, rfl, by rw [upd_same, List.map_append]; rfl, by rw [List.length_append, n2]; rfl, fun x hx => ?_, fun b o e ne => ?_, s3.putl h3 far⟩⟩
          · rw [List.length_map, n2]
            exact Nat.lt_of_le_of_lt (show i ≤ 40 by omega) (by decide)
          · rcases List.mem_append.mp hx with hx | hx
            · exact o2 x hx
            · cases List.mem_singleton.mp hx
              exact nm
          · rw [upd_ne (hl0 b o e ne)]
            exact b3 b o e ne
        refine ⟨_, rfl, .inl ⟨rfl, _, .of h3⟩, _, rfl, rfl, decide (V.int (wy : Nat) = V.int 3), rfl, ?_⟩
        by_cases h : wy = 3
        · subst h
          refine ⟨_, rfl, _, _, rfl, rfl, ?_, 20, rfl, _, rfl, ?_, app _ ?_⟩
          · have : ("_name_of_twenty_signs" : Str).length = 21 := by decide
            rw [this]
            exact Nat.le_trans (show _ ≤ 100 by omega) (by decide)
          · rw [TL.len_tl, TL.tl_append, List.length_append, ← TL.len_tl, ← TL.len_tl]
            have : ("_name_of_twenty_signs" : Str).length = 21 := by decide
            rw [this]
            exact Nat.le_trans (show _ ≤ 100 by omega) (by decide)
          · rw [word2, if_pos rfl]
        · have e : decide (V.int (wy : Nat) = V.int 3) = false := decide_eq_false fun z => by
            injection z with z
            omega
          rw [e]
          refine ⟨_, rfl, app _ ?_⟩
          rw [word2, if_neg h]
      refine st_tSeq (st_if (b := decide (0 < (wy : Int)) || decide (25 < (0 : Int) + (i : Nat))) (evb_or (evb_cmp (ev_var rfl) ev_c) fun _ => evb_cmp (ev_var rfl) ev_c) ?_)
      split
      · refine ⟨_, rfl, ?_⟩
        have ef : ((0 : Int) + (i : Nat)).fdiv 26 = ((i / 26 : Nat) : Int) := by
          rw [Int.zero_add, Int.fdiv_eq_ediv_of_nonneg _ (by decide)]
          omega
        have lg : (((0 : Int) + (i : Nat)).fdiv 26).natAbs.log2 < 1920 := by
          rw [ef]
          exact log_ok (by omega) (by omega)
        refine ev_cb (vs := [.int (((0 : Int) + (i : Nat)).fdiv 26)]) (v := .str (numS (i / 26 : Nat))) (evl_cons (ev_iI (ev_var rfl) ev_c ⟨by decide, by decide⟩) evl_nil) (fun Q q => ⟨_, rfl, lg, by rw [ef]; exact q⟩) _ ?_
        · have := len_num (n := i / 26) (by omega)
          refine ⟨_, _, rfl, rfl, Nat.le_trans (show _ ≤ 100 by omega) (by decide), ?_⟩
          have e : ((⟨#[z]⟩ : Str) ++ sfx wy) ++ numS (i / 26 : Nat) = word1 wy z (i / 26) true := by rw [word1, if_pos rfl]
          rw [e]
          exact fin true _ (fun _ => rfl) fun H4 q => q
      · rename_i hno
        have e : ((⟨#[z]⟩ : Str) ++ sfx wy) = word1 wy z (i / 26) false := by rw [word1, if_neg (by decide)]
        rw [e]
        exact fin false _ (fun h => by simp at hno; omega) fun H4 q => q
    · subst hσ
      rw [Int.toNat_natCast] at n2
      exact st_ret (ev_var rfl) (k l zs H2 n2 o2 h2 far b2 s2)
end
end W06

set_option Elab.async false
set_option linter.all false
set_option maxRecDepth 100000
set_option maxHeartbeats 4000000
namespace W06
open PySem PySem.Spec PyProof.Rows L2 WXG WEv WRd WLf WEn WZs WRu WSt StX WDc
/-- all but what stands at m and f is as it was -/
def But2 (m f : Addr) (H H' : Hp) : Prop := ∀ b o, H b = some o → b ≠ m → b ≠ f → H' b = some o
theorem But2.refl {m f : Addr} {H : Hp} : But2 m f H H := fun _ _ h _ _ => h
theorem But2.trans {m f : Addr} {H H' H'' : Hp} (h : But2 m f H H') (g : But2 m f H' H'') : But2 m f H H'' := fun b o e n1 n2 => g b o (h b o e n1 n2) n1 n2
theorem But.two {m f : Addr} {H H' : Hp} (h : But m H H') : But2 m f H H' := fun b o e n _ => h b o e n
theorem But2.put {m f : Addr} {H H' : Hp} {x : HO} (h : But2 m f H H') : But2 m f H (upd H' f x) := fun b o e n1 n2 => by rw [upd_ne n2]; exact h b o e n1 n2
theorem But2.same {m f : Addr} {H H' H'' : Hp} (h : But2 m f H H') (s : Same H' H'') : But2 m f H H'' := fun b o e n1 n2 => s _ _ (h b o e n1 n2)
theorem But2.kp {m f : Addr} {H H' : Hp} {kvs : List (Key × V)} {xs : List V} (h : But2 m f H H') (hm : H m = some (.dK kvs)) (hf : H f = some (.lst xs)) : Kp H H' := fun b o e h1 h2 => h b o e (fun z => by rw [z, hm] at e; cases e; exact h2 _ rfl) (fun z => by rw [z, hf] at e; cases e; exact h1 _ rfl)
theorem et_some {K : PySem.W.Frag} {σ : L2.St} {H : Hp} {i : Nat} {f : Addr} {xs : List V} (h0 : σ[i]? = some (some (.ref f))) (hf : H f = some (.lst xs)) : EvT (tTest (tOp (rNeN K) (tVar i) (tLst tNil))) σ H (!decide (xs = [])) :=
  fun H1 s Q q => ⟨_, h0, Nat.zero_le _, fun b hb => ⟨f, b, xs, rfl, rfl, .of ((same_new hb) _ _ (s _ _ hf)), .of upd_same, _, rfl, q _ (same_new hb)⟩⟩
theorem if_draw2 {tA tB tC : TT} {t u : TS} {D : Ends} {σ : L2.St} {H : Hp} {a b : Bool} (ha : EvT tA σ H a) (hb : ∀ H1, Same H H1 → EvB tB σ H1 b) (no : (a && b) = false → ∀ H1, Same H H1 → u D σ H1) (yes : a = true → b = true → ∀ H1, Same H H1 → tC σ H1 fun c H2 => if c = true then t D σ H2 else u D σ H2) : tIfS (tAnd tA (tAnd tB tC)) t u D σ H :=
  ha H (Same.refl H) _ fun H1 s => by
    cases a with
    | false => exact no rfl H1 s
    | true => exact hb H1 s _ (by
        cases b with
        | false => exact no rfl H1 s
        | true => exact yes rfl rfl H1 s)
def spTree (K : PySem.W.Frag) (S : Addr × List Int) (j : Nat) : Sp := fun vs H Q _ => ∃ (m f : Addr) (zs : List Str) (a c : Nat), vs = [.ref m, .ref f, .int (7 - (j : Int))] ∧ 1 ≤ j ∧ j ≤ 6 ∧ H f = some (.lst (zs.map V.str)) ∧ (∀ z ∈ zs, NameOk z) ∧ zs ≠ [] ∧ zs.length ≤ 40 ∧ Far K f S ∧ SrcAt K S H m a c ∧ a + 20 * zs.length ≤ 60000 ∧ c ≤ 1000 ∧
  ∀ v (t : Told (j + 1)) H', Told.Ok (j + 1) t → TAt (j + 1) t v H' → Told.size (j + 1) t ≤ zs.length → H' f = some (.lst ((zs.drop (Told.size (j + 1) t)).map V.str)) → But2 m f H H' → SrcAt K S H' m (a + 20 * Told.size (j + 1) t) c → Q v H'
section
variable {P : Program} {w : World} {K : PySem.W.Frag} {S : Addr × List Int} {mg : Str → Option Value} {base : Heap}
def TreeInv (K : PySem.W.Frag) (S : Addr × List Int) (j : Nat) (m f l : Addr) (lev : Int) (z1 : Str) (zs : List Str) (a c : Nat) (H : Hp) (i : Nat) : L2.St → Hp → Prop := fun σ H' => ∃ (ts : List (Told (j + 1))) (ys : List V) (a5 : Option V), σ = [some (.ref m), some (.ref f), some (.int lev), some (.str z1), some (.ref l), a5] ∧ H' l = some (.lst ys) ∧ Fa (ts.map (TAt (j + 1))) ys H' ∧
  (∀ t ∈ ts, Told.Ok (j + 1) t) ∧ ts.length ≤ i ∧ 1 + (ts.map (Told.size (j + 1))).sum ≤ zs.length ∧ H' f = some (.lst ((zs.drop (1 + (ts.map (Told.size (j + 1))).sum)).map V.str)) ∧ SrcAt K S H' m (a + 1 + i + 20 * (ts.map (Told.size (j + 1))).sum) c ∧ But2 m f H H'
theorem drop_cons' {zs : List Str} {k : Nat} {z : Str} {r : List Str} (h : zs.drop k = z :: r) : zs.drop (k + 1) = r ∧ k + 1 ≤ zs.length ∧ z ∈ zs := by
  refine ⟨?_, ?_, ?_⟩
  · rw [← List.drop_drop, h]
    rfl
  · have := congrArg List.length h
    rw [List.length_drop, List.length_cons] at this
    omega
  · have : z ∈ zs.drop k := by rw [h]; exact List.mem_cons_self
    exact List.mem_of_mem_drop this
theorem ok_tree (T : Env K mg) : ∀ j, FnOk P w K mg base CX0 (j + 5) (d_L_tree.loc K) T.fd_L_tree ["m", "free", "level"] (spTree K S j)
  | 0 => T.F_L_tree.ok sc_L_tree (fun vs H Q E (h : spTree K S 0 vs H Q E) => by obtain ⟨m, f, zs, a, c, rfl, z, _⟩ := h; cases z) (fun cdv A outer s H vs Q E hr (h : spTree K S 0 vs H Q E) => by obtain ⟨m, f, zs, a, c, rfl, z, _⟩ := h; cases z)
  | j + 1 => by
    have G_L_next : FnOk P w K mg base CX0 1 _ _ _ _ := ok_next (S := S) T
    have G_L_worker : FnOk P w K mg base CX0 4 _ _ _ _ := ok_worker (S := S) T
    have G_L_over : FnOk P w K mg base CX0 4 _ _ _ _ := ok_over (S := S) T (j + 1)
    have G_L_tree : FnOk P w K mg base CX0 (j + 5) _ _ _ _ := ok_tree T j
    refine T.F_L_tree.ok sc_L_tree (fun vs H Q E h => ?_) (fun cdv A outer s H vs Q E hr h => ?_)
    · obtain ⟨m, f, zs, a, c, rfl, _⟩ := h
      rfl
    · have nd := sc_L_tree.nd
      have hu := hu_of hr
      obtain ⟨m, f, zs, a, c, rfl, hj0, hj, hf, hnm, hne, hzl, farf, hS, ha, hc, k⟩ := h
      refine ⟨_, PSs.nox (pss_cons (ps_par (i := 3) (j := 4) (by rfl) nd rfl rfl (by decide) rfl rfl (pa_cons (pe_bm PySem.F.plainAttrs_list PySem.F.slot_list_pop PySem.F.type_list_pop mt_popAt (pv 1) (pa_cons pe_int pa_nil)) (pa_cons (pe_lst pa_nil) pa_nil)) (by rfl))
 (pss_cons (ps_for PassesOwn.never rfl (pi_range1 (by rfl) T.b_range (pa_cons (pe_call G_L_next (hr.mono (by omega)) (by rfl) T.g__law_next T.F_L_next.kp T.bi_L_next .nil pass0 (pa_cons (pv 0) (pa_cons pe_int pa_nil))) pa_nil)) (pg_name (i := 5) nd rfl (Or.inl rfl))
  (pss_one (ps_if (PW.pt (pw_and (pt_cmpR (op_neN hr.units) (pv 1) (pe_lst pa_nil) (nomark _)) (pw_and (pt_cmpR op_lt (pv 2) pe_int (nomark _)) (pw_and1 (pt_cmpR op_eq (pe_call G_L_next (hr.mono (by omega)) (by rfl) T.g__law_next T.F_L_next.kp T.bi_L_next .nil pass0 (pa_cons (pv 0) (pa_cons pe_int pa_nil))) pe_int (nomark _))))))
  (pss_one (ps_expr (pe_bm PySem.F.plainAttrs_list PySem.F.slot_list_append PySem.F.type_list_append mt_append (pv 4) (pa_cons (pe_call G_L_tree (hr.mono (by omega)) (by rfl) T.g__law_tree T.F_L_tree.kp T.bi_L_tree .nil pass0 (pa_cons (pv 0) (pa_cons (pv 1) (pa_cons (pe_op op_add (pv 2) pe_int) pa_nil)))) pa_nil))))
  (pss_one (ps_if (pt_cmpR (op_neN hr.units) (pv 1) (pe_lst pa_nil) (nomark _))
  (pss_one (ps_expr (pe_bm PySem.F.plainAttrs_list PySem.F.slot_list_append PySem.F.type_list_append mt_append (pv 4) (pa_cons (pe_call G_L_worker (hr.mono (by omega)) (by rfl) T.g__law_worker T.F_L_worker.kp T.bi_L_worker .nil pass0 (pa_cons (pv 0) (pa_cons (pe_bm PySem.F.plainAttrs_list PySem.F.slot_list_pop PySem.F.type_list_pop mt_popAt (pv 1) (pa_cons pe_int pa_nil)) pa_nil))) pa_nil))))
  pss_nil)))))
 (pss_one (ps_ret (pe_call G_L_over (hr.mono (by omega)) (by rfl) T.g__law_over T.F_L_over.kp T.bi_L_over .nil pass0 (pa_cons (pv 0) (pa_cons (pv 3) (pa_cons (pv 4) pa_nil)))))))), ?_⟩
      obtain ⟨kvs, hm⟩ := hS.dict
      have fm : f ≠ m := hS.nel hf
      obtain ⟨z1, zr, rfl⟩ : ∃ z1 zr, zs = z1 :: zr := by
        cases zs with
        | nil => exact absurd rfl hne
        | cons z r => exact ⟨z, r, rfl⟩
      -- label, kids = free.pop(0), []
      refine st_tSeq ⟨.ref f, rfl, .inl ⟨rfl, _, .of hf⟩, ?_⟩
      refine ⟨f, _, 0, 0, .str z1, rfl, rfl, hf, by decide, by decide, by simp [seqIndex?], rfl, ?_⟩
      refine ⟨Nat.zero_le _, fun l hl => ⟨_, _, rfl, ?_⟩⟩
      have s1 : SrcAt K S (upd H f (.lst (((z1 :: zr).map V.str).eraseIdx 0))) m a c := hS.putl hf farf
      have b1 : But2 m f H (upd H f (.lst (((z1 :: zr).map V.str).eraseIdx 0))) := But2.refl.put
      have f1 : upd H f (.lst (((z1 :: zr).map V.str).eraseIdx 0)) f = some (.lst (zr.map V.str)) := upd_same
      generalize upd H f (.lst (((z1 :: zr).map V.str).eraseIdx 0)) = H1 at s1 b1 f1 hl ⊢
      have far : Far K l S := s1.far hl
      have hlm : l ≠ m := s1.ne hl
      have hlf : l ≠ f := fun z => by rw [z, f1] at hl; cases hl
      have H0l : ∀ b o, H b = some o → b ≠ m → b ≠ f → b ≠ l := fun b o e n1 n2 z => by
        have := b1 b o e n1 n2
        rw [z, hl] at this
        cases this
      have f2 := (same_new (o := .lst []) hl) _ _ f1
      have b2 := b1.same (same_new (o := .lst []) hl)
      have s2 := s1.new (x := .lst []) hl
      have e2 : upd H1 l (.lst []) l = some (.lst []) := upd_same
      generalize upd H1 l (.lst []) = H2 at f2 b2 s2 e2 ⊢
      dsimp only
      show tSeq _ _ _ _ _
      refine st_tSeq ⟨.ref m, rfl, m, 5, a, c, rfl, by decide, by decide, s2, by omega, fun r H3 r0 r1 b3 s3 => ?_⟩
      refine ⟨r, rfl, by omega, by omega, ?_⟩
      have hl3 := b3 _ _ e2 hlm
      have f3 := b3 _ _ f2 fm
      generalize hlev : (7 - ((j + 1 : Nat) : Int)) = lev at *
      refine for_range (TreeInv K S j m f l lev z1 (z1 :: zr) a c H) ⟨[], [], none, rfl, hl3, trivial, by simp, Nat.le_refl _, by simp, f3, by simpa using s3, b2.trans b3.two⟩ (fun i σ H3 hi q => ?_) (fun σ H3 q => ?_)
      · obtain ⟨ts, ys, a5, rfl, hl3, fa3, ok3, ln3, sz3, f3, s3, b3⟩ := q
        have ylen := sup_len fa3
        have hi4 : i < 4 := by omega
        generalize hsz : (ts.map (Told.size (j + 1))).sum = sz at *
        have hzl' : (z1 :: zr).length ≤ 40 := hzl
        obtain ⟨kv3, hm3⟩ := s3.dict
        -- what follows a new child
        have add : ∀ (t : Told (j + 1)) (v : V) (H4 : Hp) (a' : Nat), Told.Ok (j + 1) t → TAt (j + 1) t v H4 → But2 m f H3 H4 → 1 + sz + Told.size (j + 1) t ≤ (z1 :: zr).length → H4 f = some (.lst (((z1 :: zr).drop (1 + sz + Told.size (j + 1) t)).map V.str)) → a' ≤ a + 1 + (i + 1) + 20 * (sz + Told.size (j + 1) t) → SrcAt K S H4 m a' c → rAppend (.ref l) [v] H4 fun _ H5 =>
            TreeInv K S j m f l lev z1 (z1 :: zr) a c H (i + 1) [some (.ref m), some (.ref f), some (.int lev), some (.str z1), some (.ref l), some (.int (0 + (i : Nat)))] H5 := by
          intro t v H4 a' hok ht b4 hz f4 ha' s4
          have hl4 := b4 _ _ hl3 hlm hlf
          have kp4 : Kp H3 (upd H4 l (.lst (ys ++ [v]))) := (b4.kp hm3 f3).trans (Kp.lst hl4)
          refine ⟨l, ys, v, rfl, rfl, hl4, Nat.lt_of_le_of_lt (show ys.length ≤ 5 by omega) (by decide), ts ++ [t], ys ++ [v], _, rfl, upd_same, ?_, ?_, ?_, ?_, ?_, ?_, ?_⟩
          · rw [List.map_append]
            exact (fa_kp mk_tats kp4 fa3).app ⟨mk_tat _ t _ _ _ (Kp.lst hl4) ht, trivial⟩
          · intro x hx
            rcases List.mem_append.mp hx with hx | hx
            · exact ok3 x hx
            · cases List.mem_singleton.mp hx
              exact hok
          · rw [List.length_append]
            exact Nat.succ_le_succ ln3
          · rw [List.map_append, List.sum_append, hsz]
            simp only [List.map_cons, List.map_nil, List.sum_cons, List.sum_nil]
            omega
          · rw [List.map_append, List.sum_append, hsz]
            simp only [List.map_cons, List.map_nil, List.sum_cons, List.sum_nil]
            rw [Nat.add_zero, ← Nat.add_assoc, upd_ne (Ne.symm hlf)]
            exact f4
          · rw [List.map_append, List.sum_append, hsz]
            simp only [List.map_cons, List.map_nil, List.sum_cons, List.sum_nil]
            rw [Nat.add_zero]
            exact (s4.mono ha').putl hl4 far
          · intro b o e n1 n2
            rw [upd_ne (H0l b o e n1 n2)]
            exact b4 _ _ (b3 b o e n1 n2) n1 n2
        have same : ∀ H4, But m H3 H4 → ∀ a', a' ≤ a + 1 + (i + 1) + 20 * sz → SrcAt K S H4 m a' c → TreeInv K S j m f l lev z1 (z1 :: zr) a c H (i + 1) [some (.ref m), some (.ref f), some (.int lev), some (.str z1), some (.ref l), some (.int (0 + (i : Nat)))] H4 := by
          intro H4 b4 a' ha' s4
          exact ⟨ts, ys, _, rfl, b4 _ _ hl3 hlm, fa_kp mk_tats (b4.kp s3) fa3, ok3, by omega, by rw [hsz]; exact sz3, by rw [hsz]; exact b4 _ _ f3 fm, by rw [hsz]; exact s4.mono ha', b3.trans b4.two⟩
        -- the else: a worker, if a name is left
        have els : ∀ (D : Ends) (H4 : Hp) (a' : Nat), But m H3 H4 → a' ≤ a + 1 + (i + 1) + 20 * sz → SrcAt K S H4 m a' c → (∀ H5, (TreeInv K S j m f l lev z1 (z1 :: zr) a c H (i + 1) [some (.ref m), some (.ref f), some (.int lev), some (.str z1), some (.ref l), some (.int (0 + (i : Nat)))] H5) → D.nx [some (V.ref m), some (.ref f), some (.int lev), some (.str z1), some (.ref l), some (.int (0 + (i : Nat)))] H5) →
            tIfS (tTest (tOp (rNeN K) (tVar 1) (tLst tNil))) (tDrop (tBM K "list" rAppend (tVar 4) (tCons (tCall (spWorker K S) [] E0 (tCons (tVar 0) (tCons (tBM K "list" rPopAt (tVar 1) (tCons (tC (.int 0)) tNil)) tNil))) tNil))) tNext D [some (.ref m), some (.ref f), some (.int lev), some (.str z1), some (.ref l), some (.int (0 + (i : Nat)))] H4 := by
          intro D H4 a' b4 ha' s4 kk
          have f4 := b4 _ _ f3 fm
          have hl4 := b4 _ _ hl3 hlm
          cases hd : (z1 :: zr).drop (1 + sz) with
          | nil =>
            rw [hd] at f4
            have := et_some (K := K) (σ := [some (V.ref m), some (.ref f), some (.int lev), some (.str z1), some (.ref l), some (.int (0 + (i : Nat)))]) (i := 1) rfl f4
            exact s_noN this fun H5 s5 => kk _ (same H5 (b4.trans (But.same s5)) a' ha' (s4.same s5))
          | cons z2 r2 =>
            rw [hd] at f4
            obtain ⟨d1, d2, d3⟩ := drop_cons' hd
            have := et_some (K := K) (σ := [some (V.ref m), some (.ref f), some (.int lev), some (.str z1), some (.ref l), some (.int (0 + (i : Nat)))]) (i := 1) rfl f4
            refine s_yes this fun H5 s5 => ?_
            have hl5 := s5 _ _ hl4
            have f5 := s5 _ _ f4
            refine ⟨.ref l, rfl, .inl ⟨rfl, _, .of hl5⟩, .ref m, rfl, .ref f, rfl, .inl ⟨rfl, _, .of f5⟩, ?_⟩
            refine ⟨f, _, 0, 0, .str z2, rfl, rfl, f5, by decide, by decide, by simp [seqIndex?], rfl, ?_⟩
            have s6 : SrcAt K S (upd H5 f (.lst (((z2 :: r2).map V.str).eraseIdx 0))) m a' c := (s4.same s5).putl f5 farf
            have b6 : But2 m f H3 (upd H5 f (.lst (((z2 :: r2).map V.str).eraseIdx 0))) := ((b4.two (f := f)).same s5).put
            have f6 : upd H5 f (.lst (((z2 :: r2).map V.str).eraseIdx 0)) f = some (.lst (r2.map V.str)) := upd_same
            generalize upd H5 f (.lst (((z2 :: r2).map V.str).eraseIdx 0)) = H6 at s6 b6 f6 ⊢
            refine ⟨m, z2, a', c, rfl, hnm z2 d3, s6, by omega, by omega, fun v d H7 dok tw b7 s7 => ?_⟩
            have f7 := b7 _ _ f6 fm
            obtain ⟨l', xs, y, e1, e2, e3, e4, q⟩ := add (Sum.inl d) v H7 _ dok tw (b6.trans b7.two) d2 (by rw [f7]; show _ = some (HO.lst (((z1 :: zr).drop (1 + sz + 1)).map V.str)); rw [d1]) (by show a' + 7 ≤ a + 1 + (i + 1) + 20 * (sz + 1); omega) s7
            exact ⟨l', xs, y, e1, e2, e3, e4, kk _ q⟩
        dsimp only
        refine if_draw2 (b := decide (lev < 6)) (et_some (i := 1) rfl f3) (fun H4 s4 => evb_cmp (ev_var rfl) ev_c) (fun no H4 s4 => els _ H4 _ (But.same s4) (by omega) (s3.same s4) fun H5 q => q) (fun hne hl6 H4 s4 => ?_)
        have hl6 := of_decide_eq_true hl6
        refine ⟨.ref m, rfl, m, 3, _, _, rfl, by decide, by decide, s3.same s4, by omega, fun r5 H5 _ _ b5 s5 => ?_⟩
        have b45 := (But.same s4).trans b5
        refine ⟨rfl, _, rfl, ?_⟩
        dsimp only
        split
        · have f5 := b45 _ _ f3 fm
          have hl5 := b45 _ _ hl3 hlm
          cases hd : (z1 :: zr).drop (1 + sz) with
          | nil => rw [hd] at hne; cases hne
          | cons z2 r2 =>
            obtain ⟨d1, d2, d3⟩ := drop_cons' hd
            have dl : ((z1 :: zr).drop (1 + sz)).length = (z1 :: zr).length - (1 + sz) := List.length_drop
            refine ⟨.ref l, rfl, .inl ⟨rfl, _, .of hl5⟩, .ref m, rfl, .ref f, rfl, .int lev, rfl, lev, 1, rfl, rfl, m, f, (z1 :: zr).drop (1 + sz), _, _, ?_, by omega, by omega, f5, fun z hz => hnm z (List.mem_of_mem_drop hz), by rw [hd]; simp, by omega, farf, s5, by omega, by omega, fun v t H6 hok ht hsz6 f6 b6 s6 => ?_⟩
            · show [V.ref m, V.ref f, V.int (lev + 1)] = [V.ref m, V.ref f, V.int (7 - (j : Int))]
              rw [show lev + 1 = 7 - (j : Int) by omega]
            · obtain ⟨l', xs, y, e1, e2, e3, e4, q⟩ := add t v H6 _ hok ht (b45.two.trans b6) (by omega) (by rw [f6, List.drop_drop]) (by omega) s6
              exact ⟨l', xs, y, e1, e2, e3, e4, q⟩
        · exact els _ H5 _ b45 (by omega) s5 fun H5 q => q
      · obtain ⟨ts, ys, a5, rfl, hl3, fa3, ok3, ln3, sz3, f3, s3, b3⟩ := q
        have hzl' : (z1 :: zr).length ≤ 40 := hzl
        refine ⟨_, rfl, _, rfl, _, rfl, m, l, z1, ts, ys, _, _, rfl, hnm z1 List.mem_cons_self, hl3, fa3, ok3, by omega, s3, by omega, by omega, fun v d H4 hok ht b4 s4 => ?_⟩
        have esz : Told.size (j + 1 + 1) (Sum.inr (d, ts)) = 1 + (ts.map (Told.size (j + 1))).sum := rfl
        exact k v (Sum.inr (d, ts)) H4 hok ht (by rw [esz]; exact sz3) (by rw [esz]; exact b4 _ _ f3 fm) (b3.trans b4.two) (s4.mono (by rw [esz]; omega))
def spOverU (K : PySem.W.Frag) (S : Addr × List Int) (N : Nat) : Sp := fun vs H Q E => ∃ n, n ≤ N ∧ spOver K S n vs H Q E
def spDeep (K : PySem.W.Frag) (S : Addr × List Int) : Sp := fun vs H Q _ => ∃ (m f : Addr) (zs : List Str) (a c : Nat), vs = [.ref m, .ref f] ∧ H f = some (.lst (zs.map V.str)) ∧ (∀ z ∈ zs, NameOk z) ∧ zs ≠ [] ∧ zs.length ≤ 40 ∧ SrcAt K S H m a c ∧ a ≤ 50000 ∧ c ≤ 1000 ∧
  ∀ v (n : Nat) (t : Told n) H', n ≤ 20 → Told.Ok n t → Told.size n t ≤ 20 → TAt n t v H' → But m H H' → SrcAt K S H' m (a + 200) c → Q v H'
theorem ok_deep (T : Env K mg) : FnOk P w K mg base CX0 5 (d_L_deep.loc K) T.fd_L_deep ["m", "free"] (spDeep K S) := by
  have G_L_next : FnOk P w K mg base CX0 1 _ _ _ _ := ok_next (S := S) T
  have G_L_worker : FnOk P w K mg base CX0 4 _ _ _ _ := ok_worker (S := S) T
  have G_L_over : FnOk P w K mg base CX0 4 _ _ _ (spOverU K S 20) := fn_any 20 (ok_over (S := S) T) (M := 4) fun n h => Nat.le_refl 4
  refine T.F_L_deep.ok sc_L_deep (fun vs H Q E h => ?_) (fun cdv A outer s H vs Q E hr h => ?_)
  · obtain ⟨m, f, zs, a, c, rfl, _⟩ := h
    rfl
  · have nd := sc_L_deep.nd
    have hu := hu_of hr
    obtain ⟨m, f, zs, a, c, rfl, hf, hnm, hne, hzl, hS, ha, hc, k⟩ := h
    refine ⟨_, PSs.nox (pss_cons (ps_set (i := 2) nd rfl (Or.inl rfl) (pe_call G_L_worker (hr.mono (by decide)) (by rfl) T.g__law_worker T.F_L_worker.kp T.bi_L_worker .nil pass0 (pa_cons (pv 0) (pa_cons (pe_ix (ixlK (K := K)) (pv 1) pe_int (fun _ _ => rfl)) pa_nil))))
 (pss_cons (ps_for PassesOwn.never rfl (pi_range1 (by rfl) T.b_range (pa_cons (pe_call G_L_next (hr.mono (by decide)) (by rfl) T.g__law_next T.F_L_next.kp T.bi_L_next .nil pass0 (pa_cons (pv 0) (pa_cons pe_int pa_nil))) pa_nil)) (pg_name (i := 3) nd rfl (Or.inl rfl))
  (pss_one (ps_set (i := 2) nd rfl (Or.inl rfl) (pe_call G_L_over (hr.mono (by decide)) (by rfl) T.g__law_over T.F_L_over.kp T.bi_L_over .nil pass0 (pa_cons (pv 0) (pa_cons (pe_ix (ixlK (K := K)) (pv 1) (pe_op op_modN (pe_callTy call_int1 (by rfl) T.b_int (by decide +kernel) (pa_cons (pv 3) pa_nil)) (pe_callB call_len_seq (by rfl) T.b_len (by decide +kernel) (pa_cons (pv 1) pa_nil))) (fun _ _ => rfl)) (pa_cons (pe_lst (pa_cons (pv 2) pa_nil)) pa_nil)))))))
 (pss_one (ps_ret (pv 2))))), ?_⟩
    have fm : f ≠ m := hS.nel hf
    have hL : 0 < zs.length := List.length_pos_iff.mpr hne
    obtain ⟨z0, hz0⟩ : ∃ z, zs[0]? = some z := ⟨_, List.getElem?_eq_getElem hL⟩
    refine st_tSeq ⟨.ref m, rfl, .ref f, rfl, f, _, 0, .str z0, rfl, rfl, .inl (.of hf), atI_nat (j := 0) (by rw [List.getElem?_map, hz0]; rfl), m, z0, a, c, rfl, hnm z0 (List.mem_of_getElem? hz0), hS, by omega, by omega, fun v d H1 dok tw b1 s1 => ?_⟩
    dsimp only
    show tSeq _ _ _ _ _
    refine st_tSeq ⟨.ref m, rfl, m, 20, _, _, rfl, by decide, by decide, s1, by omega, fun r H2 r0 r1 b2 s2 => ?_⟩
    refine ⟨r, rfl, by omega, by omega, ?_⟩
    refine for_range (fun i σ H' => ∃ (v : V) (t : Told (i + 1)) (a3 : Option V), σ = [some (.ref m), some (.ref f), some v, a3] ∧ Told.Ok (i + 1) t ∧ Told.size (i + 1) t = i + 1 ∧ TAt (i + 1) t v H' ∧ But m H H' ∧ SrcAt K S H' m (a + 8 + 6 * i) c)
      ⟨v, Sum.inl d, none, rfl, dok, rfl, mk_tw _ _ _ (b2.kp s1) tw, b1.trans b2, s2⟩ (fun i σ H3 hi ⟨v, t, a3, hσ, tok, tsz, tat, b3, s3⟩ => ?_) (fun σ H3 ⟨v, t, a3, hσ, tok, tsz, tat, b3, s3⟩ => ?_)
    · subst hσ
      have hi : i < 19 := by omega
      have f3 := b3 _ _ hf fm
      have fmi := fmod_nn (a := (0 : Int) + (i : Nat)) (b := (zs.length : Int)) (by omega)
      obtain ⟨z, hz⟩ : ∃ z, zs[(((0 : Int) + (i : Nat)).fmod zs.length).toNat]? = some z := ⟨_, List.getElem?_eq_getElem (by omega)⟩
      have hat : atI (zs.map V.str) (((0 : Int) + (i : Nat)).fmod ((zs.map V.str).length : Int)) = some (.str z) := by
        rw [List.length_map]
        have := atI_nat (xs := zs.map V.str) (j := (((0 : Int) + (i : Nat)).fmod zs.length).toNat) (v := .str z) (by rw [List.getElem?_map, hz]; rfl)
        rw [Int.toNat_of_nonneg fmi.1] at this
        exact this
      refine ⟨.ref m, rfl, ?_⟩
      refine (ev_op (v := .str z) (ev_var rfl) (ev_iI (ev_int1 (evl_cons (ev_var rfl) evl_nil)) (ev_cb (vs := [.ref f]) (v := .int ((zs.map V.str).length : Int)) (evl_cons (ev_var rfl) evl_nil) fun Q q => ⟨f, _, rfl, .inl (.of f3), q⟩) (by rw [List.length_map]; omega)) (fun Q q => ⟨f, _, _, _, rfl, rfl, .inl (.of f3), hat, q⟩)) _ ?_
      refine ⟨_, rfl, (by decide : 1 ≤ sizeLine), fun p hp => ?_⟩
      refine ⟨i + 1, by omega, m, p, z, [t], [v], _, _, rfl, hnm z (List.mem_of_getElem? hz), upd_same, ⟨mk_tat _ _ _ _ _ (Kp.same (same_new hp)) tat, trivial⟩, ?_, (show 1 ≤ 12 by decide), s3.new hp, by omega, by omega, fun v' d' H4 hok ht b4 s4 => ?_⟩
      · intro x hx
        cases List.mem_singleton.mp hx
        exact tok
      · refine ⟨v', Sum.inr (d', [t]), _, rfl, hok, ?_, ht, (b3.new hp).trans b4, s4.mono (by omega)⟩
        show 1 + ([t].map (Told.size (i + 1))).sum = i + 1 + 1
        simp only [List.map_cons, List.map_nil, List.sum_cons, List.sum_nil, tsz]
        omega
    · subst hσ
      exact st_ret (ev_var rfl) (k v _ t H3 (by omega) tok (by omega) tat b3 (s3.mono (by omega)))
end
end W06

set_option Elab.async false
set_option linter.all false
set_option maxRecDepth 100000
set_option maxHeartbeats 4000000
namespace W06
open PySem PySem.Spec PyProof.Rows L2 WXG WEv WRd WLf WEn WZs WRu WSt StX WDc
section
variable {K : PySem.W.Frag} {S : Addr × List Int} {m : Addr} {σ : L2.St} {H : Hp}
/-- [e for v in xs], e draws d numbers -/
theorem lcD {te : TE} {wi : TI} {v n a c d : Nat} {φ : Nat → V → Prop} {P : HP V} {Q : VK}
    (hw : ∀ R : It → Hp → Prop, (∀ (J : It) (Gw : Hp → Prop) (Y : Nat → Hp → V → Hp → Prop) (H2 : Hp), Same H H2 → Walk J n Gw Y → (∀ H3, But m H2 H3 → Gw H3) → (∀ i H x H', Y i H x H' → H' = H ∧ φ i x) → R J H2) → wi σ H R)
    (hS : SrcAt K S H m a c) (mP : MnK P) (hn : n ≤ 1000) (hb : a + d * n ≤ 90000)
    (h : ∀ i x a' H1, i < n → φ i x → But m H H1 → SrcAt K S H1 m a' c → a' + d ≤ 90000 → ∀ Q : VK, (∀ y H2, But m H1 H2 → SrcAt K S H2 m (a' + d) c → P y H2 → Q y H2) → te ((σ.set v none).set v (some x)) H1 Q)
    (k : ∀ l acc H1, H1 l = some (.lst acc) → acc.length = n → (∀ y ∈ acc, P y H1) → Far K l S → But m H H1 → SrcAt K S H1 m (a + d * n) c → Q (.ref l) H1) : tLc wi (gName v) tYes te [v] σ H Q := by
  refine hw _ fun J Gw Y H2 s2 wk hg hφ => ?_
  intro Dd hD
  show ∃ W, _
  have hS2 := hS.same s2
  have far : Far K Dd S := hS2.far hD
  have ne := hS2.ne hD
  refine lc_it wk (fun i H' => But m H2 H' ∧ SrcAt K S H' m (a + d * i) c ∧ ∃ acc, H' Dd = some (.lst acc) ∧ acc.length = i ∧ ∀ y ∈ acc, P y H') ⟨But.refl.new hD, hS2.new hD, [], upd_same, rfl, by simp⟩ (fun _ H' _ p => hg H' p.1) (fun i x H3 H4 hi p y => ?_) (fun H3 p => ?_)
  · obtain ⟨b3, s3, acc, hd, la, pa⟩ := p
    obtain ⟨rfl, hx⟩ := hφ _ _ _ _ y
    refine ⟨(List.set_set ..).trans (List.set_set ..), ?_⟩
    have le : d * (i + 1) ≤ d * n := Nat.mul_le_mul_left d hi
    rw [Nat.mul_add, Nat.mul_one] at le
    refine h i x _ _ hi hx ((But.same s2).trans b3) s3 (by omega) _ fun y H5 b5 s5 py => ?_
    have hd5 := b5 _ _ hd ne
    refine ⟨acc, hd5, Nat.lt_of_le_of_lt (show acc.length ≤ 1000 by omega) (by decide), fun b o e n => ?_, (s5.mono (by rw [Nat.mul_add, Nat.mul_one]; omega)).putl hd5 far, acc ++ [y], upd_same, by rw [List.length_append, la]; rfl, fun x hx => ?_⟩
    · rw [upd_ne (fun z => by rw [z, hD] at e; cases e)]
      exact b5 _ _ (b3 _ _ e n) n
    · rcases List.mem_append.mp hx with hx | hx
      · exact mP _ _ _ ((b5.kp s3).trans (Kp.lst hd5)) (pa x hx)
      · cases List.mem_singleton.mp hx
        exact mP _ _ _ (Kp.lst hd5) py
  · obtain ⟨b3, s3, acc, hd, la, pa⟩ := p
    exact k Dd acc H3 hd la pa far ((But.same s2).trans b3) s3
end
theorem slK {X : Cx} {K : PySem.W.Frag} (h : X.K = K := by rfl) : SlR X (rSlL K) := h ▸ sl_list
theorem st_anyS {t : TS} {D : Ends} {σ : L2.St} {H : Hp} (R : L2.St → Hp → Prop) (h : ∀ D' : Ends, (∀ σ' H', R σ' H' → D'.nx σ' H') → t D' σ H) (k : ∀ σ' H', R σ' H' → D.nx σ' H') : t D σ H := h D k
def NameV : HP V := fun y _ => ∃ z, y = .str z ∧ NameOk z
theorem mk_name : MnK NameV := fun _ _ _ _ h => h
theorem names_of : ∀ {acc : List V} {H : Hp}, (∀ y ∈ acc, NameV y H) → ∃ zs : List Str, acc = zs.map V.str ∧ ∀ z ∈ zs, NameOk z
  | [], _, _ => ⟨[], rfl, by simp⟩
  | y :: acc, H, h => by
    obtain ⟨zs, rfl, hz⟩ := names_of (acc := acc) (H := H) fun y hy => h y (List.mem_cons_of_mem _ hy)
    obtain ⟨z, rfl, nz⟩ := h y List.mem_cons_self
    refine ⟨z :: zs, rfl, fun x hx => ?_⟩
    rcases List.mem_cons.mp hx with rfl | hx
    · exact nz
    · exact hz x hx
def OneW : HP V := fun y H => ∃ d : WD, d.Ok ∧ TW d y H
theorem mk_oneW : MnK OneW := fun _ _ _ s ⟨d, h, t⟩ => ⟨d, h, mk_tw _ _ _ s t⟩
theorem workers_of : ∀ {acc : List V} {H : Hp}, (∀ y ∈ acc, OneW y H) → ∃ ts : List (Told 1), ts.length = acc.length ∧ Fa (ts.map (TAt 1)) acc H ∧ (∀ t ∈ ts, Told.Ok 1 t) ∧ (ts.map (Told.size 1)).sum = acc.length
  | [], _, _ => ⟨[], rfl, trivial, (fun t ht => by cases ht), rfl⟩
  | y :: acc, H, h => by
    obtain ⟨ts, e1, e2, e3, e4⟩ := workers_of (acc := acc) (H := H) fun y hy => h y (List.mem_cons_of_mem _ hy)
    obtain ⟨d, ok, tw⟩ := h y List.mem_cons_self
    refine ⟨Sum.inl d :: ts, congrArg (· + 1) e1, ⟨tw, e2⟩, fun t ht => ?_, ?_⟩
    · rcases List.mem_cons.mp ht with rfl | ht
      · exact ok
      · exact e3 t ht
    · show 1 + (ts.map (Told.size 1)).sum = acc.length + 1
      omega
/-- what the law draws -/
def DI : HP V := fun v H => ∃ (n : Nat) (t : Told n), n ≤ 20 ∧ Told.Ok n t ∧ Told.size n t ≤ 60 ∧ TAt n t v H
theorem mk_di : MnK DI := fun _ _ _ s ⟨n, t, h1, h2, h3, h4⟩ => ⟨n, t, h1, h2, h3, mk_tat n t _ _ _ s h4⟩
def FreeAt (K : PySem.W.Frag) (S : Addr × List Int) (f : Addr) (zs : List Str) (H : Hp) : Prop := H f = some (.lst (zs.map V.str)) ∧ (∀ z ∈ zs, NameOk z) ∧ zs ≠ [] ∧ zs.length ≤ 40 ∧ Far K f S
theorem FreeAt.but {K : PySem.W.Frag} {S : Addr × List Int} {f m : Addr} {zs : List Str} {H H' : Hp} {a c : Nat} (h : FreeAt K S f zs H) (s : SrcAt K S H m a c) (b : But m H H') : FreeAt K S f zs H' := ⟨b _ _ h.1 (s.nel h.1), h.2⟩
theorem FreeAt.first {K : PySem.W.Frag} {S : Addr × List Int} {f : Addr} {zs : List Str} {H : Hp} (h : FreeAt K S f zs H) : ∃ z, atI (zs.map V.str) 0 = some (.str z) ∧ NameOk z := by
  have hL : 0 < zs.length := List.length_pos_iff.mpr h.2.2.1
  obtain ⟨z0, hz0⟩ : ∃ z, zs[0]? = some z := ⟨_, List.getElem?_eq_getElem hL⟩
  exact ⟨z0, atI_nat (j := 0) (by rw [List.getElem?_map, hz0]; rfl), h.2.1 z0 (List.mem_of_getElem? hz0)⟩
def spLaw (K : PySem.W.Frag) : Sp := fun vs H Q _ => ∃ (a : Addr) (ns : List Int), vs = [.ref a] ∧ SqL K H a (ns.map V.int) ∧ ns.length ≤ 63 ∧ ∀ H', Q (.bl true) H'
theorem evb_eqV {σ : L2.St} {H : Hp} {ta tb : TE} {i j : Int} (ha : Ev ta σ H (.int i)) (hb : Ev tb σ H (.int j)) : EvB (tTest (tOp rEq ta tb)) σ H (decide (V.int i = V.int j)) := fun Q q => ha _ (hb _ ⟨rfl, _, rfl, q⟩)
section
variable {P : Program} {w : World} {K : PySem.W.Frag} {mg : Str → Option Value} {base : Heap}
theorem ok_law (T : Env K mg) : FnOk P w K mg base CX0 70 (d_law.loc K) T.fd_law ["cells"] (spLaw K) := by
  refine T.F_law.ok sc_law (fun vs H Q E h => ?_) (fun cdv A outer s H vs Q E hr h => ?_)
  · obtain ⟨a, ns, rfl, _⟩ := h
    rfl
  · have nd := sc_law.nd
    have hu := hu_of hr
    obtain ⟨a, ns, rfl, hS, hl, k⟩ := h
    have G_L_begun : FnOk P w K mg base CX0 1 _ _ _ _ := ok_begun (S := (a, ns)) T
    have G_L_next : FnOk P w K mg base CX0 1 _ _ _ _ := ok_next (S := (a, ns)) T
    have G_L_of : FnOk P w K mg base CX0 2 _ _ _ _ := ok_of (S := (a, ns)) T
    have G_L_words : FnOk P w K mg base CX0 2 _ _ _ _ := ok_words (S := (a, ns)) T
    have G_L_worker : FnOk P w K mg base CX0 4 _ _ _ _ := ok_worker (S := (a, ns)) T
    have G_L_over : FnOk P w K mg base CX0 4 _ _ _ _ := ok_over (S := (a, ns)) T 1
    have G_L_deep : FnOk P w K mg base CX0 5 _ _ _ _ := ok_deep (S := (a, ns)) T
    have G_L_tree : FnOk P w K mg base CX0 11 _ _ _ _ := ok_tree (S := (a, ns)) T 6
    have G_L_build : FnOk P w K mg base CX0 27 _ _ _ _ := fn_any 20 (ok_build T) (M := 27) fun n h => by omega
    have G_L_lines : FnOk P w K mg base CX0 21 _ _ _ _ := fn_any 20 (ok_lines T) (M := 21) fun n h => by omega
    have G_plan_text : FnOk P w K mg base CX0 24 _ _ _ _ := fn_any 20 (ok_text T) (M := 24) fun n h => by omega
    have G_read_plan : FnOk P w K mg base CX0 28 _ _ _ _ := fn_any 20 (ok_read_plan T) (M := 28) fun n h => by omega
    have G_WorkerPlan__eq : FnOk P w K mg base CX0 5 _ _ _ _ := ok_W_eq T
    have G_SupervisorPlan__eq : FnOk P w K mg base CX0 65 _ _ _ _ := ok_S_eqU T 19
    refine ⟨_, PSs.nox (pss_cons (ps_set (i := 1) nd rfl (Or.inr rfl) (pe_call G_L_begun (hr.mono (by decide)) (by rfl) T.g__law_begun T.F_L_begun.kp T.bi_L_begun .nil pass0 (pa_cons (pv 0) pa_nil)))
 (pss_cons (ps_for PassesOwn.never rfl (pi_range1 (by rfl) T.b_range (pa_cons (pe_op op_add pe_int (pe_callB (call_min2 rfl) (by rfl) T.b_min (by decide +kernel) (pa_cons pe_int (pa_cons (pe_callB call_len_seq (by rfl) T.b_len (by decide +kernel) (pa_cons (pv 0) pa_nil)) pa_nil)))) pa_nil)) (pg_name (i := 2) nd rfl (Or.inl rfl))
  (pss_cons (ps_asg (pe_tup (pa_cons (pe_call G_L_words (hr.mono (by decide)) (by rfl) T.g__law_words T.F_L_words.kp T.bi_L_words .nil pass0 (pa_cons (pv 1) (pa_cons (pe_op op_add pe_int (pe_call G_L_next (hr.mono (by decide)) (by rfl) T.g__law_next T.F_L_next.kp T.bi_L_next .nil pass0 (pa_cons (pv 1) (pa_cons pe_int pa_nil)))) pa_nil))) (pa_cons (pe_call G_L_next (hr.mono (by decide)) (by rfl) T.g__law_next T.F_L_next.kp T.bi_L_next .nil pass0 (pa_cons (pv 1) (pa_cons pe_int pa_nil))) pa_nil))) (pg_tup rfl (pgs_cons (pg_name (i := 3) nd rfl (Or.inr rfl)) (pgs_cons (pg_name (i := 4) nd rfl (Or.inl rfl)) pgs_nil))))
 (pss_cons (ps_if (pt_cmpR op_eq (pe_call G_L_next (hr.mono (by decide)) (by rfl) T.g__law_next T.F_L_next.kp T.bi_L_next .nil pass0 (pa_cons (pv 1) (pa_cons pe_int pa_nil))) pe_int (nomark _))
  (pss_one (ps_set (i := 3) nd rfl (Or.inr rfl) (pe_lc (own := [("k", 5)]) (by rfl) nd (pi_range1 (by rfl) T.b_range (pa_cons (pe_callB call_len_seq (by rfl) T.b_len (by decide +kernel) (pa_cons (pv 3) pa_nil)) pa_nil)) (blkOk_by (N := ["cells", "m", "turn", "free", "way", "k", "d", "label", "plan", "text", "told", "again"]) (sc := defScope s_law) (by decide +kernel)) (fun _ _ _ _ _ => (pg_name (i := 5) nd rfl (Or.inl rfl))) (fun _ _ _ _ _ => pts_nil) (fun _ _ _ _ _ => (pe_call G_L_of (hr.mono (by decide)) (by rfl) T.g__law_of T.F_L_of.kp T.bi_L_of .nil pass0 (pa_cons (pv 1) (pa_cons (pe_slice (slK (K := K)) (pv 3) po_none (po_some pe_int)) pa_nil)))))))
  pss_nil)
 (pss_cons (ps_set (i := 6) nd rfl (Or.inl rfl) (pe_ifExp (pt_cmpR op_eq (pv 4) pe_int (nomark _)) (pe_call G_L_worker (hr.mono (by decide)) (by rfl) T.g__law_worker T.F_L_worker.kp T.bi_L_worker .nil pass0 (pa_cons (pv 1) (pa_cons (pe_ix (ixlK (K := K)) (pv 3) pe_int (fun _ _ => rfl)) pa_nil))) (pe_call G_L_deep (hr.mono (by decide)) (by rfl) T.g__law_deep T.F_L_deep.kp T.bi_L_deep .nil pass0 (pa_cons (pv 1) (pa_cons (pv 3) pa_nil)))))
 (pss_cons (ps_if (pt_cmpR op_eq (pv 4) pe_int (nomark _))
  (pss_one (ps_set (i := 6) nd rfl (Or.inl rfl) (pe_call G_L_over (hr.mono (by decide)) (by rfl) T.g__law_over T.F_L_over.kp T.bi_L_over .nil pass0 (pa_cons (pv 1) (pa_cons (pe_ix (ixlK (K := K)) (pv 3) pe_int (fun _ _ => rfl)) (pa_cons (pe_lc (own := [("label", 7)]) (by rfl) nd (pi_list (pe_slice sl_list (pe_op op_rep (pv 3) pe_int) po_none (po_some pe_int))) (blkOk_by (N := ["cells", "m", "turn", "free", "way", "k", "d", "label", "plan", "text", "told", "again"]) (sc := defScope s_law) (by decide +kernel)) (fun _ _ _ _ _ => (pg_name (i := 7) nd rfl (Or.inl rfl))) (fun _ _ _ _ _ => pts_nil) (fun _ _ _ _ _ => (pe_call G_L_worker (hr.mono (by decide)) (by rfl) T.g__law_worker T.F_L_worker.kp T.bi_L_worker .nil pass0 (pa_cons (pv 1) (pa_cons (pv 7) pa_nil))))) pa_nil))))))
  pss_nil)
 (pss_cons (ps_if (pt_cmpR op_gt (pv 4) pe_int (nomark _))
  (pss_one (ps_set (i := 6) nd rfl (Or.inl rfl) (pe_call G_L_tree (hr.mono (by decide)) (by rfl) T.g__law_tree T.F_L_tree.kp T.bi_L_tree .nil pass0 (pa_cons (pv 1) (pa_cons (pv 3) (pa_cons pe_int pa_nil))))))
  pss_nil)
 (pss_cons (ps_par (i := 8) (j := 9) (by rfl) nd rfl rfl (by decide) rfl rfl (pa_cons (pe_call G_L_build (hr.mono (by decide)) (by rfl) T.g__law_build T.F_L_build.kp T.bi_L_build .nil pass0 (pa_cons (pv 6) pa_nil)) (pa_cons (pe_join pe_str (pe_call G_L_lines (hr.mono (by decide)) (by rfl) T.g__law_lines T.F_L_lines.kp T.bi_L_lines .nil pass0 (pa_cons (pv 6) (pa_cons pe_int pa_nil)))) pa_nil)) (by rfl))
 (pss_cons (ps_set (i := 10) nd rfl (Or.inl rfl) (pe_call G_plan_text (hr.mono (by decide)) (by rfl) T.g_plan_text T.F_plan_text.kp T.bi_plan_text .nil pass0 (pa_cons (pv 8) pa_nil)))
 (pss_cons (ps_if (PW.pt (pw_or (pt_not (pt_val (pe_callB (isiK (K := K)) (by rfl) T.b_isinstance (by decide +kernel) (pa_cons (pv 10) (pa_cons (pe_bltnT (n := "str") (by rfl) T.b_str (by decide +kernel)) pa_nil))))) (pw_or1 (pt_cmpR op_ne (pv 10) (pv 9) (nomark _)))))
  (pss_one (ps_ret pe_bl))
  pss_nil)
 (pss_cons (ps_set (i := 11) nd rfl (Or.inl rfl) (pe_call G_read_plan (hr.mono (by decide)) (by rfl) T.g_read_plan T.F_read_plan.kp T.bi_read_plan .nil pass0 (pa_cons (pv 9) pa_nil)))
 (pss_one (ps_if (PW.pt (pw_or (pt_cmpR ((op_neG G_WorkerPlan__eq T.dc_WorkerPlan.ne T.dc_WorkerPlan.eq T.dc_WorkerPlan.fn T.dc_WorkerPlan.ob T.bi_WorkerPlan__eq pass0 (hr.mono (by decide))).or (op_neG G_SupervisorPlan__eq T.dc_SupervisorPlan.ne T.dc_SupervisorPlan.eq T.dc_SupervisorPlan.fn T.dc_SupervisorPlan.ob T.bi_SupervisorPlan__eq pass0 (hr.mono (by decide)))) (pv 11) (pv 8) (nomark _)) (pw_or (pt_cmpR ((op_neG G_WorkerPlan__eq T.dc_WorkerPlan.ne T.dc_WorkerPlan.eq T.dc_WorkerPlan.fn T.dc_WorkerPlan.ob T.bi_WorkerPlan__eq pass0 (hr.mono (by decide))).or (op_neG G_SupervisorPlan__eq T.dc_SupervisorPlan.ne T.dc_SupervisorPlan.eq T.dc_SupervisorPlan.fn T.dc_SupervisorPlan.ob T.bi_SupervisorPlan__eq pass0 (hr.mono (by decide)))) (pv 8) (pv 11) (nomark _)) (pw_or1 (pt_cmpR op_ne (pe_call G_plan_text (hr.mono (by decide)) (by rfl) T.g_plan_text T.F_plan_text.kp T.bi_plan_text .nil pass0 (pa_cons (pv 11) pa_nil)) (pv 9) (nomark _))))))
  (pss_one (ps_ret pe_bl))
  pss_nil))))))))))))
 (pss_one (ps_ret pe_bl)))), ?_⟩
    -- m = _law_begun(cells)
    refine st_tSeq ⟨_, rfl, rfl, hS, by show ns.length ≤ 1000; omega, fun m H1 hm0 s1 hsrc => ?_⟩
    dsimp only
    show tSeq _ _ _ _ _
    refine st_tSeq ?_
    have hlen : ((ns.map V.int).length : Int) = (ns.length : Int) := by rw [List.length_map]
    have hb7 : (3 : Int) + (if ((ns.map V.int).length : Int) < 4 then ((ns.map V.int).length : Int) else 4) ≤ 7 := by split <;> omega
    have hb0 : (0 : Int) ≤ 3 + (if ((ns.map V.int).length : Int) < 4 then ((ns.map V.int).length : Int) else 4) := by split <;> omega
    refine ⟨_, rfl, a, _, rfl, .inl (hS.ext s1), _, _, rfl, _, _, rfl, rfl, _, rfl, by omega, by omega, ?_⟩
    generalize (3 : Int) + (if ((ns.map V.int).length : Int) < 4 then ((ns.map V.int).length : Int) else 4) = many at hb7 hb0 ⊢
    refine for_range (fun i σ H' => ∃ x2 x3 x4 x5 x6 x7 x8 x9 x10 x11 : Option V, σ = [some (.ref a), some (.ref m), x2, x3, x4, x5, x6, x7, x8, x9, x10, x11] ∧ SrcAt K (a, ns) H' m (2000 * i) 0)
      ⟨none, none, none, none, none, none, none, none, none, none, rfl, hsrc⟩ (fun i σ H2 hi ⟨x2, x3, x4, x5, x6, x7, x8, x9, x10, x11, hσ, s2⟩ => ?_) (fun σ H2 _ => k H2)
    subst hσ
    have hi7 : i < 7 := by omega
    -- free, way = ..
    refine st_tSeq ⟨.ref m, rfl, .ref m, rfl, m, 40, _, _, rfl, by decide, by decide, s2, by omega, fun r H3 r0 r1 b3 s3 => ?_⟩
    obtain ⟨rn, rfl⟩ := Int.eq_ofNat_of_zero_le r0
    refine ⟨1, rn, rfl, rfl, m, 1 + rn, _, _, ?_, by omega, by omega, s3, by omega, by omega, fun f zs H4 zl znm hf far b4 s4 => ?_⟩
    · show [V.ref m, V.int (1 + (rn : Int))] = [V.ref m, V.int ((1 + rn : Nat) : Int)]
      rw [show (1 + (rn : Int)) = ((1 + rn : Nat) : Int) by omega]
    refine ⟨.ref m, rfl, m, 6, _, _, rfl, by decide, by decide, s4, by omega, fun wy H5 w0 w1 b5 s5 => ?_⟩
    have hF5 : FreeAt K (a, ns) f zs H5 := FreeAt.but (zs := zs) ⟨hf, znm, fun z => by (rw [z] at zl; simp at zl; omega), by omega, far⟩ s4 b5
    refine ⟨(by decide : 2 ≤ sizeLine), fun p hp => ⟨p, _, rfl, .of upd_same, rfl, _, _, rfl, _, _, rfl, rfl, ?_⟩⟩
    have hF6 := hF5.but s5 (But.refl.new (x := .tup [V.ref f, .int wy]) hp)
    have s6 := s5.new (x := .tup [V.ref f, .int wy]) hp
    generalize upd H5 p (.tup [V.ref f, .int wy]) = H6 at hF6 s6 ⊢
    clear b3 b4 b5 s3 s4 s5 hF5 hp hf far znm zl
    dsimp only
    show tSeq _ _ _ _ _
    -- if ..: free = [..]
    refine st_tSeq (st_anyS (fun σ' H' => ∃ (f : Addr) (zs : List Str) (y5 : Option V), σ' = [some (.ref a), some (.ref m), some (.int (0 + (i : Nat))), some (.ref f), some (.int wy), y5, x6, x7, x8, x9, x10, x11] ∧ FreeAt K (a, ns) f zs H' ∧ SrcAt K (a, ns) H' m (2000 * i + 100) 0) (fun D' q' => ?_) (fun σ' H7 ⟨f, zs, y5, hσ, hF7, s7⟩ => ?_))
    · refine ⟨.ref m, rfl, m, 3, _, _, rfl, by decide, by decide, s6, by omega, fun r3 H7 _ _ b7 s7 => ?_⟩
      have hF7 := hF6.but s6 b7
      refine ⟨rfl, _, rfl, ?_⟩
      dsimp only
      split
      · have zl : ((zs.map V.str).length : Int).toNat = zs.length := by rw [List.length_map, Int.toNat_natCast]
        refine lcD (m := m) (v := 5) (n := ((zs.map V.str).length : Int).toNat) (d := 1) (φ := fun _ _ => True) (P := NameV) (fun R hR => ?_) s7 mk_name (by rw [zl]; have := hF7.2.2.2.1; omega) (by rw [zl]; have := hF7.2.2.2.1; omega) (fun j x a' H8 hj _ b8 s8 ha' Q q => ?_) (fun l acc H8 hl8 la pa far8 b8 s8 => ?_)
        · exact ⟨_, rfl, f, _, rfl, .inl (.of hF7.1), _, rfl, by omega, by (rw [List.length_map]; have := hF7.2.2.2.1; omega), hR _ _ _ _ (Same.refl _) walk_range (fun _ _ => trivial) fun i H x H' y => ⟨y.1, trivial⟩⟩
        · have hF8 := hF7.but s7 b8
          refine ⟨.ref m, rfl, _, rfl, 3, rfl, f, _, rfl, .of hF8.1, fun r hr => ?_⟩
          have e3 : cutV (zs.map V.str) none (some 3) = (zs.map V.str).take 3 := cut_take _ 3
          rw [e3]
          have hL : 0 < zs.length := List.length_pos_iff.mpr hF8.2.2.1
          refine ⟨m, r, _, _, _, rfl, upd_same, fun z => ?_, ?_, s8.new hr, by omega, s8.ne hr, fun v H9 hv b9 s9 => q v H9 ((But.refl.new hr).trans b9) s9 ?_⟩
          · have := congrArg List.length z
            rw [List.length_take, List.length_map, List.length_nil] at this
            omega
          · rw [List.length_take]
            omega
          · obtain ⟨z, hz, rfl⟩ := List.mem_map.mp (List.mem_of_mem_take hv)
            exact ⟨z, rfl, hF8.2.1 z hz⟩
        · obtain ⟨zs2, rfl, hz2⟩ := names_of pa
          rw [List.length_map, zl] at la
          have hL : 0 < zs.length := List.length_pos_iff.mpr hF7.2.2.1
          refine q' _ _ ⟨l, zs2, _, rfl, ⟨hl8, hz2, fun z => by (rw [z] at la; simp at la; omega), by have := hF7.2.2.2.1; omega, far8⟩, s8.mono (by rw [zl]; have := hF7.2.2.2.1; omega)⟩
      · exact q' _ _ ⟨f, zs, _, rfl, hF7, s7.mono (by omega)⟩
    subst hσ
    clear hF6 s6
    obtain ⟨z0, hz0, nz0⟩ := hF7.first
    -- d = ..
    dsimp only
    show tSeq _ _ _ _ _
    refine st_tSeq (st_any (R := fun v H' => DI v H' ∧ But m H7 H' ∧ SrcAt K (a, ns) H' m (2000 * i + 400) 0) (fun Q' q' => ?_) (fun v H8 ⟨hd8, b8, s8⟩ => ?_))
    · refine evb_eqV (ev_var rfl) ev_c _ ?_
      split
      · exact ⟨.ref m, rfl, .ref f, rfl, f, _, 0, .str z0, rfl, rfl, .inl (.of hF7.1), hz0, m, z0, _, _, rfl, nz0, s7, by omega, by omega, fun v d H8 dok tw b8 s8 => q' v H8 ⟨⟨1, Sum.inl d, by decide, dok, (by show 1 ≤ 60; decide), tw⟩, b8, s8.mono (by omega)⟩⟩
      · exact ⟨.ref m, rfl, .ref f, rfl, m, f, zs, _, _, rfl, hF7.1, hF7.2.1, hF7.2.2.1, hF7.2.2.2.1, s7, by omega, by omega, fun v n t H8 hn tok tsz tat b8 s8 => q' v H8 ⟨⟨n, t, hn, tok, by omega, tat⟩, b8, s8.mono (by omega)⟩⟩
    have hF8 := hF7.but s7 b8
    clear hF7 s7 b8
    -- if way == 1: ..
    dsimp only
    show tSeq _ _ _ _ _
    refine st_tSeq (st_anyS (fun σ' H' => ∃ (v : V) (y7 : Option V), σ' = [some (.ref a), some (.ref m), some (.int (0 + (i : Nat))), some (.ref f), some (.int wy), y5, some v, y7, x8, x9, x10, x11] ∧ DI v H' ∧ FreeAt K (a, ns) f zs H' ∧ SrcAt K (a, ns) H' m (2000 * i + 600) 0) (fun D' q' => ?_) (fun σ' H9 ⟨v, y7, hσ, hd9, hF9, s9⟩ => ?_))
    · refine st_if (evb_eqV (ev_var rfl) ev_c) ?_
      split
      · refine ⟨.ref m, rfl, .ref f, rfl, f, _, 0, .str z0, rfl, rfl, .inl (.of hF8.1), hz0, ?_⟩
        have c12 : ∀ xs : List V, cutV xs none (some 12) = xs.take 12 := fun xs => cut_take xs 12
        refine lcD (m := m) (v := 7) (n := ((List.replicate 12 (zs.map V.str)).flatten.take 12).length) (d := 7) (φ := fun _ x => NameV x H8) (P := OneW) (fun R hR => ?_) s8 mk_oneW (by rw [List.length_take]; omega) (by rw [List.length_take]; omega) (fun j x a' H9 hj hx b9 s9 ha' Q q => ?_) (fun l acc H9 hl9 la pa far9 b9 s9 => ?_)
        · refine ⟨_, rfl, f, 12, _, rfl, rfl, hF8.1, by decide, by decide, ?_, fun p hp => ⟨12, rfl, p, _, rfl, .of upd_same, fun r hr => ?_⟩⟩
          · rw [List.length_map]
            have := hF8.2.2.2.1
            exact Nat.le_trans (show zs.length * 12 ≤ 1000 by omega) (by decide)
          · rw [c12]
            refine ⟨r, rfl, ⟨_, .of upd_same⟩, hR _ _ _ _ ((same_new hp).trans (same_new hr)) walk_list (fun H10 b10 => .of (b10 _ _ upd_same ?_)) fun i H x H' y => ⟨y.1, ?_⟩⟩
            · exact (s8.new hp).ne hr
            · have hm := List.mem_of_mem_take (List.mem_of_getElem? y.2)
              obtain ⟨ws, hws, hxw⟩ := List.mem_flatten.mp hm
              rw [(List.mem_replicate.mp hws).2] at hxw
              obtain ⟨z, hz, rfl⟩ := List.mem_map.mp hxw
              exact ⟨z, rfl, hF8.2.1 z hz⟩
        · obtain ⟨z, rfl, nz⟩ := hx
          exact ⟨.ref m, rfl, _, rfl, m, z, _, _, rfl, nz, s9, by omega, by omega, fun v d H10 dok tw b10 s10 => q v H10 b10 s10 ⟨d, dok, tw⟩⟩
        · obtain ⟨ts, t1, t2, t3, t4⟩ := workers_of pa
          have la12 : acc.length ≤ 12 := by
            rw [la, List.length_take]
            omega
          refine ⟨m, l, z0, ts, acc, _, _, rfl, nz0, hl9, t2, t3, by omega, s9, by (rw [List.length_take]; omega), by omega, fun v d H10 hok ht b10 s10 => ?_⟩
          refine q' _ _ ⟨v, _, rfl, ⟨2, Sum.inr (d, ts), by decide, hok, ?_, ht⟩, (hF8.but s8 b9).but s9 b10, s10.mono (by rw [List.length_take]; omega)⟩
          show 1 + (ts.map (Told.size 1)).sum ≤ 60
          omega
      · exact q' _ _ ⟨v, _, rfl, hd8, hF8, s8.mono (by omega)⟩
    subst hσ
    clear hF8 s8 hd8
    -- if way > 2: ..
    dsimp only
    show tSeq _ _ _ _ _
    refine st_tSeq (st_anyS (fun σ' H' => ∃ (v : V), σ' = [some (.ref a), some (.ref m), some (.int (0 + (i : Nat))), some (.ref f), some (.int wy), y5, some v, y7, x8, x9, x10, x11] ∧ DI v H' ∧ SrcAt K (a, ns) H' m (2000 * i + 1800) 0) (fun D' q' => ?_) (fun σ' H10 ⟨v, hσ, hd10, s10⟩ => ?_))
    · refine st_if (evb_cmp (ev_var rfl) ev_c) ?_
      split
      · have hz40 := hF9.2.2.2.1
        exact ⟨.ref m, rfl, .ref f, rfl, m, f, zs, _, _, rfl, by decide, by decide, hF9.1, hF9.2.1, hF9.2.2.1, hF9.2.2.2.1, hF9.2.2.2.2, s9, by omega, by omega, fun v t H10 hok ht hsz _ _ s10 => q' _ _ ⟨v, rfl, ⟨7, t, by decide, hok, (by have : Told.size 7 t ≤ zs.length := hsz; omega), ht⟩, s10.mono (by omega)⟩⟩
      · exact q' _ _ ⟨v, rfl, hd9, s9.mono (by omega)⟩
    subst hσ
    clear hF9 s9 hd9 hz0
    obtain ⟨n, t, hn, tok, tsz, tat⟩ := hd10
    have mt := (mk_tat n t).mn
    have mp := (mk_pat (K := K) n t).mn
    -- plan, text = ..
    dsimp only
    show tSeq _ _ _ _ _
    refine st_tSeq (g_par (P := PAt K n t) (P' := Is (.str (Txt.join "\n" ((Told.flat n t 0).map lineI)))) ⟨fun H11 e Q q => ⟨_, rfl, n, hn, v, t, rfl, tok, tsz, hn, mt _ _ _ e tat, fun v' H' s' hp => q v' H' s' hp⟩, mp⟩ (g_lines (fun q hq => ?_) (by rw [flat_len]; exact tsz) fun H11 s11 Q q => ⟨_, rfl, n, hn, v, t, 0, rfl, tok, tsz, by omega, mt _ _ _ s11 tat, q⟩) fun pv tv H11 s11 hp11 ht11 => ?_)
    · have := flat_ok n t 0 tok q hq
      exact ⟨this.1, by omega⟩
    cases ht11
    generalize htx : Txt.join "\n" ((Told.flat n t 0).map lineI) = text at *
    -- told = plan_text(plan)
    have gtext : ∀ {σ : L2.St} {H8 : Hp} {te : TE} {E : XK}, G te σ H8 (PAt K n t) → G (tCall (fun vs H Q E => ∃ n, n ≤ 20 ∧ spText K n vs H Q E) [] E (tCons te tNil)) σ H8 (Is (.str text)) := fun g => ⟨fun H9 e Q q => g.ev H9 e _ fun y H10 s10 hy => ⟨n, hn, y, t, rfl, tok, tsz, hn, hy, fun H' s' => by rw [htx]; exact q _ H' (s10.trans s') rfl⟩, mn_i⟩
    dsimp only
    show tSeq _ _ _ _ _
    refine st_tSeq (g_asg (P := Is (.str text)) (gtext (g_varP rfl hp11 mp)) fun v12 H12 s12 e12 => ?_)
    cases e12
    have hp12 := mp _ _ _ s12 hp11
    dsimp only
    show tSeq _ _ _ _ _
    refine st_tSeq (st_no (evb_or (a := false) (evb_not (b := true) (evb_B (ev_isi (ev_var rfl) ty_str kit_ss))) fun _ => (fun Q q => ⟨_, rfl, _, rfl, rfl, false, by simp, q⟩)) ?_)
    -- again = read_plan(text)
    dsimp only
    show tSeq _ _ _ _ _
    refine st_tSeq (g_asg (P := PAt K n t) ⟨fun H13 e Q q => ⟨_, rfl, n, hn, t, by rw [htx]; rfl, tok, tsz, hn, fun v' H' s' hp => q v' H' s' hp⟩, mp⟩ fun va H13 s13 ha13 => ?_)
    have hp13 := mp _ _ _ s13 hp12
    dsimp only
    show tIfS _ _ _ _ _ _
    refine s_noN (et_or0 (fun H14 s14 Q q => ?_) (et_or0 (fun H14 s14 Q q => ?_) (fun H14 s14 Q q => ?_))) fun H14 s14 => ⟨_, _, _, _, _, _, _, _, _, _, rfl, ((((s10.same s11).same s12).same s13).same s14).mono (by omega)⟩
    · refine ⟨va, rfl, pv, rfl, ?_⟩
      rcases pat_eq (N := 19) n t (by omega) (mp _ _ _ s14 ha13) (mp _ _ _ s14 hp13) with z | z
      · exact .inl ⟨z, fun H' e => ⟨false, rfl, q _ e⟩⟩
      · exact .inr ⟨z, fun H' e => ⟨false, rfl, q _ e⟩⟩
    · refine ⟨pv, rfl, va, rfl, ?_⟩
      rcases pat_eq (N := 19) n t (by omega) (mp _ _ _ s14 hp13) (mp _ _ _ s14 ha13) with z | z
      · exact .inl ⟨z, fun H' e => ⟨false, rfl, q _ e⟩⟩
      · exact .inr ⟨z, fun H' e => ⟨false, rfl, q _ e⟩⟩
    · exact (gtext (g_varP rfl ha13 mp)).ev H14 s14 _ fun y H15 s15 e15 => by
        cases e15
        exact ⟨_, rfl, rfl, false, by simp, q _ s15⟩
end
end W06

set_option Elab.async false
set_option linter.all false
set_option maxRecDepth 100000
set_option maxHeartbeats 0
namespace W06
open PySem PySem.Spec PyProof.Rows L2 WXG WEv WRd WLf
theorem facts {P : Program} {w : World} {K : PySem.W.Frag} {h : Heap} {mg : Str → Option Value} {f : Addr} (X : K.In h) (G : h.Ns mainGlobals mg) (hfa : mg ("law" : Str) = some (.ref f)) (c : WHe.SaysK chk fns K) :
    ∃ fd : FuncData, (∀ (s : Shared) (v : Value), BindsTo s fd ⟨[v], []⟩ [("cells", v)]) ∧ ∀ base : Heap, K.In base → base.Ns mainGlobals mg → FnG P w K mg base CX0 70 f fd ["cells"] (spLaw K) := by
  obtain ⟨T⟩ := env_of X G c
  have e := hfa.symm.trans T.g_law
  have ef : f = d_law.loc K := by
    injection e with e
    injection e
  subst ef
  have b := FunD.bindsA (ps := ["cells"]) T.F_law fun _ _ _ _ _ _ us hl => match us, hl with | [_], _ => rfl
  exact ⟨T.fd_law, fun s v => b s [v] rfl, fun base _ _ => WXG.FnOk.toG (ok_law T)⟩
end W06
open PySem PySem.W PySem.Calls PyProof.Rows
theorem PySem.Challenge.cw_watchtree_k06_texts_written_holds : PySem.Challenge.rw_watchtree_k06_texts_written.Holds := by
  w_on; o_law
  refine HandSHeadRun.head_any (r := OpenLaw.row PySem.Challenge.rw_watchtree_k06_texts_written) (q := view (OpenLaw.row PySem.Challenge.rw_watchtree_k06_texts_written).prog [81]) (H := W06.hk) (ob := W06.ob) (M := 9000) (loose := W06.loose) (d := HandSHeadRun.topDef (OpenLaw.row PySem.Challenge.rw_watchtree_k06_texts_written).prog 81) (kwd := []) W06.ob_eq
    (by kernel_rfl) (fun s => by kernel_rfl) W06.run (by kernel_rfl) (by kernel_rfl) (by kernel_rfl) (by rfl) (by first | assumption | decide +kernel) (by decide +kernel) ⟨rfl, rfl, rfl, rfl, rfl, by decide +kernel⟩ ?hw ?hc
  case hw => w_witness2
  case hc =>
    refine WXG.walk_G (l := PySem.Challenge.rw_watchtree_k06_texts_written) (n := 63) (k := 70) (x := "cells") (CX := L2.CX0) rfl (by decide) (by kernel_rfl) ⟨rfl, by decide, by decide⟩ ?F (fun _ _ _ _ z => z)
    intro w mg fa h Y G hmg0
    obtain ⟨K, KX, c⟩ := Y
    have hmg : mg ("law" : PySem.Str) = some (.ref fa) := by
      have e : (HandSHeadRun.topDef (OpenLaw.row PySem.Challenge.rw_watchtree_k06_texts_written).prog 81).name = ("law" : PySem.Str) := by kernel_rfl
      rw [← e]
      exact hmg0
    obtain ⟨fd, hb, hF⟩ := W06.facts (P := (PySem.Challenge.rw_watchtree_k06_texts_written).prog) (w := w) KX G hmg c
    exact ⟨K, fd, W06.spLaw K, KX, hb, fun H a ns hl _ hS => ⟨a, ns, rfl, hS, hl, fun _ => rfl⟩, hF⟩
