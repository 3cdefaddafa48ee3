import PyProof.Rows.All
import Wide.All
import OpenK.AllK
import Wide.FinOn
import HandS.Base
import HandS.Call
import HandS.Ends
import HandS.Words
import HandS.WordsExc
import HandS.Defaults
import HandS.Head0
import HandS.Head1
import HandS.Head2
import HandS.HeadEnd
import HandS.HeadHook1
import HandS.HeadHook2
import HandS.Property
import PyProof.ReprRoads
import HandS.List
import HandS.Exc
import HandS.OwnEq
import PySem.Challenge.RW_watchtree_k48_whole_longer_times_are_saf
import HandS.Dict
import HandS.Comp
import HandS.WordsList
import HandS.WordsDict
import KE.KStar
import HandS.DictComp
import HandS.MakeKwOnly
import HandS.Star
import HandS.Sort
import HandS.IsInst
import PyProof.NeKinds
import PyProof.StrOps2
import KE.GoesEnum
import KE.GoesEnumKw
import KE.KTurns
import HandS.Iter
import HandS.Walk
import PyProof.Rows.CallKw2
import KE.GoesZip
import KE.KExcInit
import KE.KExcIs
import HandS.ExcInit
import HandS.TryOnly
import HandS.Style
import HandS.Text
import HandS.StrMore
import HandS.Codes
import HandS.RaiseMore
import KE.KRevSl
import PyProof.SeqIndex
import PyProof.Rows.StrCut
import HandS.TryMany
import HandS.TupAny
import PyProof.ReprLen
import PyProof.FitsInt
import HandS.Zip
set_option Elab.async false
set_option linter.all false
set_option maxRecDepth 100000
set_option maxHeartbeats 0
/-! the head's facts by a Bool of one's own -/
namespace WHd
open PySem PySem.Spec PyProof.Rows L2
def obsW (chk : PySem.W.Frag → Bool) (fn : List He.DefD) (K : PySem.W.Frag) : He.AlD := (chk K && fn.all fun d => d.ok K, fn.map fun d => He.fnW K d.at_)
def SaysW (chk : PySem.W.Frag → Bool) (fn : List He.DefD) (K : PySem.W.Frag) : Prop := obsW chk fn K = He.valD fn
def obsWG (n : Nat) (chk : PySem.W.Frag → Bool) (fn : List He.DefD) (g : Addr → Option Obj) : He.AlD := obsW chk fn (He.frG g (sysModules :: cStatics :: He.asD g n))
def hookW (n : Nat) (chk : PySem.W.Frag → Bool) (fn : List He.DefD) : PySem.W.Hook where
  α := He.AlD
  obs := fun s => obsWG n chk fn s.heap.get?
  val := fun _ => He.valD fn
  says := fun _ h => ∃ K : PySem.W.Frag, K.In h ∧ SaysW chk fn K
  of := fun _ _ e => ⟨_, He.frG_in, e⟩
  keeps := fun _ _ _ ⟨K, hK, c⟩ k => ⟨K, PySem.W.Frag.In.keeps hK k, c⟩
theorem obsWG_eq {n : Nat} {chk : PySem.W.Frag → Bool} {fn : List He.DefD} {g : Addr → Option Obj} {s : Shared} (h : ∀ a, g a = s.heap.get? a) : obsWG n chk fn g = (hookW n chk fn).obs s := by
  have e : g = s.heap.get? := funext h
  rw [e] <;> rfl
section
variable {chk : PySem.W.Frag → Bool} {fn : List He.DefD} {K : PySem.W.Frag}
theorem SaysW.chk_ (c : SaysW chk fn K) : chk K = true :=
  (He.ba (show (chk K && fn.all fun d => d.ok K) = true from congrArg (fun z : He.AlD => z.1) c)).1
theorem SaysW.def_ (c : SaysW chk fn K) (i : Nat) {d : He.DefD} (h : fn[i]? = some d := by rfl) : ∃ fd, FunD K d.name d.qual d.params d.body d.scope (d.dvs K) (d.kws K) (He.fAd K d.at_) fd := by
  have c2 := (He.ba (show (chk K && fn.all fun d => d.ok K) = true from congrArg (fun z : He.AlD => z.1) c)).2
  have e : fn.map (fun d => He.fnW K d.at_) = fn.map He.DefD.val := congrArg (fun z : He.AlD => z.2) c
  have e2 : (fn.map fun d => He.fnW K d.at_)[i]? = (fn.map He.DefD.val)[i]? := by rw [e]
  rw [List.getElem?_map, List.getElem?_map, h] at e2
  exact He.DefD.funD (Option.some.inj e2) (List.all_eq_true.mp c2 d (List.mem_of_getElem? h))
end
end WHd

set_option Elab.async false
set_option linter.all false
set_option maxRecDepth 100000
set_option maxHeartbeats 0
/-! the head's facts, defs found by any path (getters too) -/
namespace WHe
open PySem PySem.Spec PyProof.Rows L2
structure DefP where
  loc : PySem.W.Frag → Addr
  name : Str
  qual : Str
  params : Arguments
  body : List Stmt
  scope : Scope
def DefP.val (d : DefP) : He.FnW := some (d.name, d.qual, d.params, .stmts d.body, d.scope, mainGlobals, [], builtinsNs)
def obsP (K : PySem.W.Frag) (a : Addr) : He.FnW := match K.lookup a with
  | some ⟨_, _, .func fd, _⟩ => some (fd.name, fd.qualname, fd.params, fd.body, fd.scope, fd.globals, fd.closure, fd.builtins)
  | _ => none
def DefP.ok (K : PySem.W.Frag) (d : DefP) : Bool := PySem.W.keepIn K (.ref (d.loc K)) && (match K.lookup (d.loc K) with
  | some ⟨_, _, .func fd, _⟩ => PySem.W.codeIn K fd.code d.qual && He.dflB K fd.defaults []
  | _ => false)
theorem DefP.funD {K : PySem.W.Frag} {d : DefP} (e : obsP K (d.loc K) = d.val) (c : d.ok K = true) : ∃ fd, FunD K d.name d.qual d.params d.body d.scope [] [] (d.loc K) fd := by
  obtain ⟨kp, c2⟩ := He.ba c
  unfold obsP at e
  generalize hl : K.lookup (d.loc K) = lo at c2 e
  match lo with
  | none => cases c2
  | some ⟨oc, od, dt, osl⟩ =>
    cases dt with
    | func fd =>
      cases fd
      rename_i n1 n2 n3 n4 n5 n6 n7 n8 n9 n10 n11 n12 n13 n14 n15
      simp only [DefP.val, Option.some.injEq, Prod.mk.injEq] at e
      obtain ⟨rfl, rfl, rfl, rfl, rfl, rfl, rfl, rfl⟩ := e
      obtain ⟨k1, k2⟩ := He.ba c2
      exact ⟨_, ⟨oc, od, n8, n9, n10, n11, n12, n13, n14, osl, rfl, hl, k1, He.dflB_ok k2, .inl rfl⟩, kp⟩
    | _ => cases c2
def obsK (chk : PySem.W.Frag → Bool) (fn : List DefP) (K : PySem.W.Frag) : He.AlD := (chk K && fn.all fun d => d.ok K, fn.map fun d => obsP K (d.loc K))
def valK (fn : List DefP) : He.AlD := (true, fn.map DefP.val)
def SaysK (chk : PySem.W.Frag → Bool) (fn : List DefP) (K : PySem.W.Frag) : Prop := obsK chk fn K = valK fn
def obsKG (n : Nat) (chk : PySem.W.Frag → Bool) (fn : List DefP) (g : Addr → Option Obj) : He.AlD := obsK chk fn (He.frG g (sysModules :: cStatics :: He.asD g n))
def hookK (n : Nat) (chk : PySem.W.Frag → Bool) (fn : List DefP) : PySem.W.Hook where
  α := He.AlD
  obs := fun s => obsKG n chk fn s.heap.get?
  val := fun _ => valK fn
  says := fun _ h => ∃ K : PySem.W.Frag, K.In h ∧ SaysK chk fn K
  of := fun _ _ e => ⟨_, He.frG_in, e⟩
  keeps := fun _ _ _ ⟨K, hK, c⟩ k => ⟨K, PySem.W.Frag.In.keeps hK k, c⟩
theorem obsKG_eq {n : Nat} {chk : PySem.W.Frag → Bool} {fn : List DefP} {g : Addr → Option Obj} {s : Shared} (h : ∀ a, g a = s.heap.get? a) : obsKG n chk fn g = (hookK n chk fn).obs s := by
  have e : g = s.heap.get? := funext h
  rw [e] <;> rfl
section
variable {chk : PySem.W.Frag → Bool} {fn : List DefP} {K : PySem.W.Frag}
theorem SaysK.chk_ (c : SaysK chk fn K) : chk K = true := (He.ba (show (chk K && fn.all fun d => d.ok K) = true from congrArg (fun z : He.AlD => z.1) c)).1
theorem SaysK.def_ (c : SaysK chk fn K) (i : Nat) {d : DefP} (h : fn[i]? = some d := by rfl) : ∃ fd, FunD K d.name d.qual d.params d.body d.scope [] [] (d.loc K) fd := by
  have c2 := (He.ba (show (chk K && fn.all fun d => d.ok K) = true from congrArg (fun z : He.AlD => z.1) c)).2
  have e : fn.map (fun d => obsP K (d.loc K)) = fn.map DefP.val := congrArg (fun z : He.AlD => z.2) c
  have e2 : (fn.map fun d => obsP K (d.loc K))[i]? = (fn.map DefP.val)[i]? := by rw [e]
  rw [List.getElem?_map, List.getElem?_map, h] at e2
  exact DefP.funD (Option.some.inj e2) (List.all_eq_true.mp c2 d (List.mem_of_getElem? h))
end
/-! ### classes of data -/
/-- the getter of a property -/
def pgAd (K : PySem.W.Frag) (C f : Str) : Addr := match PySem.W.recIn K (He.ma K (He.ga K C) f) "property" with
  | some (.ref g :: _) => g
  | _ => 0
def propB (K : PySem.W.Frag) (C f : Str) : Bool := decide (PySem.W.findIn K (.ref (He.ga K C)) f = some (some (.ref (He.ma K (He.ga K C) f)))) && (decide (PySem.W.specialIn K (.ref (He.ma K (He.ga K C) f)) "__get__" = some (some (.builtin "property.__get__"))) &&
  (decide (PySem.W.takesIn K (.ref (He.ma K (He.ga K C) f)) = some true) && (match PySem.W.recIn K (He.ma K (He.ga K C) f) "property" with
    | some (.ref _ :: _) => true
    | _ => false)))
theorem propB_ok {K : PySem.W.Frag} {C f : Str} (h : propB K C f = true) : PropOf K (He.ga K C) f (He.ma K (He.ga K C) f) (pgAd K C f) := by
  obtain ⟨h1, h⟩ := He.ba h
  obtain ⟨h2, h⟩ := He.ba h
  obtain ⟨h3, h4⟩ := He.ba h
  refine ⟨of_decide_eq_true h1, of_decide_eq_true h2, of_decide_eq_true h3, ?_⟩
  unfold pgAd
  split at h4
  · rename_i g r e
    exact ⟨r, by rw [e]⟩
  · cases h4
/-- the method m of C stands at D's -/
def methB (K : PySem.W.Frag) (C m D : Str) : Bool := decide (PySem.W.findIn K (.ref (He.ga K C)) m = some (some (.ref (He.fAd K (D, some m))))) && (PySem.W.isFn K (.ref (He.fAd K (D, some m))) && PySem.W.keepIn K (.ref (He.fAd K (D, some m))))
theorem methB_ok {K : PySem.W.Frag} {C m D : Str} (h : methB K C m D = true) : Meth K (He.ga K C) m (He.fAd K (D, some m)) := by
  obtain ⟨h1, h⟩ := He.ba h
  obtain ⟨h2, h3⟩ := He.ba h
  exact ⟨of_decide_eq_true h1, h2, h3⟩
/-- what isinstance, ==, != ask of a class of data -/
structure DatC (K : PySem.W.Frag) (C : Addr) (e : Addr) : Prop where
  cls : Cls K C
  ca : PySem.W.findIn K (.ref C) "__class__" = some (some (.builtin "object.__class__"))
  cn : PySem.W.specialIn K (.builtin "object.__class__") "__get__" = some (some (.builtin "getset_descriptor.__get__"))
  ct : PySem.W.takesIn K (.builtin "object.__class__") = some true
  ob : PySem.W.mroIn K C (.type "object") = some true
  ne : PySem.W.findIn K (.ref C) "__ne__" = some (some (.builtin "object.__ne__"))
  eq : PySem.W.findIn K (.ref C) "__eq__" = some (some (.ref e))
  fn : PySem.W.isFn K (.ref e) = true
def datB (K : PySem.W.Frag) (C : Str) : Bool := (He.Fa.cls C).ok K && (decide (PySem.W.findIn K (.ref (He.ga K C)) "__class__" = some (some (.builtin "object.__class__"))) && (decide (PySem.W.specialIn K (.builtin "object.__class__") "__get__" = some (some (.builtin "getset_descriptor.__get__"))) &&
  (decide (PySem.W.takesIn K (.builtin "object.__class__") = some true) && (decide (PySem.W.mroIn K (He.ga K C) (.type "object") = some true) && (decide (PySem.W.findIn K (.ref (He.ga K C)) "__ne__" = some (some (.builtin "object.__ne__"))) &&
  (decide (PySem.W.findIn K (.ref (He.ga K C)) "__eq__" = some (some (.ref (He.fAd K (C, some "__eq__"))))) && PySem.W.isFn K (.ref (He.fAd K (C, some "__eq__")))))))))
theorem datB_ok {K : PySem.W.Frag} {C : Str} (h : datB K C = true) : DatC K (He.ga K C) (He.fAd K (C, some "__eq__")) := by
  obtain ⟨h1, h⟩ := He.ba h
  obtain ⟨h2, h⟩ := He.ba h
  obtain ⟨h3, h⟩ := He.ba h
  obtain ⟨h4, h⟩ := He.ba h
  obtain ⟨h5, h⟩ := He.ba h
  obtain ⟨h6, h⟩ := He.ba h
  obtain ⟨h7, h8⟩ := He.ba h
  exact ⟨He.cls_ok h1, of_decide_eq_true h2, of_decide_eq_true h3, of_decide_eq_true h4, of_decide_eq_true h5, of_decide_eq_true h6, of_decide_eq_true h7, h8⟩
def kitB (K : PySem.W.Frag) (q : Str × Str × Bool) : Bool := decide (PySem.W.kitOne K (.ref (He.ga K q.1)) (.ref (He.ga K q.2.1)) = some q.2.2)
def sysB (K : PySem.W.Frag) : Bool := match K.lookup sysModules with
  | some o => decide (o.cls = .type "dict")
  | none => false
theorem sysB_ok {K : PySem.W.Frag} (h : sysB K = true) : ∃ o, K.lookup sysModules = some o ∧ o.cls = .type "dict" := by
  unfold sysB at h
  split at h
  · rename_i o e
    exact ⟨o, e, of_decide_eq_true h⟩
  · cases h
end WHe

set_option Elab.async false
set_option linter.all false
set_option maxRecDepth 100000
set_option maxHeartbeats 4000000
/-! defs that are called where no repr is under way (the law's own def): repr of lists, tuples and empty dicts -/
namespace WXG
open PySem PySem.Spec PyProof.Rows L2
/-- a def's promise, where no repr is under way -/
structure FnG (P : Program) (w : World) (K : PySem.W.Frag) (mg : Str → Option Value) (base : Heap) (CX : CXT) (k : Nat) (f : Addr) (fd : FuncData) (ps : List Str) (sp : Sp) : Prop where
  len : ∀ vs H Q E, sp vs H Q E → vs.length = ps.length
  run : ∀ (A : Around) (outer : List Env) (s : Shared) (H : Hp) (args : Args) (us : List Value) (vs : List V) (Q : VK) (E : XK), Room k A → A.guards = some [] → Env0 P w K mg base A outer s H →
    BindsTo s fd args (ps.zip us) → Vals vs us → sp vs H Q E → codeAny (model P w) A (.call (.ref f) args) (CR CX outer P w H s Q E) s
section
variable {CX : CXT} {P : Program} {w : World} {K : PySem.W.Frag} {mg : Str → Option Value} {base : Heap} {k : Nat} {f : Addr} {x qual : Str} {params : Arguments} {body : List Stmt} {scope : Scope} {dvs : List V} {kws : List (Str × V)} {fd : FuncData} {N ps : List Str} {sp : Sp}
theorem FnG.of (F : FunD K x qual params body scope dvs kws f fd) (S : FnScope N ps scope) (len : ∀ vs H Q E, sp vs H Q E → vs.length = ps.length)
    (hbody : ∀ (cdv : Value) (A : Around) (outer : List Env) (s : Shared) (H : Hp) (vs : List V) (Q : VK) (E : XK), Room k (A.deeper (envOfC qual scope s.heap.objs.size f cdv)) → (A.deeper (envOfC qual scope s.heap.objs.size f cdv)).guards = some [] → sp vs H Q E →
      ∃ t, PSs (cxOf CX P w K mg base N qual scope f cdv A outer s H E) body t ∧ t { nx := fun _ H' => Q .non H', rt := Q } (start N vs) H) : FnG P w K mg base CX (k + 1) f fd ps sp := by
  obtain ⟨oc, od, dV, kV, doc, pm, an, cdv, ct, osl, rfl, lk, hcd, _, _⟩ := F.ex
  refine ⟨len, fun A outer s H args us vs Q E hr hg e0 hb r hsp => ?_⟩
  have KX : K.In s.heap := e0.mod.kin.keeps fun b o e => (e0.bs b o e).1
  have lim : s.heap.NoLimit := e0.mod.nolimit.keeps fun b o e => (e0.bs b o e).1
  refine codeAny_call_function hr.depth (KX _ _ lk) rfl S.co S.gen rfl (PySem.W.codeRec_of KX hcd) (hb _ _ _ _ (wpAny_newFunctionEnv_cells S.kind (fun y hy => ?_) fun env he s1 x => ?_))
  · rcases S.par y.1 (List.of_mem_zip hy).1 with q | q
    · exact .inl q
    · exact .inr ⟨q, PySem.W.cellsFrom_some _ _ _ (.inl q)⟩
  subst he
  obtain ⟨t, ht, hq⟩ := hbody cdv A outer s H vs Q E (hr.deeper _) hg hsp
  refine ⟨lim.keeps x.toInCall.keep, codeAny_func (wpAny_mono (ht.run [] s1 (start N vs) H _ (inv_start S hr.hd e0 (len _ _ _ _ hsp) r x) hq) (fun fl s' hs => ?_) fun _ _ z => z)⟩
  cases fl with
  | ret u =>
    obtain ⟨v, σ', H', J, rv, q⟩ := hs
    exact ⟨v, H', J.os, J.bare, J.base, J.hok, rv, q⟩
  | next =>
    obtain ⟨σ', H', J, q⟩ := hs
    exact ⟨.non, H', J.os, J.bare, J.base, J.hok, rfl, q⟩
  | brk =>
    obtain ⟨_, _, _, q⟩ := hs
    exact q.elim
  | cont =>
    obtain ⟨_, _, _, q⟩ := hs
    exact q.elim
theorem FnOk.toG {fd : FuncData} (F : FnOk P w K mg base CX k f fd ps sp) : FnG P w K mg base CX k f fd ps sp := ⟨F.len, fun A outer s H args us vs Q E hr _ e0 hb r h => F.run A outer s H args us vs Q E hr e0 hb r h⟩
end

/-! ### the end of a law's row -/
theorem hid_ns {h : Heap} {H : Hp} {b : Addr} {m : Str → Option Value} (n : H b = none) (z : h.Ns b m) : (hidT h H).Ns b m := by
  obtain ⟨o, es, ep, e, d, r⟩ := z
  exact ⟨o, es, ep, hidT_get e n, d, r⟩
theorem law_callG {P : Program} {w : World} {K : PySem.W.Frag} {mg mb : Str → Option Value} {CX : CXT} {k : Nat} {fa a : Addr} {fd : FuncData} {x : Str} {sp : Sp} {s₁ : Shared} {vs : List Value} {ns : List Int}
    (KX : K.In s₁.heap) (hns : s₁.heap.Ns mainGlobals mg) (hb : s₁.heap.Ns builtinsNs mb) (hbb : ∀ x : Str, x ≠ "__name__" → mb x = bootBuiltins x) (hlim : s₁.heap.NoLimit) (hg : s₁.gens = #[])
    (ha : s₁.heap.get? a = some { cls := .type "list", data := .seq vs.toArray }) (hi : IntsAre vs ns) (hl : ns.length ≤ sizeLine) (hr : Room k callerA)
    (F : ∀ base : Heap, K.In base → base.Ns mainGlobals mg → FnG P w K mg base CX k fa fd [x] sp) (hbind : ∀ (s : Shared) (u : Value), BindsTo s fd ⟨[u], []⟩ [(x, u)])
    (hsp : ∀ H : Hp, Only H → SqL K H a (ns.map V.int) → sp [.ref a] H (fun v _ => v = .bl true) fun _ _ _ => False)
    (hCX : ∀ H e s', CX [] H s₁ (fun _ _ _ => False) e s' → False) :
    codeAny (model P w) callerA (.call (.ref fa) ⟨[.ref a], []⟩) (fun r s' => r = .ok (.ret (.bool true)) ∧ OldK s₁.heap s'.heap ∧ s'.os = s₁.os ∧ AllBare s'.gens) s₁ := by
  have lenV := hi.length
  have rv : Vals (ns.map V.int) vs := vals_ints hi
  have go : ∀ H : Hp, Only H → SqL K H a (ns.map V.int) → HOk P w H s₁.heap → (∀ b, H b ≠ none → b = a) → (H a ≠ none → K.lookup a = none) →
      codeAny (model P w) callerA (.call (.ref fa) ⟨[.ref a], []⟩) (fun r s' => r = .ok (.ret (.bool true)) ∧ OldK s₁.heap s'.heap ∧ s'.os = s₁.os ∧ AllBare s'.gens) s₁ := by
    intro H hO hS hok hA hK
    have isA : ∀ {b : Addr} {u : HO}, H b = some u → b = a := fun {b u} q => hA b (by rw [q]; exact fun z => nomatch z)
    have nsN : ∀ {b : Addr} {m : Str → Option Value}, s₁.heap.Ns b m → H b = none := fun {b m} z => by
      obtain ⟨o, es, ep, e, d, _⟩ := z
      cases q : H b with
      | none => rfl
      | some u =>
        rw [isA q, ha] at e
        cases e
        cases d
    have hKb : K.In (hidT s₁.heap H) := fun b o e => hidT_get (KX b o e) (by
      cases q : H b with
      | none => rfl
      | some u =>
        have eb := isA q
        subst eb
        rw [hK (by rw [q]; exact fun z => nomatch z)] at e
        cases e)
    have nsB : (hidT s₁.heap H).Ns mainGlobals mg := hid_ns (nsN hns) hns
    obtain ⟨mc, hm1, hm2⟩ := hlim
    have e0 : Env0 P w K mg (hidT s₁.heap H) callerA [] s₁ H := ⟨rfl, ⟨hKb, nsB, ⟨mb, hid_ns (nsN hb) hb, hbb⟩, ⟨mc, hid_ns (nsN hm1) hm1, hm2⟩⟩, fun b o e => of_hidT e, Nat.le_of_eq (hidT_size _ _), trivial, fun b z => (nomatch (show b ∈ ([] : List Addr) from z)), hok, .of_eq hg⟩
    refine codeAny_mono ((F _ hKb nsB).run callerA [] s₁ H ⟨[.ref a], []⟩ [.ref a] [.ref a] _ _ hr rfl e0 (hbind s₁ (.ref a)) (.cons rfl .nil) (hsp H hO hS)) fun r s' h => ?_
    cases r with
    | error e => exact (hCX H e s' h).elim
    | ok fl =>
      cases fl with
      | next => exact h.elim
      | brk => exact h.elim
      | cont => exact h.elim
      | ret u =>
        obtain ⟨v, H', os, bare, un, hok', r', q⟩ := h
        obtain rfl : v = .bl true := q
        obtain rfl : u = Value.bool true := r'
        refine ⟨rfl, OldK.of_keep fun b o e => ?_, os, bare⟩
        cases q : H b with
        | none => exact un.keep b o e q (fun z => nomatch (show b ∈ ([] : List Addr) from z)) (fun z => nomatch z)
        | some u =>
          rcases hO b with z | ⟨ob, xs, z⟩
          · rw [q] at z
            cases z
          · obtain ⟨e1, _⟩ := hok b _ z
            obtain ⟨e2, _⟩ := hok' b _ (un.frzs b ob _ z)
            rw [e] at e1
            cases e1
            exact e2
  cases hk : K.lookup a with
  | some o =>
    have e := KX a o hk
    rw [ha] at e
    cases e
    exact go (fun _ => none) (fun _ => .inl rfl) (.inr ⟨_, vs.toArray, _, hk, rfl, rfl, rfl, by rw [List.size_toArray, lenV]; exact hl, by simpa using rv⟩) (fun b u z => nomatch (show (none : Option HO) = some u from z)) (fun b z => absurd rfl z) fun z => absurd rfl z
  | none =>
    refine go (fun b => if b = a then some (.frz { cls := .type "list", data := .seq vs.toArray } (.lst (ns.map V.int))) else none) (fun b => ?_) (.inl (.inr ⟨_, if_pos rfl⟩)) (fun b u z => ?_) (fun b z => ?_) fun _ => hk
    · by_cases hb : b = a
      · exact .inr ⟨_, _, if_pos hb⟩
      · exact .inl (if_neg hb)
    · by_cases hb : b = a
      · have z' := (if_pos hb).symm.trans z
        cases z'
        subst hb
        exact ⟨ha, by rw [List.length_map]; exact hl, vs, _, rv, ha⟩
      · exact nomatch (if_neg hb).symm.trans z
    · by_cases hb : b = a
      · exact hb
      · exact absurd (if_neg hb) z
theorem walk_G {l : PySem.W.OpenLaw} {n k : Nat} {q : Program} {loose : List Str} {XP : (Str → Option Value) → Heap → Prop} {YP : World → Heap → Prop} {d : DefRec} {CX : CXT} {x : Str}
    (hn : l.most = some n) (hn2 : n ≤ sizeLine) (hdf : d.params.defaults = []) (hr : Room k callerA)
    (F : ∀ (w : World) (mg : Str → Option Value) (fa : Addr) (h : Heap), YP w h → h.Ns mainGlobals mg → mg d.name = some (.ref fa) →
      ∃ (K : PySem.W.Frag) (fd : FuncData) (sp : Sp), K.In h ∧ (∀ (s : Shared) (u : Value), BindsTo s fd ⟨[u], []⟩ [(x, u)]) ∧
        (∀ (H : Hp) (a : Addr) (ns : List Int), ns.length ≤ n → Only H → SqL K H a (ns.map V.int) → sp [.ref a] H (fun v _ => v = .bl true) fun _ _ _ => False) ∧
        ∀ base : Heap, K.In base → base.Ns mainGlobals mg → FnG l.prog w K mg base CX k fa fd [x] sp)
    (hCX : ∀ (H : Hp) (s : Shared) (e : Value) (s' : Shared), CX [] H s (fun _ _ _ => False) e s' → False) :
    PySem.W.WalkO q loose XP YP l.row.toRowW d [] (fun f vs => PySem.call f vs) := by
  refine Att.attach_call hn hdf fun w s₀ s₁ mg mb fa o pm cd doc a vs ns G Y ho hd hcd hmg hobj hints hlen hg => ?_
  obtain ⟨K, fd, sp, KX, hb, hsp, hF⟩ := F w mg fa _ Y G.T.g hmg
  exact law_callG KX G.T.g G.T.b G.T.builtins G.T.nolimit hg hobj hints (Nat.le_trans hlen hn2) hr hF hb (fun H hO hS => hsp H a ns hlen hO hS) fun H e s' => hCX H s₁ e s'

/-! ### repr -/
mutual
/-- data: lists, tuples, empty dicts, flat ones -/
inductive Dq (K : PySem.W.Frag) (H : Hp) : V → PyData → Prop
  | non : Dq K H .non .none
  | bl (b : Bool) : Dq K H (.bl b) (.bool b)
  | int (i : Int) : Dq K H (.int i) (.int i)
  | str (x : Str) : Dq K H (.str x) (.str x)
  | lst {a : Addr} {xs : List V} {ds : List PyData} : SqL K H a xs → DqAll K H xs ds → Dq K H (.ref a) (.list ds)
  | tup {a : Addr} {xs : List V} {ds : List PyData} : SqT K H a xs → DqAll K H xs ds → Dq K H (.ref a) (.tuple ds)
  | emp {a : Addr} : H a = some (.dK []) → Dq K H (.ref a) (.dict [])
inductive DqAll (K : PySem.W.Frag) (H : Hp) : List V → List PyData → Prop
  | nil : DqAll K H [] []
  | cons {v : V} {vs : List V} {d : PyData} {ds : List PyData} : Dq K H v d → DqAll K H vs ds → DqAll K H (v :: vs) (d :: ds)
end
section
variable {X : Cx} {pins : List (Addr × Obj)} {σ : L2.St} {H : Hp} {s : Shared}
/-- the table of modules is the head's -/
def SysK (K : PySem.W.Frag) : Prop := ∃ o, K.lookup sysModules = some o ∧ o.cls = .type "dict"
theorem ne_sys (I : Inv X pins σ H s) (S : SysK X.K) {a : Addr} {o : Obj} (ho : s.heap.get? a = some o) (hc : o.cls = .type "list") : a ≠ sysModules := fun e => by
  obtain ⟨o', h1, h2⟩ := S
  have q := I.kIn _ _ h1
  rw [← e, ho] at q
  cases q
  rw [hc] at h2
  exact absurd h2 (by decide)
mutual
theorem Dq.reads (I : Inv X pins σ H s) (S : SysK X.K) : ∀ (d : PyData) (v : V) (u : Value), Dq X.K H v d → RelV v u → ∃ as, Reads s.heap u d as ∧ sysModules ∉ as
  | .none, _, _, h, r => by
    cases h; cases r
    exact ⟨_, Reads.none, fun z => nomatch z⟩
  | .bool b, _, _, h, r => by
    cases h; cases r
    exact ⟨_, Reads.bool b, fun z => nomatch z⟩
  | .int i, _, _, h, r => by
    cases h
    obtain ⟨t, rfl⟩ := r
    exact ⟨_, Reads.int i t, fun z => nomatch z⟩
  | .str x, _, _, h, r => by
    cases h
    obtain ⟨t, rfl⟩ := r
    exact ⟨_, Reads.str x t, fun z => nomatch z⟩
  | .list ds, _, _, h, r => by
    cases h with
    | lst hs ha =>
      cases r
      obtain ⟨its, rv, ⟨o, n, ho, hc, _, hd⟩, _⟩ := I.list hs
      obtain ⟨as, hr, hn⟩ := DqAll.reads I S ds _ its ha rv
      refine ⟨_, Reads.list ho hc hd hr, fun z => ?_⟩
      rcases List.mem_cons.mp z with z | z
      · exact ne_sys I S ho hc z.symm
      · exact hn z
  | .tuple ds, _, _, h, r => by
    cases h with
    | tup hs ha =>
      cases r
      obtain ⟨its, rv, ⟨o, ho, hc, n, hd⟩, _⟩ := I.tuple hs
      obtain ⟨as, hr, hn⟩ := DqAll.reads I S ds _ its ha rv
      exact ⟨_, Reads.tuple ho hc hd hr, hn⟩
  | .dict kvs, _, _, h, r => by
    cases h with
    | emp ha =>
      cases r
      obtain ⟨_, hsy, vs, rv, o, es, ep, ho, hx, hd, _, he, _⟩ := I.hok _ _ ha
      cases rv
      have e0 : es.toList = [] := List.length_eq_zero_iff.mp he.length
      refine ⟨_, Reads.dict ho hx.1 hd (as := []) (bs := []) (by rw [e0]; exact ReadsAll.nil) (by rw [e0]; exact ReadsAll.nil), fun z => ?_⟩
      rcases List.mem_cons.mp z with z | z
      · rw [← z] at hsy
        exact absurd hsy (by decide)
      · exact nomatch z
theorem DqAll.reads (I : Inv X pins σ H s) (S : SysK X.K) : ∀ (ds : List PyData) (vs : List V) (us : List Value), DqAll X.K H vs ds → Vals vs us → ∃ as, ReadsAll s.heap us ds as ∧ sysModules ∉ as
  | [], _, _, h, r => by
    cases h; cases r
    exact ⟨_, ReadsAll.nil, fun z => nomatch z⟩
  | d :: ds, _, _, h, r => by
    cases h with
    | cons h1 h2 =>
      cases r with
      | cons r1 r2 =>
        obtain ⟨as, q1, n1⟩ := Dq.reads I S d _ _ h1 r1
        obtain ⟨bs, q2, n2⟩ := DqAll.reads I S ds _ _ h2 r2
        refine ⟨_, ReadsAll.cons q1 q2, fun z => ?_⟩
        rcases List.mem_append.mp z with z | z
        · exact n1 z
        · exact n2 z
end
/-- repr(v), v an object -/
def rRepr (K : PySem.W.Frag) : List V → Hp → VK → Prop := fun xs H Q => ∃ (a : Addr) (d : PyData), xs = [.ref a] ∧ Dq K H (.ref a) d ∧ d.showable = true ∧ d.depth ≤ 60 ∧ d.shown.length ≤ sizeLine ∧ Q (.str d.shown) H
theorem call_reprQ (S : SysK X.K) (hg : X.A.guards = some []) (hu : X.A.units + 64 < cLine) : CallR X (.builtin "repr") (rRepr X.K) := by
  intro pins s σ H xs us Q I r h
  obtain ⟨a, d, rfl, hd, hs, hdp, hz, q⟩ := h
  cases r with
  | cons rx rr =>
    cases rr
    cases rx
    obtain ⟨as, hr, hn⟩ := Dq.reads I S d _ _ hd rfl
    exact repr_of_reads' hr hs (fun _ => hn) hg (by omega) (fun _ _ z => z) (fun h' u tk kk => ⟨.str d.shown, H, I.kept kk, ⟨u, rfl⟩, q⟩) hz
end
end WXG

set_option Elab.async false
set_option linter.all false
set_option maxRecDepth 100000
set_option maxHeartbeats 4000000
namespace W48
open PySem PySem.Spec PyProof.Rows L2
def inClass (s : Stmt) (i : Nat) : Stmt := match s with
  | .ClassDef (body := b) .. => b.getD i (.Pass ⟨0, 0, 0, 0⟩)
  | _ => .Pass ⟨0, 0, 0, 0⟩
def top (i : Nat) : Stmt := PySem.Challenge.pw_watchtree_k48_whole_longer_times_are_saf.main.body.getD i (.Pass ⟨0, 0, 0, 0⟩)
abbrev s_is_word : Stmt := top 20
def d_is_word : WHe.DefP := ⟨fun K => He.fAd K ("is_word", none), "is_word", "is_word", defArgs s_is_word, defBody s_is_word, defScope s_is_word⟩
theorem sc_is_word : FnScope ["value", "sign"] ["value"] (defScope s_is_word) := ⟨rfl, rfl, rfl, by decide +kernel, rfl, by decide +kernel, by decide +kernel⟩
abbrev s_is_name : Stmt := top 21
def d_is_name : WHe.DefP := ⟨fun K => He.fAd K ("is_name", none), "is_name", "is_name", defArgs s_is_name, defBody s_is_name, defScope s_is_name⟩
theorem sc_is_name : FnScope ["value"] ["value"] (defScope s_is_name) := ⟨rfl, rfl, rfl, by decide +kernel, rfl, by decide +kernel, by decide +kernel⟩
abbrev s_is_between : Stmt := top 22
def d_is_between : WHe.DefP := ⟨fun K => He.fAd K ("is_between", none), "is_between", "is_between", defArgs s_is_between, defBody s_is_between, defScope s_is_between⟩
theorem sc_is_between : FnScope ["value", "low", "high"] ["value", "low", "high"] (defScope s_is_between) := ⟨rfl, rfl, rfl, by decide +kernel, rfl, by decide +kernel, by decide +kernel⟩
abbrev s_wrong_row : Stmt := top 39
def d_wrong_row : WHe.DefP := ⟨fun K => He.fAd K ("wrong_row", none), "wrong_row", "wrong_row", defArgs s_wrong_row, defBody s_wrong_row, defScope s_wrong_row⟩
theorem sc_wrong_row : FnScope ["script", "known", "index", "row"] ["script"] (defScope s_wrong_row) := ⟨rfl, rfl, rfl, by decide +kernel, rfl, by decide +kernel, by decide +kernel⟩
abbrev s_is_script : Stmt := top 40
def d_is_script : WHe.DefP := ⟨fun K => He.fAd K ("is_script", none), "is_script", "is_script", defArgs s_is_script, defBody s_is_script, defScope s_is_script⟩
theorem sc_is_script : FnScope ["value"] ["value"] (defScope s_is_script) := ⟨rfl, rfl, rfl, by decide +kernel, rfl, by decide +kernel, by decide +kernel⟩
abbrev s_is_one_of : Stmt := top 53
def d_is_one_of : WHe.DefP := ⟨fun K => He.fAd K ("is_one_of", none), "is_one_of", "is_one_of", defArgs s_is_one_of, defBody s_is_one_of, defScope s_is_one_of⟩
theorem sc_is_one_of : FnScope ["value", "words"] ["value", "words"] (defScope s_is_one_of) := ⟨rfl, rfl, rfl, by decide +kernel, rfl, by decide +kernel, by decide +kernel⟩
abbrev s_is_deadline : Stmt := top 54
def d_is_deadline : WHe.DefP := ⟨fun K => He.fAd K ("is_deadline", none), "is_deadline", "is_deadline", defArgs s_is_deadline, defBody s_is_deadline, defScope s_is_deadline⟩
theorem sc_is_deadline : FnScope ["value"] ["value"] (defScope s_is_deadline) := ⟨rfl, rfl, rfl, by decide +kernel, rfl, by decide +kernel, by decide +kernel⟩
abbrev s_require : Stmt := top 55
def d_require : WHe.DefP := ⟨fun K => He.fAd K ("require", none), "require", "require", defArgs s_require, defBody s_require, defScope s_require⟩
theorem sc_require : FnScope ["rows", "setting", "is_fine"] ["rows"] (defScope s_require) := ⟨rfl, rfl, rfl, by decide +kernel, rfl, by decide +kernel, by decide +kernel⟩
abbrev s_is_supervisor : Stmt := top 58
def d_is_supervisor : WHe.DefP := ⟨fun K => He.fAd K ("is_supervisor", none), "is_supervisor", "is_supervisor", defArgs s_is_supervisor, defBody s_is_supervisor, defScope s_is_supervisor⟩
theorem sc_is_supervisor : FnScope ["plan"] ["plan"] (defScope s_is_supervisor) := ⟨rfl, rfl, rfl, by decide +kernel, rfl, by decide +kernel, by decide +kernel⟩
abbrev s_names : Stmt := top 59
def d_names : WHe.DefP := ⟨fun K => He.fAd K ("names", none), "names", "names", defArgs s_names, defBody s_names, defScope s_names⟩
theorem sc_names : FnScope ["plan", "one"] ["plan"] (defScope s_names) := ⟨rfl, rfl, rfl, by decide +kernel, rfl, by decide +kernel, by decide +kernel⟩
abbrev s_spot_of : Stmt := top 60
def d_spot_of : WHe.DefP := ⟨fun K => He.fAd K ("spot_of", none), "spot_of", "spot_of", defArgs s_spot_of, defBody s_spot_of, defScope s_spot_of⟩
theorem sc_spot_of : FnScope ["plan", "place", "index", "child", "found"] ["plan", "place"] (defScope s_spot_of) := ⟨rfl, rfl, rfl, by decide +kernel, rfl, by decide +kernel, by decide +kernel⟩
abbrev s_required_way : Stmt := top 61
def d_required_way : WHe.DefP := ⟨fun K => He.fAd K ("required_way", none), "required_way", "required_way", defArgs s_required_way, defBody s_required_way, defScope s_required_way⟩
theorem sc_required_way : FnScope ["plan", "place", "spot", "found", "index"] ["plan", "place"] (defScope s_required_way) := ⟨rfl, rfl, rfl, by decide +kernel, rfl, by decide +kernel, by decide +kernel⟩
abbrev s_levels : Stmt := top 62
def d_levels : WHe.DefP := ⟨fun K => He.fAd K ("levels", none), "levels", "levels", defArgs s_levels, defBody s_levels, defScope s_levels⟩
theorem sc_levels : FnScope ["plan"] ["plan"] (defScope s_levels) := ⟨rfl, rfl, rfl, by decide +kernel, rfl, by decide +kernel, by decide +kernel⟩
abbrev s_greatest_product : Stmt := top 63
def d_greatest_product : WHe.DefP := ⟨fun K => He.fAd K ("greatest_product", none), "greatest_product", "greatest_product", defArgs s_greatest_product, defBody s_greatest_product, defScope s_greatest_product⟩
theorem sc_greatest_product : FnScope ["plan", "child"] ["plan"] (defScope s_greatest_product) := ⟨rfl, rfl, rfl, by decide +kernel, rfl, by decide +kernel, by decide +kernel⟩
abbrev s_broken_rule : Stmt := top 64
def d_broken_rule : WHe.DefP := ⟨fun K => He.fAd K ("broken_rule", none), "broken_rule", "broken_rule", defArgs s_broken_rule, defBody s_broken_rule, defScope s_broken_rule⟩
theorem sc_broken_rule : FnScope ["plan", "some", "name"] ["plan"] (defScope s_broken_rule) := ⟨rfl, rfl, rfl, by decide +kernel, rfl, by decide +kernel, by decide +kernel⟩
abbrev s_check_root : Stmt := top 65
def d_check_root : WHe.DefP := ⟨fun K => He.fAd K ("check_root", none), "check_root", "check_root", defArgs s_check_root, defBody s_check_root, defScope s_check_root⟩
theorem sc_check_root : FnScope ["plan", "rule"] ["plan"] (defScope s_check_root) := ⟨rfl, rfl, rfl, by decide +kernel, rfl, by decide +kernel, by decide +kernel⟩
abbrev s_supervisor_of : Stmt := top 66
def d_supervisor_of : WHe.DefP := ⟨fun K => He.fAd K ("supervisor_of", none), "supervisor_of", "supervisor_of", defArgs s_supervisor_of, defBody s_supervisor_of, defScope s_supervisor_of⟩
theorem sc_supervisor_of : FnScope ["values", "children", "made", "setting", "name"] ["values", "children"] (defScope s_supervisor_of) := ⟨rfl, rfl, rfl, by decide +kernel, rfl, by decide +kernel, by decide +kernel⟩
abbrev s_worker_of : Stmt := top 67
def d_worker_of : WHe.DefP := ⟨fun K => He.fAd K ("worker_of", none), "worker_of", "worker_of", defArgs s_worker_of, defBody s_worker_of, defScope s_worker_of⟩
theorem sc_worker_of : FnScope ["values", "made", "setting", "name"] ["values"] (defScope s_worker_of) := ⟨rfl, rfl, rfl, by decide +kernel, rfl, by decide +kernel, by decide +kernel⟩
abbrev s_opening_time : Stmt := top 69
def d_opening_time : WHe.DefP := ⟨fun K => He.fAd K ("opening_time", none), "opening_time", "opening_time", defArgs s_opening_time, defBody s_opening_time, defScope s_opening_time⟩
theorem sc_opening_time : FnScope ["plan", "child"] ["plan"] (defScope s_opening_time) := ⟨rfl, rfl, rfl, by decide +kernel, rfl, by decide +kernel, by decide +kernel⟩
abbrev s_cut : Stmt := top 70
def d_cut : WHe.DefP := ⟨fun K => He.fAd K ("cut", none), "cut", "cut", defArgs s_cut, defBody s_cut, defScope s_cut⟩
theorem sc_cut : FnScope ["ticks", "deadline"] ["ticks", "deadline"] (defScope s_cut) := ⟨rfl, rfl, rfl, by decide +kernel, rfl, by decide +kernel, by decide +kernel⟩
abbrev s_stopping_time : Stmt := top 71
def d_stopping_time : WHe.DefP := ⟨fun K => He.fAd K ("stopping_time", none), "stopping_time", "stopping_time", defArgs s_stopping_time, defBody s_stopping_time, defScope s_stopping_time⟩
theorem sc_stopping_time : FnScope ["plan", "ticks", "child"] ["plan"] (defScope s_stopping_time) := ⟨rfl, rfl, rfl, by decide +kernel, rfl, by decide +kernel, by decide +kernel⟩
abbrev s_way_of_worker : Stmt := top 73
def d_way_of_worker : WHe.DefP := ⟨fun K => He.fAd K ("way_of_worker", none), "way_of_worker", "way_of_worker", defArgs s_way_of_worker, defBody s_way_of_worker, defScope s_way_of_worker⟩
theorem sc_way_of_worker : FnScope ["plan", "place", "way"] ["plan", "place"] (defScope s_way_of_worker) := ⟨rfl, rfl, rfl, by decide +kernel, rfl, by decide +kernel, by decide +kernel⟩
abbrev s_mend_times : Stmt := top 74
def d_mend_times : WHe.DefP := ⟨fun K => He.fAd K ("mend_times", none), "mend_times", "mend_times", defArgs s_mend_times, defBody s_mend_times, defScope s_mend_times⟩
theorem sc_mend_times : FnScope ["plan", "at", "children", "openings", "child", "first", "last", "stops", "index"] ["plan", "at"] (defScope s_mend_times) := ⟨rfl, rfl, rfl, by decide +kernel, rfl, by decide +kernel, by decide +kernel⟩
abbrev s_attack_row : Stmt := top 75
def d_attack_row : WHe.DefP := ⟨fun K => He.fAd K ("attack_row", none), "attack_row", "attack_row", defArgs s_attack_row, defBody s_attack_row, defScope s_attack_row⟩
theorem sc_attack_row : FnScope ["plan", "at", "attack", "mend", "offset", "cycle", "ahead", "one", "first", "others", "index"] ["plan", "at", "attack"] (defScope s_attack_row) := ⟨rfl, rfl, rfl, by decide +kernel, rfl, by decide +kernel, by decide +kernel⟩
abbrev s_attacks : Stmt := top 76
def d_attacks : WHe.DefP := ⟨fun K => He.fAd K ("attacks", none), "attacks", "attacks", defArgs s_attacks, defBody s_attacks, defScope s_attacks⟩
theorem sc_attacks : FnScope ["plan", "place", "way", "spot", "found", "attack", "index", "cycle"] ["plan", "place"] (defScope s_attacks) := ⟨rfl, rfl, rfl, by decide +kernel, rfl, by decide +kernel, by decide +kernel⟩
abbrev s_product_of : Stmt := top 77
def d_product_of : WHe.DefP := ⟨fun K => He.fAd K ("product_of", none), "product_of", "product_of", defArgs s_product_of, defBody s_product_of, defScope s_product_of⟩
theorem sc_product_of : FnScope ["way", "found", "plan"] ["way"] (defScope s_product_of) := ⟨rfl, rfl, rfl, by decide +kernel, rfl, by decide +kernel, by decide +kernel⟩
abbrev s_fall : Stmt := top 78
def d_fall : WHe.DefP := ⟨fun K => He.fAd K ("fall", none), "fall", "fall", defArgs s_fall, defBody s_fall, defScope s_fall⟩
theorem sc_fall : FnScope ["plan", "place", "attack"] ["plan", "place"] (defScope s_fall) := ⟨rfl, rfl, rfl, by decide +kernel, rfl, by decide +kernel, by decide +kernel⟩
abbrev s_fewest : Stmt := top 79
def d_fewest : WHe.DefP := ⟨fun K => He.fAd K ("fewest", none), "fewest", "fewest", defArgs s_fewest, defBody s_fewest, defScope s_fewest⟩
theorem sc_fewest : FnScope ["plan", "workers", "one", "name"] ["plan"] (defScope s_fewest) := ⟨rfl, rfl, rfl, by decide +kernel, rfl, by decide +kernel, by decide +kernel⟩
abbrev s_number_of : Stmt := top 84
def d_number_of : WHe.DefP := ⟨fun K => He.fAd K ("number_of", none), "number_of", "number_of", defArgs s_number_of, defBody s_number_of, defScope s_number_of⟩
theorem sc_number_of : FnScope ["word", "sign"] ["word"] (defScope s_number_of) := ⟨rfl, rfl, rfl, by decide +kernel, rfl, by decide +kernel, by decide +kernel⟩
abbrev s_values_in : Stmt := top 85
def d_values_in : WHe.DefP := ⟨fun K => He.fAd K ("values_in", none), "values_in", "values_in", defArgs s_values_in, defBody s_values_in, defScope s_values_in⟩
theorem sc_values_in : FnScope ["words", "known", "found", "setting", "word"] ["words"] (defScope s_values_in) := ⟨rfl, rfl, rfl, by decide +kernel, rfl, by decide +kernel, by decide +kernel⟩
abbrev s_row_of : Stmt := top 86
def d_row_of : WHe.DefP := ⟨fun K => He.fAd K ("row_of", none), "row_of", "row_of", defArgs s_row_of, defBody s_row_of, defScope s_row_of⟩
theorem sc_row_of : FnScope ["line", "bare", "level", "rest", "words", "values"] ["line"] (defScope s_row_of) := ⟨rfl, rfl, rfl, by decide +kernel, rfl, by decide +kernel, by decide +kernel⟩
abbrev s_rows_of : Stmt := top 87
def d_rows_of : WHe.DefP := ⟨fun K => He.fAd K ("rows_of", none), "rows_of", "rows_of", defArgs s_rows_of, defBody s_rows_of, defScope s_rows_of⟩
theorem sc_rows_of : FnScope ["text", "found", "way", "counts", "number", "line", "row"] ["text"] (defScope s_rows_of) := ⟨rfl, rfl, rfl, by decide +kernel, rfl, by decide +kernel, by decide +kernel⟩
abbrev s_plan_of : Stmt := top 88
def d_plan_of : WHe.DefP := ⟨fun K => He.fAd K ("plan_of", none), "plan_of", "plan_of", defArgs s_plan_of, defBody s_plan_of, defScope s_plan_of⟩
theorem sc_plan_of : FnScope ["rows", "at", "level", "is_over", "values", "children", "here", "child"] ["rows", "at"] (defScope s_plan_of) := ⟨rfl, rfl, rfl, by decide +kernel, rfl, by decide +kernel, by decide +kernel⟩
abbrev s_read_plan : Stmt := top 89
def d_read_plan : WHe.DefP := ⟨fun K => He.fAd K ("read_plan", none), "read_plan", "read_plan", defArgs s_read_plan, defBody s_read_plan, defScope s_read_plan⟩
theorem sc_read_plan : FnScope ["text"] ["text"] (defScope s_read_plan) := ⟨rfl, rfl, rfl, by decide +kernel, rfl, by decide +kernel, by decide +kernel⟩
abbrev s_L_begun : Stmt := top 91
def d_L_begun : WHe.DefP := ⟨fun K => He.fAd K ("_law_begun", none), "_law_begun", "_law_begun", defArgs s_L_begun, defBody s_L_begun, defScope s_L_begun⟩
theorem sc_L_begun : FnScope ["script"] ["script"] (defScope s_L_begun) := ⟨rfl, rfl, rfl, by decide +kernel, rfl, by decide +kernel, by decide +kernel⟩
abbrev s_L_next : Stmt := top 92
def d_L_next : WHe.DefP := ⟨fun K => He.fAd K ("_law_next", none), "_law_next", "_law_next", defArgs s_L_next, defBody s_L_next, defScope s_L_next⟩
theorem sc_L_next : FnScope ["m", "total", "found", "k", "cell", "mixed"] ["m", "total"] (defScope s_L_next) := ⟨rfl, rfl, rfl, by decide +kernel, rfl, by decide +kernel, by decide +kernel⟩
abbrev s_L_of : Stmt := top 93
def d_L_of : WHe.DefP := ⟨fun K => He.fAd K ("_law_of", none), "_law_of", "_law_of", defArgs s_L_of, defBody s_L_of, defScope s_L_of⟩
theorem sc_L_of : FnScope ["m", "items"] ["m", "items"] (defScope s_L_of) := ⟨rfl, rfl, rfl, by decide +kernel, rfl, by decide +kernel, by decide +kernel⟩
abbrev s_L_name : Stmt := top 94
def d_L_name : WHe.DefP := ⟨fun K => He.fAd K ("_law_name", none), "_law_name", "_law_name", defArgs s_L_name, defBody s_L_name, defScope s_L_name⟩
theorem sc_L_name : FnScope ["m", "k"] ["m"] (defScope s_L_name) := ⟨rfl, rfl, rfl, by decide +kernel, rfl, by decide +kernel, by decide +kernel⟩
abbrev s_L_ticks : Stmt := top 95
def d_L_ticks : WHe.DefP := ⟨fun K => He.fAd K ("_law_ticks", none), "_law_ticks", "_law_ticks", defArgs s_L_ticks, defBody s_L_ticks, defScope s_L_ticks⟩
theorem sc_L_ticks : FnScope ["m"] ["m"] (defScope s_L_ticks) := ⟨rfl, rfl, rfl, by decide +kernel, rfl, by decide +kernel, by decide +kernel⟩
abbrev s_L_worker : Stmt := top 96
def d_L_worker : WHe.DefP := ⟨fun K => He.fAd K ("_law_worker", none), "_law_worker", "_law_worker", defArgs s_L_worker, defBody s_L_worker, defScope s_L_worker⟩
theorem sc_L_worker : FnScope ["m", "name", "begins", "ends", "limit"] ["m"] (defScope s_L_worker) := ⟨rfl, rfl, rfl, by decide +kernel, rfl, by decide +kernel, by decide +kernel⟩
abbrev s_L_supervisor : Stmt := top 97
def d_L_supervisor : WHe.DefP := ⟨fun K => He.fAd K ("_law_supervisor", none), "_law_supervisor", "_law_supervisor", defArgs s_L_supervisor, defBody s_L_supervisor, defScope s_L_supervisor⟩
theorem sc_L_supervisor : FnScope ["m", "level", "product", "name", "below", "most", "k", "word", "way", "limit"] ["m", "level", "product"] (defScope s_L_supervisor) := ⟨rfl, rfl, rfl, by decide +kernel, rfl, by decide +kernel, by decide +kernel⟩
abbrev s_L_opening : Stmt := top 98
def d_L_opening : WHe.DefP := ⟨fun K => He.fAd K ("_law_opening", none), "_law_opening", "_law_opening", defArgs s_L_opening, defBody s_L_opening, defScope s_L_opening⟩
theorem sc_L_opening : FnScope ["told", "one"] ["told"] (defScope s_L_opening) := ⟨rfl, rfl, rfl, by decide +kernel, rfl, by decide +kernel, by decide +kernel⟩
abbrev s_L_stopping : Stmt := top 99
def d_L_stopping : WHe.DefP := ⟨fun K => He.fAd K ("_law_stopping", none), "_law_stopping", "_law_stopping", defArgs s_L_stopping, defBody s_L_stopping, defScope s_L_stopping⟩
theorem sc_L_stopping : FnScope ["told", "found", "limit", "one"] ["told"] (defScope s_L_stopping) := ⟨rfl, rfl, rfl, by decide +kernel, rfl, by decide +kernel, by decide +kernel⟩
abbrev s_L_all : Stmt := top 100
def d_L_all : WHe.DefP := ⟨fun K => He.fAd K ("_law_all", none), "_law_all", "_law_all", defArgs s_L_all, defBody s_L_all, defScope s_L_all⟩
theorem sc_L_all : FnScope ["told", "found", "one"] ["told"] (defScope s_L_all) := ⟨rfl, rfl, rfl, by decide +kernel, rfl, by decide +kernel, by decide +kernel⟩
abbrev s_L_way : Stmt := top 101
def d_L_way : WHe.DefP := ⟨fun K => He.fAd K ("_law_way", none), "_law_way", "_law_way", defArgs s_L_way, defBody s_L_way, defScope s_L_way⟩
theorem sc_L_way : FnScope ["told", "name", "one"] ["told", "name"] (defScope s_L_way) := ⟨rfl, rfl, rfl, by decide +kernel, rfl, by decide +kernel, by decide +kernel⟩
abbrev s_L_cycle : Stmt := top 102
def d_L_cycle : WHe.DefP := ⟨fun K => He.fAd K ("_law_cycle", none), "_law_cycle", "_law_cycle", defArgs s_L_cycle, defBody s_L_cycle, defScope s_L_cycle⟩
theorem sc_L_cycle : FnScope ["told", "child", "ticks", "spot", "ahead", "behind", "stopped", "front", "stops", "one", "mend"] ["told", "child", "ticks"] (defScope s_L_cycle) := ⟨rfl, rfl, rfl, by decide +kernel, rfl, by decide +kernel, by decide +kernel⟩
abbrev s_L_lasting : Stmt := top 103
def d_L_lasting : WHe.DefP := ⟨fun K => He.fAd K ("_law_lasting", none), "_law_lasting", "_law_lasting", defArgs s_L_lasting, defBody s_L_lasting, defScope s_L_lasting⟩
theorem sc_L_lasting : FnScope ["told", "child", "ticks", "cycle", "spot", "first", "one"] ["told", "child", "ticks"] (defScope s_L_lasting) := ⟨rfl, rfl, rfl, by decide +kernel, rfl, by decide +kernel, by decide +kernel⟩
abbrev s_L_rows : Stmt := top 104
def d_L_rows : WHe.DefP := ⟨fun K => He.fAd K ("_law_rows", none), "_law_rows", "_law_rows", defArgs s_L_rows, defBody s_L_rows, defScope s_L_rows⟩
theorem sc_L_rows : FnScope ["told", "name", "way", "found", "ticks", "one", "child", "cycle"] ["told", "name"] (defScope s_L_rows) := ⟨rfl, rfl, rfl, by decide +kernel, rfl, by decide +kernel, by decide +kernel⟩
abbrev s_L_product : Stmt := top 105
def d_L_product : WHe.DefP := ⟨fun K => He.fAd K ("_law_product", none), "_law_product", "_law_product", defArgs s_L_product, defBody s_L_product, defScope s_L_product⟩
theorem sc_L_product : FnScope ["told", "name", "found", "one"] ["told", "name"] (defScope s_L_product) := ⟨rfl, rfl, rfl, by decide +kernel, rfl, by decide +kernel, by decide +kernel⟩
abbrev s_L_spanned : Stmt := top 106
def d_L_spanned : WHe.DefP := ⟨fun K => He.fAd K ("_law_spanned", none), "_law_spanned", "_law_spanned", defArgs s_L_spanned, defBody s_L_spanned, defScope s_L_spanned⟩
theorem sc_L_spanned : FnScope ["m", "told", "name", "below", "one", "child", "ticks", "border", "span"] ["m", "told", "name"] (defScope s_L_spanned) := ⟨rfl, rfl, rfl, by decide +kernel, rfl, by decide +kernel, by decide +kernel⟩
abbrev s_L_lines : Stmt := top 107
def d_L_lines : WHe.DefP := ⟨fun K => He.fAd K ("_law_lines", none), "_law_lines", "_law_lines", defArgs s_L_lines, defBody s_L_lines, defScope s_L_lines⟩
theorem sc_L_lines : FnScope ["told", "level", "last", "part", "found", "one"] ["told", "level"] (defScope s_L_lines) := ⟨rfl, rfl, rfl, by decide +kernel, rfl, by decide +kernel, by decide +kernel⟩
abbrev s_L_plan : Stmt := top 108
def d_L_plan : WHe.DefP := ⟨fun K => He.fAd K ("_law_plan", none), "_law_plan", "_law_plan", defArgs s_L_plan, defBody s_L_plan, defScope s_L_plan⟩
theorem sc_L_plan : FnScope ["told"] ["told"] (defScope s_L_plan) := ⟨rfl, rfl, rfl, by decide +kernel, rfl, by decide +kernel, by decide +kernel⟩
abbrev s_L_more : Stmt := top 109
def d_L_more : WHe.DefP := ⟨fun K => He.fAd K ("_law_more", none), "_law_more", "_law_more", defArgs s_L_more, defBody s_L_more, defScope s_L_more⟩
theorem sc_L_more : FnScope ["m"] ["m"] (defScope s_L_more) := ⟨rfl, rfl, rfl, by decide +kernel, rfl, by decide +kernel, by decide +kernel⟩
abbrev s_L_longer : Stmt := top 110
def d_L_longer : WHe.DefP := ⟨fun K => He.fAd K ("_law_longer", none), "_law_longer", "_law_longer", defArgs s_L_longer, defBody s_L_longer, defScope s_L_longer⟩
theorem sc_L_longer : FnScope ["m", "told", "product", "limit", "most", "below", "one"] ["m", "told", "product"] (defScope s_L_longer) := ⟨rfl, rfl, rfl, by decide +kernel, rfl, by decide +kernel, by decide +kernel⟩
abbrev s_L_times : Stmt := top 111
def d_L_times : WHe.DefP := ⟨fun K => He.fAd K ("_law_times", none), "_law_times", "_law_times", defArgs s_L_times, defBody s_L_times, defScope s_L_times⟩
theorem sc_L_times : FnScope ["told", "k", "limit", "one"] ["told", "k"] (defScope s_L_times) := ⟨rfl, rfl, rfl, by decide +kernel, rfl, by decide +kernel, by decide +kernel⟩
abbrev s_L_greatest : Stmt := top 112
def d_L_greatest : WHe.DefP := ⟨fun K => He.fAd K ("_law_greatest", none), "_law_greatest", "_law_greatest", defArgs s_L_greatest, defBody s_L_greatest, defScope s_L_greatest⟩
theorem sc_L_greatest : FnScope ["told", "numbers", "one"] ["told"] (defScope s_L_greatest) := ⟨rfl, rfl, rfl, by decide +kernel, rfl, by decide +kernel, by decide +kernel⟩
abbrev s_L_product_is_small : Stmt := top 113
def d_L_product_is_small : WHe.DefP := ⟨fun K => He.fAd K ("_law_product_is_small", none), "_law_product_is_small", "_law_product_is_small", defArgs s_L_product_is_small, defBody s_L_product_is_small, defScope s_L_product_is_small⟩
theorem sc_L_product_is_small : FnScope ["told", "product", "here", "wide", "one"] ["told", "product"] (defScope s_L_product_is_small) := ⟨rfl, rfl, rfl, by decide +kernel, rfl, by decide +kernel, by decide +kernel⟩
abbrev s_L_is_safer : Stmt := top 114
def d_L_is_safer : WHe.DefP := ⟨fun K => He.fAd K ("_law_is_safer", none), "_law_is_safer", "_law_is_safer", defArgs s_L_is_safer, defBody s_L_is_safer, defScope s_L_is_safer⟩
theorem sc_L_is_safer : FnScope ["plan", "other", "name", "one", "two", "row", "more"] ["plan", "other", "name"] (defScope s_L_is_safer) := ⟨rfl, rfl, rfl, by decide +kernel, rfl, by decide +kernel, by decide +kernel⟩
abbrev s_L_is_multiplied : Stmt := top 115
def d_L_is_multiplied : WHe.DefP := ⟨fun K => He.fAd K ("_law_is_multiplied", none), "_law_is_multiplied", "_law_is_multiplied", defArgs s_L_is_multiplied, defBody s_L_is_multiplied, defScope s_L_is_multiplied⟩
theorem sc_L_is_multiplied : FnScope ["plan", "other", "name", "k", "due", "row", "part", "one", "end"] ["plan", "other", "name", "k"] (defScope s_L_is_multiplied) := ⟨rfl, rfl, rfl, by decide +kernel, rfl, by decide +kernel, by decide +kernel⟩
abbrev s_law : Stmt := top 116
def d_law : WHe.DefP := ⟨fun K => He.fAd K ("law", none), "law", "law", defArgs s_law, defBody s_law, defScope s_law⟩
theorem sc_law : FnScope ["script", "m", "told", "called", "one", "longer", "k", "plan", "other", "third", "name"] ["script"] (defScope s_law) := ⟨rfl, rfl, rfl, by decide +kernel, rfl, by decide +kernel, by decide +kernel⟩
abbrev s_Plan_settings : Stmt := inClass (top 12) 0
def d_Plan_settings : WHe.DefP := ⟨fun K => He.fAd K ("Plan", some "settings"), "settings", "Plan.settings", defArgs s_Plan_settings, defBody s_Plan_settings, defScope s_Plan_settings⟩
theorem sc_Plan_settings : FnScope ["self"] ["self"] (defScope s_Plan_settings) := ⟨rfl, rfl, rfl, by decide +kernel, rfl, by decide +kernel, by decide +kernel⟩
abbrev s_Plan_below : Stmt := inClass (top 12) 1
def d_Plan_below : WHe.DefP := ⟨fun K => He.fAd K ("Plan", some "below"), "below", "Plan.below", defArgs s_Plan_below, defBody s_Plan_below, defScope s_Plan_below⟩
theorem sc_Plan_below : FnScope ["self"] ["self"] (defScope s_Plan_below) := ⟨rfl, rfl, rfl, by decide +kernel, rfl, by decide +kernel, by decide +kernel⟩
abbrev s_Plan_with_all : Stmt := inClass (top 12) 2
def d_Plan_with_all : WHe.DefP := ⟨fun K => He.fAd K ("Plan", some "with_all"), "with_all", "Plan.with_all", defArgs s_Plan_with_all, defBody s_Plan_with_all, defScope s_Plan_with_all⟩
theorem sc_Plan_with_all : FnScope ["self", "found", "child"] ["self"] (defScope s_Plan_with_all) := ⟨rfl, rfl, rfl, by decide +kernel, rfl, by decide +kernel, by decide +kernel⟩
abbrev s_Plan__len : Stmt := inClass (top 12) 3
def d_Plan__len : WHe.DefP := ⟨fun K => He.fAd K ("Plan", some "__len__"), "__len__", "Plan.__len__", defArgs s_Plan__len, defBody s_Plan__len, defScope s_Plan__len⟩
theorem sc_Plan__len : FnScope ["self"] ["self"] (defScope s_Plan__len) := ⟨rfl, rfl, rfl, by decide +kernel, rfl, by decide +kernel, by decide +kernel⟩
abbrev s_Plan__contains : Stmt := inClass (top 12) 4
def d_Plan__contains : WHe.DefP := ⟨fun K => He.fAd K ("Plan", some "__contains__"), "__contains__", "Plan.__contains__", defArgs s_Plan__contains, defBody s_Plan__contains, defScope s_Plan__contains⟩
theorem sc_Plan__contains : FnScope ["self", "value", "plan"] ["self", "value"] (defScope s_Plan__contains) := ⟨rfl, rfl, rfl, by decide +kernel, rfl, by decide +kernel, by decide +kernel⟩
abbrev s_WorkerPlan__init : Stmt := inClass (top 56) 0
def d_WorkerPlan__init : WHe.DefP := ⟨fun K => He.fAd K ("WorkerPlan", some "__init__"), "__init__", "WorkerPlan.__init__", defArgs s_WorkerPlan__init, defBody s_WorkerPlan__init, defScope s_WorkerPlan__init⟩
theorem sc_WorkerPlan__init : FnScope ["self", "name", "restart", "opening", "closing", "deadline", "refused", "script", "rows"] ["self", "name", "restart", "opening", "closing", "deadline", "refused", "script"] (defScope s_WorkerPlan__init) := ⟨rfl, rfl, rfl, by decide +kernel, rfl, by decide +kernel, by decide +kernel⟩
abbrev s_WorkerPlan__eq : Stmt := inClass (top 56) 8
def d_WorkerPlan__eq : WHe.DefP := ⟨fun K => He.fAd K ("WorkerPlan", some "__eq__"), "__eq__", "WorkerPlan.__eq__", defArgs s_WorkerPlan__eq, defBody s_WorkerPlan__eq, defScope s_WorkerPlan__eq⟩
theorem sc_WorkerPlan__eq : FnScope ["self", "other"] ["self", "other"] (defScope s_WorkerPlan__eq) := ⟨rfl, rfl, rfl, by decide +kernel, rfl, by decide +kernel, by decide +kernel⟩
abbrev s_SupervisorPlan__init : Stmt := inClass (top 57) 0
def d_SupervisorPlan__init : WHe.DefP := ⟨fun K => He.fAd K ("SupervisorPlan", some "__init__"), "__init__", "SupervisorPlan.__init__", defArgs s_SupervisorPlan__init, defBody s_SupervisorPlan__init, defScope s_SupervisorPlan__init⟩
theorem sc_SupervisorPlan__init : FnScope ["self", "name", "restart", "strategy", "most", "span", "deadline", "children", "rows", "count", "depth", "index", "child"] ["self", "name", "restart", "strategy", "most", "span", "deadline", "children"] (defScope s_SupervisorPlan__init) := ⟨rfl, rfl, rfl, by decide +kernel, rfl, by decide +kernel, by decide +kernel⟩
abbrev s_SupervisorPlan_below : Stmt := inClass (top 57) 8
def d_SupervisorPlan_below : WHe.DefP := ⟨fun K => He.fAd K ("SupervisorPlan", some "below"), "below", "SupervisorPlan.below", defArgs s_SupervisorPlan_below, defBody s_SupervisorPlan_below, defScope s_SupervisorPlan_below⟩
theorem sc_SupervisorPlan_below : FnScope ["self"] ["self"] (defScope s_SupervisorPlan_below) := ⟨rfl, rfl, rfl, by decide +kernel, rfl, by decide +kernel, by decide +kernel⟩
abbrev s_SupervisorPlan__eq : Stmt := inClass (top 57) 9
def d_SupervisorPlan__eq : WHe.DefP := ⟨fun K => He.fAd K ("SupervisorPlan", some "__eq__"), "__eq__", "SupervisorPlan.__eq__", defArgs s_SupervisorPlan__eq, defBody s_SupervisorPlan__eq, defScope s_SupervisorPlan__eq⟩
theorem sc_SupervisorPlan__eq : FnScope ["self", "other"] ["self", "other"] (defScope s_SupervisorPlan__eq) := ⟨rfl, rfl, rfl, by decide +kernel, rfl, by decide +kernel, by decide +kernel⟩
abbrev s_WorkerPlan_name : Stmt := inClass (top 56) 1
def d_WorkerPlan_name : WHe.DefP := ⟨fun K => WHe.pgAd K "WorkerPlan" "name", "name", "WorkerPlan.name", defArgs s_WorkerPlan_name, defBody s_WorkerPlan_name, defScope s_WorkerPlan_name⟩
theorem sc_WorkerPlan_name : FnScope ["self"] ["self"] (defScope s_WorkerPlan_name) := ⟨rfl, rfl, rfl, by decide +kernel, rfl, by decide +kernel, by decide +kernel⟩
abbrev s_WorkerPlan_restart : Stmt := inClass (top 56) 2
def d_WorkerPlan_restart : WHe.DefP := ⟨fun K => WHe.pgAd K "WorkerPlan" "restart", "restart", "WorkerPlan.restart", defArgs s_WorkerPlan_restart, defBody s_WorkerPlan_restart, defScope s_WorkerPlan_restart⟩
theorem sc_WorkerPlan_restart : FnScope ["self"] ["self"] (defScope s_WorkerPlan_restart) := ⟨rfl, rfl, rfl, by decide +kernel, rfl, by decide +kernel, by decide +kernel⟩
abbrev s_WorkerPlan_opening : Stmt := inClass (top 56) 3
def d_WorkerPlan_opening : WHe.DefP := ⟨fun K => WHe.pgAd K "WorkerPlan" "opening", "opening", "WorkerPlan.opening", defArgs s_WorkerPlan_opening, defBody s_WorkerPlan_opening, defScope s_WorkerPlan_opening⟩
theorem sc_WorkerPlan_opening : FnScope ["self"] ["self"] (defScope s_WorkerPlan_opening) := ⟨rfl, rfl, rfl, by decide +kernel, rfl, by decide +kernel, by decide +kernel⟩
abbrev s_WorkerPlan_closing : Stmt := inClass (top 56) 4
def d_WorkerPlan_closing : WHe.DefP := ⟨fun K => WHe.pgAd K "WorkerPlan" "closing", "closing", "WorkerPlan.closing", defArgs s_WorkerPlan_closing, defBody s_WorkerPlan_closing, defScope s_WorkerPlan_closing⟩
theorem sc_WorkerPlan_closing : FnScope ["self"] ["self"] (defScope s_WorkerPlan_closing) := ⟨rfl, rfl, rfl, by decide +kernel, rfl, by decide +kernel, by decide +kernel⟩
abbrev s_WorkerPlan_deadline : Stmt := inClass (top 56) 5
def d_WorkerPlan_deadline : WHe.DefP := ⟨fun K => WHe.pgAd K "WorkerPlan" "deadline", "deadline", "WorkerPlan.deadline", defArgs s_WorkerPlan_deadline, defBody s_WorkerPlan_deadline, defScope s_WorkerPlan_deadline⟩
theorem sc_WorkerPlan_deadline : FnScope ["self"] ["self"] (defScope s_WorkerPlan_deadline) := ⟨rfl, rfl, rfl, by decide +kernel, rfl, by decide +kernel, by decide +kernel⟩
abbrev s_WorkerPlan_refused : Stmt := inClass (top 56) 6
def d_WorkerPlan_refused : WHe.DefP := ⟨fun K => WHe.pgAd K "WorkerPlan" "refused", "refused", "WorkerPlan.refused", defArgs s_WorkerPlan_refused, defBody s_WorkerPlan_refused, defScope s_WorkerPlan_refused⟩
theorem sc_WorkerPlan_refused : FnScope ["self"] ["self"] (defScope s_WorkerPlan_refused) := ⟨rfl, rfl, rfl, by decide +kernel, rfl, by decide +kernel, by decide +kernel⟩
abbrev s_WorkerPlan_script : Stmt := inClass (top 56) 7
def d_WorkerPlan_script : WHe.DefP := ⟨fun K => WHe.pgAd K "WorkerPlan" "script", "script", "WorkerPlan.script", defArgs s_WorkerPlan_script, defBody s_WorkerPlan_script, defScope s_WorkerPlan_script⟩
theorem sc_WorkerPlan_script : FnScope ["self"] ["self"] (defScope s_WorkerPlan_script) := ⟨rfl, rfl, rfl, by decide +kernel, rfl, by decide +kernel, by decide +kernel⟩
abbrev s_SupervisorPlan_name : Stmt := inClass (top 57) 1
def d_SupervisorPlan_name : WHe.DefP := ⟨fun K => WHe.pgAd K "SupervisorPlan" "name", "name", "SupervisorPlan.name", defArgs s_SupervisorPlan_name, defBody s_SupervisorPlan_name, defScope s_SupervisorPlan_name⟩
theorem sc_SupervisorPlan_name : FnScope ["self"] ["self"] (defScope s_SupervisorPlan_name) := ⟨rfl, rfl, rfl, by decide +kernel, rfl, by decide +kernel, by decide +kernel⟩
abbrev s_SupervisorPlan_restart : Stmt := inClass (top 57) 2
def d_SupervisorPlan_restart : WHe.DefP := ⟨fun K => WHe.pgAd K "SupervisorPlan" "restart", "restart", "SupervisorPlan.restart", defArgs s_SupervisorPlan_restart, defBody s_SupervisorPlan_restart, defScope s_SupervisorPlan_restart⟩
theorem sc_SupervisorPlan_restart : FnScope ["self"] ["self"] (defScope s_SupervisorPlan_restart) := ⟨rfl, rfl, rfl, by decide +kernel, rfl, by decide +kernel, by decide +kernel⟩
abbrev s_SupervisorPlan_strategy : Stmt := inClass (top 57) 3
def d_SupervisorPlan_strategy : WHe.DefP := ⟨fun K => WHe.pgAd K "SupervisorPlan" "strategy", "strategy", "SupervisorPlan.strategy", defArgs s_SupervisorPlan_strategy, defBody s_SupervisorPlan_strategy, defScope s_SupervisorPlan_strategy⟩
theorem sc_SupervisorPlan_strategy : FnScope ["self"] ["self"] (defScope s_SupervisorPlan_strategy) := ⟨rfl, rfl, rfl, by decide +kernel, rfl, by decide +kernel, by decide +kernel⟩
abbrev s_SupervisorPlan_most : Stmt := inClass (top 57) 4
def d_SupervisorPlan_most : WHe.DefP := ⟨fun K => WHe.pgAd K "SupervisorPlan" "most", "most", "SupervisorPlan.most", defArgs s_SupervisorPlan_most, defBody s_SupervisorPlan_most, defScope s_SupervisorPlan_most⟩
theorem sc_SupervisorPlan_most : FnScope ["self"] ["self"] (defScope s_SupervisorPlan_most) := ⟨rfl, rfl, rfl, by decide +kernel, rfl, by decide +kernel, by decide +kernel⟩
abbrev s_SupervisorPlan_span : Stmt := inClass (top 57) 5
def d_SupervisorPlan_span : WHe.DefP := ⟨fun K => WHe.pgAd K "SupervisorPlan" "span", "span", "SupervisorPlan.span", defArgs s_SupervisorPlan_span, defBody s_SupervisorPlan_span, defScope s_SupervisorPlan_span⟩
theorem sc_SupervisorPlan_span : FnScope ["self"] ["self"] (defScope s_SupervisorPlan_span) := ⟨rfl, rfl, rfl, by decide +kernel, rfl, by decide +kernel, by decide +kernel⟩
abbrev s_SupervisorPlan_deadline : Stmt := inClass (top 57) 6
def d_SupervisorPlan_deadline : WHe.DefP := ⟨fun K => WHe.pgAd K "SupervisorPlan" "deadline", "deadline", "SupervisorPlan.deadline", defArgs s_SupervisorPlan_deadline, defBody s_SupervisorPlan_deadline, defScope s_SupervisorPlan_deadline⟩
theorem sc_SupervisorPlan_deadline : FnScope ["self"] ["self"] (defScope s_SupervisorPlan_deadline) := ⟨rfl, rfl, rfl, by decide +kernel, rfl, by decide +kernel, by decide +kernel⟩
abbrev s_SupervisorPlan_children : Stmt := inClass (top 57) 7
def d_SupervisorPlan_children : WHe.DefP := ⟨fun K => WHe.pgAd K "SupervisorPlan" "children", "children", "SupervisorPlan.children", defArgs s_SupervisorPlan_children, defBody s_SupervisorPlan_children, defScope s_SupervisorPlan_children⟩
theorem sc_SupervisorPlan_children : FnScope ["self"] ["self"] (defScope s_SupervisorPlan_children) := ⟨rfl, rfl, rfl, by decide +kernel, rfl, by decide +kernel, by decide +kernel⟩
def fns : List WHe.DefP := [d_is_word, d_is_name, d_is_between, d_wrong_row, d_is_script, d_is_one_of, d_is_deadline, d_require, d_is_supervisor, d_names, d_spot_of, d_required_way, d_levels, d_greatest_product, d_broken_rule, d_check_root, d_supervisor_of, d_worker_of, d_opening_time, d_cut, d_stopping_time, d_way_of_worker, d_mend_times, d_attack_row, d_attacks, d_product_of, d_fall, d_fewest, d_number_of, d_values_in, d_row_of, d_rows_of, d_plan_of, d_read_plan, d_L_begun, d_L_next, d_L_of, d_L_name, d_L_ticks, d_L_worker, d_L_supervisor, d_L_opening, d_L_stopping, d_L_all, d_L_way, d_L_cycle, d_L_lasting, d_L_rows, d_L_product, d_L_spanned, d_L_lines, d_L_plan, d_L_more, d_L_longer, d_L_times, d_L_greatest, d_L_product_is_small, d_L_is_safer, d_L_is_multiplied, d_law, d_Plan_settings, d_Plan_below, d_Plan_with_all, d_Plan__len, d_Plan__contains, d_WorkerPlan__init, d_WorkerPlan__eq, d_SupervisorPlan__init, d_SupervisorPlan_below, d_SupervisorPlan__eq, d_WorkerPlan_name, d_WorkerPlan_restart, d_WorkerPlan_opening, d_WorkerPlan_closing, d_WorkerPlan_deadline, d_WorkerPlan_refused, d_WorkerPlan_script, d_SupervisorPlan_name, d_SupervisorPlan_restart, d_SupervisorPlan_strategy, d_SupervisorPlan_most, d_SupervisorPlan_span, d_SupervisorPlan_deadline, d_SupervisorPlan_children]
def frees : List Str := ["len", "int", "isinstance", "range", "enumerate", "list", "str", "tuple", "zip", "all", "sum", "min", "max", "divmod", "bool", "repr"]
def globs : List Str := (["BadSetting", "BadChild", "BadRoot", "BadText", "BadScript", "NotWorker", "NoPlace", "Plan", "BaseWorker", "WorkerPlan", "SupervisorPlan", "is_word", "is_name", "is_between", "wrong_row", "is_script"] : List Str) ++ (["is_one_of", "is_deadline", "require", "is_supervisor", "names", "spot_of", "required_way", "levels", "greatest_product", "broken_rule", "check_root", "supervisor_of", "worker_of", "opening_time", "cut", "stopping_time"] : List Str) ++ (["way_of_worker", "mend_times", "attack_row", "attacks", "product_of", "fall", "fewest", "number_of", "values_in", "row_of", "rows_of", "plan_of", "read_plan", "_law_begun", "_law_next", "_law_of"] : List Str) ++ (["_law_name", "_law_ticks", "_law_worker", "_law_supervisor", "_law_opening", "_law_stopping", "_law_all", "_law_way", "_law_cycle", "_law_lasting", "_law_rows", "_law_product", "_law_spanned", "_law_lines", "_law_plan", "_law_more"] : List Str) ++ (["_law_longer", "_law_times", "_law_greatest", "_law_product_is_small", "_law_is_safer", "_law_is_multiplied", "law", "RESERVED", "OWN_REASONS", "OWN_WORDS", "RESTARTS", "STRATEGIES", "WORKER_SETTINGS", "SUPERVISOR_SETTINGS", "WORDED"] : List Str)
def cints : List (Str × Int) := [("MOST_SIGNS", 20), ("MOST_ROWS", 30), ("MOST_DEEDS", 8), ("MOST_WORK", 1000), ("MOST_TICKS", 1000000000), ("MOST_VALUE", 1000000000000), ("MOST_WAIT", 1000000000), ("MOST_CHILDREN", 12), ("MOST_PLANS", 60), ("MOST_LEVELS", 6), ("MOST_DEPTH", 20), ("MOST_WHOLE", 200), ("MOST_PRODUCT", 1000)]
def cstrs : List (Str × Str) := [("LETTERS", "abcdefghijklmnopqrstuvwxyz"), ("SIGNS", "abcdefghijklmnopqrstuvwxyz0123456789_"), ("INDENT", "  "), ("DIGITS", "0123456789")]
def ctups : List (Str × List He.Dv) := [("RESERVED", [.str "own", .str "sender", .str "about"]), ("OWN_REASONS", [.str "shutdown", .str "refused", .str "gave_up", .str "killed", .str "nobody"]), ("OWN_WORDS", [.str "answer", .str "back", .str "ended", .str "down", .str "told"]), ("RESTARTS", [.str "permanent", .str "transient", .str "temporary"]), ("STRATEGIES", [.str "one", .str "rest", .str "all"]), ("WORKER_SETTINGS", [.str "name", .str "restart", .str "opening", .str "closing", .str "deadline", .str "refused", .str "script"]), ("SUPERVISOR_SETTINGS", [.str "name", .str "restart", .str "strategy", .str "most", .str "span", .str "deadline"]), ("WORDED", [.str "name", .str "restart", .str "strategy"])]
def noat : List (Str × Str) := [("WorkerPlan", "own_settings"), ("WorkerPlan", "own_count"), ("WorkerPlan", "own_depth"), ("SupervisorPlan", "own_settings"), ("SupervisorPlan", "own_children"), ("SupervisorPlan", "own_count"), ("SupervisorPlan", "own_depth")]
def meths : List (Str × Str × Str) := [("WorkerPlan", "settings", "Plan"), ("WorkerPlan", "below", "Plan"), ("WorkerPlan", "with_all", "Plan"), ("WorkerPlan", "__len__", "Plan"), ("WorkerPlan", "__contains__", "Plan"), ("SupervisorPlan", "below", "SupervisorPlan"), ("SupervisorPlan", "settings", "Plan"), ("SupervisorPlan", "with_all", "Plan"), ("SupervisorPlan", "__len__", "Plan"), ("SupervisorPlan", "__contains__", "Plan")]
def props : List (Str × Str) := [("WorkerPlan", "name"), ("WorkerPlan", "restart"), ("WorkerPlan", "opening"), ("WorkerPlan", "closing"), ("WorkerPlan", "deadline"), ("WorkerPlan", "refused"), ("WorkerPlan", "script"), ("SupervisorPlan", "name"), ("SupervisorPlan", "restart"), ("SupervisorPlan", "strategy"), ("SupervisorPlan", "most"), ("SupervisorPlan", "span"), ("SupervisorPlan", "deadline"), ("SupervisorPlan", "children")]
def kits : List (Str × Str × Bool) := [("WorkerPlan", "Plan", true), ("WorkerPlan", "BaseWorker", true), ("WorkerPlan", "WorkerPlan", true), ("WorkerPlan", "SupervisorPlan", false), ("SupervisorPlan", "Plan", true), ("SupervisorPlan", "BaseWorker", false), ("SupervisorPlan", "WorkerPlan", false), ("SupervisorPlan", "SupervisorPlan", true)]
structure Env (K : PySem.W.Frag) (mg : Str → Option Value) : Type where
  sys : WXG.SysK K
  b_len : mg "len" = none
  b_int : mg "int" = none
  b_isinstance : mg "isinstance" = none
  b_range : mg "range" = none
  b_enumerate : mg "enumerate" = none
  b_list : mg "list" = none
  b_str : mg "str" = none
  b_tuple : mg "tuple" = none
  b_zip : mg "zip" = none
  b_all : mg "all" = none
  b_sum : mg "sum" = none
  b_min : mg "min" = none
  b_max : mg "max" = none
  b_divmod : mg "divmod" = none
  b_bool : mg "bool" = none
  b_repr : mg "repr" = none
  g_BadSetting : mg "BadSetting" = some (.ref (He.ga K "BadSetting"))
  g_BadChild : mg "BadChild" = some (.ref (He.ga K "BadChild"))
  g_BadRoot : mg "BadRoot" = some (.ref (He.ga K "BadRoot"))
  g_BadText : mg "BadText" = some (.ref (He.ga K "BadText"))
  g_BadScript : mg "BadScript" = some (.ref (He.ga K "BadScript"))
  g_NotWorker : mg "NotWorker" = some (.ref (He.ga K "NotWorker"))
  g_NoPlace : mg "NoPlace" = some (.ref (He.ga K "NoPlace"))
  g_Plan : mg "Plan" = some (.ref (He.ga K "Plan"))
  g_BaseWorker : mg "BaseWorker" = some (.ref (He.ga K "BaseWorker"))
  g_WorkerPlan : mg "WorkerPlan" = some (.ref (He.ga K "WorkerPlan"))
  g_SupervisorPlan : mg "SupervisorPlan" = some (.ref (He.ga K "SupervisorPlan"))
  g_is_word : mg "is_word" = some (.ref (He.ga K "is_word"))
  g_is_name : mg "is_name" = some (.ref (He.ga K "is_name"))
  g_is_between : mg "is_between" = some (.ref (He.ga K "is_between"))
  g_wrong_row : mg "wrong_row" = some (.ref (He.ga K "wrong_row"))
  g_is_script : mg "is_script" = some (.ref (He.ga K "is_script"))
  g_is_one_of : mg "is_one_of" = some (.ref (He.ga K "is_one_of"))
  g_is_deadline : mg "is_deadline" = some (.ref (He.ga K "is_deadline"))
  g_require : mg "require" = some (.ref (He.ga K "require"))
  g_is_supervisor : mg "is_supervisor" = some (.ref (He.ga K "is_supervisor"))
  g_names : mg "names" = some (.ref (He.ga K "names"))
  g_spot_of : mg "spot_of" = some (.ref (He.ga K "spot_of"))
  g_required_way : mg "required_way" = some (.ref (He.ga K "required_way"))
  g_levels : mg "levels" = some (.ref (He.ga K "levels"))
  g_greatest_product : mg "greatest_product" = some (.ref (He.ga K "greatest_product"))
  g_broken_rule : mg "broken_rule" = some (.ref (He.ga K "broken_rule"))
  g_check_root : mg "check_root" = some (.ref (He.ga K "check_root"))
  g_supervisor_of : mg "supervisor_of" = some (.ref (He.ga K "supervisor_of"))
  g_worker_of : mg "worker_of" = some (.ref (He.ga K "worker_of"))
  g_opening_time : mg "opening_time" = some (.ref (He.ga K "opening_time"))
  g_cut : mg "cut" = some (.ref (He.ga K "cut"))
  g_stopping_time : mg "stopping_time" = some (.ref (He.ga K "stopping_time"))
  g_way_of_worker : mg "way_of_worker" = some (.ref (He.ga K "way_of_worker"))
  g_mend_times : mg "mend_times" = some (.ref (He.ga K "mend_times"))
  g_attack_row : mg "attack_row" = some (.ref (He.ga K "attack_row"))
  g_attacks : mg "attacks" = some (.ref (He.ga K "attacks"))
  g_product_of : mg "product_of" = some (.ref (He.ga K "product_of"))
  g_fall : mg "fall" = some (.ref (He.ga K "fall"))
  g_fewest : mg "fewest" = some (.ref (He.ga K "fewest"))
  g_number_of : mg "number_of" = some (.ref (He.ga K "number_of"))
  g_values_in : mg "values_in" = some (.ref (He.ga K "values_in"))
  g_row_of : mg "row_of" = some (.ref (He.ga K "row_of"))
  g_rows_of : mg "rows_of" = some (.ref (He.ga K "rows_of"))
  g_plan_of : mg "plan_of" = some (.ref (He.ga K "plan_of"))
  g_read_plan : mg "read_plan" = some (.ref (He.ga K "read_plan"))
  g__law_begun : mg "_law_begun" = some (.ref (He.ga K "_law_begun"))
  g__law_next : mg "_law_next" = some (.ref (He.ga K "_law_next"))
  g__law_of : mg "_law_of" = some (.ref (He.ga K "_law_of"))
  g__law_name : mg "_law_name" = some (.ref (He.ga K "_law_name"))
  g__law_ticks : mg "_law_ticks" = some (.ref (He.ga K "_law_ticks"))
  g__law_worker : mg "_law_worker" = some (.ref (He.ga K "_law_worker"))
  g__law_supervisor : mg "_law_supervisor" = some (.ref (He.ga K "_law_supervisor"))
  g__law_opening : mg "_law_opening" = some (.ref (He.ga K "_law_opening"))
  g__law_stopping : mg "_law_stopping" = some (.ref (He.ga K "_law_stopping"))
  g__law_all : mg "_law_all" = some (.ref (He.ga K "_law_all"))
  g__law_way : mg "_law_way" = some (.ref (He.ga K "_law_way"))
  g__law_cycle : mg "_law_cycle" = some (.ref (He.ga K "_law_cycle"))
  g__law_lasting : mg "_law_lasting" = some (.ref (He.ga K "_law_lasting"))
  g__law_rows : mg "_law_rows" = some (.ref (He.ga K "_law_rows"))
  g__law_product : mg "_law_product" = some (.ref (He.ga K "_law_product"))
  g__law_spanned : mg "_law_spanned" = some (.ref (He.ga K "_law_spanned"))
  g__law_lines : mg "_law_lines" = some (.ref (He.ga K "_law_lines"))
  g__law_plan : mg "_law_plan" = some (.ref (He.ga K "_law_plan"))
  g__law_more : mg "_law_more" = some (.ref (He.ga K "_law_more"))
  g__law_longer : mg "_law_longer" = some (.ref (He.ga K "_law_longer"))
  g__law_times : mg "_law_times" = some (.ref (He.ga K "_law_times"))
  g__law_greatest : mg "_law_greatest" = some (.ref (He.ga K "_law_greatest"))
  g__law_product_is_small : mg "_law_product_is_small" = some (.ref (He.ga K "_law_product_is_small"))
  g__law_is_safer : mg "_law_is_safer" = some (.ref (He.ga K "_law_is_safer"))
  g__law_is_multiplied : mg "_law_is_multiplied" = some (.ref (He.ga K "_law_is_multiplied"))
  g_law : mg "law" = some (.ref (He.ga K "law"))
  g_RESERVED : mg "RESERVED" = some (.ref (He.ga K "RESERVED"))
  g_OWN_REASONS : mg "OWN_REASONS" = some (.ref (He.ga K "OWN_REASONS"))
  g_OWN_WORDS : mg "OWN_WORDS" = some (.ref (He.ga K "OWN_WORDS"))
  g_RESTARTS : mg "RESTARTS" = some (.ref (He.ga K "RESTARTS"))
  g_STRATEGIES : mg "STRATEGIES" = some (.ref (He.ga K "STRATEGIES"))
  g_WORKER_SETTINGS : mg "WORKER_SETTINGS" = some (.ref (He.ga K "WORKER_SETTINGS"))
  g_SUPERVISOR_SETTINGS : mg "SUPERVISOR_SETTINGS" = some (.ref (He.ga K "SUPERVISOR_SETTINGS"))
  g_WORDED : mg "WORDED" = some (.ref (He.ga K "WORDED"))
  c_MOST_SIGNS : ∃ u, mg "MOST_SIGNS" = some u ∧ L2.RelV (.int 20) u
  c_MOST_ROWS : ∃ u, mg "MOST_ROWS" = some u ∧ L2.RelV (.int 30) u
  c_MOST_DEEDS : ∃ u, mg "MOST_DEEDS" = some u ∧ L2.RelV (.int 8) u
  c_MOST_WORK : ∃ u, mg "MOST_WORK" = some u ∧ L2.RelV (.int 1000) u
  c_MOST_TICKS : ∃ u, mg "MOST_TICKS" = some u ∧ L2.RelV (.int 1000000000) u
  c_MOST_VALUE : ∃ u, mg "MOST_VALUE" = some u ∧ L2.RelV (.int 1000000000000) u
  c_MOST_WAIT : ∃ u, mg "MOST_WAIT" = some u ∧ L2.RelV (.int 1000000000) u
  c_MOST_CHILDREN : ∃ u, mg "MOST_CHILDREN" = some u ∧ L2.RelV (.int 12) u
  c_MOST_PLANS : ∃ u, mg "MOST_PLANS" = some u ∧ L2.RelV (.int 60) u
  c_MOST_LEVELS : ∃ u, mg "MOST_LEVELS" = some u ∧ L2.RelV (.int 6) u
  c_MOST_DEPTH : ∃ u, mg "MOST_DEPTH" = some u ∧ L2.RelV (.int 20) u
  c_MOST_WHOLE : ∃ u, mg "MOST_WHOLE" = some u ∧ L2.RelV (.int 200) u
  c_MOST_PRODUCT : ∃ u, mg "MOST_PRODUCT" = some u ∧ L2.RelV (.int 1000) u
  c_LETTERS : ∃ u, mg "LETTERS" = some u ∧ L2.RelV (.str "abcdefghijklmnopqrstuvwxyz") u
  c_SIGNS : ∃ u, mg "SIGNS" = some u ∧ L2.RelV (.str "abcdefghijklmnopqrstuvwxyz0123456789_") u
  c_INDENT : ∃ u, mg "INDENT" = some u ∧ L2.RelV (.str "  ") u
  c_DIGITS : ∃ u, mg "DIGITS" = some u ∧ L2.RelV (.str "0123456789") u
  q_RESERVED : ∀ H, SqT K H (He.ga K "RESERVED") [.str "own", .str "sender", .str "about"]
  q_OWN_REASONS : ∀ H, SqT K H (He.ga K "OWN_REASONS") [.str "shutdown", .str "refused", .str "gave_up", .str "killed", .str "nobody"]
  q_OWN_WORDS : ∀ H, SqT K H (He.ga K "OWN_WORDS") [.str "answer", .str "back", .str "ended", .str "down", .str "told"]
  q_RESTARTS : ∀ H, SqT K H (He.ga K "RESTARTS") [.str "permanent", .str "transient", .str "temporary"]
  q_STRATEGIES : ∀ H, SqT K H (He.ga K "STRATEGIES") [.str "one", .str "rest", .str "all"]
  q_WORKER_SETTINGS : ∀ H, SqT K H (He.ga K "WORKER_SETTINGS") [.str "name", .str "restart", .str "opening", .str "closing", .str "deadline", .str "refused", .str "script"]
  q_SUPERVISOR_SETTINGS : ∀ H, SqT K H (He.ga K "SUPERVISOR_SETTINGS") [.str "name", .str "restart", .str "strategy", .str "most", .str "span", .str "deadline"]
  q_WORDED : ∀ H, SqT K H (He.ga K "WORDED") [.str "name", .str "restart", .str "strategy"]
  fd_is_word : FuncData
  F_is_word : FunD K d_is_word.name d_is_word.qual d_is_word.params d_is_word.body d_is_word.scope [] [] (d_is_word.loc K) fd_is_word
  fd_is_name : FuncData
  F_is_name : FunD K d_is_name.name d_is_name.qual d_is_name.params d_is_name.body d_is_name.scope [] [] (d_is_name.loc K) fd_is_name
  fd_is_between : FuncData
  F_is_between : FunD K d_is_between.name d_is_between.qual d_is_between.params d_is_between.body d_is_between.scope [] [] (d_is_between.loc K) fd_is_between
  fd_wrong_row : FuncData
  F_wrong_row : FunD K d_wrong_row.name d_wrong_row.qual d_wrong_row.params d_wrong_row.body d_wrong_row.scope [] [] (d_wrong_row.loc K) fd_wrong_row
  fd_is_script : FuncData
  F_is_script : FunD K d_is_script.name d_is_script.qual d_is_script.params d_is_script.body d_is_script.scope [] [] (d_is_script.loc K) fd_is_script
  fd_is_one_of : FuncData
  F_is_one_of : FunD K d_is_one_of.name d_is_one_of.qual d_is_one_of.params d_is_one_of.body d_is_one_of.scope [] [] (d_is_one_of.loc K) fd_is_one_of
  fd_is_deadline : FuncData
  F_is_deadline : FunD K d_is_deadline.name d_is_deadline.qual d_is_deadline.params d_is_deadline.body d_is_deadline.scope [] [] (d_is_deadline.loc K) fd_is_deadline
  fd_require : FuncData
  F_require : FunD K d_require.name d_require.qual d_require.params d_require.body d_require.scope [] [] (d_require.loc K) fd_require
  fd_is_supervisor : FuncData
  F_is_supervisor : FunD K d_is_supervisor.name d_is_supervisor.qual d_is_supervisor.params d_is_supervisor.body d_is_supervisor.scope [] [] (d_is_supervisor.loc K) fd_is_supervisor
  fd_names : FuncData
  F_names : FunD K d_names.name d_names.qual d_names.params d_names.body d_names.scope [] [] (d_names.loc K) fd_names
  fd_spot_of : FuncData
  F_spot_of : FunD K d_spot_of.name d_spot_of.qual d_spot_of.params d_spot_of.body d_spot_of.scope [] [] (d_spot_of.loc K) fd_spot_of
  fd_required_way : FuncData
  F_required_way : FunD K d_required_way.name d_required_way.qual d_required_way.params d_required_way.body d_required_way.scope [] [] (d_required_way.loc K) fd_required_way
  fd_levels : FuncData
  F_levels : FunD K d_levels.name d_levels.qual d_levels.params d_levels.body d_levels.scope [] [] (d_levels.loc K) fd_levels
  fd_greatest_product : FuncData
  F_greatest_product : FunD K d_greatest_product.name d_greatest_product.qual d_greatest_product.params d_greatest_product.body d_greatest_product.scope [] [] (d_greatest_product.loc K) fd_greatest_product
  fd_broken_rule : FuncData
  F_broken_rule : FunD K d_broken_rule.name d_broken_rule.qual d_broken_rule.params d_broken_rule.body d_broken_rule.scope [] [] (d_broken_rule.loc K) fd_broken_rule
  fd_check_root : FuncData
  F_check_root : FunD K d_check_root.name d_check_root.qual d_check_root.params d_check_root.body d_check_root.scope [] [] (d_check_root.loc K) fd_check_root
  fd_supervisor_of : FuncData
  F_supervisor_of : FunD K d_supervisor_of.name d_supervisor_of.qual d_supervisor_of.params d_supervisor_of.body d_supervisor_of.scope [] [] (d_supervisor_of.loc K) fd_supervisor_of
  fd_worker_of : FuncData
  F_worker_of : FunD K d_worker_of.name d_worker_of.qual d_worker_of.params d_worker_of.body d_worker_of.scope [] [] (d_worker_of.loc K) fd_worker_of
  fd_opening_time : FuncData
  F_opening_time : FunD K d_opening_time.name d_opening_time.qual d_opening_time.params d_opening_time.body d_opening_time.scope [] [] (d_opening_time.loc K) fd_opening_time
  fd_cut : FuncData
  F_cut : FunD K d_cut.name d_cut.qual d_cut.params d_cut.body d_cut.scope [] [] (d_cut.loc K) fd_cut
  fd_stopping_time : FuncData
  F_stopping_time : FunD K d_stopping_time.name d_stopping_time.qual d_stopping_time.params d_stopping_time.body d_stopping_time.scope [] [] (d_stopping_time.loc K) fd_stopping_time
  fd_way_of_worker : FuncData
  F_way_of_worker : FunD K d_way_of_worker.name d_way_of_worker.qual d_way_of_worker.params d_way_of_worker.body d_way_of_worker.scope [] [] (d_way_of_worker.loc K) fd_way_of_worker
  fd_mend_times : FuncData
  F_mend_times : FunD K d_mend_times.name d_mend_times.qual d_mend_times.params d_mend_times.body d_mend_times.scope [] [] (d_mend_times.loc K) fd_mend_times
  fd_attack_row : FuncData
  F_attack_row : FunD K d_attack_row.name d_attack_row.qual d_attack_row.params d_attack_row.body d_attack_row.scope [] [] (d_attack_row.loc K) fd_attack_row
  fd_attacks : FuncData
  F_attacks : FunD K d_attacks.name d_attacks.qual d_attacks.params d_attacks.body d_attacks.scope [] [] (d_attacks.loc K) fd_attacks
  fd_product_of : FuncData
  F_product_of : FunD K d_product_of.name d_product_of.qual d_product_of.params d_product_of.body d_product_of.scope [] [] (d_product_of.loc K) fd_product_of
  fd_fall : FuncData
  F_fall : FunD K d_fall.name d_fall.qual d_fall.params d_fall.body d_fall.scope [] [] (d_fall.loc K) fd_fall
  fd_fewest : FuncData
  F_fewest : FunD K d_fewest.name d_fewest.qual d_fewest.params d_fewest.body d_fewest.scope [] [] (d_fewest.loc K) fd_fewest
  fd_number_of : FuncData
  F_number_of : FunD K d_number_of.name d_number_of.qual d_number_of.params d_number_of.body d_number_of.scope [] [] (d_number_of.loc K) fd_number_of
  fd_values_in : FuncData
  F_values_in : FunD K d_values_in.name d_values_in.qual d_values_in.params d_values_in.body d_values_in.scope [] [] (d_values_in.loc K) fd_values_in
  fd_row_of : FuncData
  F_row_of : FunD K d_row_of.name d_row_of.qual d_row_of.params d_row_of.body d_row_of.scope [] [] (d_row_of.loc K) fd_row_of
  fd_rows_of : FuncData
  F_rows_of : FunD K d_rows_of.name d_rows_of.qual d_rows_of.params d_rows_of.body d_rows_of.scope [] [] (d_rows_of.loc K) fd_rows_of
  fd_plan_of : FuncData
  F_plan_of : FunD K d_plan_of.name d_plan_of.qual d_plan_of.params d_plan_of.body d_plan_of.scope [] [] (d_plan_of.loc K) fd_plan_of
  fd_read_plan : FuncData
  F_read_plan : FunD K d_read_plan.name d_read_plan.qual d_read_plan.params d_read_plan.body d_read_plan.scope [] [] (d_read_plan.loc K) fd_read_plan
  fd_L_begun : FuncData
  F_L_begun : FunD K d_L_begun.name d_L_begun.qual d_L_begun.params d_L_begun.body d_L_begun.scope [] [] (d_L_begun.loc K) fd_L_begun
  fd_L_next : FuncData
  F_L_next : FunD K d_L_next.name d_L_next.qual d_L_next.params d_L_next.body d_L_next.scope [] [] (d_L_next.loc K) fd_L_next
  fd_L_of : FuncData
  F_L_of : FunD K d_L_of.name d_L_of.qual d_L_of.params d_L_of.body d_L_of.scope [] [] (d_L_of.loc K) fd_L_of
  fd_L_name : FuncData
  F_L_name : FunD K d_L_name.name d_L_name.qual d_L_name.params d_L_name.body d_L_name.scope [] [] (d_L_name.loc K) fd_L_name
  fd_L_ticks : FuncData
  F_L_ticks : FunD K d_L_ticks.name d_L_ticks.qual d_L_ticks.params d_L_ticks.body d_L_ticks.scope [] [] (d_L_ticks.loc K) fd_L_ticks
  fd_L_worker : FuncData
  F_L_worker : FunD K d_L_worker.name d_L_worker.qual d_L_worker.params d_L_worker.body d_L_worker.scope [] [] (d_L_worker.loc K) fd_L_worker
  fd_L_supervisor : FuncData
  F_L_supervisor : FunD K d_L_supervisor.name d_L_supervisor.qual d_L_supervisor.params d_L_supervisor.body d_L_supervisor.scope [] [] (d_L_supervisor.loc K) fd_L_supervisor
  fd_L_opening : FuncData
  F_L_opening : FunD K d_L_opening.name d_L_opening.qual d_L_opening.params d_L_opening.body d_L_opening.scope [] [] (d_L_opening.loc K) fd_L_opening
  fd_L_stopping : FuncData
  F_L_stopping : FunD K d_L_stopping.name d_L_stopping.qual d_L_stopping.params d_L_stopping.body d_L_stopping.scope [] [] (d_L_stopping.loc K) fd_L_stopping
  fd_L_all : FuncData
  F_L_all : FunD K d_L_all.name d_L_all.qual d_L_all.params d_L_all.body d_L_all.scope [] [] (d_L_all.loc K) fd_L_all
  fd_L_way : FuncData
  F_L_way : FunD K d_L_way.name d_L_way.qual d_L_way.params d_L_way.body d_L_way.scope [] [] (d_L_way.loc K) fd_L_way
  fd_L_cycle : FuncData
  F_L_cycle : FunD K d_L_cycle.name d_L_cycle.qual d_L_cycle.params d_L_cycle.body d_L_cycle.scope [] [] (d_L_cycle.loc K) fd_L_cycle
  fd_L_lasting : FuncData
  F_L_lasting : FunD K d_L_lasting.name d_L_lasting.qual d_L_lasting.params d_L_lasting.body d_L_lasting.scope [] [] (d_L_lasting.loc K) fd_L_lasting
  fd_L_rows : FuncData
  F_L_rows : FunD K d_L_rows.name d_L_rows.qual d_L_rows.params d_L_rows.body d_L_rows.scope [] [] (d_L_rows.loc K) fd_L_rows
  fd_L_product : FuncData
  F_L_product : FunD K d_L_product.name d_L_product.qual d_L_product.params d_L_product.body d_L_product.scope [] [] (d_L_product.loc K) fd_L_product
  fd_L_spanned : FuncData
  F_L_spanned : FunD K d_L_spanned.name d_L_spanned.qual d_L_spanned.params d_L_spanned.body d_L_spanned.scope [] [] (d_L_spanned.loc K) fd_L_spanned
  fd_L_lines : FuncData
  F_L_lines : FunD K d_L_lines.name d_L_lines.qual d_L_lines.params d_L_lines.body d_L_lines.scope [] [] (d_L_lines.loc K) fd_L_lines
  fd_L_plan : FuncData
  F_L_plan : FunD K d_L_plan.name d_L_plan.qual d_L_plan.params d_L_plan.body d_L_plan.scope [] [] (d_L_plan.loc K) fd_L_plan
  fd_L_more : FuncData
  F_L_more : FunD K d_L_more.name d_L_more.qual d_L_more.params d_L_more.body d_L_more.scope [] [] (d_L_more.loc K) fd_L_more
  fd_L_longer : FuncData
  F_L_longer : FunD K d_L_longer.name d_L_longer.qual d_L_longer.params d_L_longer.body d_L_longer.scope [] [] (d_L_longer.loc K) fd_L_longer
  fd_L_times : FuncData
  F_L_times : FunD K d_L_times.name d_L_times.qual d_L_times.params d_L_times.body d_L_times.scope [] [] (d_L_times.loc K) fd_L_times
  fd_L_greatest : FuncData
  F_L_greatest : FunD K d_L_greatest.name d_L_greatest.qual d_L_greatest.params d_L_greatest.body d_L_greatest.scope [] [] (d_L_greatest.loc K) fd_L_greatest
  fd_L_product_is_small : FuncData
  F_L_product_is_small : FunD K d_L_product_is_small.name d_L_product_is_small.qual d_L_product_is_small.params d_L_product_is_small.body d_L_product_is_small.scope [] [] (d_L_product_is_small.loc K) fd_L_product_is_small
  fd_L_is_safer : FuncData
  F_L_is_safer : FunD K d_L_is_safer.name d_L_is_safer.qual d_L_is_safer.params d_L_is_safer.body d_L_is_safer.scope [] [] (d_L_is_safer.loc K) fd_L_is_safer
  fd_L_is_multiplied : FuncData
  F_L_is_multiplied : FunD K d_L_is_multiplied.name d_L_is_multiplied.qual d_L_is_multiplied.params d_L_is_multiplied.body d_L_is_multiplied.scope [] [] (d_L_is_multiplied.loc K) fd_L_is_multiplied
  fd_law : FuncData
  F_law : FunD K d_law.name d_law.qual d_law.params d_law.body d_law.scope [] [] (d_law.loc K) fd_law
  fd_Plan_settings : FuncData
  F_Plan_settings : FunD K d_Plan_settings.name d_Plan_settings.qual d_Plan_settings.params d_Plan_settings.body d_Plan_settings.scope [] [] (d_Plan_settings.loc K) fd_Plan_settings
  fd_Plan_below : FuncData
  F_Plan_below : FunD K d_Plan_below.name d_Plan_below.qual d_Plan_below.params d_Plan_below.body d_Plan_below.scope [] [] (d_Plan_below.loc K) fd_Plan_below
  fd_Plan_with_all : FuncData
  F_Plan_with_all : FunD K d_Plan_with_all.name d_Plan_with_all.qual d_Plan_with_all.params d_Plan_with_all.body d_Plan_with_all.scope [] [] (d_Plan_with_all.loc K) fd_Plan_with_all
  fd_Plan__len : FuncData
  F_Plan__len : FunD K d_Plan__len.name d_Plan__len.qual d_Plan__len.params d_Plan__len.body d_Plan__len.scope [] [] (d_Plan__len.loc K) fd_Plan__len
  fd_Plan__contains : FuncData
  F_Plan__contains : FunD K d_Plan__contains.name d_Plan__contains.qual d_Plan__contains.params d_Plan__contains.body d_Plan__contains.scope [] [] (d_Plan__contains.loc K) fd_Plan__contains
  fd_WorkerPlan__init : FuncData
  F_WorkerPlan__init : FunD K d_WorkerPlan__init.name d_WorkerPlan__init.qual d_WorkerPlan__init.params d_WorkerPlan__init.body d_WorkerPlan__init.scope [] [] (d_WorkerPlan__init.loc K) fd_WorkerPlan__init
  fd_WorkerPlan__eq : FuncData
  F_WorkerPlan__eq : FunD K d_WorkerPlan__eq.name d_WorkerPlan__eq.qual d_WorkerPlan__eq.params d_WorkerPlan__eq.body d_WorkerPlan__eq.scope [] [] (d_WorkerPlan__eq.loc K) fd_WorkerPlan__eq
  fd_SupervisorPlan__init : FuncData
  F_SupervisorPlan__init : FunD K d_SupervisorPlan__init.name d_SupervisorPlan__init.qual d_SupervisorPlan__init.params d_SupervisorPlan__init.body d_SupervisorPlan__init.scope [] [] (d_SupervisorPlan__init.loc K) fd_SupervisorPlan__init
  fd_SupervisorPlan_below : FuncData
  F_SupervisorPlan_below : FunD K d_SupervisorPlan_below.name d_SupervisorPlan_below.qual d_SupervisorPlan_below.params d_SupervisorPlan_below.body d_SupervisorPlan_below.scope [] [] (d_SupervisorPlan_below.loc K) fd_SupervisorPlan_below
  fd_SupervisorPlan__eq : FuncData
  F_SupervisorPlan__eq : FunD K d_SupervisorPlan__eq.name d_SupervisorPlan__eq.qual d_SupervisorPlan__eq.params d_SupervisorPlan__eq.body d_SupervisorPlan__eq.scope [] [] (d_SupervisorPlan__eq.loc K) fd_SupervisorPlan__eq
  fd_WorkerPlan_name : FuncData
  F_WorkerPlan_name : FunD K d_WorkerPlan_name.name d_WorkerPlan_name.qual d_WorkerPlan_name.params d_WorkerPlan_name.body d_WorkerPlan_name.scope [] [] (d_WorkerPlan_name.loc K) fd_WorkerPlan_name
  fd_WorkerPlan_restart : FuncData
  F_WorkerPlan_restart : FunD K d_WorkerPlan_restart.name d_WorkerPlan_restart.qual d_WorkerPlan_restart.params d_WorkerPlan_restart.body d_WorkerPlan_restart.scope [] [] (d_WorkerPlan_restart.loc K) fd_WorkerPlan_restart
  fd_WorkerPlan_opening : FuncData
  F_WorkerPlan_opening : FunD K d_WorkerPlan_opening.name d_WorkerPlan_opening.qual d_WorkerPlan_opening.params d_WorkerPlan_opening.body d_WorkerPlan_opening.scope [] [] (d_WorkerPlan_opening.loc K) fd_WorkerPlan_opening
  fd_WorkerPlan_closing : FuncData
  F_WorkerPlan_closing : FunD K d_WorkerPlan_closing.name d_WorkerPlan_closing.qual d_WorkerPlan_closing.params d_WorkerPlan_closing.body d_WorkerPlan_closing.scope [] [] (d_WorkerPlan_closing.loc K) fd_WorkerPlan_closing
  fd_WorkerPlan_deadline : FuncData
  F_WorkerPlan_deadline : FunD K d_WorkerPlan_deadline.name d_WorkerPlan_deadline.qual d_WorkerPlan_deadline.params d_WorkerPlan_deadline.body d_WorkerPlan_deadline.scope [] [] (d_WorkerPlan_deadline.loc K) fd_WorkerPlan_deadline
  fd_WorkerPlan_refused : FuncData
  F_WorkerPlan_refused : FunD K d_WorkerPlan_refused.name d_WorkerPlan_refused.qual d_WorkerPlan_refused.params d_WorkerPlan_refused.body d_WorkerPlan_refused.scope [] [] (d_WorkerPlan_refused.loc K) fd_WorkerPlan_refused
  fd_WorkerPlan_script : FuncData
  F_WorkerPlan_script : FunD K d_WorkerPlan_script.name d_WorkerPlan_script.qual d_WorkerPlan_script.params d_WorkerPlan_script.body d_WorkerPlan_script.scope [] [] (d_WorkerPlan_script.loc K) fd_WorkerPlan_script
  fd_SupervisorPlan_name : FuncData
  F_SupervisorPlan_name : FunD K d_SupervisorPlan_name.name d_SupervisorPlan_name.qual d_SupervisorPlan_name.params d_SupervisorPlan_name.body d_SupervisorPlan_name.scope [] [] (d_SupervisorPlan_name.loc K) fd_SupervisorPlan_name
  fd_SupervisorPlan_restart : FuncData
  F_SupervisorPlan_restart : FunD K d_SupervisorPlan_restart.name d_SupervisorPlan_restart.qual d_SupervisorPlan_restart.params d_SupervisorPlan_restart.body d_SupervisorPlan_restart.scope [] [] (d_SupervisorPlan_restart.loc K) fd_SupervisorPlan_restart
  fd_SupervisorPlan_strategy : FuncData
  F_SupervisorPlan_strategy : FunD K d_SupervisorPlan_strategy.name d_SupervisorPlan_strategy.qual d_SupervisorPlan_strategy.params d_SupervisorPlan_strategy.body d_SupervisorPlan_strategy.scope [] [] (d_SupervisorPlan_strategy.loc K) fd_SupervisorPlan_strategy
  fd_SupervisorPlan_most : FuncData
  F_SupervisorPlan_most : FunD K d_SupervisorPlan_most.name d_SupervisorPlan_most.qual d_SupervisorPlan_most.params d_SupervisorPlan_most.body d_SupervisorPlan_most.scope [] [] (d_SupervisorPlan_most.loc K) fd_SupervisorPlan_most
  fd_SupervisorPlan_span : FuncData
  F_SupervisorPlan_span : FunD K d_SupervisorPlan_span.name d_SupervisorPlan_span.qual d_SupervisorPlan_span.params d_SupervisorPlan_span.body d_SupervisorPlan_span.scope [] [] (d_SupervisorPlan_span.loc K) fd_SupervisorPlan_span
  fd_SupervisorPlan_deadline : FuncData
  F_SupervisorPlan_deadline : FunD K d_SupervisorPlan_deadline.name d_SupervisorPlan_deadline.qual d_SupervisorPlan_deadline.params d_SupervisorPlan_deadline.body d_SupervisorPlan_deadline.scope [] [] (d_SupervisorPlan_deadline.loc K) fd_SupervisorPlan_deadline
  fd_SupervisorPlan_children : FuncData
  F_SupervisorPlan_children : FunD K d_SupervisorPlan_children.name d_SupervisorPlan_children.qual d_SupervisorPlan_children.params d_SupervisorPlan_children.body d_SupervisorPlan_children.scope [] [] (d_SupervisorPlan_children.loc K) fd_SupervisorPlan_children
  n_WorkerPlan_own_settings : NoAttr K (He.ga K "WorkerPlan") "own_settings"
  n_WorkerPlan_own_count : NoAttr K (He.ga K "WorkerPlan") "own_count"
  n_WorkerPlan_own_depth : NoAttr K (He.ga K "WorkerPlan") "own_depth"
  n_SupervisorPlan_own_settings : NoAttr K (He.ga K "SupervisorPlan") "own_settings"
  n_SupervisorPlan_own_children : NoAttr K (He.ga K "SupervisorPlan") "own_children"
  n_SupervisorPlan_own_count : NoAttr K (He.ga K "SupervisorPlan") "own_count"
  n_SupervisorPlan_own_depth : NoAttr K (He.ga K "SupervisorPlan") "own_depth"
  m_WorkerPlan_settings : Meth K (He.ga K "WorkerPlan") "settings" (He.fAd K ("Plan", some "settings"))
  m_WorkerPlan_below : Meth K (He.ga K "WorkerPlan") "below" (He.fAd K ("Plan", some "below"))
  m_WorkerPlan_with_all : Meth K (He.ga K "WorkerPlan") "with_all" (He.fAd K ("Plan", some "with_all"))
  m_WorkerPlan___len__ : Meth K (He.ga K "WorkerPlan") "__len__" (He.fAd K ("Plan", some "__len__"))
  m_WorkerPlan___contains__ : Meth K (He.ga K "WorkerPlan") "__contains__" (He.fAd K ("Plan", some "__contains__"))
  m_SupervisorPlan_below : Meth K (He.ga K "SupervisorPlan") "below" (He.fAd K ("SupervisorPlan", some "below"))
  m_SupervisorPlan_settings : Meth K (He.ga K "SupervisorPlan") "settings" (He.fAd K ("Plan", some "settings"))
  m_SupervisorPlan_with_all : Meth K (He.ga K "SupervisorPlan") "with_all" (He.fAd K ("Plan", some "with_all"))
  m_SupervisorPlan___len__ : Meth K (He.ga K "SupervisorPlan") "__len__" (He.fAd K ("Plan", some "__len__"))
  m_SupervisorPlan___contains__ : Meth K (He.ga K "SupervisorPlan") "__contains__" (He.fAd K ("Plan", some "__contains__"))
  p_WorkerPlan_name : PropOf K (He.ga K "WorkerPlan") "name" (He.ma K (He.ga K "WorkerPlan") "name") (WHe.pgAd K "WorkerPlan" "name")
  p_WorkerPlan_restart : PropOf K (He.ga K "WorkerPlan") "restart" (He.ma K (He.ga K "WorkerPlan") "restart") (WHe.pgAd K "WorkerPlan" "restart")
  p_WorkerPlan_opening : PropOf K (He.ga K "WorkerPlan") "opening" (He.ma K (He.ga K "WorkerPlan") "opening") (WHe.pgAd K "WorkerPlan" "opening")
  p_WorkerPlan_closing : PropOf K (He.ga K "WorkerPlan") "closing" (He.ma K (He.ga K "WorkerPlan") "closing") (WHe.pgAd K "WorkerPlan" "closing")
  p_WorkerPlan_deadline : PropOf K (He.ga K "WorkerPlan") "deadline" (He.ma K (He.ga K "WorkerPlan") "deadline") (WHe.pgAd K "WorkerPlan" "deadline")
  p_WorkerPlan_refused : PropOf K (He.ga K "WorkerPlan") "refused" (He.ma K (He.ga K "WorkerPlan") "refused") (WHe.pgAd K "WorkerPlan" "refused")
  p_WorkerPlan_script : PropOf K (He.ga K "WorkerPlan") "script" (He.ma K (He.ga K "WorkerPlan") "script") (WHe.pgAd K "WorkerPlan" "script")
  p_SupervisorPlan_name : PropOf K (He.ga K "SupervisorPlan") "name" (He.ma K (He.ga K "SupervisorPlan") "name") (WHe.pgAd K "SupervisorPlan" "name")
  p_SupervisorPlan_restart : PropOf K (He.ga K "SupervisorPlan") "restart" (He.ma K (He.ga K "SupervisorPlan") "restart") (WHe.pgAd K "SupervisorPlan" "restart")
  p_SupervisorPlan_strategy : PropOf K (He.ga K "SupervisorPlan") "strategy" (He.ma K (He.ga K "SupervisorPlan") "strategy") (WHe.pgAd K "SupervisorPlan" "strategy")
  p_SupervisorPlan_most : PropOf K (He.ga K "SupervisorPlan") "most" (He.ma K (He.ga K "SupervisorPlan") "most") (WHe.pgAd K "SupervisorPlan" "most")
  p_SupervisorPlan_span : PropOf K (He.ga K "SupervisorPlan") "span" (He.ma K (He.ga K "SupervisorPlan") "span") (WHe.pgAd K "SupervisorPlan" "span")
  p_SupervisorPlan_deadline : PropOf K (He.ga K "SupervisorPlan") "deadline" (He.ma K (He.ga K "SupervisorPlan") "deadline") (WHe.pgAd K "SupervisorPlan" "deadline")
  p_SupervisorPlan_children : PropOf K (He.ga K "SupervisorPlan") "children" (He.ma K (He.ga K "SupervisorPlan") "children") (WHe.pgAd K "SupervisorPlan" "children")
  mk_WorkerPlan : Mk K (He.ga K "WorkerPlan") (He.fAd K ("WorkerPlan", some "__init__"))
  dc_WorkerPlan : WHe.DatC K (He.ga K "WorkerPlan") (He.fAd K ("WorkerPlan", some "__eq__"))
  mk_SupervisorPlan : Mk K (He.ga K "SupervisorPlan") (He.fAd K ("SupervisorPlan", some "__init__"))
  dc_SupervisorPlan : WHe.DatC K (He.ga K "SupervisorPlan") (He.fAd K ("SupervisorPlan", some "__eq__"))
  k_WorkerPlan_Plan : PySem.W.kitOne K (.ref (He.ga K "WorkerPlan")) (.ref (He.ga K "Plan")) = some true
  k_WorkerPlan_BaseWorker : PySem.W.kitOne K (.ref (He.ga K "WorkerPlan")) (.ref (He.ga K "BaseWorker")) = some true
  k_WorkerPlan_WorkerPlan : PySem.W.kitOne K (.ref (He.ga K "WorkerPlan")) (.ref (He.ga K "WorkerPlan")) = some true
  k_WorkerPlan_SupervisorPlan : PySem.W.kitOne K (.ref (He.ga K "WorkerPlan")) (.ref (He.ga K "SupervisorPlan")) = some false
  k_SupervisorPlan_Plan : PySem.W.kitOne K (.ref (He.ga K "SupervisorPlan")) (.ref (He.ga K "Plan")) = some true
  k_SupervisorPlan_BaseWorker : PySem.W.kitOne K (.ref (He.ga K "SupervisorPlan")) (.ref (He.ga K "BaseWorker")) = some false
  k_SupervisorPlan_WorkerPlan : PySem.W.kitOne K (.ref (He.ga K "SupervisorPlan")) (.ref (He.ga K "WorkerPlan")) = some false
  k_SupervisorPlan_SupervisorPlan : PySem.W.kitOne K (.ref (He.ga K "SupervisorPlan")) (.ref (He.ga K "SupervisorPlan")) = some true
section
variable {K : PySem.W.Frag} {mg : Str → Option Value}
theorem Env.bi_is_word (T : Env K mg) : Binds K T.fd_is_word ["value"] [] := T.F_is_word.bindsN fun _ _ _ _ _ _ us hl => match us, hl with | [_], _ => rfl
theorem Env.bi_is_name (T : Env K mg) : Binds K T.fd_is_name ["value"] [] := T.F_is_name.bindsN fun _ _ _ _ _ _ us hl => match us, hl with | [_], _ => rfl
theorem Env.bi_is_between (T : Env K mg) : Binds K T.fd_is_between ["value", "low", "high"] [] := T.F_is_between.bindsN fun _ _ _ _ _ _ us hl => match us, hl with | [_, _, _], _ => rfl
theorem Env.bi_wrong_row (T : Env K mg) : Binds K T.fd_wrong_row ["script"] [] := T.F_wrong_row.bindsN fun _ _ _ _ _ _ us hl => match us, hl with | [_], _ => rfl
theorem Env.bi_is_script (T : Env K mg) : Binds K T.fd_is_script ["value"] [] := T.F_is_script.bindsN fun _ _ _ _ _ _ us hl => match us, hl with | [_], _ => rfl
theorem Env.bi_is_one_of (T : Env K mg) : Binds K T.fd_is_one_of ["value", "words"] [] := T.F_is_one_of.bindsN fun _ _ _ _ _ _ us hl => match us, hl with | [_, _], _ => rfl
theorem Env.bi_is_deadline (T : Env K mg) : Binds K T.fd_is_deadline ["value"] [] := T.F_is_deadline.bindsN fun _ _ _ _ _ _ us hl => match us, hl with | [_], _ => rfl
theorem Env.bi_require (T : Env K mg) : Binds K T.fd_require ["rows"] [] := T.F_require.bindsN fun _ _ _ _ _ _ us hl => match us, hl with | [_], _ => rfl
theorem Env.bi_is_supervisor (T : Env K mg) : Binds K T.fd_is_supervisor ["plan"] [] := T.F_is_supervisor.bindsN fun _ _ _ _ _ _ us hl => match us, hl with | [_], _ => rfl
theorem Env.bi_names (T : Env K mg) : Binds K T.fd_names ["plan"] [] := T.F_names.bindsN fun _ _ _ _ _ _ us hl => match us, hl with | [_], _ => rfl
theorem Env.bi_spot_of (T : Env K mg) : Binds K T.fd_spot_of ["plan", "place"] [] := T.F_spot_of.bindsN fun _ _ _ _ _ _ us hl => match us, hl with | [_, _], _ => rfl
theorem Env.bi_required_way (T : Env K mg) : Binds K T.fd_required_way ["plan", "place"] [] := T.F_required_way.bindsN fun _ _ _ _ _ _ us hl => match us, hl with | [_, _], _ => rfl
theorem Env.bi_levels (T : Env K mg) : Binds K T.fd_levels ["plan"] [] := T.F_levels.bindsN fun _ _ _ _ _ _ us hl => match us, hl with | [_], _ => rfl
theorem Env.bi_greatest_product (T : Env K mg) : Binds K T.fd_greatest_product ["plan"] [] := T.F_greatest_product.bindsN fun _ _ _ _ _ _ us hl => match us, hl with | [_], _ => rfl
theorem Env.bi_broken_rule (T : Env K mg) : Binds K T.fd_broken_rule ["plan"] [] := T.F_broken_rule.bindsN fun _ _ _ _ _ _ us hl => match us, hl with | [_], _ => rfl
theorem Env.bi_check_root (T : Env K mg) : Binds K T.fd_check_root ["plan"] [] := T.F_check_root.bindsN fun _ _ _ _ _ _ us hl => match us, hl with | [_], _ => rfl
theorem Env.bi_supervisor_of (T : Env K mg) : Binds K T.fd_supervisor_of ["values", "children"] [] := T.F_supervisor_of.bindsN fun _ _ _ _ _ _ us hl => match us, hl with | [_, _], _ => rfl
theorem Env.bi_worker_of (T : Env K mg) : Binds K T.fd_worker_of ["values"] [] := T.F_worker_of.bindsN fun _ _ _ _ _ _ us hl => match us, hl with | [_], _ => rfl
theorem Env.bi_opening_time (T : Env K mg) : Binds K T.fd_opening_time ["plan"] [] := T.F_opening_time.bindsN fun _ _ _ _ _ _ us hl => match us, hl with | [_], _ => rfl
theorem Env.bi_cut (T : Env K mg) : Binds K T.fd_cut ["ticks", "deadline"] [] := T.F_cut.bindsN fun _ _ _ _ _ _ us hl => match us, hl with | [_, _], _ => rfl
theorem Env.bi_stopping_time (T : Env K mg) : Binds K T.fd_stopping_time ["plan"] [] := T.F_stopping_time.bindsN fun _ _ _ _ _ _ us hl => match us, hl with | [_], _ => rfl
theorem Env.bi_way_of_worker (T : Env K mg) : Binds K T.fd_way_of_worker ["plan", "place"] [] := T.F_way_of_worker.bindsN fun _ _ _ _ _ _ us hl => match us, hl with | [_, _], _ => rfl
theorem Env.bi_mend_times (T : Env K mg) : Binds K T.fd_mend_times ["plan", "at"] [] := T.F_mend_times.bindsN fun _ _ _ _ _ _ us hl => match us, hl with | [_, _], _ => rfl
theorem Env.bi_attack_row (T : Env K mg) : Binds K T.fd_attack_row ["plan", "at", "attack"] [] := T.F_attack_row.bindsN fun _ _ _ _ _ _ us hl => match us, hl with | [_, _, _], _ => rfl
theorem Env.bi_attacks (T : Env K mg) : Binds K T.fd_attacks ["plan", "place"] [] := T.F_attacks.bindsN fun _ _ _ _ _ _ us hl => match us, hl with | [_, _], _ => rfl
theorem Env.bi_product_of (T : Env K mg) : Binds K T.fd_product_of ["way"] [] := T.F_product_of.bindsN fun _ _ _ _ _ _ us hl => match us, hl with | [_], _ => rfl
theorem Env.bi_fall (T : Env K mg) : Binds K T.fd_fall ["plan", "place"] [] := T.F_fall.bindsN fun _ _ _ _ _ _ us hl => match us, hl with | [_, _], _ => rfl
theorem Env.bi_fewest (T : Env K mg) : Binds K T.fd_fewest ["plan"] [] := T.F_fewest.bindsN fun _ _ _ _ _ _ us hl => match us, hl with | [_], _ => rfl
theorem Env.bi_number_of (T : Env K mg) : Binds K T.fd_number_of ["word"] [] := T.F_number_of.bindsN fun _ _ _ _ _ _ us hl => match us, hl with | [_], _ => rfl
theorem Env.bi_values_in (T : Env K mg) : Binds K T.fd_values_in ["words"] [] := T.F_values_in.bindsN fun _ _ _ _ _ _ us hl => match us, hl with | [_], _ => rfl
theorem Env.bi_row_of (T : Env K mg) : Binds K T.fd_row_of ["line"] [] := T.F_row_of.bindsN fun _ _ _ _ _ _ us hl => match us, hl with | [_], _ => rfl
theorem Env.bi_rows_of (T : Env K mg) : Binds K T.fd_rows_of ["text"] [] := T.F_rows_of.bindsN fun _ _ _ _ _ _ us hl => match us, hl with | [_], _ => rfl
theorem Env.bi_plan_of (T : Env K mg) : Binds K T.fd_plan_of ["rows", "at"] [] := T.F_plan_of.bindsN fun _ _ _ _ _ _ us hl => match us, hl with | [_, _], _ => rfl
theorem Env.bi_read_plan (T : Env K mg) : Binds K T.fd_read_plan ["text"] [] := T.F_read_plan.bindsN fun _ _ _ _ _ _ us hl => match us, hl with | [_], _ => rfl
theorem Env.bi_L_begun (T : Env K mg) : Binds K T.fd_L_begun ["script"] [] := T.F_L_begun.bindsN fun _ _ _ _ _ _ us hl => match us, hl with | [_], _ => rfl
theorem Env.bi_L_next (T : Env K mg) : Binds K T.fd_L_next ["m", "total"] [] := T.F_L_next.bindsN fun _ _ _ _ _ _ us hl => match us, hl with | [_, _], _ => rfl
theorem Env.bi_L_of (T : Env K mg) : Binds K T.fd_L_of ["m", "items"] [] := T.F_L_of.bindsN fun _ _ _ _ _ _ us hl => match us, hl with | [_, _], _ => rfl
theorem Env.bi_L_name (T : Env K mg) : Binds K T.fd_L_name ["m"] [] := T.F_L_name.bindsN fun _ _ _ _ _ _ us hl => match us, hl with | [_], _ => rfl
theorem Env.bi_L_ticks (T : Env K mg) : Binds K T.fd_L_ticks ["m"] [] := T.F_L_ticks.bindsN fun _ _ _ _ _ _ us hl => match us, hl with | [_], _ => rfl
theorem Env.bi_L_worker (T : Env K mg) : Binds K T.fd_L_worker ["m"] [] := T.F_L_worker.bindsN fun _ _ _ _ _ _ us hl => match us, hl with | [_], _ => rfl
theorem Env.bi_L_supervisor (T : Env K mg) : Binds K T.fd_L_supervisor ["m", "level", "product"] [] := T.F_L_supervisor.bindsN fun _ _ _ _ _ _ us hl => match us, hl with | [_, _, _], _ => rfl
theorem Env.bi_L_opening (T : Env K mg) : Binds K T.fd_L_opening ["told"] [] := T.F_L_opening.bindsN fun _ _ _ _ _ _ us hl => match us, hl with | [_], _ => rfl
theorem Env.bi_L_stopping (T : Env K mg) : Binds K T.fd_L_stopping ["told"] [] := T.F_L_stopping.bindsN fun _ _ _ _ _ _ us hl => match us, hl with | [_], _ => rfl
theorem Env.bi_L_all (T : Env K mg) : Binds K T.fd_L_all ["told"] [] := T.F_L_all.bindsN fun _ _ _ _ _ _ us hl => match us, hl with | [_], _ => rfl
theorem Env.bi_L_way (T : Env K mg) : Binds K T.fd_L_way ["told", "name"] [] := T.F_L_way.bindsN fun _ _ _ _ _ _ us hl => match us, hl with | [_, _], _ => rfl
theorem Env.bi_L_cycle (T : Env K mg) : Binds K T.fd_L_cycle ["told", "child", "ticks"] [] := T.F_L_cycle.bindsN fun _ _ _ _ _ _ us hl => match us, hl with | [_, _, _], _ => rfl
theorem Env.bi_L_lasting (T : Env K mg) : Binds K T.fd_L_lasting ["told", "child", "ticks"] [] := T.F_L_lasting.bindsN fun _ _ _ _ _ _ us hl => match us, hl with | [_, _, _], _ => rfl
theorem Env.bi_L_rows (T : Env K mg) : Binds K T.fd_L_rows ["told", "name"] [] := T.F_L_rows.bindsN fun _ _ _ _ _ _ us hl => match us, hl with | [_, _], _ => rfl
theorem Env.bi_L_product (T : Env K mg) : Binds K T.fd_L_product ["told", "name"] [] := T.F_L_product.bindsN fun _ _ _ _ _ _ us hl => match us, hl with | [_, _], _ => rfl
theorem Env.bi_L_spanned (T : Env K mg) : Binds K T.fd_L_spanned ["m", "told", "name"] [] := T.F_L_spanned.bindsN fun _ _ _ _ _ _ us hl => match us, hl with | [_, _, _], _ => rfl
theorem Env.bi_L_lines (T : Env K mg) : Binds K T.fd_L_lines ["told", "level"] [] := T.F_L_lines.bindsN fun _ _ _ _ _ _ us hl => match us, hl with | [_, _], _ => rfl
theorem Env.bi_L_plan (T : Env K mg) : Binds K T.fd_L_plan ["told"] [] := T.F_L_plan.bindsN fun _ _ _ _ _ _ us hl => match us, hl with | [_], _ => rfl
theorem Env.bi_L_more (T : Env K mg) : Binds K T.fd_L_more ["m"] [] := T.F_L_more.bindsN fun _ _ _ _ _ _ us hl => match us, hl with | [_], _ => rfl
theorem Env.bi_L_longer (T : Env K mg) : Binds K T.fd_L_longer ["m", "told", "product"] [] := T.F_L_longer.bindsN fun _ _ _ _ _ _ us hl => match us, hl with | [_, _, _], _ => rfl
theorem Env.bi_L_times (T : Env K mg) : Binds K T.fd_L_times ["told", "k"] [] := T.F_L_times.bindsN fun _ _ _ _ _ _ us hl => match us, hl with | [_, _], _ => rfl
theorem Env.bi_L_greatest (T : Env K mg) : Binds K T.fd_L_greatest ["told"] [] := T.F_L_greatest.bindsN fun _ _ _ _ _ _ us hl => match us, hl with | [_], _ => rfl
theorem Env.bi_L_product_is_small (T : Env K mg) : Binds K T.fd_L_product_is_small ["told", "product"] [] := T.F_L_product_is_small.bindsN fun _ _ _ _ _ _ us hl => match us, hl with | [_, _], _ => rfl
theorem Env.bi_L_is_safer (T : Env K mg) : Binds K T.fd_L_is_safer ["plan", "other", "name"] [] := T.F_L_is_safer.bindsN fun _ _ _ _ _ _ us hl => match us, hl with | [_, _, _], _ => rfl
theorem Env.bi_L_is_multiplied (T : Env K mg) : Binds K T.fd_L_is_multiplied ["plan", "other", "name", "k"] [] := T.F_L_is_multiplied.bindsN fun _ _ _ _ _ _ us hl => match us, hl with | [_, _, _, _], _ => rfl
theorem Env.bi_law (T : Env K mg) : Binds K T.fd_law ["script"] [] := T.F_law.bindsN fun _ _ _ _ _ _ us hl => match us, hl with | [_], _ => rfl
theorem Env.bi_Plan_settings (T : Env K mg) : Binds K T.fd_Plan_settings ["self"] [] := T.F_Plan_settings.bindsN fun _ _ _ _ _ _ us hl => match us, hl with | [_], _ => rfl
theorem Env.bi_Plan_below (T : Env K mg) : Binds K T.fd_Plan_below ["self"] [] := T.F_Plan_below.bindsN fun _ _ _ _ _ _ us hl => match us, hl with | [_], _ => rfl
theorem Env.bi_Plan_with_all (T : Env K mg) : Binds K T.fd_Plan_with_all ["self"] [] := T.F_Plan_with_all.bindsN fun _ _ _ _ _ _ us hl => match us, hl with | [_], _ => rfl
theorem Env.bi_Plan__len (T : Env K mg) : Binds K T.fd_Plan__len ["self"] [] := T.F_Plan__len.bindsN fun _ _ _ _ _ _ us hl => match us, hl with | [_], _ => rfl
theorem Env.bi_Plan__contains (T : Env K mg) : Binds K T.fd_Plan__contains ["self", "value"] [] := T.F_Plan__contains.bindsN fun _ _ _ _ _ _ us hl => match us, hl with | [_, _], _ => rfl
theorem Env.bi_WorkerPlan__eq (T : Env K mg) : Binds K T.fd_WorkerPlan__eq ["self", "other"] [] := T.F_WorkerPlan__eq.bindsN fun _ _ _ _ _ _ us hl => match us, hl with | [_, _], _ => rfl
theorem Env.bi_SupervisorPlan_below (T : Env K mg) : Binds K T.fd_SupervisorPlan_below ["self"] [] := T.F_SupervisorPlan_below.bindsN fun _ _ _ _ _ _ us hl => match us, hl with | [_], _ => rfl
theorem Env.bi_SupervisorPlan__eq (T : Env K mg) : Binds K T.fd_SupervisorPlan__eq ["self", "other"] [] := T.F_SupervisorPlan__eq.bindsN fun _ _ _ _ _ _ us hl => match us, hl with | [_, _], _ => rfl
theorem Env.bi_WorkerPlan_name (T : Env K mg) : Binds K T.fd_WorkerPlan_name ["self"] [] := T.F_WorkerPlan_name.bindsN fun _ _ _ _ _ _ us hl => match us, hl with | [_], _ => rfl
theorem Env.bi_WorkerPlan_restart (T : Env K mg) : Binds K T.fd_WorkerPlan_restart ["self"] [] := T.F_WorkerPlan_restart.bindsN fun _ _ _ _ _ _ us hl => match us, hl with | [_], _ => rfl
theorem Env.bi_WorkerPlan_opening (T : Env K mg) : Binds K T.fd_WorkerPlan_opening ["self"] [] := T.F_WorkerPlan_opening.bindsN fun _ _ _ _ _ _ us hl => match us, hl with | [_], _ => rfl
theorem Env.bi_WorkerPlan_closing (T : Env K mg) : Binds K T.fd_WorkerPlan_closing ["self"] [] := T.F_WorkerPlan_closing.bindsN fun _ _ _ _ _ _ us hl => match us, hl with | [_], _ => rfl
theorem Env.bi_WorkerPlan_deadline (T : Env K mg) : Binds K T.fd_WorkerPlan_deadline ["self"] [] := T.F_WorkerPlan_deadline.bindsN fun _ _ _ _ _ _ us hl => match us, hl with | [_], _ => rfl
theorem Env.bi_WorkerPlan_refused (T : Env K mg) : Binds K T.fd_WorkerPlan_refused ["self"] [] := T.F_WorkerPlan_refused.bindsN fun _ _ _ _ _ _ us hl => match us, hl with | [_], _ => rfl
theorem Env.bi_WorkerPlan_script (T : Env K mg) : Binds K T.fd_WorkerPlan_script ["self"] [] := T.F_WorkerPlan_script.bindsN fun _ _ _ _ _ _ us hl => match us, hl with | [_], _ => rfl
theorem Env.bi_SupervisorPlan_name (T : Env K mg) : Binds K T.fd_SupervisorPlan_name ["self"] [] := T.F_SupervisorPlan_name.bindsN fun _ _ _ _ _ _ us hl => match us, hl with | [_], _ => rfl
theorem Env.bi_SupervisorPlan_restart (T : Env K mg) : Binds K T.fd_SupervisorPlan_restart ["self"] [] := T.F_SupervisorPlan_restart.bindsN fun _ _ _ _ _ _ us hl => match us, hl with | [_], _ => rfl
theorem Env.bi_SupervisorPlan_strategy (T : Env K mg) : Binds K T.fd_SupervisorPlan_strategy ["self"] [] := T.F_SupervisorPlan_strategy.bindsN fun _ _ _ _ _ _ us hl => match us, hl with | [_], _ => rfl
theorem Env.bi_SupervisorPlan_most (T : Env K mg) : Binds K T.fd_SupervisorPlan_most ["self"] [] := T.F_SupervisorPlan_most.bindsN fun _ _ _ _ _ _ us hl => match us, hl with | [_], _ => rfl
theorem Env.bi_SupervisorPlan_span (T : Env K mg) : Binds K T.fd_SupervisorPlan_span ["self"] [] := T.F_SupervisorPlan_span.bindsN fun _ _ _ _ _ _ us hl => match us, hl with | [_], _ => rfl
theorem Env.bi_SupervisorPlan_deadline (T : Env K mg) : Binds K T.fd_SupervisorPlan_deadline ["self"] [] := T.F_SupervisorPlan_deadline.bindsN fun _ _ _ _ _ _ us hl => match us, hl with | [_], _ => rfl
theorem Env.bi_SupervisorPlan_children (T : Env K mg) : Binds K T.fd_SupervisorPlan_children ["self"] [] := T.F_SupervisorPlan_children.bindsN fun _ _ _ _ _ _ us hl => match us, hl with | [_], _ => rfl
end
end W48

set_option Elab.async false
set_option linter.all false
set_option maxRecDepth 100000
set_option maxHeartbeats 0
/-! the head's facts over given objects (less memory) -/
namespace WHl
open PySem PySem.Spec PyProof.Rows L2 WHe
def obsLLG (as : List Nat) (chk : PySem.W.Frag → Bool) (fn : List DefP) (g : Addr → Option Obj) : He.AlD := obsK chk fn (He.frG g as)
def hookLL (as : List Nat) (chk : PySem.W.Frag → Bool) (fn : List DefP) : PySem.W.Hook where
  α := He.AlD
  obs := fun s => obsLLG as chk fn s.heap.get?
  val := fun _ => valK fn
  says := fun _ h => ∃ K : PySem.W.Frag, K.In h ∧ SaysK chk fn K
  of := fun _ _ e => ⟨_, He.frG_in, e⟩
  keeps := fun _ _ _ ⟨K, hK, c⟩ k => ⟨K, PySem.W.Frag.In.keeps hK k, c⟩
theorem obsLLG_eq {as : List Nat} {chk : PySem.W.Frag → Bool} {fn : List DefP} {g : Addr → Option Obj} {s : Shared} (h : ∀ a, g a = s.heap.get? a) : obsLLG as chk fn g = (hookLL as chk fn).obs s := by
  have e : g = s.heap.get? := funext h
  rw [e] <;> rfl
end WHl

set_option Elab.async false
set_option linter.all false
set_option maxRecDepth 100000
set_option maxHeartbeats 4000000
namespace W48
open PySem PySem.Spec PyProof.Rows L2
def chk (K : PySem.W.Frag) : Bool := WHe.sysB K && (frees.all (fun x => He.eqO (PySem.W.nsIn K mainGlobals x) (some none)) && (globs.all (fun x => He.eqO (PySem.W.nsIn K mainGlobals x) (some (some (.ref (He.ga K x))))) &&
  (cints.all (fun q => (He.Fa.int q.1 q.2).ok K) && (cstrs.all (fun q => (He.Fa.str q.1 q.2).ok K) && (ctups.all (fun q => He.tupB K q.1 q.2) && (noat.all (fun q => (He.Fa.noat q.1 q.2).ok K) && (meths.all (fun q => WHe.methB K q.1 q.2.1 q.2.2) &&
  (props.all (fun q => WHe.propB K q.1 q.2) && ((["WorkerPlan", "SupervisorPlan"] : List Str).all (fun C => (He.Fa.mkr C).ok K && WHe.datB K C) && kits.all (WHe.kitB K))))))))))
theorem at_ {α : Type} {l : List α} {p : α → Bool} (h : l.all p = true) (i : Nat) {x : α} (e : l[i]? = some x) : p x = true := List.all_eq_true.mp h x (List.mem_of_getElem? e)
theorem env_of {K : PySem.W.Frag} {h : Heap} {mg : Str → Option Value} (X : K.In h) (G : h.Ns mainGlobals mg) (c : WHe.SaysK chk fns K) : Nonempty (Env K mg) := by
  obtain ⟨c0, cc⟩ := He.ba c.chk_
  obtain ⟨c1, cc⟩ := He.ba cc
  obtain ⟨c2, cc⟩ := He.ba cc
  obtain ⟨c3, cc⟩ := He.ba cc
  obtain ⟨c4, cc⟩ := He.ba cc
  obtain ⟨c5, cc⟩ := He.ba cc
  obtain ⟨c6, cc⟩ := He.ba cc
  obtain ⟨c7, cc⟩ := He.ba cc
  obtain ⟨c8, cc⟩ := He.ba cc
  obtain ⟨c9, ca⟩ := He.ba cc
  have fr : ∀ (i : Nat) {x : Str}, frees[i]? = some x → mg x = none := fun i x e => PySem.W.mg_none_of X G (He.eqO_ok (at_ c1 i e))
  have gl : ∀ (i : Nat) {x : Str}, globs[i]? = some x → mg x = some (.ref (He.ga K x)) := fun i x e => PySem.W.mg_of X G (He.eqO_ok (at_ c2 i e))
  have ci : ∀ (i : Nat) {x : Str} {n : Int}, cints[i]? = some (x, n) → ∃ u, mg x = some u ∧ L2.RelV (.int n) u := fun i x n e => by
    obtain ⟨t, q⟩ := He.int_ok X G (at_ c3 i e)
    exact ⟨_, q, t, rfl⟩
  have cs : ∀ (i : Nat) {x z : Str}, cstrs[i]? = some (x, z) → ∃ u, mg x = some u ∧ L2.RelV (.str z) u := fun i x z e => by
    obtain ⟨t, q⟩ := He.str_ok X G (at_ c4 i e)
    exact ⟨_, q, t, rfl⟩
  obtain ⟨fd0, F0⟩ := c.def_ 0 (d := d_is_word) rfl
  obtain ⟨fd1, F1⟩ := c.def_ 1 (d := d_is_name) rfl
  obtain ⟨fd2, F2⟩ := c.def_ 2 (d := d_is_between) rfl
  obtain ⟨fd3, F3⟩ := c.def_ 3 (d := d_wrong_row) rfl
  obtain ⟨fd4, F4⟩ := c.def_ 4 (d := d_is_script) rfl
  obtain ⟨fd5, F5⟩ := c.def_ 5 (d := d_is_one_of) rfl
  obtain ⟨fd6, F6⟩ := c.def_ 6 (d := d_is_deadline) rfl
  obtain ⟨fd7, F7⟩ := c.def_ 7 (d := d_require) rfl
  obtain ⟨fd8, F8⟩ := c.def_ 8 (d := d_is_supervisor) rfl
  obtain ⟨fd9, F9⟩ := c.def_ 9 (d := d_names) rfl
  obtain ⟨fd10, F10⟩ := c.def_ 10 (d := d_spot_of) rfl
  obtain ⟨fd11, F11⟩ := c.def_ 11 (d := d_required_way) rfl
  obtain ⟨fd12, F12⟩ := c.def_ 12 (d := d_levels) rfl
  obtain ⟨fd13, F13⟩ := c.def_ 13 (d := d_greatest_product) rfl
  obtain ⟨fd14, F14⟩ := c.def_ 14 (d := d_broken_rule) rfl
  obtain ⟨fd15, F15⟩ := c.def_ 15 (d := d_check_root) rfl
  obtain ⟨fd16, F16⟩ := c.def_ 16 (d := d_supervisor_of) rfl
  obtain ⟨fd17, F17⟩ := c.def_ 17 (d := d_worker_of) rfl
  obtain ⟨fd18, F18⟩ := c.def_ 18 (d := d_opening_time) rfl
  obtain ⟨fd19, F19⟩ := c.def_ 19 (d := d_cut) rfl
  obtain ⟨fd20, F20⟩ := c.def_ 20 (d := d_stopping_time) rfl
  obtain ⟨fd21, F21⟩ := c.def_ 21 (d := d_way_of_worker) rfl
  obtain ⟨fd22, F22⟩ := c.def_ 22 (d := d_mend_times) rfl
  obtain ⟨fd23, F23⟩ := c.def_ 23 (d := d_attack_row) rfl
  obtain ⟨fd24, F24⟩ := c.def_ 24 (d := d_attacks) rfl
  obtain ⟨fd25, F25⟩ := c.def_ 25 (d := d_product_of) rfl
  obtain ⟨fd26, F26⟩ := c.def_ 26 (d := d_fall) rfl
  obtain ⟨fd27, F27⟩ := c.def_ 27 (d := d_fewest) rfl
  obtain ⟨fd28, F28⟩ := c.def_ 28 (d := d_number_of) rfl
  obtain ⟨fd29, F29⟩ := c.def_ 29 (d := d_values_in) rfl
  obtain ⟨fd30, F30⟩ := c.def_ 30 (d := d_row_of) rfl
  obtain ⟨fd31, F31⟩ := c.def_ 31 (d := d_rows_of) rfl
  obtain ⟨fd32, F32⟩ := c.def_ 32 (d := d_plan_of) rfl
  obtain ⟨fd33, F33⟩ := c.def_ 33 (d := d_read_plan) rfl
  obtain ⟨fd34, F34⟩ := c.def_ 34 (d := d_L_begun) rfl
  obtain ⟨fd35, F35⟩ := c.def_ 35 (d := d_L_next) rfl
  obtain ⟨fd36, F36⟩ := c.def_ 36 (d := d_L_of) rfl
  obtain ⟨fd37, F37⟩ := c.def_ 37 (d := d_L_name) rfl
  obtain ⟨fd38, F38⟩ := c.def_ 38 (d := d_L_ticks) rfl
  obtain ⟨fd39, F39⟩ := c.def_ 39 (d := d_L_worker) rfl
  obtain ⟨fd40, F40⟩ := c.def_ 40 (d := d_L_supervisor) rfl
  obtain ⟨fd41, F41⟩ := c.def_ 41 (d := d_L_opening) rfl
  obtain ⟨fd42, F42⟩ := c.def_ 42 (d := d_L_stopping) rfl
  obtain ⟨fd43, F43⟩ := c.def_ 43 (d := d_L_all) rfl
  obtain ⟨fd44, F44⟩ := c.def_ 44 (d := d_L_way) rfl
  obtain ⟨fd45, F45⟩ := c.def_ 45 (d := d_L_cycle) rfl
  obtain ⟨fd46, F46⟩ := c.def_ 46 (d := d_L_lasting) rfl
  obtain ⟨fd47, F47⟩ := c.def_ 47 (d := d_L_rows) rfl
  obtain ⟨fd48, F48⟩ := c.def_ 48 (d := d_L_product) rfl
  obtain ⟨fd49, F49⟩ := c.def_ 49 (d := d_L_spanned) rfl
  obtain ⟨fd50, F50⟩ := c.def_ 50 (d := d_L_lines) rfl
  obtain ⟨fd51, F51⟩ := c.def_ 51 (d := d_L_plan) rfl
  obtain ⟨fd52, F52⟩ := c.def_ 52 (d := d_L_more) rfl
  obtain ⟨fd53, F53⟩ := c.def_ 53 (d := d_L_longer) rfl
  obtain ⟨fd54, F54⟩ := c.def_ 54 (d := d_L_times) rfl
  obtain ⟨fd55, F55⟩ := c.def_ 55 (d := d_L_greatest) rfl
  obtain ⟨fd56, F56⟩ := c.def_ 56 (d := d_L_product_is_small) rfl
  obtain ⟨fd57, F57⟩ := c.def_ 57 (d := d_L_is_safer) rfl
  obtain ⟨fd58, F58⟩ := c.def_ 58 (d := d_L_is_multiplied) rfl
  obtain ⟨fd59, F59⟩ := c.def_ 59 (d := d_law) rfl
  obtain ⟨fd60, F60⟩ := c.def_ 60 (d := d_Plan_settings) rfl
  obtain ⟨fd61, F61⟩ := c.def_ 61 (d := d_Plan_below) rfl
  obtain ⟨fd62, F62⟩ := c.def_ 62 (d := d_Plan_with_all) rfl
  obtain ⟨fd63, F63⟩ := c.def_ 63 (d := d_Plan__len) rfl
  obtain ⟨fd64, F64⟩ := c.def_ 64 (d := d_Plan__contains) rfl
  obtain ⟨fd65, F65⟩ := c.def_ 65 (d := d_WorkerPlan__init) rfl
  obtain ⟨fd66, F66⟩ := c.def_ 66 (d := d_WorkerPlan__eq) rfl
  obtain ⟨fd67, F67⟩ := c.def_ 67 (d := d_SupervisorPlan__init) rfl
  obtain ⟨fd68, F68⟩ := c.def_ 68 (d := d_SupervisorPlan_below) rfl
  obtain ⟨fd69, F69⟩ := c.def_ 69 (d := d_SupervisorPlan__eq) rfl
  obtain ⟨fd70, F70⟩ := c.def_ 70 (d := d_WorkerPlan_name) rfl
  obtain ⟨fd71, F71⟩ := c.def_ 71 (d := d_WorkerPlan_restart) rfl
  obtain ⟨fd72, F72⟩ := c.def_ 72 (d := d_WorkerPlan_opening) rfl
  obtain ⟨fd73, F73⟩ := c.def_ 73 (d := d_WorkerPlan_closing) rfl
  obtain ⟨fd74, F74⟩ := c.def_ 74 (d := d_WorkerPlan_deadline) rfl
  obtain ⟨fd75, F75⟩ := c.def_ 75 (d := d_WorkerPlan_refused) rfl
  obtain ⟨fd76, F76⟩ := c.def_ 76 (d := d_WorkerPlan_script) rfl
  obtain ⟨fd77, F77⟩ := c.def_ 77 (d := d_SupervisorPlan_name) rfl
  obtain ⟨fd78, F78⟩ := c.def_ 78 (d := d_SupervisorPlan_restart) rfl
  obtain ⟨fd79, F79⟩ := c.def_ 79 (d := d_SupervisorPlan_strategy) rfl
  obtain ⟨fd80, F80⟩ := c.def_ 80 (d := d_SupervisorPlan_most) rfl
  obtain ⟨fd81, F81⟩ := c.def_ 81 (d := d_SupervisorPlan_span) rfl
  obtain ⟨fd82, F82⟩ := c.def_ 82 (d := d_SupervisorPlan_deadline) rfl
  obtain ⟨fd83, F83⟩ := c.def_ 83 (d := d_SupervisorPlan_children) rfl
  refine ⟨{ sys := WHe.sysB_ok c0
            b_len := fr 0 rfl
            b_int := fr 1 rfl
            b_isinstance := fr 2 rfl
            b_range := fr 3 rfl
            b_enumerate := fr 4 rfl
            b_list := fr 5 rfl
            b_str := fr 6 rfl
            b_tuple := fr 7 rfl
            b_zip := fr 8 rfl
            b_all := fr 9 rfl
            b_sum := fr 10 rfl
            b_min := fr 11 rfl
            b_max := fr 12 rfl
            b_divmod := fr 13 rfl
            b_bool := fr 14 rfl
            b_repr := fr 15 rfl
            g_BadSetting := gl 0 rfl
            g_BadChild := gl 1 rfl
            g_BadRoot := gl 2 rfl
            g_BadText := gl 3 rfl
            g_BadScript := gl 4 rfl
            g_NotWorker := gl 5 rfl
            g_NoPlace := gl 6 rfl
            g_Plan := gl 7 rfl
            g_BaseWorker := gl 8 rfl
            g_WorkerPlan := gl 9 rfl
            g_SupervisorPlan := gl 10 rfl
            g_is_word := gl 11 rfl
            g_is_name := gl 12 rfl
            g_is_between := gl 13 rfl
            g_wrong_row := gl 14 rfl
            g_is_script := gl 15 rfl
            g_is_one_of := gl 16 rfl
            g_is_deadline := gl 17 rfl
            g_require := gl 18 rfl
            g_is_supervisor := gl 19 rfl
            g_names := gl 20 rfl
            g_spot_of := gl 21 rfl
            g_required_way := gl 22 rfl
            g_levels := gl 23 rfl
            g_greatest_product := gl 24 rfl
            g_broken_rule := gl 25 rfl
            g_check_root := gl 26 rfl
            g_supervisor_of := gl 27 rfl
            g_worker_of := gl 28 rfl
            g_opening_time := gl 29 rfl
            g_cut := gl 30 rfl
            g_stopping_time := gl 31 rfl
            g_way_of_worker := gl 32 rfl
            g_mend_times := gl 33 rfl
            g_attack_row := gl 34 rfl
            g_attacks := gl 35 rfl
            g_product_of := gl 36 rfl
            g_fall := gl 37 rfl
            g_fewest := gl 38 rfl
            g_number_of := gl 39 rfl
            g_values_in := gl 40 rfl
            g_row_of := gl 41 rfl
            g_rows_of := gl 42 rfl
            g_plan_of := gl 43 rfl
            g_read_plan := gl 44 rfl
            g__law_begun := gl 45 rfl
            g__law_next := gl 46 rfl
            g__law_of := gl 47 rfl
            g__law_name := gl 48 rfl
            g__law_ticks := gl 49 rfl
            g__law_worker := gl 50 rfl
            g__law_supervisor := gl 51 rfl
            g__law_opening := gl 52 rfl
            g__law_stopping := gl 53 rfl
            g__law_all := gl 54 rfl
            g__law_way := gl 55 rfl
            g__law_cycle := gl 56 rfl
            g__law_lasting := gl 57 rfl
            g__law_rows := gl 58 rfl
            g__law_product := gl 59 rfl
            g__law_spanned := gl 60 rfl
            g__law_lines := gl 61 rfl
            g__law_plan := gl 62 rfl
            g__law_more := gl 63 rfl
            g__law_longer := gl 64 rfl
            g__law_times := gl 65 rfl
            g__law_greatest := gl 66 rfl
            g__law_product_is_small := gl 67 rfl
            g__law_is_safer := gl 68 rfl
            g__law_is_multiplied := gl 69 rfl
            g_law := gl 70 rfl
            g_RESERVED := gl 71 rfl
            g_OWN_REASONS := gl 72 rfl
            g_OWN_WORDS := gl 73 rfl
            g_RESTARTS := gl 74 rfl
            g_STRATEGIES := gl 75 rfl
            g_WORKER_SETTINGS := gl 76 rfl
            g_SUPERVISOR_SETTINGS := gl 77 rfl
            g_WORDED := gl 78 rfl
            c_MOST_SIGNS := ci 0 rfl
            c_MOST_ROWS := ci 1 rfl
            c_MOST_DEEDS := ci 2 rfl
            c_MOST_WORK := ci 3 rfl
            c_MOST_TICKS := ci 4 rfl
            c_MOST_VALUE := ci 5 rfl
            c_MOST_WAIT := ci 6 rfl
            c_MOST_CHILDREN := ci 7 rfl
            c_MOST_PLANS := ci 8 rfl
            c_MOST_LEVELS := ci 9 rfl
            c_MOST_DEPTH := ci 10 rfl
            c_MOST_WHOLE := ci 11 rfl
            c_MOST_PRODUCT := ci 12 rfl
            c_LETTERS := cs 0 rfl
            c_SIGNS := cs 1 rfl
            c_INDENT := cs 2 rfl
            c_DIGITS := cs 3 rfl
            q_RESERVED := fun H => He.tupB_ok (at_ c5 0 rfl) H
            q_OWN_REASONS := fun H => He.tupB_ok (at_ c5 1 rfl) H
            q_OWN_WORDS := fun H => He.tupB_ok (at_ c5 2 rfl) H
            q_RESTARTS := fun H => He.tupB_ok (at_ c5 3 rfl) H
            q_STRATEGIES := fun H => He.tupB_ok (at_ c5 4 rfl) H
            q_WORKER_SETTINGS := fun H => He.tupB_ok (at_ c5 5 rfl) H
            q_SUPERVISOR_SETTINGS := fun H => He.tupB_ok (at_ c5 6 rfl) H
            q_WORDED := fun H => He.tupB_ok (at_ c5 7 rfl) H
            fd_is_word := fd0
            F_is_word := F0
            fd_is_name := fd1
            F_is_name := F1
            fd_is_between := fd2
            F_is_between := F2
            fd_wrong_row := fd3
            F_wrong_row := F3
            fd_is_script := fd4
            F_is_script := F4
            fd_is_one_of := fd5
            F_is_one_of := F5
            fd_is_deadline := fd6
            F_is_deadline := F6
            fd_require := fd7
            F_require := F7
            fd_is_supervisor := fd8
            F_is_supervisor := F8
            fd_names := fd9
            F_names := F9
            fd_spot_of := fd10
            F_spot_of := F10
            fd_required_way := fd11
            F_required_way := F11
            fd_levels := fd12
            F_levels := F12
            fd_greatest_product := fd13
            F_greatest_product := F13
            fd_broken_rule := fd14
            F_broken_rule := F14
            fd_check_root := fd15
            F_check_root := F15
            fd_supervisor_of := fd16
            F_supervisor_of := F16
            fd_worker_of := fd17
            F_worker_of := F17
            fd_opening_time := fd18
            F_opening_time := F18
            fd_cut := fd19
            F_cut := F19
            fd_stopping_time := fd20
            F_stopping_time := F20
            fd_way_of_worker := fd21
            F_way_of_worker := F21
            fd_mend_times := fd22
            F_mend_times := F22
            fd_attack_row := fd23
            F_attack_row := F23
            fd_attacks := fd24
            F_attacks := F24
            fd_product_of := fd25
            F_product_of := F25
            fd_fall := fd26
            F_fall := F26
            fd_fewest := fd27
            F_fewest := F27
            fd_number_of := fd28
            F_number_of := F28
            fd_values_in := fd29
            F_values_in := F29
            fd_row_of := fd30
            F_row_of := F30
            fd_rows_of := fd31
            F_rows_of := F31
            fd_plan_of := fd32
            F_plan_of := F32
            fd_read_plan := fd33
            F_read_plan := F33
            fd_L_begun := fd34
            F_L_begun := F34
            fd_L_next := fd35
            F_L_next := F35
            fd_L_of := fd36
            F_L_of := F36
            fd_L_name := fd37
            F_L_name := F37
            fd_L_ticks := fd38
            F_L_ticks := F38
            fd_L_worker := fd39
            F_L_worker := F39
            fd_L_supervisor := fd40
            F_L_supervisor := F40
            fd_L_opening := fd41
            F_L_opening := F41
            fd_L_stopping := fd42
            F_L_stopping := F42
            fd_L_all := fd43
            F_L_all := F43
            fd_L_way := fd44
            F_L_way := F44
            fd_L_cycle := fd45
            F_L_cycle := F45
            fd_L_lasting := fd46
            F_L_lasting := F46
            fd_L_rows := fd47
            F_L_rows := F47
            fd_L_product := fd48
            F_L_product := F48
            fd_L_spanned := fd49
            F_L_spanned := F49
            fd_L_lines := fd50
            F_L_lines := F50
            fd_L_plan := fd51
            F_L_plan := F51
            fd_L_more := fd52
            F_L_more := F52
            fd_L_longer := fd53
            F_L_longer := F53
            fd_L_times := fd54
            F_L_times := F54
            fd_L_greatest := fd55
            F_L_greatest := F55
            fd_L_product_is_small := fd56
            F_L_product_is_small := F56
            fd_L_is_safer := fd57
            F_L_is_safer := F57
            fd_L_is_multiplied := fd58
            F_L_is_multiplied := F58
            fd_law := fd59
            F_law := F59
            fd_Plan_settings := fd60
            F_Plan_settings := F60
            fd_Plan_below := fd61
            F_Plan_below := F61
            fd_Plan_with_all := fd62
            F_Plan_with_all := F62
            fd_Plan__len := fd63
            F_Plan__len := F63
            fd_Plan__contains := fd64
            F_Plan__contains := F64
            fd_WorkerPlan__init := fd65
            F_WorkerPlan__init := F65
            fd_WorkerPlan__eq := fd66
            F_WorkerPlan__eq := F66
            fd_SupervisorPlan__init := fd67
            F_SupervisorPlan__init := F67
            fd_SupervisorPlan_below := fd68
            F_SupervisorPlan_below := F68
            fd_SupervisorPlan__eq := fd69
            F_SupervisorPlan__eq := F69
            fd_WorkerPlan_name := fd70
            F_WorkerPlan_name := F70
            fd_WorkerPlan_restart := fd71
            F_WorkerPlan_restart := F71
            fd_WorkerPlan_opening := fd72
            F_WorkerPlan_opening := F72
            fd_WorkerPlan_closing := fd73
            F_WorkerPlan_closing := F73
            fd_WorkerPlan_deadline := fd74
            F_WorkerPlan_deadline := F74
            fd_WorkerPlan_refused := fd75
            F_WorkerPlan_refused := F75
            fd_WorkerPlan_script := fd76
            F_WorkerPlan_script := F76
            fd_SupervisorPlan_name := fd77
            F_SupervisorPlan_name := F77
            fd_SupervisorPlan_restart := fd78
            F_SupervisorPlan_restart := F78
            fd_SupervisorPlan_strategy := fd79
            F_SupervisorPlan_strategy := F79
            fd_SupervisorPlan_most := fd80
            F_SupervisorPlan_most := F80
            fd_SupervisorPlan_span := fd81
            F_SupervisorPlan_span := F81
            fd_SupervisorPlan_deadline := fd82
            F_SupervisorPlan_deadline := F82
            fd_SupervisorPlan_children := fd83
            F_SupervisorPlan_children := F83
            n_WorkerPlan_own_settings := He.noat_ok (at_ c6 0 rfl)
            n_WorkerPlan_own_count := He.noat_ok (at_ c6 1 rfl)
            n_WorkerPlan_own_depth := He.noat_ok (at_ c6 2 rfl)
            n_SupervisorPlan_own_settings := He.noat_ok (at_ c6 3 rfl)
            n_SupervisorPlan_own_children := He.noat_ok (at_ c6 4 rfl)
            n_SupervisorPlan_own_count := He.noat_ok (at_ c6 5 rfl)
            n_SupervisorPlan_own_depth := He.noat_ok (at_ c6 6 rfl)
            m_WorkerPlan_settings := WHe.methB_ok (at_ c7 0 rfl)
            m_WorkerPlan_below := WHe.methB_ok (at_ c7 1 rfl)
            m_WorkerPlan_with_all := WHe.methB_ok (at_ c7 2 rfl)
            m_WorkerPlan___len__ := WHe.methB_ok (at_ c7 3 rfl)
            m_WorkerPlan___contains__ := WHe.methB_ok (at_ c7 4 rfl)
            m_SupervisorPlan_below := WHe.methB_ok (at_ c7 5 rfl)
            m_SupervisorPlan_settings := WHe.methB_ok (at_ c7 6 rfl)
            m_SupervisorPlan_with_all := WHe.methB_ok (at_ c7 7 rfl)
            m_SupervisorPlan___len__ := WHe.methB_ok (at_ c7 8 rfl)
            m_SupervisorPlan___contains__ := WHe.methB_ok (at_ c7 9 rfl)
            p_WorkerPlan_name := WHe.propB_ok (at_ c8 0 rfl)
            p_WorkerPlan_restart := WHe.propB_ok (at_ c8 1 rfl)
            p_WorkerPlan_opening := WHe.propB_ok (at_ c8 2 rfl)
            p_WorkerPlan_closing := WHe.propB_ok (at_ c8 3 rfl)
            p_WorkerPlan_deadline := WHe.propB_ok (at_ c8 4 rfl)
            p_WorkerPlan_refused := WHe.propB_ok (at_ c8 5 rfl)
            p_WorkerPlan_script := WHe.propB_ok (at_ c8 6 rfl)
            p_SupervisorPlan_name := WHe.propB_ok (at_ c8 7 rfl)
            p_SupervisorPlan_restart := WHe.propB_ok (at_ c8 8 rfl)
            p_SupervisorPlan_strategy := WHe.propB_ok (at_ c8 9 rfl)
            p_SupervisorPlan_most := WHe.propB_ok (at_ c8 10 rfl)
            p_SupervisorPlan_span := WHe.propB_ok (at_ c8 11 rfl)
            p_SupervisorPlan_deadline := WHe.propB_ok (at_ c8 12 rfl)
            p_SupervisorPlan_children := WHe.propB_ok (at_ c8 13 rfl)
            mk_WorkerPlan := He.mkr_ok (He.ba (at_ c9 0 rfl)).1
            dc_WorkerPlan := WHe.datB_ok (He.ba (at_ c9 0 rfl)).2
            mk_SupervisorPlan := He.mkr_ok (He.ba (at_ c9 1 rfl)).1
            dc_SupervisorPlan := WHe.datB_ok (He.ba (at_ c9 1 rfl)).2
            k_WorkerPlan_Plan := of_decide_eq_true (at_ ca 0 rfl)
            k_WorkerPlan_BaseWorker := of_decide_eq_true (at_ ca 1 rfl)
            k_WorkerPlan_WorkerPlan := of_decide_eq_true (at_ ca 2 rfl)
            k_WorkerPlan_SupervisorPlan := of_decide_eq_true (at_ ca 3 rfl)
            k_SupervisorPlan_Plan := of_decide_eq_true (at_ ca 4 rfl)
            k_SupervisorPlan_BaseWorker := of_decide_eq_true (at_ ca 5 rfl)
            k_SupervisorPlan_WorkerPlan := of_decide_eq_true (at_ ca 6 rfl)
            k_SupervisorPlan_SupervisorPlan := of_decide_eq_true (at_ ca 7 rfl)
          }⟩
abbrev R : PySem.W.OpenRow := PySem.W.OpenLaw.row PySem.Challenge.rw_watchtree_k48_whole_longer_times_are_saf
abbrev addrs : List Nat := ([0, 1, 2, 3, 4, 5, 6, 8, 10, 12, 14, 17, 19, 21, 23, 24, 30, 32, 34, 36, 37, 43, 45, 47, 49, 50, 56, 58, 60, 62, 69, 70, 75, 77, 79, 81, 88, 89, 94, 96] : List Nat) ++ ([98, 100, 107, 108, 113, 115, 117, 119, 126, 127, 132, 134, 136, 138, 145, 146, 151, 153, 155, 157, 164, 165, 170, 172, 174, 176, 183, 184, 189, 191, 193, 195, 199, 200, 202, 206, 207, 209, 213, 214] : List Nat) ++ ([216, 220, 221, 223, 225, 226, 228, 229, 236, 238, 240, 242, 243, 246, 247, 249, 251, 252, 254, 258, 259, 261, 265, 266, 268, 274, 276, 283, 290, 297, 302, 309, 314, 321, 326, 330, 331, 333, 337, 338] : List Nat) ++ ([339, 340, 341, 342, 344, 348, 349, 351, 355, 356, 358, 362, 363, 366, 368, 370, 372, 374, 378, 379, 381, 385, 386, 387, 389, 393, 394, 395, 397, 401, 402, 403, 405, 409, 410, 411, 413, 417, 418, 419] : List Nat) ++ ([421, 425, 426, 427, 429, 433, 434, 435, 437, 441, 442, 444, 445, 450, 452, 454, 455, 457, 461, 462, 464, 468, 469, 470, 472, 476, 477, 478, 480, 484, 485, 486, 488, 492, 493, 494, 496, 500, 501, 502] : List Nat) ++ ([504, 508, 509, 510, 512, 516, 517, 518, 520, 524, 525, 527, 531, 532, 534, 535, 539, 543, 544, 546, 548, 549, 551, 555, 556, 558, 562, 563, 565, 569, 570, 572, 574, 575, 577, 579, 580, 582, 586, 587] : List Nat) ++ ([589, 591, 592, 594, 596, 597, 599, 601, 602, 604, 608, 609, 611, 613, 614, 616, 620, 621, 623, 625, 626, 628, 630, 631, 633, 637, 638, 640, 644, 645, 647, 651, 652, 654, 656, 657, 658, 660, 662, 663] : List Nat) ++ ([665, 669, 670, 672, 676, 677, 679, 683, 684, 686, 690, 691, 693, 697, 698, 700, 704, 705, 707, 711, 712, 714, 718, 719, 721, 725, 726, 728, 732, 733, 735, 739, 740, 742, 746, 747, 749, 751, 752, 754] : List Nat) ++ ([756, 757, 759, 763, 764, 766, 770, 771, 773, 775, 776, 778, 780, 781, 783, 787, 788, 790, 794, 795, 797, 799, 800, 802, 804, 805, 807, 811, 812, 814, 818, 819, 821, 823, 824, 826, 828, 829, 831, 833] : List Nat) ++ ([834, 836, 838, 839, 841, 845, 846, 848, 850, 851, 853, 855, 856] : List Nat)
abbrev hk : PySem.W.Hook := WHl.hookLL addrs chk fns
def ob (s : PySem.W.SharedT) : He.AlD := WHl.obsLLG addrs chk fns (HandSHeadRun.getT s)
theorem ob_eq (s : PySem.W.SharedT) : ob s = hk.obs s.abs := WHl.obsLLG_eq (HandSHeadRun.getT_eq s)
def loose : List Str := (["PlanError", "TreeError", "AbsentError", "BadSetting", "BadChild", "BadRoot", "BadText", "BadScript", "NotWorker", "NoPlace", "Plan", "BaseWorker", "LETTERS", "SIGNS", "MOST_SIGNS", "RESERVED"] : List Str) ++ (["OWN_REASONS", "is_word", "is_name", "is_between", "is_failure", "MOST_ROWS", "MOST_DEEDS", "MOST_WORK", "MOST_TICKS", "MOST_VALUE", "OWN_WORDS", "is_free_word", "is_value", "is_deed_value", "has_add", "is_added_plan"] : List Str) ++ (["has_shape", "is_deed", "is_row", "wrong_row", "is_script", "RESTARTS", "STRATEGIES", "MOST_WAIT", "MOST_CHILDREN", "MOST_PLANS", "MOST_LEVELS", "MOST_DEPTH", "MOST_WHOLE", "MOST_PRODUCT", "WORKER_SETTINGS", "SUPERVISOR_SETTINGS"] : List Str) ++ (["is_one_of", "is_deadline", "require", "WorkerPlan", "SupervisorPlan", "is_supervisor", "names", "spot_of", "required_way", "levels", "greatest_product", "broken_rule", "check_root", "supervisor_of", "worker_of", "opening_time"] : List Str) ++ (["cut", "stopping_time", "way_of_worker", "mend_times", "attack_row", "attacks", "product_of", "fall", "fewest", "INDENT", "DIGITS", "WORDED", "number_of", "values_in", "row_of", "rows_of"] : List Str) ++ (["plan_of", "read_plan", "_law_begun", "_law_next", "_law_of", "_law_name", "_law_ticks", "_law_worker", "_law_supervisor", "_law_opening", "_law_stopping", "_law_all", "_law_way", "_law_cycle", "_law_lasting", "_law_rows"] : List Str) ++ (["_law_product", "_law_spanned", "_law_lines", "_law_plan", "_law_more", "_law_longer", "_law_times", "_law_greatest", "_law_product_is_small", "_law_is_safer", "_law_is_multiplied"] : List Str)
end W48

set_option Elab.async false
set_option linter.all false
set_option maxRecDepth 100000
set_option maxHeartbeats 0
namespace W48
open PySem PySem.Spec PyProof.Rows L2
theorem run (w : World) : HandSHeadRun.RunEq R (PySem.W.view R.prog [116]) hk ob 9000 loose w := by
  intro os
  kernel_rfl
end W48

set_option Elab.async false
set_option linter.all false
set_option maxRecDepth 100000
set_option maxHeartbeats 2000000
/-! readings that only add objects: what holds of the value and the heap behind, whatever was added before -/
namespace WEv
open PySem PySem.Spec L2
abbrev HP (α : Type) := α → Hp → Prop
/-- what stays true when objects are added -/
def Mn {α : Type} (P : HP α) : Prop := ∀ x H H', Same H H' → P x H → P x H'
def EvP (te : TE) (σ : L2.St) (H : Hp) (P : HP V) : Prop := ∀ H1, Same H H1 → ∀ Q : VK, (∀ v H2, Same H1 H2 → P v H2 → Q v H2) → te σ H1 Q
def EvA (ta : TA) (σ : L2.St) (H : Hp) (P : HP (List V)) : Prop := ∀ H1, Same H H1 → ∀ Q : List V → Hp → Prop, (∀ v H2, Same H1 H2 → P v H2 → Q v H2) → ta σ H1 Q
def EvT (tt : TT) (σ : L2.St) (H : Hp) (b : Bool) : Prop := ∀ H1, Same H H1 → ∀ Q : Bool → Hp → Prop, (∀ H2, Same H1 H2 → Q b H2) → tt σ H1 Q
/-- a list object whose items are told -/
def LstP (n : Nat) (P : HP (List V)) : HP V := fun v H => ∃ p xs, v = .ref p ∧ H p = some (.lst xs) ∧ xs.length = n ∧ P xs H
theorem same_new {H : Hp} {p : Addr} {o : HO} (h : H p = none) : Same H (upd H p o) := fun a u e => by
  rw [upd_ne (ne_of_none e h)]
  exact e
theorem same_put {H H' : Hp} {p : Addr} {o : HO} (e : Same H H') (h : H p = none) : Same H (upd H' p o) := fun a u ha => by
  rw [upd_ne (ne_of_none ha h)]
  exact e a u ha
theorem mn_lst {n : Nat} {P : HP (List V)} (m : Mn P) : Mn (LstP n P) := fun _ _ _ s ⟨p, xs, e, h, l, q⟩ => ⟨p, xs, e, s _ _ h, l, m _ _ _ s q⟩
theorem mn_is {α : Type} {x : α} : Mn (fun y _ => y = x) := fun _ _ _ _ e => e
theorem mn_pure {α : Type} {p : α → Prop} : Mn (fun y _ => p y) := fun _ _ _ _ e => e
section
variable {σ : L2.St} {H H' : Hp} {te ta tb : TE} {tr : TA} {P P' Pa Pb : HP V} {Ps : HP (List V)} {v : V} {D : Ends} {n m : Nat}
theorem EvP.mono (s : Same H H') (h : EvP te σ H P) : EvP te σ H' P := fun H1 e => h H1 (s.trans e)
theorem EvP.imp (h : EvP te σ H P) (k : ∀ v H, P v H → P' v H) : EvP te σ H P' := fun H1 e Q q => h H1 e Q fun v H2 s p => q v H2 s (k v H2 p)
theorem EvP.keep {R : Hp → Prop} (h : EvP te σ H P) (hR : R H) (mR : ∀ H H', Same H H' → R H → R H') : EvP te σ H (fun v H => P v H ∧ R H) := fun H1 e Q q => h H1 e Q fun v H2 s p => q v H2 s ⟨p, mR _ _ (e.trans s) hR⟩
theorem p_var {i : Nat} (h : σ[i]? = some (some v)) : EvP (tVar i) σ H (fun x _ => x = v) := fun H1 _ _ q => ⟨v, h, q _ H1 (Same.refl H1) rfl⟩
theorem p_c : EvP (tC v) σ H (fun x _ => x = v) := fun H1 _ _ q => q _ H1 (Same.refl H1) rfl
theorem a_nil : EvA tNil σ H (fun vs _ => vs = []) := fun H1 _ _ q => q _ H1 (Same.refl H1) rfl
theorem a_cons (m : Mn P) (h : EvP te σ H P) (hr : EvA tr σ H Ps) : EvA (tCons te tr) σ H (fun vs H => ∃ x xs, vs = x :: xs ∧ P x H ∧ Ps xs H) := fun H1 e Q q =>
  h H1 e _ fun x H2 s2 p2 => hr H2 (e.trans s2) _ fun xs H3 s3 p3 => q _ H3 (s2.trans s3) ⟨x, xs, rfl, m _ _ _ s3 p2, p3⟩
theorem p_lst (h : EvA tr σ H Ps) (m : Mn Ps) (hl : ∀ xs H, Ps xs H → xs.length = n) (hn : n ≤ 100000 := by decide) : EvP (tLst tr) σ H (LstP n Ps) := fun H1 e _ q =>
  h H1 e _ fun xs H2 s2 p2 => ⟨Nat.le_trans (Nat.le_of_eq (hl _ _ p2)) (Nat.le_trans hn (by decide)), fun p hp => q _ _ (s2.trans (same_new hp)) ⟨p, xs, rfl, upd_same, hl _ _ p2, m _ _ _ (same_new hp) p2⟩⟩
theorem s_asg {i : Nat} (h : EvP te σ H P) (k : ∀ v H1, Same H H1 → P v H1 → D.nx (σ.set i (some v)) H1) : tAsg te (gName i) D σ H := h H (Same.refl H) _ k
theorem s_ret (h : EvP te σ H P) (k : ∀ v H1, Same H H1 → P v H1 → D.rt v H1) : tRet te D σ H := h H (Same.refl H) _ k
theorem EvA.imp {Ps' : HP (List V)} (h : EvA tr σ H Ps) (k : ∀ v H, Ps v H → Ps' v H) : EvA tr σ H Ps' := fun H1 e Q q => h H1 e Q fun v H2 s p => q v H2 s (k v H2 p)
end
end WEv

set_option Elab.async false
set_option linter.all false
set_option maxRecDepth 100000
set_option maxHeartbeats 2000000
/-! readings that leave the heap: one value -/
namespace WRd
open PySem PySem.Spec L2
def Ev (te : TE) (σ : L2.St) (H : Hp) (v : V) : Prop := ∀ Q : VK, Q v H → te σ H Q
def EvL (ta : TA) (σ : L2.St) (H : Hp) (vs : List V) : Prop := ∀ Q : List V → Hp → Prop, Q vs H → ta σ H Q
def EvB (tt : TT) (σ : L2.St) (H : Hp) (b : Bool) : Prop := ∀ Q : Bool → Hp → Prop, Q b H → tt σ H Q
section
variable {K : PySem.W.Frag} {σ : L2.St} {H : Hp} {te ta tb td ty tv : TE} {tr : TA} {tt tu : TT} {v x y : V} {vs : List V} {i j : Int} {n : Nat} {m : Addr} {kvs : List (Key × V)} {k : Key} {D : Ends} {a b c : Bool}
theorem ev_var (h : σ[n]? = some (some v)) : Ev (tVar n) σ H v := fun _ q => ⟨v, h, q⟩
theorem ev_c : Ev (tC v) σ H v := fun _ q => q
theorem evl_nil : EvL tNil σ H [] := fun _ q => q
theorem evl_cons (h : Ev ta σ H x) (g : EvL tr σ H vs) : EvL (tCons ta tr) σ H (x :: vs) := fun _ q => h _ (g _ q)
theorem ev_opI {C : Int → Int → Prop} {g : Int → Int → V} (ha : Ev ta σ H (.int i)) (hb : Ev tb σ H (.int j)) (hc : C i j) : Ev (tOp (rI C g) ta tb) σ H (g i j) := fun _ q => ha _ (hb _ ⟨i, j, rfl, rfl, hc, q⟩)
theorem ev_op0 {g : Int → Int → V} (ha : Ev ta σ H (.int i)) (hb : Ev tb σ H (.int j)) : Ev (tOp (rI0 g) ta tb) σ H (g i j) := fun _ q => ha _ (hb _ ⟨i, j, rfl, rfl, q⟩)
theorem ev_iI {C : Int → Int → Prop} {g : Int → Int → Int} (ha : Ev ta σ H (.int i)) (hb : Ev tb σ H (.int j)) (hc : C i j) : Ev (tOp (rI C fun i j => .int (g i j)) ta tb) σ H (.int (g i j)) := fun _ q => ha _ (hb _ ⟨i, j, rfl, rfl, hc, q⟩)
theorem ev_i0 {g : Int → Int → Int} (ha : Ev ta σ H (.int i)) (hb : Ev tb σ H (.int j)) : Ev (tOp (rI0 fun i j => .int (g i j)) ta tb) σ H (.int (g i j)) := fun _ q => ha _ (hb _ ⟨i, j, rfl, rfl, q⟩)
theorem ev_op {r : R2} (ha : Ev ta σ H x) (hb : Ev tb σ H y) (hr : ∀ Q : VK, Q v H → r x y H Q) : Ev (tOp r ta tb) σ H v := fun _ q => ha _ (hb _ (hr _ q))
theorem ev_cb {r : List V → Hp → VK → Prop} (ha : EvL tr σ H vs) (hr : ∀ Q : VK, Q v H → r vs H Q) : Ev (tCB r tr) σ H v := fun _ q => ha _ (hr _ q)
theorem ev_int1 (ha : EvL tr σ H [.int i]) : Ev (tCB (fun xs H Q => (∃ i, xs = [.int i] ∧ Q (.int i) H) ∨ ∃ k, xs = [.bl k] ∧ Q (.int (if k then 1 else 0)) H) tr) σ H (.int i) := ev_cb ha fun _ q => .inl ⟨i, rfl, q⟩
theorem ev_dget (hd : Ev td σ H (.ref m)) (hy : Ev ty σ H (kV k)) (hm : H m = some (.dK kvs)) (hv : valV kvs k = some v) : Ev (tDGet td ty) σ H v := fun _ q => hd _ (hy _ ⟨m, v, rfl, .inl ⟨kvs, k, .inl hm, rfl, hv.symm⟩, q⟩)
theorem st_dput (hv : Ev tv σ H v) (hd : Ev td σ H (.ref m)) (hy : Ev ty σ H (kV k)) (hm : H m = some (.dK kvs)) (hl : kvs.length < sizeLine) (q : D.nx σ (upd H m (.dK (putK kvs k v)))) : sDPut td ty tv D σ H :=
  hv _ (hd _ (hy _ ⟨m, _, rfl, .inl ⟨kvs, k, hm, rfl, hl, rfl⟩, q⟩))
theorem st_asg (h : Ev te σ H v) (q : D.nx (σ.set n (some v)) H) : tAsg te (gName n) D σ H := h _ q
theorem st_ret (h : Ev te σ H v) (q : D.rt v H) : tRet te D σ H := h _ q
theorem st_if {t u : TS} (h : EvB tt σ H b) (q : if b = true then t D σ H else u D σ H) : tIfS tt t u D σ H := h _ q
theorem evb_test (h : Ev te σ H (.bl b)) : EvB (tTest te) σ H b := fun _ q => h _ ⟨b, rfl, q⟩
theorem evb_cmp {g : Int → Int → Bool} (ha : Ev ta σ H (.int i)) (hb : Ev tb σ H (.int j)) : EvB (tTest (tOp (rI0 fun i j => .bl (g i j)) ta tb)) σ H (g i j) := fun _ q => ha _ (hb _ ⟨i, j, rfl, rfl, _, rfl, q⟩)
theorem evb_and (h : EvB tt σ H a) (g : a = true → EvB tu σ H b) : EvB (tAnd tt tu) σ H (a && b) := fun Q q => h _ (by
  cases a with
  | true => exact g rfl _ q
  | false => exact q)
end
end WRd

set_option Elab.async false
set_option linter.all false
set_option maxRecDepth 100000
set_option maxHeartbeats 2000000
/-! calls by a mapping behind two stars: C(e, .., *xs, **d) -/
namespace WSt
open PySem PySem.Spec PyProof.Rows L2 StX
section
variable {prog : Program} {w : World} {K : Type} [DecidableEq K] {knd : KeyKind prog w K} {A : Around} {E : Value → Shared → Prop} {s : Shared}
theorem find_new {d : Addr} {vs : List (K × Value)} {k : K} {key : Value} {Q : Option Nat → Shared → Prop} (hm : s.heap.DictOf knd d vs) (hkey : knd.is k key = true) (hn : k ∉ vs.map (·.1)) (h : Q none s) : wpAny (model prog w) A (dictFind d key (knd.hash k)) Q E s := by
  obtain ⟨o, es, ep, ho, hc, hd, hk, hp, _⟩ := hm
  refine wpAny_dictFind_of hkey ho hd hk ?_
  have e1 : (es.findIdx? fun e => knd.is k e.key) = vs.findIdx? fun kv => decide (kv.1 = k) := by
    rw [← hp.findIdx k]
    obtain ⟨l⟩ := es
    simp
  have e2 : (vs.findIdx? fun kv => decide (kv.1 = k)) = none := by
    rw [List.findIdx?_eq_none_iff]
    intro x hx
    exact decide_eq_false fun e => hn (List.mem_map.mpr ⟨x, hx, e⟩)
  rw [e1, e2]
  exact h
theorem put_new {d : Addr} {vs : List (K × Value)} {k : K} {key v : Value} {Q : Unit → Shared → Prop} (hm : s.heap.DictOf knd d vs) (hkey : knd.is k key = true) (hn : k ∉ vs.map (·.1)) (hz : vs.length ≤ sizeLine)
    (h : ∀ h', h'.DictOf knd d (vs ++ [(k, v)]) → Heap.SameBut d s.heap h' → Q () { s with heap := h' }) : wpAny (model prog w) A (dictPut d (knd.hash k) key v) Q E s := by
  obtain ⟨o, es, ep, ho, hc, hd, hk, hp, hnd⟩ := id hm
  have hes : es.size ≤ sizeLine := by
    have e1 := hp.length
    have e2 : es.toList.length = es.size := by simp
    omega
  unfold dictPut
  refine wpAny_bind (find_new hm hkey hn ?_)
  dsimp only
  refine wpAny_updateDictKeys (hz := hes) ho hd (h _ ⟨_, _, ep + 1, Heap.get?_update_self _ ho (Obj.isFreed_of_dict (Obj.data_mapDictKeys hd _)), hc.mapDictKeys _, Obj.data_mapDictKeys hd _, hk.push hkey _, ?_, ?_⟩ (Heap.SameBut.update ..))
  · have := hp.append hkey (knd.hash k) v
    obtain ⟨l⟩ := es
    simpa using this
  · rw [List.map_append, List.nodup_append]
    refine ⟨hnd, by simp, ?_⟩
    intro a ha b hb
    simp only [List.map_cons, List.map_nil, List.mem_singleton] at hb
    subst hb
    exact fun e => hn (e ▸ ha)
end
def StrK (kvs : List (Key × V)) : Prop := ∀ kv ∈ kvs, ∃ z : Str, kv.1 = Sum.inr z
section
variable {X : Cx} {pins : List (Addr × Obj)} {σ : L2.St} {H : Hp} {s : Shared} {A : Around} {E : Value → Shared → Prop} {a d : Addr} {kvs : List (Key × V)}
theorem merge_run {Q : Unit → Shared → Prop} (I : Inv X pins σ H s) (ha : H a = some (.dK kvs)) (hd : H d = some (.dK [])) (hne : a ≠ d) (hs : StrK kvs) (h : ∀ s', Inv X pins σ (upd H d (.dK kvs)) s' → Q () s') :
    wpAny (model X.prog X.w) A (mergeMapping d (.ref a) true) Q E s := by
  obtain ⟨z, hsy, vs, rel, dd⟩ := dk_of I.hok ha
  obtain ⟨_, _, vd, rd, ddd⟩ := dk_of I.hok hd
  cases rd
  unfold mergeMapping
  refine wpAny_bind (wpAny_isInstance dd.typeIs PySem.F.sub_dict_dict ?_)
  rw [if_pos rfl]
  refine wpAny_bind (wpAny_specialOf dd.typeIs PySem.F.slot_dict_iter.lookup ?_)
  refine wpAny_bind (wpAny_pure ?_)
  show wpAny _ _ (if (a == sysModules) = true then _ else _) _ _ _
  rw [if_neg (by rw [hsy]; exact Bool.false_ne_true)]
  obtain ⟨od, esd, epd, hod, hcd, hdd, hkd, hpd, _⟩ := id ddd
  obtain ⟨oa, esa, epa, hoa, hca, hda, hka, hpa, hna⟩ := id dd
  refine wpAny_bind (wpAny_dictEntries hod hdd ?_)
  have hed : esd.isEmpty = true := by
    have := hpd.length
    simpa [Array.isEmpty] using this
  rw [if_pos hed]
  refine wpAny_bind (wpAny_dictEntries hoa hda ?_)
  refine wpAny_bind ?_
  refine MeetsSeq2.wpAny_forIn_array _ (fun rest _ s' => s' = s ∧ ∀ e ∈ rest, e ∈ esa) _ ?_ ?_ esa _ ⟨rfl, fun e he => by simpa using he⟩
  · rintro e rest b s' ⟨rfl, hr⟩
    obtain ⟨k, hk, _⟩ := hka e (hr e List.mem_cons_self)
    rcases keyIs_shape hk with ⟨i, t, _, ek⟩ | ⟨x, t, _, ek⟩
    · rw [ek]
      exact wpAny_pure ⟨rfl, fun e he => hr e (List.mem_cons_of_mem _ he)⟩
    · rw [ek]
      exact wpAny_pure ⟨rfl, fun e he => hr e (List.mem_cons_of_mem _ he)⟩
  · rintro b s' ⟨rfl, _⟩
    refine wpAny_bind (wpAny_dictEntries hoa hda ?_)
    refine wpAny_bind (wpAny_dictEpoch hoa hda ?_)
    have hsz : esa.size = kvs.length := by
      rw [rel.length, ← hpa.length]
      simp
    have hkv := rel.keys
    refine wpAny_bind (wpAny_forIn_list _ (fun rest _ s2 => ∃ i, rest = List.range' i (esa.size - i) ∧ i ≤ esa.size ∧ s2.heap.get? a = some oa ∧ Inv X pins σ (upd H d (.dK (kvs.take i))) s2) _ ?_ ?_ _ _ ⟨0, by rw [List.range_eq_range', Nat.sub_zero], Nat.zero_le _, hoa, ?_⟩)
    · rintro i rest b s2 ⟨j, hr, hj, ho2, I2⟩
      have hlt : j < esa.size := by
        rcases Nat.lt_or_ge j esa.size with q | q
        · exact q
        · rw [show esa.size - j = 0 by omega] at hr
          cases hr
      rw [show esa.size - j = (esa.size - (j + 1)) + 1 by omega, List.range'_succ] at hr
      obtain ⟨rfl, rfl⟩ := List.cons.inj hr
      refine wpAny_bind (wpAny_dictEntries ho2 hda ?_)
      have hltv : i < vs.length := by rw [← hpa.length]; simpa using hlt
      obtain ⟨hk, hv⟩ := hpa.get? (i := i) (e := esa[i]) (k := (vs[i]).1) (v := (vs[i]).2) (by simp) (by simp [hltv])
      rw [Array.getElem?_eq_getElem hlt]
      dsimp only
      have hltk : i < kvs.length := by rw [rel.length]; exact hltv
      have ek : kvs[i].1 = vs[i].1 := by
        have : (kvs.map (·.1))[i]? = (vs.map (·.1))[i]? := by rw [hkv]
        simpa [hltk, hltv] using this
      obtain ⟨x, hx, rx⟩ := KV.at' rel (i := i) (k := (vs[i]).1) (v := (vs[i]).2) (by simp [hltv])
      have ex : kvs[i] = (vs[i].1, x) := by
        rw [List.getElem?_eq_getElem hltk] at hx
        exact Option.some.inj hx
      obtain ⟨k', hk', hh⟩ := hka esa[i] (Array.getElem_mem hlt)
      obtain rfl : k' = vs[i].1 := (mixKind X.prog X.w).inj _ _ _ hk' hk
      obtain ⟨zd, hsd, vd, rd, dd2⟩ := dk_of I2.hok (upd_same (a := d))
      have hnot : vs[i].1 ∉ vd.map (·.1) := by
        rw [← rd.keys, List.map_take, hkv]
        intro hm
        obtain ⟨j, hj1, hj2⟩ := List.mem_iff_getElem.mp hm
        rw [List.length_take, List.length_map] at hj1
        rw [List.getElem_take, List.getElem_map] at hj2
        have := List.pairwise_iff_getElem.mp hna j i (by rw [List.length_map]; omega) (by rw [List.length_map]; exact hltv) (by omega)
        rw [List.getElem_map, List.getElem_map] at this
        exact this hj2
      have hzd : vd.length ≤ sizeLine := by rw [← rd.length]; exact zd
      rw [hh]
      refine wpAny_bind (wpAny_holding ?_)
      rw [if_pos rfl]
      refine wpAny_bind (find_new dd2 hk hnot ?_)
      rw [if_neg (by simp)]
      refine put_new dd2 hk hnot hzd fun h' dd3 hsb => ?_
      have ho3 : h'.get? a = some oa := (hsb.2 a hne).trans ho2
      have et : kvs.take (i + 1) = kvs.take i ++ [(vs[i].1, x)] := by rw [List.take_succ, List.getElem?_eq_getElem hltk, ex]; rfl
      have he : ∃ q, h'.get? d = some q := let ⟨q, _, _, hq, _⟩ := dd3; ⟨q, hq⟩
      have I3 : Inv X pins σ (upd H d (.dK (kvs.take (i + 1)))) { s2 with heap := h' } := by
        rw [← upd_upd (o := .dK (kvs.take i))]
        refine d_write (t' := s2.toks) I2 (by rw [upd_same]; exact True.intro) hsb he (dk_new (by rw [List.length_take]; omega) hsd ?_ dd3)
        rw [et, hv]
        exact Paired.snoc rd ⟨rfl, rx⟩
      refine wpAny_bind (wpAny_dictEpoch ho3 hda ?_)
      rw [if_neg (by simp)]
      exact wpAny_pure ⟨i + 1, rfl, hlt, ho3, I3⟩
    · rintro b s2 ⟨j, hr, hj, ho2, I2⟩
      have e : j = esa.size := by
        rcases Nat.lt_or_ge j esa.size with q | q
        · rw [show esa.size - j = (esa.size - (j + 1)) + 1 by omega, List.range'_succ] at hr
          cases hr
        · omega
      subst e
      rw [hsz, List.take_length] at I2
      exact wpAny_pure (h _ I2)
    · rw [List.take_zero, show upd H d (.dK []) = H from by
        funext b
        unfold upd
        split
        · rename_i q
          rw [q]
          exact hd.symm
        · rfl]
      exact I
theorem kv_vals : ∀ {kvs : List (Key × V)} {vs : List (Key × Value)}, KV kvs vs → Vals (kvs.map (·.2)) (vs.map (·.2))
  | _, _, .nil => .nil
  | _, _, .cons r t => .cons r.2 (kv_vals t)
theorem kwin_run {f : Value} {zs : List Str} {Q : List (Str × Value) → Shared → Prop} (I : Inv X pins σ H s) (hd : H d = some (.dK kvs)) (hz : kvs.map (·.1) = zs.map Sum.inr) (h : ∀ ws, Vals (kvs.map (·.2)) ws → Q (zs.zip ws) s) :
    wpAny (model X.prog X.w) A (keywordsIn f d) Q E s := by
  obtain ⟨z, hsy, vs, rel, dd⟩ := dk_of I.hok hd
  obtain ⟨o, es, ep, ho, hc, hda, hk, hp, hn⟩ := dd
  have hkv := rel.keys
  have hl : es.toList.length = vs.length := hp.length
  have hlz : vs.length = zs.length := by
    have := congrArg List.length (hkv.symm.trans hz)
    simpa using this
  have hv : Vals (kvs.map (·.2)) (vs.map (·.2)) := by
    exact kv_vals rel
  unfold keywordsIn
  refine wpAny_bind (wpAny_dictEntries ho hda ?_)
  refine wpAny_bind (MeetsSeq2.wpAny_forIn_array _ (fun rest b s' => s' = s ∧ ∃ i, rest = es.toList.drop i ∧ i ≤ es.toList.length ∧ b = (zs.zip (vs.map (·.2))).take i) _ ?_ ?_ es _ ⟨rfl, 0, by simp, by simp, by simp⟩)
  · rintro e rest b s' ⟨rfl, i, hr, hi, hb⟩
    have hlt : i < es.toList.length := by
      rcases Nat.lt_or_ge i es.toList.length with q | q
      · exact q
      · rw [List.drop_eq_nil_of_le q] at hr
        cases hr
    rw [List.drop_eq_getElem_cons hlt] at hr
    obtain ⟨rfl, rfl⟩ := List.cons.inj hr
    have hltv : i < vs.length := by omega
    have hltz : i < zs.length := by omega
    obtain ⟨hk1, hv1⟩ := hp.get? (i := i) (e := es.toList[i]) (k := (vs[i]).1) (v := (vs[i]).2) (by simp [hlt]) (by simp [hltv])
    have ek : vs[i].1 = Sum.inr zs[i] := by
      have : (vs.map (·.1))[i]? = (zs.map (Sum.inr : Str → Key))[i]? := by rw [← hkv, hz]
      simpa [hltv, hltz] using this
    rw [ek] at hk1
    rcases keyIs_shape (k := Sum.inr zs[i]) hk1 with ⟨j, t, q, _⟩ | ⟨x, t, q, ex⟩
    · exact nomatch q
    · have q' := Sum.inr.inj q
      rw [ex, ← q']
      refine wpAny_pure ⟨rfl, i + 1, rfl, hlt, ?_⟩
      rw [List.take_succ, hb, hv1]
      congr 1
      have hz1 : i < (zs.zip (vs.map (·.2))).length := by rw [List.length_zip, List.length_map]; omega
      rw [List.getElem?_eq_getElem hz1]
      simp
  · rintro b s' ⟨rfl, i, hr, hi, hb⟩
    have e : i = es.toList.length := by
      rcases Nat.lt_or_ge i es.toList.length with q | q
      · rw [List.drop_eq_getElem_cons q] at hr
        cases hr
      · omega
    subst e
    rw [List.take_of_length_le (by rw [List.length_zip, List.length_map]; omega)] at hb
    rw [hb]
    exact wpAny_pure (h _ hv)
/-- the dict of the keywords: a new one -/
theorem merged_run {f : Value} {x : Sem Value} {Q : Addr → Shared → Prop} (I : Inv X pins σ H s)
    (h : ∀ d, H d = none → ∀ s', Inv X pins σ (upd H d (.dK [])) s' → wpAny (model X.prog X.w) A x (fun v s1 => ∃ a H1 kvs, v = .ref a ∧ Inv X pins σ H1 s1 ∧ H1 a = some (.dK kvs) ∧ H1 d = some (.dK []) ∧ a ≠ d ∧ StrK kvs ∧ ∀ s2, Inv X pins σ (upd H1 d (.dK kvs)) s2 → Q d s2) E s') :
    wpAny (model X.prog X.w) A (mergedKeywords f [(none, x)]) Q E s := by
  unfold mergedKeywords
  refine wpAny_bind (wpAny_alloc ?_)
  have I1 := I.laid (a := s.heap.objs.size) (o := .dK []) (t' := s.toks) (fun _ _ q => Heap.get?_push_of_some _ q) (Nat.le_refl _) (dk_empty s.heap I.big)
  refine wpAny_bind (wpAny_holding ?_)
  refine wpAny_bind ?_
  rw [List.forIn_cons]
  refine wpAny_bind (wpAny_bind (wpAny_pure ?_))
  refine wpAny_bind (wpAny_mono (h _ (I.hok.fresh (Nat.le_refl _)) _ I1) (fun v s1 hv => ?_) fun _ _ q => q)
  obtain ⟨a, H1, kvs, rfl, I2, ha, hd, hne, hs, k⟩ := hv
  refine wpAny_bind (wpAny_onRaise (wpAny_holding (wpAny_tryCatch (wpAny_onRaise (merge_run I2 ha hd hne hs fun s2 I3 => ?_)))))
  refine wpAny_pure ?_
  dsimp only
  rw [List.forIn_nil]
  exact wpAny_pure (wpAny_pure (wpAny_pure (k s2 I3)))
end
section
variable {M : Model} {A : Around} {E : Value → Shared → Prop} {s : Shared} {K : PySem.W.Frag} {pos : Pos} {f : Value} {first : List Value} {a0 x : Sem Value} {rest : List (Bool × Sem Value)}
theorem evalArgs_ss {Q : Args → Shared → Prop} (h : wpAny M A (spliced ((false, a0) :: rest)) (fun us s1 => wpAny M A (mergedKeywords f [(none, x)]) (fun d s2 => wpAny M A (keywordsIn f d) (fun kw s3 => Q ⟨us, kw⟩ s3) E s2) E s1) E s) :
    wpAny M A (evalArgs f true ((false, a0) :: rest) [(none, x)]) Q E s := by
  unfold evalArgs
  refine wpAny_bind (wpAny_mono h (fun us s1 h1 => wpAny_bind (wpAny_pure ?_)) fun _ _ q => q)
  refine wpAny_holding ?_
  rw [if_neg (by simp)]
  refine wpAny_bind (wpAny_mono h1 (fun d s2 h2 => ?_) fun _ _ q => q)
  refine wpAny_bind (wpAny_pure ?_)
  refine wpAny_bind (wpAny_holding (wpAny_mono h2 (fun kw s3 h3 => wpAny_pure h3) fun _ _ q => q))
theorem callWith_ss {Q : Value → Shared → Prop} (hk : PySem.W.keepIn K f = true) (h : wpAny M A (evalArgs f true ((false, a0) :: rest) [(none, x)]) (fun a s1 => K.In s1.heap ∧ wpAny M A (call f (first ++ a.pos) a.kw) Q E s1) E s) :
    wpAny M A (callWith pos f first ((false, a0) :: rest) [(none, x)]) Q E s := by
  unfold callWith
  refine wpAny_bind (wpAny_holding (wpAny_mono h (fun a s1 h1 => wpAny_bind (wpAny_standAt ?_)) fun _ _ q => q))
  obtain ⟨k, hk', L⟩ := PySem.W.keeps_K (M := M) hk _ h1.1
  refine wpAny_bind (L.here ?_)
  have tail : ∀ {t : Sem Value}, wpAny M A t Q E s1 → wpAny M A (t >>= fun r => holding [r] point >>= fun _ => pure r) Q E s1 :=
    fun ht => wpAny_bind (wpAny_mono ht (fun r s2 hr => wpAny_bind (wpAny_holding (wpAny_point (wpAny_pure hr)))) fun _ _ q => q)
  have marked (mk : Value) : wpAny M A (callMarked mk f (first ++ a.pos) a.kw) Q E s1 := by
    unfold callMarked
    exact Calls.wpAny_keep h1.2
  have hst : (((false, a0) :: rest).any (·.1) || [((none : Option Str), x)].any (·.1.isNone)) = true := by simp
  simp only [hst]
  rcases hk' with rfl | rfl | rfl <;> dsimp only <;> first | exact tail (marked _) | exact tail (wpAny_operating h1.2)
end
/-! ### an __init__ called with keywords -/
abbrev SpK := List V → List V → Hp → VK → XK → Prop
def FnK (P : Program) (w : World) (K : PySem.W.Frag) (mg : Str → Option Value) (base : Heap) (CX : CXT) (k : Nat) (f : Addr) (ks : List Str) (sp : SpK) : Prop :=
  ∀ (A : Around) (outer : List Env) (s : Shared) (H : Hp) (us ws : List Value) (vs zs : List V) (Q : VK) (E : XK), Room k A → Env0 P w K mg base A outer s H → Vals vs us → Vals zs ws → zs.length = ks.length → sp vs zs H Q E →
    codeAny (model P w) A (.call (.ref f) ⟨us, ks.zip ws⟩) (CR CX outer P w H s Q E) s
section
variable {CX : CXT} {P : Program} {w : World} {K : PySem.W.Frag} {mg : Str → Option Value} {base : Heap} {k n : Nat} {f : Addr} {name qual : Str} {params : Arguments} {body : List Stmt} {scope : Scope} {dV kV doc pm cdv ct oc : Value} {an od : Option Addr}
  {osl : Array (Option Value)} {N ps ks : List Str} {sp : Sp} {fd : FuncData} {g : List Value → List Value → List Value} {gV : List V → List V → List V}
theorem FnK.of_ok (F : FnOk P w K mg base CX k f fd ps sp) (hb : KBn K fd ps n ks g gV) (X : ∀ {A outer s H}, Env0 P w K mg base A outer s H → K.In s.heap) : FnK P w K mg base CX k f ks (fun vs zs H Q E => vs.length = n ∧ sp (gV vs zs) H Q E) := by
  intro A outer s H us ws vs zs Q E hr e0 r rz hl h
  exact F.run A outer s H ⟨us, ks.zip ws⟩ _ _ Q E hr e0 (hb.to s us ws (X e0) (r.length.symm.trans h.1) (rz.length.symm.trans hl)) (hb.rel r rz) h.2
/-- def f(a, .., *v, k = .., ..) with all keywords given -/
theorem fn_starK {pv : Str} (lk : K.lookup f = some ⟨oc, od, .func (PySem.W.fnOf name qual params body scope dV kV doc pm an cdv ct), osl⟩) (hcd : PySem.W.codeIn K cdv qual = true) (S : FnScope N (ps ++ ks ++ [pv]) scope) (hCX : CXUp CX)
    (hb : ∀ us rest ws : List Value, us.length = ps.length → ws.length = ks.length → bindArgs (PySem.W.fnOf name qual params body scope dV kV doc pm an cdv ct) ⟨us ++ rest, ks.zip ws⟩ = (newTuple rest >>= fun t => pure ((ps ++ ks).zip (us ++ ws) ++ [(pv, t)])))
    (hbody : ∀ (A : Around) (outer : List Env) (s : Shared) (H : Hp) (vs : List V) (Q : VK) (E : XK), Room k (A.deeper (envOfC qual scope s.heap.objs.size f cdv)) → sp vs H Q E →
      ∃ t, PSs (cxOf CX P w K mg base N qual scope f cdv A outer s H E) body t ∧ t { nx := fun _ H' => Q .non H', rt := Q } (start N vs) H) :
    FnK P w K mg base CX (k + 1) f ks (fun vs zs H Q E => ∃ as rest, vs = as ++ rest ∧ as.length = ps.length ∧ rest.length ≤ sizeLine ∧ ∀ p, H p = Option.none → sp (as ++ zs ++ [V.ref p]) (upd H p (.tup rest)) Q E) := by
  intro A outer s H us ws vs zs Q E hr e0 r rz hlz hsp
  obtain ⟨as, rest, rfl, hl, hz, hq⟩ := hsp
  obtain ⟨u1, u2, rfl, r1, r2⟩ := vals_split r
  have hn : H s.heap.objs.size = Option.none := e0.hok.fresh (Nat.le_refl _)
  have hl1 : u1.length = ps.length := by rw [← r1.length]; exact hl
  have hl2 : u2.length ≤ sizeLine := by rw [← r2.length]; exact hz
  have hl3 : ws.length = ks.length := by rw [← rz.length]; exact hlz
  refine run_bnd (ps := ps ++ ks ++ [pv]) lk hcd S hr e0 (G := fun xs H2 => ∃ p, H p = Option.none ∧ xs = as ++ zs ++ [V.ref p] ∧ H2 = upd H p (.tup rest)) (fun A' Ex Q' h => ?_) fun s2 H2 xs ⟨p, hp, ex, eH⟩ hr' => ?_
  · rw [hb u1 u2 ws hl1 hl3]
    refine wpAny_bind (wpAny_newTuple (wpAny_pure ?_) hl2)
    have new : ObjOk P w (upd H s.heap.objs.size (.tup rest)) (s.heap.push ({ cls := .type "tuple", data := .seq u2.toArray } : Obj)) s.heap.objs.size (.tup rest) := ⟨hz, u2, r2, ⟨_, Heap.get?_push_size _ rfl, rfl, _, rfl⟩⟩
    have un := un_laid (fs := frs outer) (s := s) (o := ({ cls := .type "tuple", data := .seq u2.toArray } : Obj)) (u := .tup rest) hn
    have z := h _ _ (as ++ zs ++ [V.ref s.heap.objs.size]) (u1 ++ ws ++ [Value.ref s.heap.objs.size]) (env0_laid e0 new) un rfl (fun e s' => hCX outer s H _ _ E e s' un (fun b o q => Heap.get?_push_of_some _ q) rfl) ((r1.append rz).append (.cons rfl .nil))
      (by simp only [List.length_append, List.length_cons, List.length_nil, hl, hlz]) ⟨_, hn, rfl, rfl⟩
    rw [List.zip_append (by rw [List.length_append, List.length_append, hl1, hl3])] at z
    exact z
  · subst ex eH
    exact hbody A outer s2 _ _ Q E hr' (hq p hp)
end
section
variable {X : Cx} {CX : CXT} {k : Nat} {f C : Addr} {ks : List Str} {sp : SpK} {E : XK} {x : Str} {p pos : Pos} {e em : Expr} {es : List Expr} {kws : List Keyword} {t tk : TA} {tm : TE}
theorem run_makeF {pins : List (Addr × Obj)} {σ : L2.St} {H : Hp} {s : Shared} {Q : VK} {us ws : List Value} {vs zs : List V} (M : Mk X.K C f) (F : FnK X.prog X.w X.K X.mg X.base CX k f ks sp) (hr : Room (k + 1) X.A) (hx : Passes CX X E)
    (I : Inv X pins σ H s) (r : Vals vs us) (rz : Vals zs ws) (l2 : zs.length = ks.length)
    (h : ∀ x dx, H x = none → H dx = none → dx ≠ x → sp (.ref x :: vs) zs (upd (upd H dx (.own x)) x (.ins C dx [])) (fun v H2 => v = .non ∧ Q (.ref x) H2) E) :
    wpAny (model X.prog X.w) X.A (call (.ref C) us (ks.zip ws)) (EP X pins σ Q) X.xe s := by
  have hq := h (s.heap.objs.size + 1) s.heap.objs.size (I.hok.fresh (Nat.le_succ _)) (I.hok.fresh (Nat.le_refl _)) (Nat.ne_of_lt (Nat.lt_succ_self _))
  have I2 := Inv.made (C := C) I
  have r1 : Vals (V.ref (s.heap.objs.size + 1) :: vs) (Value.ref (s.heap.objs.size + 1) :: us) := .cons rfl r
  refine wpAny_call (make_map (f := f) I.kIn M.makes M.init (beq_iff_eq.mp M.fn) (codeAny_mono (F _ X.stack _ _ (Value.ref (s.heap.objs.size + 1) :: us) ws _ zs _ E (hr.make C us (ks.zip ws)) (I2.env0.make C us (ks.zip ws)) r1 rz l2 hq) fun r s' hq' => ?_))
  cases r with
  | error e => exact hx pins σ _ _ e s' I2 hq'
  | ok fl =>
    cases fl with
    | ret u =>
      obtain ⟨v, H', I3, rv, ev, q3⟩ := I2.after hq'
      subst ev
      exact ⟨rv, ⟨V.ref (s.heap.objs.size + 1), H', I3, rfl, q3⟩⟩
    | next => exact False.elim hq'
    | brk => exact False.elim hq'
    | cont => exact False.elim hq'
/-- C(e, .., **d) -/
def tMkSS (C : Addr) (ks : List Str) (sp : SpK) (E : XK) (t : TA) (tm : TE) : TE := fun σ H Q => t σ H fun vs H1 => ∀ d, H1 d = none → tm σ (upd H1 d (.dK [])) fun y H2 => ∃ a kvs, y = .ref a ∧ H2 a = some (.dK kvs) ∧ H2 d = some (.dK []) ∧ a ≠ d ∧ kvs.map (·.1) = ks.map Sum.inr ∧
  ∀ x dx, upd H2 d (.dK kvs) x = none → upd H2 d (.dK kvs) dx = none → dx ≠ x → sp (.ref x :: vs) (kvs.map (·.2)) (upd (upd (upd H2 d (.dK kvs)) dx (.own x)) x (.ins C dx [])) (fun v H3 => v = .non ∧ Q (.ref x) H3) E
theorem pe_mkSS (M : Mk X.K C f) (F : FnK X.prog X.w X.K X.mg X.base CX k f ks sp) (hr : Room (k + 1) X.A) (hg : Gl X x) (hm : X.mg x = some (.ref C)) (hx : Passes CX X E) (ha : PA X (e :: es) t) (he : PE X em tm)
    (hkw : keywordEach kws X.env = [(none, eval em X.env)] := by rfl) (hdb : (x == ("__debug__" : Str)) = false := by decide) (hst : starEach (e :: es) X.env = (false, eval e X.env) :: starEach es X.env := by rfl) :
    PE X (.Call (.Name x p) (e :: es) kws pos) (tMkSS C ks sp E t tm) := by
  refine ⟨fun pins s σ H Q I h => ?_⟩
  refine wpAny_Call_Name_kw (ld_glob I hg hm ?_ hdb)
  rw [hkw, hst]
  have ha' := ha.run pos pins s σ H _ I h
  rw [hst] at ha'
  refine callWith_ss M.kp (evalArgs_ss (thn ha' fun us s1 hv => ?_))
  obtain ⟨vs, H1, I1, r, q⟩ := hv
  refine merged_run I1 fun d hd s2 I2 => ?_
  refine wpAny_bind (thn (he.run pins s2 σ _ _ I2 (q d hd)) fun v s3 ⟨y, H2, I3, ry, a, kvs, ey, h1, h2, hne, hks, q2⟩ => wpAny_bind (wpAny_standAt (wpAny_pure ?_)))
  subst ey
  refine ⟨a, H2, kvs, ry, I3, h1, h2, hne, fun kv hkv => ?_, fun s4 I4 => ?_⟩
  · have : kv.1 ∈ kvs.map (·.1) := List.mem_map.mpr ⟨kv, hkv, rfl⟩
    rw [hks] at this
    obtain ⟨z, _, ez⟩ := List.mem_map.mp this
    exact ⟨z, ez.symm⟩
  · refine kwin_run I4 upd_same hks fun ws rw_ => ⟨I4.kIn, ?_⟩
    exact run_makeF M F hr hx I4 r rw_ (by rw [List.length_map]; have := congrArg List.length hks; simpa using this) q2
end
end WSt

set_option Elab.async false
set_option linter.all false
set_option maxRecDepth 100000
set_option maxHeartbeats 2000000
/-! name = {k: v for ..}; C(.., k=..) by a promise of keywords -/
namespace WDc
open PySem PySem.Spec PyProof.Rows L2 StX WSt
section
variable {X : Cx}
theorem ps_setDc {i : Nat} {y : Str} {py : Pos} {kx vx tg iter : Expr} {ifs : List Expr} {scope : Scope} {own : List (Str × Nat)} {pos spos : Pos} {wi : TI} {g : TG} {tt : TT} {tk tv : TE} (hc : X.calm = true) (hN : X.N.Nodup) (hy : X.N[i]? = some y) (hyl : X.env.scope.names.lookup y = some .local)
    (hsw : swapsWith (.DictComp kx vx [⟨tg, iter, ifs, 0⟩] scope pos) (some (.Name y py)) spos.line X.env = pure true) (hi : PI X tg iter wi) (ok : BlkOk X.N X.env.scope scope own)
    (hg : ∀ (s : Shared) (H : Hp) (C : Addr) (cl : List (Str × Addr)) (fp : List Addr), PG (X.blk s H scope (compEnvC scope cl C X.env) fp) tg g) (ht : ∀ (s : Shared) (H : Hp) (C : Addr) (cl : List (Str × Addr)) (fp : List Addr), PTs (X.blk s H scope (compEnvC scope cl C X.env) fp) ifs tt)
    (hk : ∀ (s : Shared) (H : Hp) (C : Addr) (cl : List (Str × Addr)) (fp : List Addr), PE (X.blk s H scope (compEnvC scope cl C X.env) fp) kx tk)
    (he : ∀ (s : Shared) (H : Hp) (C : Addr) (cl : List (Str × Addr)) (fp : List Addr), PE (X.blk s H scope (compEnvC scope cl C X.env) fp) vx tv) (hs : ∀ x, foldedSetIterable iter X.env x = pure x := by intro _; rfl) :
    PS X (.Assign [.Name y py] (.DictComp kx vx [⟨tg, iter, ifs, 0⟩] scope pos) spos) (tAsg (tDc wi g tt tk tv (own.map (·.2))) (gName i)) := by
  refine ⟨fun pins s σ H D I h => ?_⟩
  rw [exec_Assign_Name_used _ _ _ _ hsw]
  refine wpAny_bind (wpAny_standAt (wpAny_bind ?_))
  show wpAny _ X.A (do let _ ← comprehension (.DictComp kx vx [⟨tg, iter, ifs, 0⟩] scope pos) scope X.env (firstIterPos [⟨tg, iter, ifs, 0⟩] pos) newDict false (eval iter X.env) (some (assign (.Name y py) X.env))) _ _ s
  have h : tDc wi g tt tk tv (own.map (·.2)) σ H (fun x H1 => gName i x σ H1 D.nx) := h
  refine wpAny_bind (thn (dc_core (Qf := fun _ s' => SP X pins D .next s') hc hN I hi ok hg ht hk he hs h fun L C s' m H' I' q hn f => ?_) fun _ s' hq => wpAny_pure (wpAny_pure hq))
  show wpAny _ _ (assign (.Name y py) X.env (.ref L)) _ _ _
  refine wpAny_assign_Name (store_ok2 (v := V.ref L) I' hN hy (.inl hyl) rfl (fun s2 I2 ⟨a, sb, ha⟩ => ?_) (.inr hyl))
  obtain ⟨f0, f1, f2, f3, f4, f5⟩ := f
  have haC : C ≠ a := by
    rcases ha with z | z
    · rw [z]; exact f1
    · exact fun e => f4 y a z e.symm
  refine ⟨m, hn.sameBut sb haC, fun h3 sb3 => ?_⟩
  exact ⟨_, H', I2.turned (t' := s2.toks) (fun b o hb e => (sb3.2 b hb).trans e) f0 f1 f3 f4 f5, q⟩
theorem sw_trueD {kx vx : Expr} {gs : List Comprehension} {scope : Scope} {pos py : Pos} {y : Str} {l : Nat} {env : Env} (hk : env.scope.kind = .function) (hy : env.scope.names.lookup y = some .local) (hl : (py.line == pos.line) = true)
    (ha : (scope.names.any fun (n, k) => n == y && (k == .local || k == .cell)) = false) : swapsWith (.DictComp kx vx gs scope pos) (some (.Name y py)) l env = pure true := by
  have ky : env.kindOf y = some .local := hy
  have hb : env.blockKind = .function := by unfold Env.blockKind; rw [hk]; rfl
  unfold swapsWith
  simp only [hb, ky, ha, Expr.pos, hl]
  rfl
end
section
variable {X : Cx} {CX : CXT} {k : Nat} {f C : Addr} {ks : List Str} {sp : SpK} {E : XK} {x : Str} {p pos : Pos} {e : Expr} {es : List Expr} {kws : List Keyword} {t tk : TA}
/-- C(e, .., k=.., ..) -/
def tMkKF (C : Addr) (sp : SpK) (n : Nat) (E : XK) (t tk : TA) : TE := fun σ H Q => t σ H fun vs H1 => tk σ H1 fun zs H2 => zs.length = n ∧
  ∀ x dx, H2 x = none → H2 dx = none → dx ≠ x → sp (.ref x :: vs) zs (upd (upd H2 dx (.own x)) x (.ins C dx [])) (fun v H3 => v = .non ∧ Q (.ref x) H3) E
theorem pe_mkKF (M : Mk X.K C f) (F : FnK X.prog X.w X.K X.mg X.base CX k f ks sp) (hr : Room (k + 1) X.A) (hg : Gl X x) (hm : X.mg x = some (.ref C)) (hx : Passes CX X E) (ha : PA X (e :: es) t) (hkw : PK X kws tk)
    (hall : (backToKw pos (keywordEach kws X.env)).all (·.1.isSome) = true := by rfl) (hks : (backToKw pos (keywordEach kws X.env)).filterMap (·.1) = ks := by rfl) (hdb : (x == ("__debug__" : Str)) = false := by decide)
    (he : starEach (e :: es) X.env = (false, eval e X.env) :: starEach es X.env := by rfl) (hpl : ((backTo pos (starEach (e :: es) X.env)).any (·.1) || (backToKw pos (keywordEach kws X.env)).any (·.1.isNone)) = false := by rfl) :
    PE X (.Call (.Name x p) (e :: es) kws pos) (tMkKF C sp ks.length E t tk) := by
  refine ⟨fun pins s σ H Q I h => ?_⟩
  refine wpAny_Call_Name_kw (ld_glob I hg hm ?_ hdb)
  refine PySem.W.callWith_KW (h₀ := X.base) I.ok.mod.kin M.kp hall (thn (ha.run pos pins s σ H _ I h) fun us s1 ⟨vs, H1, I1, r, q⟩ => ?_) hpl he
  refine thn (hkw.run pos pins s1 σ H1 _ I1 q) fun ws s2 ⟨zs, H2, I2, rz, l2, q2⟩ => ⟨I2.kIn, ?_⟩
  rw [hks]
  exact run_makeF M F hr hx I2 r rz l2 q2
end
/-! readings that name the fragment, for blocks -/
theorem ixlK {X : Cx} {K : PySem.W.Frag} (h : X.K = K := by rfl) : IxR X (rIxL K) := h ▸ ix_list
theorem ixtK {X : Cx} {K : PySem.W.Frag} (h : X.K = K := by rfl) : IxR X (rIxT K) := h ▸ ix_tup
theorem isiK {X : Cx} {K : PySem.W.Frag} (h : X.K = K := by rfl) : CallR X (.builtin "isinstance") (rIsi K) := h ▸ call_isi
end WDc

set_option Elab.async false
set_option linter.all false
set_option maxRecDepth 100000
set_option maxHeartbeats 2000000
namespace WRu
open PySem PySem.Spec PyProof.Rows L2
/-- any statement that is never reached -/
theorem ps_dead {X : Cx} {s : Stmt} : PS X s (fun _ _ _ => False) := ⟨fun _ _ _ _ _ _ h => h.elim⟩
theorem pss_dead {X : Cx} {ss : List Stmt} : PSs X ss (fun _ _ _ => False) := ⟨fun _ _ _ _ _ _ h => h.elim⟩
theorem pe_dead {X : Cx} {e : Expr} : PE X e (fun _ _ _ => False) := ⟨fun _ _ _ _ _ _ h => h.elim⟩
/-- one of two readings -/
theorem pe_or {X : Cx} {e : Expr} {t1 t2 : TE} (h1 : PE X e t1) (h2 : PE X e t2) : PE X e (fun σ H Q => t1 σ H Q ∨ t2 σ H Q) := ⟨fun pins s σ H Q I h => by
  rcases h with h | h
  · exact h1.run pins s σ H Q I h
  · exact h2.run pins s σ H Q I h⟩
/-- a list against an empty one -/
def rEqN (K : PySem.W.Frag) : R2 := fun x y H Q => ∃ l b xs, x = .ref l ∧ y = .ref b ∧ SqL K H l xs ∧ SqL K H b [] ∧ Q (.bl (decide (xs = []))) H
def rNeN (K : PySem.W.Frag) : R2 := fun x y H Q => ∃ l b xs, x = .ref l ∧ y = .ref b ∧ SqL K H l xs ∧ SqL K H b [] ∧ Q (.bl (!decide (xs = []))) H
theorem op_eqN {X : Cx} (hu : X.A.units + 64 < cLine) : OpR X (compareOp .Eq) (rEqN X.K) := by
  intro pins s σ H x y v u Q I rx ry h
  obtain ⟨l, b, xs, rfl, rfl, hl, hb, q⟩ := h
  cases rx
  cases ry
  obtain ⟨its, r, p, _⟩ := I.list hl
  obtain ⟨its2, r2, p2, _⟩ := I.list hb
  cases r2
  cases r with
  | nil => exact SeqAt.eq_listAt (e := fun _ => true) p.isList p2.isList rfl (by omega) (fun j h1 => absurd h1 (by simp)) ⟨.bl true, H, I, rfl, q⟩
  | cons r1 r => exact SeqAt.eq_list_lengthsAt p.isList p2.isList (by simp) (by omega) ⟨.bl false, H, I, rfl, by simpa using q⟩
theorem op_neN {X : Cx} (hu : X.A.units + 64 < cLine) : OpR X (compareOp .NotEq) (rNeN X.K) := by
  intro pins s σ H x y v u Q I rx ry h
  obtain ⟨l, b, xs, rfl, rfl, hl, hb, q⟩ := h
  cases rx
  cases ry
  obtain ⟨its, r, p, _⟩ := I.list hl
  obtain ⟨its2, r2, p2, _⟩ := I.list hb
  cases r2
  cases r with
  | nil => exact SeqAt.RcNeAt.lists (e := fun _ => true) p.isList p2.isList rfl (by omega) (fun j h1 => absurd h1 (by simp)) X.prog X.w X.xe _ ⟨.bl false, H, I, rfl, q⟩
  | cons r1 r => exact SeqAt.RcNeAt.lists_lengths p.isList p2.isList (by simp) (by omega) X.prog X.w X.xe _ ⟨.bl true, H, I, rfl, by simpa using q⟩
/-- text * int -/
def repS (z : Str) (n : Nat) : Str := ⟨(List.replicate n z.cps).foldl (· ++ ·) #[]⟩
def rMulS : R2 := fun x y H Q => ∃ (z : Str) (k : Nat), x = .str z ∧ y = .int (k : Int) ∧ k ≤ 1000 ∧ z.length ≤ 1000 ∧ Q (.str (repS z k)) H
theorem op_mulS {X : Cx} : OpR X (binaryOp .Mult) rMulS := by
  intro pins s σ H x y v u Q I rx ry h
  obtain ⟨z, k, rfl, rfl, hk, hz, q⟩ := h
  obtain ⟨t, rfl⟩ := rx
  obtain ⟨t2, rfl⟩ := ry
  have h0 : ¬ ((k : Int) < -(2 ^ 63 : Int)) := by omega
  have h1 : ¬ ((k : Int) ≥ 2 ^ 63) := by omega
  have hlen : z.length * k ≤ 1000000 := Nat.mul_le_mul hz hk
  have hno : Builtin.Str.tooLong (z.length * k) = false := by
    unfold Builtin.Str.tooLong
    have : (1000000 : Nat) ≤ sizeLine := by decide
    simp
    omega
  refine PySem.P.mul_str (by rw [decide_eq_false h0, decide_eq_false h1]; rfl) (fun h2 _ h3 => ?_) (fun _ _ => ?_) ?_
  · have : (1000 : Int) ≤ (2 ^ 63 - 1) / (k : Int) := Int.le_ediv_of_mul_le (by omega) (by omega)
    omega
  · simp only [Int.toNat_natCast]
    exact hno
  · by_cases hk0 : (k : Int) < 1
    · rw [if_pos hk0]
      have e : k = 0 := by omega
      subst e
      exact ⟨by decide, .str _, H, I.tok _, ⟨_, rfl⟩, q⟩
    · rw [if_neg hk0]
      by_cases hk1 : ((k : Int) == 1 || z.length == 0) = true
      · rw [if_pos hk1]
        have e : repS z k = z := by
          rcases Bool.or_eq_true_iff.mp hk1 with e | e
          · have e' : k = 1 := by
              have := beq_iff_eq.mp e
              omega
            subst e'
            unfold repS
            simp
          · have e' : z.cps = #[] := Array.eq_empty_of_size_eq_zero (beq_iff_eq.mp e)
            unfold repS
            rw [e']
            have : ∀ n, (List.replicate n (#[] : Array Nat)).foldl (· ++ ·) #[] = #[] := fun n => by
              induction n with
              | zero => rfl
              | succ n ih => rw [List.replicate_succ, List.foldl_cons]; exact ih
            rw [this]
            obtain ⟨c⟩ := z
            simp at e'
            rw [e']
        rw [e] at q
        exact ⟨.str z, H, I, ⟨_, rfl⟩, q⟩
      · rw [if_neg hk1]
        simp only [Int.toNat_natCast]
        exact ⟨fits_reps hno, .str _, H, I.tok _, ⟨_, rfl⟩, q⟩
/-! ### own != -/
section
variable {prog : Program} {w : World} {A : Around} {E : Value → Shared → Prop} {s : Shared} {K : PySem.W.Frag} {x C f : Addr} {ox : Obj} {od : Option Obj} {b : Value}
theorem ne_own {Q : Value → Shared → Prop} (hu : A.units < cLine) (hu1 : A.in1.units < cLine) (X : K.In s.heap) (I : PySem.W.InstAt s.heap x ox C od) (hb : PySem.W.Looks (model prog w) s.heap (typeOf b) (.ref C))
    (hn : PySem.W.findIn K (.ref C) "__ne__" = some (some (.builtin "object.__ne__"))) (he : PySem.W.findIn K (.ref C) "__eq__" = some (some (.ref f))) (hf : PySem.W.isFn K (.ref f) = true) (hm : PySem.W.mroIn K C (.type "object") = some true)
    (h : wpAny (model prog w) A.in1 (call (.ref f) [.ref x, b]) (fun v s' => ∃ r, v = .bool r ∧ Q (.bool (!r)) s') E s) : wpAny (model prog w) A (richCompare .NotEq (.ref x) b) Q E s := by
  have body : codeAny (model prog w) A (.call (.builtin "object.__ne__") ⟨[.ref x, b], []⟩) (fun r s' => match r with | .ok (.ret v) => ∃ r, v = .bool (!r) ∧ Q (.bool (!r)) s' | .ok _ => False | .error e => E e s') s := by
    have sub : PySem.W.Looks (model prog w) s.heap (isInstance (.ref x) (.type "object")) true := I.type.andThen (PySem.W.looks_mroIn X hm)
    have SL := PySem.F.slot_object_ne
    refine codeAny_call_builtin SL.plain PySem.F.entry_object_ne ?_
    refine PySem.W.check_slot (n := "__ne__") (by decide +kernel) (by decide +kernel) sub (PySem.F.args_object_ne_2 _ _) ?_
    show wpAny _ _ (cRoomFor "comparison" [.ref x, b] >>= _) _ _ s
    refine wpAny_bind (wpAny_cRoomFor hu1 (wpAny_bind (PySem.W.ifBound_K X I he hf (wpAny_mono h (fun v s' hv => ?_) fun _ _ e => e))))
    obtain ⟨r, rfl, q⟩ := hv
    exact wpAny_bind (wpAny_truthy_bool (wpAny_pure ⟨r, rfl, q⟩))
  have one : wpAny (model prog w) A (tryCompare (.ref x) "__ne__" b) (fun r s' => ∃ v, r = some v ∧ Q v s') E s := by
    unfold tryCompare
    refine wpAny_bind ?_
    simp only [callSpecialIfBound?, bindSpecialIfBound?]
    refine wpAny_holding (wpAny_bind (wpAny_bind (wpAny_bind (I.type.here ((PySem.W.looks_findIn X hn).here ?_)))))
    refine wpAny_bind (wpAny_askSetting (wpAny_ite ?_))
    have hbi : bindSpecial (.builtin "object.__ne__") (.ref x) = pure (.builtin "object.__ne__", [.ref x]) := PySem.F.slot_object_ne.bind (.ref x)
    have fin : wpAny (model prog w) A (call (.builtin "object.__ne__") ([.ref x] ++ [b]) >>= fun v => pure (some v)) (fun a s' => wpAny (model prog w) A (match a with | some .notImplemented => pure none | none => pure none | some v => pure (some v)) (fun r s' => ∃ v, r = some v ∧ Q v s') E s') E s := by
      refine wpAny_bind (wpAny_mono (wpAny_call (codeAny_mono body fun r s' hr => ?_)) (Q := fun v s' => ∃ r, v = .bool (!r) ∧ Q (.bool (!r)) s') (fun v s' hv => ?_) fun _ _ e => e)
      · exact hr
      · obtain ⟨r, rfl, q⟩ := hv
        exact wpAny_pure (wpAny_pure ⟨_, rfl, q⟩)
    split
    · exact wpAny_bind (wpAny_of_eq hbi (wpAny_pure (by exact fin)))
    · exact wpAny_tryCatch (wpAny_bind (wpAny_of_eq hbi (wpAny_pure (by exact fin))))
  unfold richCompare
  simp only [PySem.oneThing_ref]
  refine wpAny_holding (wpAny_bind (wpAny_cRoomFor hu ?_))
  refine wpAny_bind (I.type.here (wpAny_bind (hb.here ?_)))
  rw [if_neg (by simp)]
  refine wpAny_bind (wpAny_pure ?_)
  rw [if_neg (by simp)]
  refine wpAny_bind (wpAny_mono one (fun r s' z => ?_) fun _ _ e => e)
  obtain ⟨v, rfl, hq⟩ := z
  exact wpAny_pure hq
end
/-- x != y, own ones that are equal -/
def rNeG (D : Eqv) : R2 := fun x y H Q => D x y H ∧ ∀ H', Ext H H' → Q (.bl false) H'
theorem op_neG {X : Cx} {CX : CXT} {n : Nat} {C f : Addr} {fd : FuncData} {ps : List Str} {R : Addr → Addr → Hp → Prop} {E : XK} (F : FnOk X.prog X.w X.K X.mg X.base CX n f fd ps (spEq R))
    (hn : PySem.W.findIn X.K (.ref C) "__ne__" = some (some (.builtin "object.__ne__"))) (hs : PySem.W.findIn X.K (.ref C) "__eq__" = some (some (.ref f))) (hf : PySem.W.isFn X.K (.ref f) = true) (hm : PySem.W.mroIn X.K C (.type "object") = some true)
    (hb : Binds X.K fd ps []) (hx : Passes CX X E) (hr : Room (n + 1) X.A) : OpR X (compareOp .NotEq) (rNeG (DIns C R)) := by
  intro pins s σ H x y v u Q I rx ry hq
  obtain ⟨⟨a, b, dx, dy, fs, gs, rfl, rfl, ha, hb', hR⟩, q⟩ := hq
  cases rx
  cases ry
  obtain ⟨mA, J, _⟩ := ins_get I.hok ha
  obtain ⟨mB, J', _⟩ := ins_get I.hok hb'
  obtain ⟨od, J, _⟩ := J.look
  obtain ⟨od', J', _⟩ := J'.look
  refine ne_own (Room.units0 hr) (Room.units0 hr.in1) I.kIn J J'.type hn hs hf hm ?_
  have hsp : spEq R [.ref a, .ref b] H (fun v H' => v = .bl true ∧ Ext H H') E := ⟨a, b, rfl, hR, fun H' e => ⟨rfl, e⟩⟩
  have r2 : Vals [V.ref a, V.ref b] [Value.ref a, Value.ref b] := .cons rfl (.cons rfl .nil)
  have hl := F.len _ _ _ _ hsp
  refine wpAny_call (codeAny_mono (F.run X.A.in1 X.stack s H ⟨[.ref a, .ref b], []⟩ [.ref a, .ref b] [.ref a, .ref b] _ E hr.in1 I.env0.in1 (by
    have := hb s [.ref a, .ref b] I.kIn (by simpa using hl)
    simpa using this) r2 hsp) fun r s' hq => ?_)
  cases r with
  | error e => exact hx pins σ H s e s' I hq
  | ok fl =>
    cases fl with
    | ret w =>
      obtain ⟨z, H', I', rz, ez, ex⟩ := I.after hq
      subst ez
      cases rz
      exact ⟨true, rfl, .bl false, H', I', rfl, q H' ex⟩
    | next => exact False.elim hq
    | brk => exact False.elim hq
    | cont => exact False.elim hq
/-- xs[i] of a list, ahead of xs[i] op= .. -/
theorem pget_list {X : Cx} : PGet X (rIxL X.K) := by
  intro pins s σ H x y v u Q I rx ry h
  obtain ⟨p, xs, i, z, rfl, rfl, hq, he, q⟩ := h
  cases rx
  obtain ⟨t, rfl⟩ := ry
  obtain ⟨its, r, pl, hz⟩ := I.list hq
  obtain ⟨j, h1, h2, h3, h4, h5⟩ := atI_get he
  obtain ⟨w, ew, rw'⟩ := r.get h2
  have hl := r.length
  have hn := line63
  have fin : EP X pins σ Q w s := ⟨z, H, I, rw', q⟩
  by_cases h0 : 0 ≤ i
  · have hj : i.toNat = j := by
      rw [seqIndex_of h0 h5] at h1
      exact Option.some.inj h1
    exact wpAny_getItem_list pl.isList h0 (by omega) (by rw [hj]; simpa using ew) fin
  · have hj : (i + (its.toArray.size : Int)).toNat = j := by
      rw [seqIndex_neg (by omega) h4] at h1
      rw [List.size_toArray, ← hl]
      exact Option.some.inj h1
    exact wpAny_getItem_list_neg pl.isList (by omega) (by rw [List.size_toArray] <;> omega) (by omega) (by rw [hj]; simpa using ew) fin
end WRu

set_option Elab.async false
set_option linter.all false
set_option maxRecDepth 100000
set_option maxHeartbeats 2000000
/-! enumerate over a tuple or a list, from any count -/
namespace WEn
open PySem PySem.Spec PyProof.Rows L2
/-- a tuple (t) or a list -/
def SqB (t : Bool) (K : PySem.W.Frag) (H : Hp) (a : Addr) (xs : List V) : Prop := match t with
  | true => SqT K H a xs
  | false => SqL K H a xs
def IsB (t : Bool) (h : Heap) (a : Addr) (its : Array Value) : Prop := match t with
  | true => h.IsTuple a its
  | false => h.IsList a its
def ItB (t : Bool) (h : Heap) (it a : Addr) (i : Nat) : Prop := match t with
  | true => h.IsTupleIter it a i
  | false => h.IsListIter it a i
section
variable {X : Cx} {pins : List (Addr × Obj)} {σ : L2.St} {H : Hp} {s : Shared} {t : Bool} {a it : Addr} {xs ys : List V}
theorem of_sq (I : Inv X pins σ H s) (h : SqB t X.K H a xs) : ∃ its : List Value, Vals xs its ∧ IsB t s.heap a its.toArray ∧ xs.length ≤ sizeLine := by
  cases t with
  | true =>
    obtain ⟨its, r, p, z⟩ := I.tuple h
    exact ⟨its, r, p, z⟩
  | false =>
    obtain ⟨its, r, p, z⟩ := I.list h
    exact ⟨its, r, p.isList, z⟩
theorem sq_inj (I : Inv X pins σ H s) (h : SqB t X.K H a xs) (h' : SqB t X.K H a ys) : xs = ys := by
  cases t with
  | true => exact I.tuple_inj h h'
  | false => exact I.list_inj h h'
theorem itB_obj {h : Heap} {i : Nat} (x : ItB t h it a i) : ∃ o, h.get? it = some o ∧ ∀ v, o.data ≠ .cell v := by
  cases t with
  | true =>
    obtain ⟨o, e, _, d⟩ := x
    exact ⟨o, e, fun v z => by rw [d] at z; cases z⟩
  | false =>
    obtain ⟨o, e, _, d⟩ := x
    exact ⟨o, e, fun v z => by rw [d] at z; cases z⟩
theorem itB_at {h h' : Heap} {i : Nat} (x : ItB t h it a i) (k : ∀ o, h.get? it = some o → h'.get? it = some o) : ItB t h' it a i := by
  cases t with
  | true => exact Heap.IsTupleIter.at x k
  | false => exact Heap.IsListIter.at x k
theorem drawsB {prog : Program} {w : World} {A : Around} (hh : A.handled = none) (hne : a ≠ it) (its : Array Value) :
    Draws prog w A it [it, a] its.size (fun i v => its[i]? = some v) (fun i h => ItB t h it a i ∧ IsB t h a its) := by
  cases t with
  | true => exact Draws.tuple hh it a hne its
  | false => exact Draws.list hh it a hne its
end
/-- the sequence at a as it stands at each turn, each item in a new pair with its count -/
def ItE (t : Bool) (c : Int) (K : PySem.W.Frag) (a : Addr) : It :=
  ⟨fun i H => ∃ (xs : List V) (x : V), SqB t K H a xs ∧ xs[i]? = some x, fun i H v H' => ∃ T x, v = .ref T ∧ H T = none ∧ H' = upd H T (.tup [.int (c + (i : Nat)), x]) ∧ ∀ xs, SqB t K H a xs → xs[i]? = some x,
    fun i H => ∃ xs : List V, SqB t K H a xs ∧ xs.length = i⟩
theorem turn_enumC {P : Program} {w : World} {K : PySem.W.Frag} {elts : List Expr} {kk : Nat} {tpos : Pos} (t : Bool) (c : Int) (a e it : Addr) (hai : a ≠ it) (hae : a ≠ e) :
    Turn P w K (.Tuple elts kk tpos) (ItE t c K a) [e, it] e (fun i h => (∃ old, IsEnum h e it (c + (i : Nat)) old) ∧ ItB t h it a i ∧ e ≠ it) where
  mem := by simp
  obj := fun i h st b hb => by
    obtain ⟨⟨old, he⟩, hi, _⟩ := st
    have e' : b = e ∨ b = it := by simpa using hb
    rcases e' with z | z
    · rw [z]; exact ⟨_, he, fun v q => nomatch q⟩
    · rw [z]; exact itB_obj hi
  keep := fun i h h' st k => let ⟨⟨old, he⟩, hi, hne⟩ := st; ⟨⟨old, k e (by simp) _ he⟩, itB_at hi fun o q => k it (by simp) o q, hne⟩
  item := by
    intro X hP hw hK hc i pins s σ H E I hf st hg
    subst hP hw hK
    obtain ⟨⟨old, he⟩, hit, hne⟩ := st
    obtain ⟨xs, x, hq, hx⟩ := hg
    obtain ⟨its, rv, p, hz⟩ := of_sq I hq
    obtain ⟨u, hu, ru⟩ := rv.get hx
    have hel : e < s.heap.objs.size := Heap.lt_size he
    have hil : it < s.heap.objs.size := by obtain ⟨_, q, _⟩ := itB_obj hit; exact Heap.lt_size q
    have hlt : i < its.toArray.size := by
      rw [List.size_toArray, ← rv.length]
      exact (List.getElem?_eq_some_iff.mp hx).1
    refine wpAny_pyNext_enum_itemC (drawsB (A := X.A.in1) (t := t) (a := a) (I.ok.hd hc) hai its.toArray) he ⟨hit, p⟩ hlt hne (by simp [hne, Ne.symm hae]) fun x' h' tk hP ho hst hT hsz hk => ?_
    have hxu : x' = u := by
      rw [show its.toArray[i]? = its[i]? by simp, hu] at hP
      exact (Option.some.inj hP).symm
    subst hxu
    refine ⟨_, rfl, wpAny_letOwnedTupleGo_enum (s := { s with heap := h', toks := tk + 1 }) ho fun h'' he' sb => ?_⟩
    have hT2 : h''.get? s.heap.objs.size = some { cls := .type "tuple", data := .seq #[.int (c + (i : Nat)) tk, x'] } := (sb.2 _ (Nat.ne_of_gt hel)).trans hT
    have new : ObjOk X.prog X.w (upd H s.heap.objs.size (.tup [.int (c + (i : Nat)), x])) h'' s.heap.objs.size (.tup [.int (c + (i : Nat)), x]) :=
      ⟨by show 2 ≤ sizeLine; decide, [.int (c + (i : Nat)) tk, x'], .cons ⟨_, rfl⟩ (.cons ru .nil), ⟨_, hT2, rfl, _, rfl⟩⟩
    have I1 : Inv X pins σ (upd H s.heap.objs.size (.tup [.int (c + (i : Nat)), x])) { s with heap := h'', toks := tk + 1 } :=
      I.turnedNew (ch := [e, it]) (fun b ob hb q => (sb.2 b (fun z => hb (by simp [z]))).trans (hk b ob (fun z => hb (by simp [z])) (fun z => hb (by simp [z])) q)) hf (Nat.le_refl _) new
    refine ⟨.ref s.heap.objs.size, _, I1, rfl, ⟨_, x, rfl, I.hok.fresh (Nat.le_refl _), rfl, fun ys hy => by rw [sq_inj I hy hq]; exact hx⟩, ⟨⟨x', ?_⟩, itB_at hst.1 fun o q => (sb.2 it (Ne.symm hne)).trans q, hne⟩, fun b hb => ?_⟩
    · have e1 : c + ((i + 1 : Nat) : Int) = c + (i : Nat) + 1 := by omega
      rw [e1]; exact he'
    · have hb' : b < s.heap.objs.size := by
        have e' : b = e ∨ b = it := by simpa using hb
        rcases e' with z | z
        · rw [z]; exact hel
        · rw [z]; exact hil
      rw [upd_ne (Nat.ne_of_lt hb')]
      exact (hf b hb).1
  done := by
    intro X hP hw hK hc i pins s σ H E I hf st hg
    subst hP hw hK
    obtain ⟨⟨old, he⟩, hit, hne⟩ := st
    obtain ⟨xs, hq, hx⟩ := hg
    obtain ⟨its, rv, p, hz⟩ := of_sq I hq
    obtain ⟨f0, f1, f2, f3, f4, f5⟩ := hf it (by simp)
    have hn : its.toArray.size = i := by rw [List.size_toArray, ← rv.length, hx]
    refine wpAny_pyNext_enum_endD (drawsB (A := X.A.in1) (t := t) (a := a) (I.ok.hd hc) hai its.toArray) he ⟨by rw [hn]; exact hit, p⟩ fun h' eb => ⟨rfl, I.turned (t' := s.toks) (fun b o hb q => eb b o hb q) f0 f1 f3 f4 f5⟩
  self := fun A i s Q E st h => let ⟨⟨_, he⟩, _⟩ := st; wpAny_pyIter_enum he h
theorem meets_enum0 {v : Value} {o : Obj} {G : Heap → Prop} (B : Begins v o G) :
    Meets (Builtin.«enumerate.__new__» ⟨[.type "enumerate", v], []⟩) (fun _ R s => G s.heap ∧ R (.ok (.ret (.ref (s.heap.push o).objs.size)))
      { s with heap := (s.heap.push o).push { cls := .type "enumerate", data := .fields #[.none, .bool false, .ref s.heap.objs.size, rawInt 0, .none, .none] } }) :=
  .of_wp fun prog w A R s h => by
    obtain ⟨hp, g, d, tk, os⟩ := s
    obtain ⟨h1, h⟩ := h
    have hsub := sub_enumerate
    have q1 : ∀ {A' : Around} {E : Value → Shared → Prop} {Q : Value → Shared → Prop}, Q (.ref hp.objs.size) ⟨hp.push o, g, d, tk, os⟩ → wpAny (model prog w) A' (pyIter v) Q E ⟨hp, g, d, tk, os⟩ :=
      fun q => B.iter prog w _ _ ⟨hp, g, d, tk, os⟩ _ h1 q
    wp_walk using q1
    refine wpAny_stack_any fun st => wpAny_pure ?_
    split
    · rename_i c _ _ _ _ _
      cases (c == Value.type "enumerate") <;>
        · wp_walk using q1
          exact ⟨_, rfl, h⟩
    · wp_walk using q1
      exact ⟨_, rfl, h⟩
section
variable {prog : Program} {w : World} {A : Around} {E : Value → Shared → Prop} {s : Shared}
theorem enum_begins0 {v : Value} {o : Obj} {G : Heap → Prop} {Q : Value → Shared → Prop} (B : Begins v o G) (h1 : G s.heap)
    (h : ∀ h', IsEnum h' (s.heap.objs.size + 1) s.heap.objs.size 0 .none → h'.get? s.heap.objs.size = some o → (∀ b o, s.heap.get? b = some o → h'.get? b = some o) → Q (.ref (s.heap.objs.size + 1)) { s with heap := h' }) :
    wpAny (model prog w) A (call (.type "enumerate") [v]) Q E s := by
  refine callType_new F.called_enumerate (by decide) (F.typeCall_enumerate_1 _) (F.newCall_enumerate_1 _) (fun obj => F.args_object_init_2 obj _) F.entry_enumerate_new (meets_enum0 B) ⟨h1, ?_⟩
  have hz : (s.heap.push o).objs.size = s.heap.objs.size + 1 := Heap.size_push ..
  have g0 : ((s.heap.push o).push { cls := .type "enumerate", data := .fields #[.none, .bool false, .ref s.heap.objs.size, rawInt 0, .none, .none] }).get? (s.heap.push o).objs.size = some _ := Heap.get?_push_size _ rfl
  show _ ∧ _
  rw [hz] at g0 ⊢
  exact ⟨⟨_, g0, rfl⟩, h _ g0 (Heap.get?_push_of_some _ (Heap.get?_push_size _ B.free)) fun b o x => Heap.get?_push_of_some _ (Heap.get?_push_of_some _ x)⟩
end
/-- enumerate(tuple) -/
def iEnumT (K : PySem.W.Frag) (ta : TA) : TI := fun σ H R => ta σ H fun vs H1 => ∃ a xs, vs = [.ref a] ∧ SqT K H1 a xs ∧ R (ItE true 0 K a) H1
theorem pi_enumT {X : Cx} {e : Expr} {ta : TA} {p pos tpos : Pos} {elts : List Expr} {kk : Nat} (hg : Gl X "enumerate") (hm : X.mg "enumerate" = none) (ha : PA X [e] ta) (hs : starEach [e] X.env = [(false, eval e X.env)] := by rfl) :
    PI X (.Tuple elts kk tpos) (.Call (.Name "enumerate" p) [e] [] pos) (iEnumT X.K ta) := by
  refine ⟨fun pins s σ H R I h => ?_⟩
  refine Call_ (ld_blt I hg hm boot_enumerate (PyProof.Rows.callWith_type1 (thn (ha.run pos pins s σ H _ I h) fun us s1 ⟨vs, H1, I1, r1, q1⟩ => ?_) hs rfl))
  obtain ⟨a, xs, rfl, hq, q⟩ := q1
  cases r1 with
  | cons r rr =>
    cases rr
    cases r
    obtain ⟨its, rv, p', hz⟩ := I1.tuple hq
    have hal : a < s1.heap.objs.size := by obtain ⟨o, ho, _⟩ := id p'; exact Heap.lt_size ho
    refine enum_begins0 (begins_tuple a its.toArray) p' fun h' he hit hk => wpAny_pyIter_enum he ?_
    have I2 : Inv X pins σ H1 { s1 with heap := h' } := I1.kept (t' := s1.toks) hk
    refine ⟨s1.heap.objs.size + 1, [s1.heap.objs.size + 1, s1.heap.objs.size], _, _, H1, rfl, I2, turn_enumC true 0 a (s1.heap.objs.size + 1) s1.heap.objs.size (Nat.ne_of_lt hal) (Nat.ne_of_lt (Nat.lt_succ_of_lt hal)), ⟨⟨.none, he⟩, ⟨_, hit, rfl, rfl⟩, Nat.succ_ne_self _⟩, fun b hb => ?_, q⟩
    have e' : b = s1.heap.objs.size + 1 ∨ b = s1.heap.objs.size := by simpa using hb
    have hle : s1.heap.objs.size ≤ b := by
      rcases e' with z | z
      · rw [z]; exact Nat.le_succ _
      · rw [z]; exact Nat.le_refl _
    exact I1.fpOk hle (I1.hok.fresh hle)
theorem callWith_typeK {M : Model} {A : Around} {E : Value → Shared → Prop} {s : Shared} {env : Env} {pos : Pos} {T : String} {e : Expr} {rest : List Expr} {kws : List Keyword} {Q : Value → Shared → Prop} (hall : (backToKw pos (keywordEach kws env)).all (·.1.isSome) = true)
    (h : wpAny M A (spliced (backTo pos (starEach (e :: rest) env))) (fun vs s1 => wpAny M A (evalAll ((backToKw pos (keywordEach kws env)).map (·.2))) (fun ks s2 => wpAny M A (call (.type T) vs (((backToKw pos (keywordEach kws env)).filterMap (·.1)).zip ks)) Q E s2) E s1) E s)
    (hpl : ((backTo pos (starEach (e :: rest) env)).any (·.1) || (backToKw pos (keywordEach kws env)).any (·.1.isNone)) = false := by rfl) (he : starEach (e :: rest) env = (false, eval e env) :: starEach rest env := by rfl) :
    wpAny M A (callWith pos (.type T) [] (backTo pos (starEach (e :: rest) env)) (backToKw pos (keywordEach kws env))) Q E s := by
  unfold callWith
  refine wpAny_bind (wpAny_holding (wpAny_mono (evalArgs_kw2 (Q := fun a s1 => wpAny M A (call (.type T) ([] ++ a.pos) a.kw) Q E s1) hall h he) (fun a s1 h1 => wpAny_bind (wpAny_standAt ?_)) fun _ _ q => q))
  simp only [hpl]
  refine wpAny_bind (wpAny_pure ?_)
  exact wpAny_bind (wpAny_mono h1 (fun r s2 hr => wpAny_bind (wpAny_holding (wpAny_point (wpAny_pure hr)))) fun _ _ q => q)
/-- enumerate(list, start=c) -/
def iEnumS (K : PySem.W.Frag) (ta tk : TA) : TI := fun σ H R => ta σ H fun vs H1 => tk σ H1 fun zs H2 => ∃ a xs c, vs = [.ref a] ∧ zs = [.int c] ∧ SqL K H2 a xs ∧ -(2 ^ 63) ≤ c ∧ c < 2 ^ 63 ∧ R (ItE false c K a) H2
theorem pi_enumS {X : Cx} {e : Expr} {ta tk : TA} {p pos tpos : Pos} {elts : List Expr} {kk : Nat} {kws : List Keyword} (hg : Gl X "enumerate") (hm : X.mg "enumerate" = none) (ha : PA X [e] ta) (hkw : PK X kws tk)
    (hall : (backToKw pos (keywordEach kws X.env)).all (·.1.isSome) = true := by rfl) (hks : (backToKw pos (keywordEach kws X.env)).filterMap (·.1) = [("start" : Str)] := by rfl)
    (he : starEach [e] X.env = (false, eval e X.env) :: starEach [] X.env := by rfl) (hpl : ((backTo pos (starEach [e] X.env)).any (·.1) || (backToKw pos (keywordEach kws X.env)).any (·.1.isNone)) = false := by rfl) :
    PI X (.Tuple elts kk tpos) (.Call (.Name "enumerate" p) [e] kws pos) (iEnumS X.K ta tk) := by
  refine ⟨fun pins s σ H R I h => ?_⟩
  refine wpAny_Call_Name_kw (ld_blt I hg hm boot_enumerate (callWith_typeK hall (thn (ha.run pos pins s σ H _ I h) fun us s1 ⟨vs, H1, I1, r1, q1⟩ => ?_) hpl he))
  refine thn (hkw.run pos pins s1 σ H1 _ I1 q1) fun ws s2 ⟨zs, H2, I2, rz, a, xs, c, e1, e2, hq, hc0, hc1, q⟩ => ?_
  subst e1 e2
  rw [hks]
  cases r1 with
  | cons r rr =>
    cases rr
    cases r
    cases rz with
    | cons rk rr =>
      cases rr
      obtain ⟨t, rfl⟩ := rk
      obtain ⟨its, rv, p', hz⟩ := I2.list hq
      have hal : a < s2.heap.objs.size := p'.lt
      refine enum_begins_start (begins_list a its.toArray) p'.isList hc0 hc1 fun h' he hit hz hk => wpAny_pyIter_enum he ?_
      have I3 : Inv X pins σ H2 { s2 with heap := h' } := I2.kept (t' := s2.toks) hk
      refine ⟨s2.heap.objs.size + 1, [s2.heap.objs.size + 1, s2.heap.objs.size], _, _, H2, rfl, I3, turn_enumC false c a (s2.heap.objs.size + 1) s2.heap.objs.size (Nat.ne_of_lt hal) (Nat.ne_of_lt (Nat.lt_succ_of_lt hal)), ⟨⟨.none, ?_⟩, ⟨_, hit, rfl, rfl⟩, Nat.succ_ne_self _⟩, fun b hb => ?_, q⟩
      · rw [show c + ((0 : Nat) : Int) = c by omega]
        exact he
      · have e' : b = s2.heap.objs.size + 1 ∨ b = s2.heap.objs.size := by simpa using hb
        have hle : s2.heap.objs.size ≤ b := by
          rcases e' with z | z
          · rw [z]; exact Nat.le_succ _
          · rw [z]; exact Nat.le_refl _
        exact I2.fpOk hle (I2.hok.fresh hle)
theorem walk_enumC {K : PySem.W.Frag} {t : Bool} {c : Int} {a : Addr} {xs : List V} : Walk (ItE t c K a) xs.length (fun H => SqB t K H a xs) (YPair (fun i => some (.int (c + (i : Nat)))) (fun i => xs[i]?)) := by
  refine ⟨fun i _ hi q => ⟨xs, xs[i], q, by simp [hi]⟩, fun _ q => ⟨xs, q, rfl⟩, fun i H v H' _ q y => ?_⟩
  obtain ⟨T, x, h1, h2, h3, h4⟩ := y
  exact ⟨T, .int (c + (i : Nat)), x, h1, h2, h3, rfl, h4 xs q⟩
end WEn

set_option Elab.async false
set_option linter.all false
set_option maxRecDepth 100000
set_option maxHeartbeats 2000000
/-! zip(tuple, list, strict=True) -/
namespace WZs
open PySem PySem.Spec PyProof.Rows L2 WEn
abbrev ZS (h : Heap) (z TI TO : Addr) (f0 : Value) : Prop := h.get? z = some { cls := .type "zip", dict := none, data := .fields #[f0, .bool false, .bool true, .ref TI, .ref TO], slots := #[] }
section
variable {prog : Program} {w : World} {A : Around} {E : Value → Shared → Prop} {s : Shared} {it : Addr} {fp : List Addr} {n i : Nat} {P : Nat → Value → Prop} {St : Nat → Heap → Prop}
/-- the next of an iterator, or None where it is over -/
theorem draw_more {Q : Option Value → Shared → Prop} (D : Draws prog w A it fp n P St) (st : St i s.heap) (hi : i < n) (h : ∀ x h' tk, P i x → St (i + 1) h' → Heap.SameBut it s.heap h' → Q (some x) { s with heap := h', toks := tk }) :
    wpAny (model prog w) A (Builtin.SmallTypes.nextOrEnd (.ref it)) Q E s := by
  unfold Builtin.SmallTypes.nextOrEnd
  exact wpAny_bind (wpAny_attempt (D.item i s _ _ hi st fun x h' tk a b c => wpAny_pure (h x h' tk a b c)))
theorem draw_over {Q : Option Value → Shared → Prop} (D : Draws prog w A it fp n P St) (st : St n s.heap) (h : ∀ h', Heap.ExtBut it s.heap h' → Q none { s with heap := h' }) :
    wpAny (model prog w) A (Builtin.SmallTypes.nextOrEnd (.ref it)) Q E s := by
  unfold Builtin.SmallTypes.nextOrEnd
  refine wpAny_bind (wpAny_attempt (D.done s _ _ st fun h' e he hx => ?_))
  obtain ⟨o, ho, hc⟩ := hx
  refine wpAny_bind (wpAny_isInstance (T := "StopIteration") (b := true) ⟨o, ho, hc⟩ isSubtype_stop ?_)
  exact wpAny_pure (h h' he)
end
section
variable {prog : Program} {w : World} {A : Around} {E : Value → Shared → Prop} {s : Shared} {z TI TO i1 i2 : Addr} {fp1 fp2 : List Addr} {n i : Nat} {P1 P2 : Nat → Value → Prop} {St1 St2 : Nat → Heap → Prop} {a1 a2 : Value}
theorem zs_item {Q : Value → Shared → Prop} (S : ZipSep2 z TI TO i1 i2 fp1 fp2) (D1 : Draws prog w A i1 fp1 n P1 St1) (D2 : Draws prog w A i2 fp2 n P2 St2)
    (hz : ZS s.heap z TI TO .none) (hTI : IsTupOf2 s.heap TI (.ref i1) (.ref i2)) (hTO : IsTupOf2 s.heap TO a1 a2) (st1 : St1 i s.heap) (st2 : St2 i s.heap) (hlt : i < n)
    (hQ : ∀ x1 x2 h' tk, P1 i x1 → P2 i x2 → ZS h' z TI TO (rawInt s.heap.objs.size) → IsTupOf2 h' TO x1 x2 → St1 (i + 1) h' → St2 (i + 1) h' → IsTupOf2 h' s.heap.objs.size x1 x2 →
      (∀ c o, c ≠ z → c ≠ TO → c ≠ i1 → c ≠ i2 → s.heap.get? c = some o → h'.get? c = some o) → Q (.ref s.heap.objs.size) { s with heap := h', toks := tk }) :
    wpAny (model prog w) A (Builtin.«zip.__next__» ⟨[.ref z], []⟩) (fun fin s' => ∃ v, fin = .done (.ret v) ∧ Q v s') E s := by
  obtain ⟨hp, g, d, tk0, os⟩ := s
  show wpAny _ _ (field (.ref z) 2 >>= _) _ _ _
  refine wpAny_bind (wpAny_field hz rfl (x := .bool true) rfl ?_)
  show wpAny _ _ (field (.ref z) 3 >>= _) _ _ _
  refine wpAny_bind (wpAny_field hz rfl (x := .ref TI) rfl ?_)
  refine wpAny_bind (wpAny_seqItems hTI rfl ?_)
  show wpAny _ _ (Builtin.SmallTypes.ownedTupleIsFree (.ref z) >>= _) _ _ _
  refine wpAny_bind ?_
  unfold Builtin.SmallTypes.ownedTupleIsFree
  refine wpAny_bind (wpAny_field hz rfl (x := .none) rfl (wpAny_pure ?_))
  simp only [if_true]
  refine wpAny_bind (wpAny_rule ?_)
  refine wpAny_bind (wpAny_field hz rfl (x := .ref TO) rfl ?_)
  refine wpAny_bind (wpAny_setField_rec hz (by simp) fun g0 hz0 hs0 => ?_)
  replace hz0 : ZS g0 z TI TO .ellipsis := hz0
  replace hs0 : Heap.SameBut z hp g0 := hs0
  refine wpAny_bind ?_
  simp only [List.zipIdx_cons, List.zipIdx_nil, List.forIn_cons, List.forIn_nil]
  refine wpAny_bind (wpAny_bind (wpAny_onRaise ?_))
  show wpAny _ _ (Builtin.SmallTypes.nextOrEnd (.ref i1)) _ _ ⟨g0, g, d, tk0, os⟩
  refine draw_more (s := ⟨g0, g, d, tk0, os⟩) D1 (D1.over st1 hs0 S.zf1) hlt fun x1 p1 tk1 hx1 sn1 hp1 => ?_
  replace hp1 : Heap.SameBut i1 g0 p1 := hp1
  have hU1 : IsTupOf2 p1 TO a1 a2 := hp1.extBut _ _ S.Ti1 (hs0.extBut _ _ S.TOz hTO)
  refine wpAny_bind (wpAny_seqItems (s := ⟨p1, g, d, tk1, os⟩) hU1 rfl ?_)
  refine wpAny_bind (updateSeq_IsTupOf2 (s := ⟨p1, g, d, tk1, os⟩) hU1 fun g1 hT1 hs1 => ?_)
  replace hT1 : IsTupOf2 g1 TO x1 a2 := hT1
  replace hs1 : Heap.SameBut TO p1 g1 := hs1
  refine wpAny_bind (wpAny_letGo (wpAny_pure ?_))
  refine wpAny_bind (wpAny_bind (wpAny_onRaise ?_))
  show wpAny _ _ (Builtin.SmallTypes.nextOrEnd (.ref i2)) _ _ ⟨g1, g, d, tk1, os⟩
  refine draw_more (s := ⟨g1, g, d, tk1, os⟩) D2 (D2.over (D2.over (D2.over st2 hs0 S.zf2) hp1 S.sep1_2) hs1 S.Tf2) hlt fun x2 p2 tk2 hx2 sn2 hp2 => ?_
  replace hp2 : Heap.SameBut i2 g1 p2 := hp2
  have hU2 : IsTupOf2 p2 TO x1 a2 := hp2.extBut _ _ S.Ti2 hT1
  refine wpAny_bind (wpAny_seqItems (s := ⟨p2, g, d, tk2, os⟩) hU2 rfl ?_)
  refine wpAny_bind (updateSeq_IsTupOf2 (s := ⟨p2, g, d, tk2, os⟩) hU2 fun g2 hT2 hs2 => ?_)
  replace hT2 : IsTupOf2 g2 TO x1 x2 := hT2
  replace hs2 : Heap.SameBut TO p2 g2 := hs2
  refine wpAny_bind (wpAny_letGo (wpAny_pure (wpAny_pure ?_)))
  refine wpAny_bind (wpAny_seqItems (s := ⟨g2, g, d, tk2, os⟩) hT2 rfl ?_)
  refine wpAny_bind (wpAny_newTuple ?_)
  have hsz : g2.objs.size = hp.objs.size := by rw [hs2.1, hp2.1, hs1.1, hp1.1, hs0.1]
  have hzz : ZS g2 z TI TO .ellipsis := hs2.extBut _ _ S.TOz.symm (hp2.extBut _ _ S.zi2 (hs1.extBut _ _ S.TOz.symm (hp1.extBut _ _ S.zi1 hz0)))
  have hkk : ∀ c o, c ≠ z → c ≠ TO → c ≠ i1 → c ≠ i2 → hp.get? c = some o → g2.get? c = some o := fun c o cz cT c1 c2 e =>
    hs2.extBut _ _ cT (hp2.extBut _ _ c2 (hs1.extBut _ _ cT (hp1.extBut _ _ c1 (hs0.extBut _ _ cz e))))
  have hj1 : St1 (i + 1) g2 := D1.over (D1.over (D1.over sn1 hs1 S.Tf1) hp2 S.sep2_1) hs2 S.Tf1
  have hj2 : St2 (i + 1) g2 := D2.over sn2 hs2 S.Tf2
  have hzlt : z < g2.objs.size := Heap.lt_size hzz
  show wpAny _ _ (Builtin.SmallTypes.ownedTupleHandOut (.ref z) (.ref g2.objs.size) >>= _) _ _ ⟨g2.push { cls := .type "tuple", data := .seq #[x1, x2] }, g, d, tk2, os⟩
  refine wpAny_bind ?_
  unfold Builtin.SmallTypes.ownedTupleHandOut
  have hz6 : ZS (g2.push { cls := .type "tuple", data := .seq #[x1, x2] }) z TI TO .ellipsis := Heap.get?_push_of_some _ hzz
  refine wpAny_bind (wpAny_setField_rec hz6 (by simp) fun h7 hz7 hs7 => ?_)
  replace hz7 : ZS h7 z TI TO (rawInt g2.objs.size) := hz7
  refine wpAny_setField_rec hz7 (by simp) fun h8 hz8 hs8 => ?_
  replace hz8 : ZS h8 z TI TO (rawInt g2.objs.size) := hz8
  replace hs7 : Heap.SameBut z (g2.push { cls := .type "tuple", data := .seq #[x1, x2] }) h7 := hs7
  replace hs8 : Heap.SameBut z h7 h8 := hs8
  have up : ∀ c o, c ≠ z → g2.get? c = some o → h8.get? c = some o := fun c o c1 e => hs8.extBut _ _ c1 (hs7.extBut _ _ c1 (Heap.get?_push_of_some _ e))
  have hT8 : IsTupOf2 h8 g2.objs.size x1 x2 := hs8.extBut _ _ (Nat.ne_of_gt hzlt) (hs7.extBut _ _ (Nat.ne_of_gt hzlt) (Heap.get?_push_size _ rfl))
  rw [hsz] at hz8 hT8
  refine wpAny_pure ⟨_, rfl, ?_⟩
  show Q (.ref g2.objs.size) ⟨h8, g, d, tk2, os⟩
  rw [hsz]
  exact hQ x1 x2 h8 tk2 hx1 hx2 hz8 (up _ _ S.TOz hT2) (D1.frame _ _ _ hj1 fun b hb o e => up b o (fun q => S.zf1 (q ▸ hb)) e) (D2.frame _ _ _ hj2 fun b hb o e => up b o (fun q => S.zf2 (q ▸ hb)) e) hT8 fun c o cz cT c1 c2 e => up c o cz (hkk c o cz cT c1 c2 e)
theorem zs_over {Q : Fin → Shared → Prop} (hh : A.handled = none) (S : ZipSep2 z TI TO i1 i2 fp1 fp2) (D1 : Draws prog w A i1 fp1 n P1 St1) (D2 : Draws prog w A i2 fp2 n P2 St2)
    (hz : ZS s.heap z TI TO .none) (hTI : IsTupOf2 s.heap TI (.ref i1) (.ref i2)) (hTO : IsTupOf2 s.heap TO a1 a2) (st1 : St1 n s.heap) (st2 : St2 n s.heap)
    (hE : ∀ h' e, (∀ c o, c ≠ z → c ≠ TO → c ≠ i1 → c ≠ i2 → s.heap.get? c = some o → h'.get? c = some o) → (∃ o, h'.get? e = some o ∧ o.cls = .type "StopIteration") → E (.ref e) { s with heap := h' }) :
    wpAny (model prog w) A (Builtin.«zip.__next__» ⟨[.ref z], []⟩) Q E s := by
  obtain ⟨hp, g, d, tk0, os⟩ := s
  show wpAny _ _ (field (.ref z) 2 >>= _) _ _ _
  refine wpAny_bind (wpAny_field hz rfl (x := .bool true) rfl ?_)
  show wpAny _ _ (field (.ref z) 3 >>= _) _ _ _
  refine wpAny_bind (wpAny_field hz rfl (x := .ref TI) rfl ?_)
  refine wpAny_bind (wpAny_seqItems hTI rfl ?_)
  show wpAny _ _ (Builtin.SmallTypes.ownedTupleIsFree (.ref z) >>= _) _ _ _
  refine wpAny_bind ?_
  unfold Builtin.SmallTypes.ownedTupleIsFree
  refine wpAny_bind (wpAny_field hz rfl (x := .none) rfl (wpAny_pure ?_))
  simp only [if_true]
  refine wpAny_bind (wpAny_rule ?_)
  refine wpAny_bind (wpAny_field hz rfl (x := .ref TO) rfl ?_)
  refine wpAny_bind (wpAny_setField_rec hz (by simp) fun g0 hz0 hs0 => ?_)
  replace hz0 : ZS g0 z TI TO .ellipsis := hz0
  replace hs0 : Heap.SameBut z hp g0 := hs0
  refine wpAny_bind ?_
  simp only [List.zipIdx_cons, List.zipIdx_nil, List.forIn_cons, List.forIn_nil]
  refine wpAny_bind (wpAny_bind (wpAny_onRaise ?_))
  show wpAny _ _ (Builtin.SmallTypes.nextOrEnd (.ref i1)) _ _ ⟨g0, g, d, tk0, os⟩
  refine draw_over (s := ⟨g0, g, d, tk0, os⟩) D1 (D1.over st1 hs0 S.zf1) fun p1 hp1 => ?_
  replace hp1 : Heap.ExtBut i1 g0 p1 := hp1
  have hz1 : ZS p1 z TI TO .ellipsis := hp1 _ _ S.zi1 hz0
  refine wpAny_bind (wpAny_setField_rec hz1 (by simp) fun g1 hz2 hs1 => ?_)
  replace hs1 : Heap.SameBut z p1 g1 := hs1
  refine wpAny_bind ?_
  refine wpAny_mono (Q := fun _ _ => False) ?_ (fun _ _ h => h.elim) fun _ _ h => h
  have st2' : St2 n g1 := D2.over (D2.frame _ _ _ (D2.over st2 hs0 S.zf2) fun b hb o e => hp1 b o (fun q => S.sep1_2 (q ▸ hb)) e) hs1 S.zf2
  wp_delta
  iterate 2 wp_step
  rw [show (List.drop 1 [Value.ref i1, Value.ref i2]).zipIdx 1 = [(Value.ref i2, 1)] from rfl, List.forIn_cons]
  refine wpAny_bind ?_
  refine wpAny_bind (draw_over (s := ⟨g1, g, d, tk0, os⟩) D2 st2' fun h2 he2 => ?_)
  rw [if_neg (by simp)]
  refine wpAny_pure ?_
  dsimp only
  rw [List.forIn_nil]
  refine wpAny_pure ?_
  refine wpAny_bind (wpAny_rule ?_)
  have hk2 : ∀ c o, c ≠ z → c ≠ TO → c ≠ i1 → c ≠ i2 → hp.get? c = some o → h2.get? c = some o := fun c o cz _ c1 c2 e => he2 c o c2 (hs1.extBut c o cz (hp1 c o c1 (hs0.extBut c o cz e)))
  show wpAny _ _ (newExc (.type "StopIteration") [] >>= _) _ _ _
  refine wpAny_bind ?_
  simp only [newExc, newTuple]
  refine wpAny_bind (wpAny_newObj_type ?_ (by size_fits))
  refine wpAny_bind (m := firstArgMember _ _) (wpAny_of_eq (a := Value.none) (by first | rfl | (simp only [firstArgMember]; rfl)) ?_)
  refine wpAny_newObj_type ?_ (by size_fits)
  simp only [raiseNew]
  refine wpAny_bind (wpAny_handled ?_)
  rw [hh]
  refine wpAny_bind (wpAny_pure (wpAny_throw ?_))
  exact hE _ _ (fun c o cz cT c1 c2 e => Heap.get?_push_of_some _ (Heap.get?_push_of_some _ (hk2 c o cz cT c1 c2 e))) ⟨_, Heap.get?_push_size _ rfl, rfl⟩
theorem next_zs_item {Q : Option Value → Shared → Prop} (S : ZipSep2 z TI TO i1 i2 fp1 fp2) (D1 : Draws prog w A.in1 i1 fp1 n P1 St1) (D2 : Draws prog w A.in1 i2 fp2 n P2 St2)
    (hz : ZS s.heap z TI TO .none) (hTI : IsTupOf2 s.heap TI (.ref i1) (.ref i2)) (hTO : IsTupOf2 s.heap TO a1 a2) (st1 : St1 i s.heap) (st2 : St2 i s.heap) (hlt : i < n)
    (hQ : ∀ x1 x2 h' tk, P1 i x1 → P2 i x2 → ZS h' z TI TO (rawInt s.heap.objs.size) → IsTupOf2 h' TO x1 x2 → St1 (i + 1) h' → St2 (i + 1) h' → IsTupOf2 h' s.heap.objs.size x1 x2 →
      (∀ c o, c ≠ z → c ≠ TO → c ≠ i1 → c ≠ i2 → s.heap.get? c = some o → h'.get? c = some o) → Q (some (.ref s.heap.objs.size)) { s with heap := h', toks := tk }) :
    wpAny (model prog w) A (pyNext (.ref z)) Q E s := by
  have hT : s.TypeIs (.ref z) "zip" := ⟨_, hz, rfl⟩
  unfold pyNext
  exact wpAny_bind (wpAny_attempt (wpAny_callSpecial?_slot (name := Str.ofString "__next__") hT F.slot_zip_next
    (wpAny_call_entry F.slot_zip_next hT F.entry_zip_next (zs_item S D1 D2 hz hTI hTO st1 st2 hlt fun x1 x2 h' tk b1 b2 b3 b4 b5 b6 b7 b8 => wpAny_pure (hQ x1 x2 h' tk b1 b2 b3 b4 b5 b6 b7 b8)) (F.args_zip_next_1 _))))
theorem next_zs_over {Q : Option Value → Shared → Prop} (hh : A.handled = none) (S : ZipSep2 z TI TO i1 i2 fp1 fp2) (D1 : Draws prog w A.in1 i1 fp1 n P1 St1) (D2 : Draws prog w A.in1 i2 fp2 n P2 St2)
    (hz : ZS s.heap z TI TO .none) (hTI : IsTupOf2 s.heap TI (.ref i1) (.ref i2)) (hTO : IsTupOf2 s.heap TO a1 a2) (st1 : St1 n s.heap) (st2 : St2 n s.heap)
    (hQ : ∀ h', (∀ c o, c ≠ z → c ≠ TO → c ≠ i1 → c ≠ i2 → s.heap.get? c = some o → h'.get? c = some o) → Q none { s with heap := h' }) : wpAny (model prog w) A (pyNext (.ref z)) Q E s := by
  have hT : s.TypeIs (.ref z) "zip" := ⟨_, hz, rfl⟩
  unfold pyNext
  refine wpAny_bind (wpAny_attempt (wpAny_callSpecial?_slot (name := Str.ofString "__next__") hT F.slot_zip_next
    (wpAny_call_entry F.slot_zip_next hT F.entry_zip_next (zs_over hh S D1 D2 hz hTI hTO st1 st2 fun h' e hk he => ?_) (F.args_zip_next_1 _))))
  obtain ⟨o, ho, hc⟩ := he
  refine wpAny_bind (wpAny_isInstance (T := "StopIteration") (b := true) ⟨o, ho, hc⟩ isSubtype_stop ?_)
  exact wpAny_pure (hQ _ hk)
theorem go_zs {elts : List Expr} {x1} {pos : Pos} {T : Addr} {Q : Unit → Shared → Prop} (hz : ZS s.heap z TI TO (rawInt T)) (hQ : ∀ h', ZS h' z TI TO .none → Heap.SameBut z s.heap h' → Q () { s with heap := h' }) :
    wpAny (model prog w) A (letOwnedTupleGo (.Tuple elts x1 pos) (.ref z) (.ref T)) Q E s := by
  unfold letOwnedTupleGo
  refine wpAny_bind (wpAny_load hz ?_)
  dsimp only
  rw [if_pos (by simp)]
  refine wpAny_bind (wpAny_rule ?_)
  show wpAny _ _ (setField (.ref z) 0 .none) Q E s
  exact wpAny_setField_rec hz (by simp) fun h' hz' hs' => hQ h' hz' hs'
theorem iter_zs {f0 : Value} {Q : Value → Shared → Prop} (hz : ZS s.heap z TI TO f0) (h : Q (.ref z) s) : wpAny (model prog w) A (pyIter (.ref z)) Q E s := by
  have hT : s.TypeIs (.ref z) "zip" := ⟨_, hz, rfl⟩
  refine wpAny_pyIter_slot hT F.slot_zip_iter (wpAny_call_entry F.slot_zip_iter hT F.entry_zip_iter ?_ (F.args_zip_iter_1 _))
  show wpAny _ _ (ret (.ref z)) _ _ s
  exact wpAny_pure ⟨_, rfl, "zip", _, hT, F.slot_zip_next.lookup, h⟩
end
abbrev zh (h : Heap) (o1 o2 : Obj) : Heap := ((((h.push o1).push o2).push { cls := .type "tuple", data := .seq #[.ref h.objs.size, .ref (h.push o1).objs.size] }).push { cls := .type "tuple", data := .seq #[.none, .none] }).push
  { cls := .type "zip", data := .fields #[.none, .bool false, .bool true, .ref ((h.push o1).push o2).objs.size, .ref (((h.push o1).push o2).push { cls := .type "tuple", data := .seq #[.ref h.objs.size, .ref (h.push o1).objs.size] }).objs.size] }
abbrev zh4 (h : Heap) (o1 o2 : Obj) : Heap := (((h.push o1).push o2).push { cls := .type "tuple", data := .seq #[.ref h.objs.size, .ref (h.push o1).objs.size] }).push { cls := .type "tuple", data := .seq #[.none, .none] }
theorem meets_zs {v1 v2 : Value} {o1 o2 : Obj} {G1 G2 : Heap → Prop} (B1 : Begins v1 o1 G1) (B2 : Begins v2 o2 G2) :
    Meets (Builtin.«zip.__new__» ⟨[.type "zip", v1, v2], [(Str.ofString "strict", .bool true)]⟩) (fun _ R s => (G1 s.heap ∧ G2 s.heap) ∧ R (.ok (.ret (.ref (zh4 s.heap o1 o2).objs.size))) { s with heap := zh s.heap o1 o2 }) :=
  .of_wp fun prog w A R s h => by
    obtain ⟨hp, g, d, tk, os⟩ := s
    obtain ⟨⟨h1, h2⟩, h⟩ := h
    have hsub := sub_zip
    have h2' : G2 (hp.push o1) := B2.keeps _ _ h2 fun b o q => Heap.get?_push_of_some _ q
    have q1 : ∀ {A' : Around} {E : Value → Shared → Prop} {Q : Value → Shared → Prop}, Q (.ref hp.objs.size) ⟨hp.push o1, g, d, tk, os⟩ → wpAny (model prog w) A' (pyIter v1) Q E ⟨hp, g, d, tk, os⟩ :=
      fun q => B1.iter prog w _ _ ⟨hp, g, d, tk, os⟩ _ h1 q
    have q2 : ∀ {A' : Around} {E : Value → Shared → Prop} {Q : Value → Shared → Prop}, Q (.ref (hp.push o1).objs.size) ⟨(hp.push o1).push o2, g, d, tk, os⟩ → wpAny (model prog w) A' (pyIter v2) Q E ⟨hp.push o1, g, d, tk, os⟩ :=
      fun q => B2.iter prog w _ _ ⟨hp.push o1, g, d, tk, os⟩ _ h2' q
    have e1 : (Str.ofString "strict" != ("strict" : Str)) = false := by decide +kernel
    wp_walk using q1, q2
    exact ⟨_, rfl, h⟩
theorem tcall_strict (a b c : Value) : checkTypeCall "zip" ⟨[a, b], [(Str.ofString "strict", c)]⟩ = pure () := by kernel_rfl
theorem ncall_strict (a b c : Value) : checkBuiltinCall "zip.__new__" ⟨[.type "zip", a, b], [(Str.ofString "strict", c)]⟩ = pure () := by kernel_rfl
theorem init_strict (obj a b c : Value) : argsOk "object.__init__" ⟨[obj, a, b], [(Str.ofString "strict", c)]⟩ := by unfold argsOk; kernel_rfl
section
variable {prog : Program} {w : World} {A : Around} {E : Value → Shared → Prop} {s : Shared}
theorem zs_begins {v1 v2 : Value} {o1 o2 : Obj} {G1 G2 : Heap → Prop} {Q : Value → Shared → Prop} (B1 : Begins v1 o1 G1) (B2 : Begins v2 o2 G2) (h1 : G1 s.heap) (h2 : G2 s.heap)
    (h : ∀ h', ZS h' (s.heap.objs.size + 4) (s.heap.objs.size + 2) (s.heap.objs.size + 3) .none → IsTupOf2 h' (s.heap.objs.size + 2) (.ref s.heap.objs.size) (.ref (s.heap.objs.size + 1)) → IsTupOf2 h' (s.heap.objs.size + 3) .none .none →
      h'.get? s.heap.objs.size = some o1 → h'.get? (s.heap.objs.size + 1) = some o2 → (∀ b o, s.heap.get? b = some o → h'.get? b = some o) → Q (.ref (s.heap.objs.size + 4)) { s with heap := h' }) :
    wpAny (model prog w) A (call (.type "zip") [v1, v2] [(Str.ofString "strict", .bool true)]) Q E s := by
  refine callType_newKw F.called_zip (by decide) (tcall_strict _ _ _) (ncall_strict _ _ _) (fun obj => init_strict obj _ _ _) F.entry_zip_new (meets_zs B1 B2) ⟨⟨h1, h2⟩, ?_⟩
  have z1 : (s.heap.push o1).objs.size = s.heap.objs.size + 1 := Heap.size_push ..
  have z2 : ((s.heap.push o1).push o2).objs.size = s.heap.objs.size + 2 := by rw [Heap.size_push, z1]
  have z3 : (((s.heap.push o1).push o2).push { cls := .type "tuple", data := .seq #[.ref s.heap.objs.size, .ref (s.heap.push o1).objs.size] }).objs.size = s.heap.objs.size + 3 := by rw [Heap.size_push, z2]
  have z4 : (zh4 s.heap o1 o2).objs.size = s.heap.objs.size + 4 := by rw [Heap.size_push, z3]
  have g5 : (zh s.heap o1 o2).get? (zh4 s.heap o1 o2).objs.size = some _ := Heap.get?_push_size _ rfl
  have g4 : (zh s.heap o1 o2).get? (((s.heap.push o1).push o2).push { cls := .type "tuple", data := .seq #[.ref s.heap.objs.size, .ref (s.heap.push o1).objs.size] }).objs.size = some _ := Heap.get?_push_of_some _ (Heap.get?_push_size _ rfl)
  have g3 : (zh s.heap o1 o2).get? ((s.heap.push o1).push o2).objs.size = some _ := Heap.get?_push_of_some _ (Heap.get?_push_of_some _ (Heap.get?_push_size _ rfl))
  have g2 : (zh s.heap o1 o2).get? (s.heap.push o1).objs.size = some _ := Heap.get?_push_of_some _ (Heap.get?_push_of_some _ (Heap.get?_push_of_some _ (Heap.get?_push_size _ B2.free)))
  have g1 : (zh s.heap o1 o2).get? s.heap.objs.size = some _ := Heap.get?_push_of_some _ (Heap.get?_push_of_some _ (Heap.get?_push_of_some _ (Heap.get?_push_of_some _ (Heap.get?_push_size _ B1.free))))
  show _ ∧ _
  rw [z2, z3, z4] at g5
  rw [z1, z2] at g3
  rw [z3] at g4
  rw [z1] at g2
  rw [z4]
  exact ⟨⟨_, g5, rfl⟩, h _ g5 g3 g4 g1 g2 fun c o x => Heap.get?_push_of_some _ (Heap.get?_push_of_some _ (Heap.get?_push_of_some _ (Heap.get?_push_of_some _ (Heap.get?_push_of_some _ x))))⟩
end
/-- the tuple at a, the list at b as they stand, the items in new pairs -/
def ItZ (K : PySem.W.Frag) (a b : Addr) : It :=
  ⟨fun i H => ∃ (xs ys : List V) (x y : V), SqT K H a xs ∧ SqL K H b ys ∧ xs.length = ys.length ∧ xs[i]? = some x ∧ ys[i]? = some y,
    fun i H v H' => ∃ T x y, v = .ref T ∧ H T = none ∧ H' = upd H T (.tup [x, y]) ∧ (∀ xs, SqT K H a xs → xs[i]? = some x) ∧ ∀ ys, SqL K H b ys → ys[i]? = some y,
    fun i H => ∃ xs ys : List V, SqT K H a xs ∧ SqL K H b ys ∧ xs.length = i ∧ ys.length = i⟩
theorem ne_nat {a b : Nat} (h : a < b ∨ b < a) : ¬ @Eq Addr a b := fun e => by
  have e' : a = b := e
  omega
theorem out2 {a b c : Nat} (h1 : a < b ∨ b < a) (h2 : a < c ∨ c < a) : ¬ ((a : Addr) ∈ ([b, c] : List Addr)) := fun h => by
  rcases List.mem_cons.mp h with e | h
  · exact ne_nat h1 e
  · exact ne_nat h2 (List.mem_singleton.mp h)
theorem sep_of (n a b : Nat) (h1 : a < n) (h2 : b < n) : ZipSep2 (n + 4) (n + 2) (n + 3) n (n + 1) [n, a] [n + 1, b] :=
  ⟨ne_nat (by omega), ne_nat (by omega), ne_nat (by omega), ne_nat (by omega), List.mem_cons_self, out2 (by omega) (by omega), out2 (by omega) (by omega), ne_nat (by omega), List.mem_cons_self, out2 (by omega) (by omega), out2 (by omega) (by omega), out2 (by omega) (by omega), out2 (by omega) (by omega)⟩
theorem turn_zs {P : Program} {w : World} {K : PySem.W.Frag} {elts : List Expr} {kk : Nat} {tpos : Pos} {a b z TI TO i1 i2 : Addr} (S : ZipSep2 z TI TO i1 i2 [i1, a] [i2, b]) (ha : a ≠ i1) (hb : b ≠ i2) :
    Turn P w K (.Tuple elts kk tpos) (ItZ K a b) [z, TI, TO, i1, i2] z (fun i h => ZS h z TI TO .none ∧ IsTupOf2 h TI (.ref i1) (.ref i2) ∧ (∃ x y, IsTupOf2 h TO x y) ∧ h.IsTupleIter i1 a i ∧ h.IsListIter i2 b i) where
  mem := by simp
  obj := fun i h st c hc => by
    obtain ⟨hz, hTI, ⟨x, y, hTO⟩, ⟨o1, e1, _, d1⟩, ⟨o2, e2, _, d2⟩⟩ := st
    have e' : c = z ∨ c = TI ∨ c = TO ∨ c = i1 ∨ c = i2 := by simpa using hc
    rcases e' with q | q | q | q | q
    · rw [q]; exact ⟨_, hz, fun v q => nomatch q⟩
    · rw [q]; exact ⟨_, hTI, fun v q => nomatch q⟩
    · rw [q]; exact ⟨_, hTO, fun v q => nomatch q⟩
    · rw [q]; exact ⟨o1, e1, fun v q => by rw [d1] at q; cases q⟩
    · rw [q]; exact ⟨o2, e2, fun v q => by rw [d2] at q; cases q⟩
  keep := fun i h h' st k => by
    obtain ⟨hz, hTI, ⟨x, y, hTO⟩, h1, h2⟩ := st
    exact ⟨k z (by simp) _ hz, k TI (by simp) _ hTI, ⟨x, y, k TO (by simp) _ hTO⟩, h1.at fun o q => k i1 (by simp) o q, h2.at fun o q => k i2 (by simp) o q⟩
  item := by
    intro X hP hw hK hc i pins s σ H E I hf st hg
    subst hP hw hK
    obtain ⟨hz, hTI, ⟨x0, y0, hTO⟩, h1, h2⟩ := st
    obtain ⟨xs, ys, x, y, hqx, hqy, hl, hx, hy⟩ := hg
    obtain ⟨its, rv, p, _⟩ := I.tuple hqx
    obtain ⟨its2, rv2, p2, _⟩ := I.list hqy
    obtain ⟨u, hu, ru⟩ := rv.get hx
    obtain ⟨u2, hu2, ru2⟩ := rv2.get hy
    have l1 := rv.length
    have l2 := rv2.length
    have hzl : z < s.heap.objs.size := Heap.lt_size hz
    have hlt : i < its.toArray.size := by
      rw [List.size_toArray, ← l1]
      exact (List.getElem?_eq_some_iff.mp hx).1
    have hsz : its.toArray.size = its2.toArray.size := by rw [List.size_toArray, List.size_toArray]; omega
    have D2 := Draws.list (prog := X.prog) (w := X.w) (A := X.A.in1) (I.ok.hd hc) i2 b hb its2.toArray
    rw [← hsz] at D2
    refine next_zs_item S (Draws.tuple (A := X.A.in1) (I.ok.hd hc) i1 a ha its.toArray) D2 hz hTI hTO ⟨h1, p⟩ ⟨h2, p2.isList⟩ hlt fun x1 x2 h' tk e1 e2 z' TO' h1' h2' hT hk => ?_
    have eu : x1 = u := by
      rw [show its.toArray[i]? = its[i]? by simp, hu] at e1
      exact (Option.some.inj e1).symm
    have eu2 : x2 = u2 := by
      rw [show its2.toArray[i]? = its2[i]? by simp, hu2] at e2
      exact (Option.some.inj e2).symm
    subst eu eu2
    refine ⟨_, rfl, go_zs (s := { s with heap := h', toks := tk }) z' fun h'' z'' sb => ?_⟩
    have hT2 : h''.get? s.heap.objs.size = some { cls := .type "tuple", data := .seq #[x1, x2] } := (sb.2 _ (Nat.ne_of_gt hzl)).trans hT
    have new : ObjOk X.prog X.w (upd H s.heap.objs.size (.tup [x, y])) h'' s.heap.objs.size (.tup [x, y]) := ⟨by show 2 ≤ sizeLine; decide, [x1, x2], .cons ru (.cons ru2 .nil), ⟨_, hT2, rfl, _, rfl⟩⟩
    have I1 : Inv X pins σ (upd H s.heap.objs.size (.tup [x, y])) { s with heap := h'', toks := tk } :=
      I.turnedNew (ch := [z, TI, TO, i1, i2]) (fun c o hb q => (sb.2 c (fun q' => hb (by simp [q']))).trans (hk c o (fun q' => hb (by simp [q'])) (fun q' => hb (by simp [q'])) (fun q' => hb (by simp [q'])) (fun q' => hb (by simp [q'])) q)) hf (Nat.le_refl _) new
    refine ⟨.ref s.heap.objs.size, _, I1, rfl, ⟨_, x, y, rfl, I.hok.fresh (Nat.le_refl _), rfl, fun l hl => by rw [I.tuple_inj hl hqx]; exact hx, fun l hl => by rw [I.list_inj hl hqy]; exact hy⟩, ⟨z'', ?_, ⟨x1, x2, ?_⟩, ?_, ?_⟩, fun c hcm => ?_⟩
    · exact (sb.2 _ S.TIz).trans (hk _ _ S.TIz S.TITO S.TIi1 S.TIi2 hTI)
    · exact (sb.2 _ S.TOz).trans TO'
    · exact h1'.1.at fun o q => (sb.2 _ S.zi1.symm).trans q
    · exact h2'.1.at fun o q => (sb.2 _ S.zi2.symm).trans q
    · have hlt : c < s.heap.objs.size := by
        have e' : c = z ∨ c = TI ∨ c = TO ∨ c = i1 ∨ c = i2 := by simpa using hcm
        rcases e' with q | q | q | q | q
        · rw [q]; exact hzl
        · rw [q]; exact Heap.lt_size hTI
        · rw [q]; exact Heap.lt_size hTO
        · rw [q]; obtain ⟨_, e1, _⟩ := h1; exact Heap.lt_size e1
        · rw [q]; obtain ⟨_, e2, _⟩ := h2; exact Heap.lt_size e2
      rw [upd_ne (Nat.ne_of_lt hlt)]
      exact (hf c hcm).1
  done := by
    intro X hP hw hK hc i pins s σ H E I hf st hg
    subst hP hw hK
    obtain ⟨hz, hTI, ⟨x0, y0, hTO⟩, h1, h2⟩ := st
    obtain ⟨xs, ys, hqx, hqy, e1, e2⟩ := hg
    obtain ⟨its, rv, p, _⟩ := I.tuple hqx
    obtain ⟨its2, rv2, p2, _⟩ := I.list hqy
    have l1 := rv.length
    have l2 := rv2.length
    have n1 : its.toArray.size = i := by rw [List.size_toArray]; omega
    have hsz : its.toArray.size = its2.toArray.size := by rw [List.size_toArray, List.size_toArray]; omega
    have D2 := Draws.list (prog := X.prog) (w := X.w) (A := X.A.in1) (I.ok.hd hc) i2 b hb its2.toArray
    rw [← hsz] at D2
    exact next_zs_over (I.ok.hd hc) S (Draws.tuple (A := X.A.in1) (I.ok.hd hc) i1 a ha its.toArray) D2 hz hTI hTO ⟨by rw [n1]; exact h1, p⟩ ⟨by rw [n1]; exact h2, p2.isList⟩ fun h' hk => ⟨rfl, I.turnedL (t' := s.toks) (ch := [z, TI, TO, i1, i2]) (fun c o hb q =>
      hk c o (fun q' => hb (by simp [q'])) (fun q' => hb (by simp [q'])) (fun q' => hb (by simp [q'])) (fun q' => hb (by simp [q'])) q) hf⟩
  self := fun A i s Q E st h => iter_zs st.1 h
/-- zip(tuple, list, strict=True) -/
def iZipS (K : PySem.W.Frag) (ta tk : TA) : TI := fun σ H R => ta σ H fun vs H1 => tk σ H1 fun zs H2 => ∃ a b xs ys, vs = [.ref a, .ref b] ∧ zs = [.bl true] ∧ SqT K H2 a xs ∧ SqL K H2 b ys ∧ R (ItZ K a b) H2
theorem pi_zipS {X : Cx} {e e2 : Expr} {ta tk : TA} {p pos tpos : Pos} {elts : List Expr} {kk : Nat} {kws : List Keyword} (hg : Gl X "zip") (hm : X.mg "zip" = none) (ha : PA X [e, e2] ta) (hkw : PK X kws tk)
    (hall : (backToKw pos (keywordEach kws X.env)).all (·.1.isSome) = true := by rfl) (hks : (backToKw pos (keywordEach kws X.env)).filterMap (·.1) = [("strict" : Str)] := by rfl)
    (he : starEach [e, e2] X.env = (false, eval e X.env) :: starEach [e2] X.env := by rfl) (hpl : ((backTo pos (starEach [e, e2] X.env)).any (·.1) || (backToKw pos (keywordEach kws X.env)).any (·.1.isNone)) = false := by rfl) :
    PI X (.Tuple elts kk tpos) (.Call (.Name "zip" p) [e, e2] kws pos) (iZipS X.K ta tk) := by
  refine ⟨fun pins s σ H R I h => ?_⟩
  refine wpAny_Call_Name_kw (ld_blt I hg hm PyProof.Rows.boot_zip (callWith_typeK hall (thn (ha.run pos pins s σ H _ I h) fun us s1 ⟨vs, H1, I1, r1, q1⟩ => ?_) hpl he))
  refine thn (hkw.run pos pins s1 σ H1 _ I1 q1) fun ws s2 ⟨zs, H2, I2, rz, a, b, xs, ys, e1, e2, hqx, hqy, q⟩ => ?_
  subst e1 e2
  rw [hks]
  cases r1 with
  | cons r rr =>
    cases rr with
    | cons r' rr =>
      cases rr
      cases r
      cases r'
      cases rz with
      | cons rk rr =>
        cases rr
        cases rk
        obtain ⟨its, rv, p1, _⟩ := I2.tuple hqx
        obtain ⟨its2, rv2, p2, _⟩ := I2.list hqy
        obtain ⟨o1, ho1, _⟩ := id p1
        have la : a < s2.heap.objs.size := Heap.lt_size ho1
        have lb : b < s2.heap.objs.size := p2.lt
        refine zs_begins (begins_tuple a its.toArray) (begins_list b its2.toArray) p1 p2.isList fun h' hz hTI hTO h1 h2 hk => iter_zs hz ?_
        have I3 : Inv X pins σ H2 { s2 with heap := h' } := I2.kept (t' := s2.toks) hk
        refine ⟨s2.heap.objs.size + 4, [s2.heap.objs.size + 4, s2.heap.objs.size + 2, s2.heap.objs.size + 3, s2.heap.objs.size, s2.heap.objs.size + 1], _, _, H2, rfl, I3, turn_zs (sep_of s2.heap.objs.size a b la lb) (Nat.ne_of_lt la) (Nat.ne_of_lt (Nat.lt_succ_of_lt lb)), ⟨hz, hTI, ⟨_, _, hTO⟩, ⟨_, h1, rfl, rfl⟩, ⟨_, h2, rfl, rfl⟩⟩, fun c hcm => ?_, q⟩
        have e' : c = s2.heap.objs.size + 4 ∨ c = s2.heap.objs.size + 2 ∨ c = s2.heap.objs.size + 3 ∨ c = s2.heap.objs.size ∨ c = s2.heap.objs.size + 1 := by simpa using hcm
        have hle : s2.heap.objs.size ≤ c := by
          rcases e' with z | z | z | z | z
          · rw [z]; exact Nat.le_add_right _ _
          · rw [z]; exact Nat.le_add_right _ _
          · rw [z]; exact Nat.le_add_right _ _
          · rw [z]; exact Nat.le_refl _
          · rw [z]; exact Nat.le_add_right _ _
        exact I2.fpOk hle (I2.hok.fresh hle)
theorem walk_zs {K : PySem.W.Frag} {a b : Addr} {xs ys : List V} (hl : xs.length = ys.length) : Walk (ItZ K a b) xs.length (fun H => SqT K H a xs ∧ SqL K H b ys) (YPair (fun i => xs[i]?) (fun i => ys[i]?)) := by
  refine ⟨fun i _ hi q => ⟨xs, ys, xs[i], ys[i], q.1, q.2, hl, by simp [hi], by simp [← hl, hi]⟩, fun _ q => ⟨xs, ys, q.1, q.2, rfl, hl.symm⟩, fun i H v H' _ q y => ?_⟩
  obtain ⟨T, x, z, h1, h2, h3, h4, h5⟩ := y
  exact ⟨T, x, z, h1, h2, h3, h4 xs q.1, h5 ys q.2⟩
end WZs

set_option Elab.async false
set_option linter.all false
set_option maxRecDepth 100000
set_option maxHeartbeats 4000000
/-! exceptions of the program's own classes as values: made, with a field stored by their __init__, read, asked by isinstance -/
namespace WXE
open PySem PySem.Spec PyProof.Rows L2 Builtin.ObjectAttr

/-- what the written part says of an exception class of the program -/
structure XC (K : PySem.W.Frag) (C : Addr) (B newId initId : String) (bmB : List Value) : Prop where
  fb : ExcBaseFacts B newId initId bmB
  sf : StoreFacts B bmB "object.__setattr__" "object"
  ini : PySem.W.excInitIn K C bmB newId = true
  ovr : PySem.W.excOver K C bmB = true
  hd : PySem.W.hasDictIn K C = true
  sa : PySem.W.findIn K (.ref C) "__setattr__" = some (some (.builtin "object.__setattr__"))
  ga : PySem.W.findIn K (.ref C) "__getattribute__" = some (some (.builtin "BaseException.__getattribute__"))
  gg : PySem.W.findIn K (.ref C) "__getattr__" = some none
  ex : PySem.W.subIn K (.ref C) (.type "BaseException") = some true
  cc : PySem.W.findIn K (.ref C) "__class__" = some (some (.builtin "object.__class__"))
  mo : PySem.W.mroIn K C (.type "object") = some true
  kp : PySem.W.keepIn K (.ref C) = true
  gs : PySem.W.specialIn K (.builtin "object.__class__") "__get__" = some (some (.builtin "getset_descriptor.__get__"))
  tk : PySem.W.takesIn K (.builtin "object.__class__") = some true

section
variable {prog : Program} {w : World} {A : Around} {E : Value → Shared → Prop} {hp : Heap} {g : Array GenState} {d : Drawn} {t : Nat} {os : OsState}
theorem set_first {K : PySem.W.Frag} {B : String} {bmB : List Value} {x C t0 : Addr} {name : Str} {v : Value} {Q : Unit → Shared → Prop}
    (SF : StoreFacts B bmB "object.__setattr__" "object") (X : K.In hp) (hx : hp.get? x = some (PySem.W.excObj C t0 none .none))
    (hov : PySem.W.excOver K C bmB = true) (hh : PySem.W.hasDictIn K C = true)
    (hs : PySem.W.findIn K (.ref C) "__setattr__" = some (some (.builtin "object.__setattr__"))) (ha : PySem.W.findIn K (.ref C) name = some none)
    (hq : ∀ h' tk' dx, (∀ b o, b ≠ x → hp.get? b = some o → h'.get? b = some o) → hp.objs.size ≤ dx → dx ≠ x →
      h'.get? x = some (PySem.W.excObj C t0 (some dx) .none) → h'.Ns1 dx (fun y => if y = name then some v else none) → Q () ⟨h', g, d, tk', os⟩) :
    wpAny (model prog w) A (setAttr (.ref x) name v) Q E ⟨hp, g, d, t, os⟩ := by
  obtain ⟨cd, hc, hd'⟩ := PySem.W.any_some hh
  have hxs : x ≠ hp.objs.size := Nat.ne_of_lt (Heap.lt_size hx)
  refine PySem.W.set_plain X (od := none) ⟨hx, rfl, rfl, trivial⟩ hs ?_
  refine PySem.W.osa_openX (s := ⟨hp, g, d, t + 1, os⟩) (od := none) SF X ⟨hx, rfl, rfl, trivial⟩ hov (by unfold PySem.W.takerIn; rw [ha]; rfl) fun b => ?_
  refine wpAny_bind (wpAny_pure (wpAny_bind (PySem.W.instanceDict_exc (s := ⟨hp, g, d, t + 1, os⟩) hx (PySem.W.looks_clsIn X hc) hd' ?_)))
  show wpAny _ _ (storeInDict hp.objs.size (.str name _) name v) _ _ _
  have hx1 : (hp.push (PySem.W.dictOf [] 0)).get? x = some (PySem.W.excObj C t0 none .none) := Heap.get?_push_of_some _ hx
  refine PySem.HandSPX.store_in_new ⟨_, #[], _, (Heap.get?_update_ne _ _ _ _ hxs.symm).trans (Heap.get?_push_at rfl rfl), rfl, fun e he => absurd he (by simp), fun _ => rfl⟩ fun h' tk' hn' hs' => ?_
  refine hq h' tk' hp.objs.size (fun b o hb ho => ?_) (Nat.le_refl _) hxs.symm ?_ hn'
  · exact (hs'.2 b (Nat.ne_of_lt (Heap.lt_size ho))).trans ((Heap.get?_update_ne _ _ _ _ hb).trans (Heap.get?_push_of_some _ ho))
  · exact (hs'.2 x hxs).trans (Heap.get?_update_self _ hx1 rfl)
end

section
variable {X : Cx} {pins : List (Addr × Obj)} {σ : L2.St} {H : Hp} {s : Shared} {a C dx : Addr} {f : Str} {y : V} {u : Value} {fs : List (Str × V)} {B newId initId : String} {bmB : List Value} {A : Around} {E : Value → Shared → Prop}
/-- one object changed in its place, one new beside it -/
theorem inv_pair {h' : Heap} {tk' : Nat} {o o1 o2 : HO} (I : Inv X pins σ H s) (e : H a = some o) (hno : ∀ z, o ≠ .own z) (hnt : ∀ xs, o ≠ .tup xs) (hnf : ∀ ob v, o ≠ .frz ob v) (hnb : ∀ ps, o ≠ .tbl ps)
    (k : ∀ b ob, b ≠ a → s.heap.get? b = some ob → h'.get? b = some ob) (dn : s.heap.objs.size ≤ dx) (hx : ∃ ob, h'.get? a = some ob)
    (w1 : ∀ H', ObjOk X.prog X.w H' h' dx o1) (w2 : ∀ H', ObjOk X.prog X.w H' h' a o2) : Inv X pins σ (upd (upd H dx o1) a o2) { s with heap := h', toks := tk' } := by
  have hnd : H dx = none := I.hok.fresh dn
  have nd : ∀ {b : Addr} {ob : Obj}, s.heap.get? b = some ob → b ≠ dx := fun {b ob} q => Nat.ne_of_lt (Nat.lt_of_lt_of_le (Heap.lt_size q) dn)
  have na : ∀ {b : Addr}, H b = none → b ≠ a := fun {b} n z => by
    rw [z, e] at n
    cases n
  have apart : ∀ {b : Addr} {u : HO}, H b = some u → o ≠ u → b ≠ a := fun {b u} q n z => by
    rw [z, e] at q
    exact n (Option.some.inj q)
  refine I.un (t' := tk') ⟨fun b ob q n _ _ => k b ob (na n) q, fun b ob q n _ _ => ⟨ob.slots, k b ob (na n) q⟩, fun b ob q n _ => ?_, fun b ob q _ => ?_, fun b xs q => ?_, fun b ob v q => ?_, fun b ps q => ⟨#[], ?_⟩⟩ fun b ob q => ?_
  · rw [upd_ne (na n), upd_ne (nd q)]
    exact n
  · by_cases hb : b = a
    · rw [hb]
      exact hx
    · exact ⟨ob, k b ob hb q⟩
  · rw [upd_ne (apart q (hnt _)), upd_ne (ne_of_none q hnd)]
    exact q
  · rw [upd_ne (apart q (hnf _ _)), upd_ne (ne_of_none q hnd)]
    exact q
  · rw [upd_ne (apart q (hnb _)), upd_ne (ne_of_none q hnd), q]
    simp
  · by_cases hb : b = a
    · subst hb
      rw [upd_same] at q
      cases q
      exact w2 _
    · rw [upd_ne hb] at q
      by_cases hd : b = dx
      · subst hd
        rw [upd_same] at q
        cases q
        exact w1 _
      · rw [upd_ne hd] at q
        refine (I.hok b ob q).stay (fun c v hc z => k c v ?_ z) (fun c hc => ?_) fun c xs hc => ?_
        · rcases hc with hc | hc
          · rw [hc]
            exact hb
          · exact apart hc (hno _)
        · rw [upd_ne (apart hc (hno _)), upd_ne (ne_of_none hc hnd)]
          exact hc
        · rw [upd_ne (apart hc (hnt _)), upd_ne (ne_of_none hc hnd)]
          exact hc
/-- self.f = y, its first field -/
theorem xset_ok {Q : Unit → Shared → Prop} (T : XC X.K C B newId initId bmB) (I : Inv X pins σ H s) (e : H a = some (exo a C none)) (hno : PySem.W.findIn X.K (.ref C) f = some none) (ry : RelV y u)
    (h : ∀ dx s', H dx = none → dx ≠ a → Inv X pins σ (upd (upd H dx (exd dx [(f, y)])) a (exo a C (some dx))) s' → Q () s') : wpAny (model X.prog X.w) A (setAttr (.ref a) f u) Q E s := by
  obtain ⟨t1, ho⟩ := exo_at I.hok e
  obtain ⟨hp, g, d, t, os⟩ := s
  refine set_first T.sf I.kIn ho T.ovr T.hd T.sa hno fun h' tk' dx k dn dne hx hn => ?_
  exact h dx _ (I.hok.fresh dn) dne (inv_pair I e (fun _ => exo_own) (fun _ => exo_tup) (fun _ _ => exo_frz) (fun _ => exo_tbl) k dn ⟨_, hx⟩ (fun _ => exd_ok hn (relO_put (fs := []) ry fun _ => True.intro)) fun _ => exo_ok hx)
/-- B.__init__(self, ..) -/
theorem xinit_ok {us : List Value} {Q : Value → Shared → Prop} (T : XC X.K C B newId initId bmB) (I : Inv X pins σ H s) (e : H a = some (exo a C none)) (hl : us.length ≤ sizeLine) (h : ∀ s', Inv X pins σ H s' → Q .none s') :
    wpAny (model X.prog X.w) A (call (.builtin initId) (.ref a :: us)) Q E s := by
  obtain ⟨t1, ho⟩ := exo_at I.hok e
  obtain ⟨nm, N, qn, bs, bm, hdct, sn, sub, ab, col, dd, k0, k1, k2, k3, k5, hC, hT⟩ := PySem.W.excInit_of I.kIn T.ini
  obtain ⟨hp, g, d, t, os⟩ := s
  refine wpAny_call (PySem.HandSPX.init_base T.fb hT hC ho hl fun h' t2 k hx => ?_)
  have J := I.write (t' := t) (x := a) (e := a) (o := exo a C none) (by rw [e]; exact True.intro) (.inl rfl) k ⟨_, hx⟩ (exo_ok hx)
  have eu : upd H a (exo a C none) = H := funext fun b => by
    by_cases hb : b = a
    · rw [hb, upd_same, e]
    · rw [upd_ne hb]
  rw [eu] at J
  exact h _ J
end

/-! ### readings and rules -/
/-- B.__init__(self, ..), read off an own class above -/
def tXini (K : PySem.W.Frag) (initId : String) (ta : TA) : TE := fun σ H Q => ta σ H fun vs H1 => ∃ (a C : Addr) (ws : List V) (B newId : String) (bmB : List Value),
  vs = .ref a :: ws ∧ ws.length ≤ 1000 ∧ XC K C B newId initId bmB ∧ H1 a = some (exo a C none) ∧ Q .non H1
/-- self.f = e on an exception without a field -/
def tXst (K : PySem.W.Frag) (f : Str) (to te : TE) : TS := fun D σ H => te σ H fun y H1 => to σ H1 fun x H2 => ∃ (a C : Addr) (B newId initId : String) (bmB : List Value),
  x = .ref a ∧ XC K C B newId initId bmB ∧ PySem.W.findIn K (.ref C) f = some none ∧ H2 a = some (exo a C none) ∧
    ∀ dx, H2 dx = none → dx ≠ a → D.nx σ (upd (upd H2 dx (exd dx [(f, y)])) a (exo a C (some dx)))
/-- C(..), C's own __init__ keeping sp: the exception stays as a value -/
def tXmk (C : Addr) (n m : Nat) (sp : Sp) (E : XK) (gV : List V → List V → List V) (ta tk : TA) : TE := fun σ H Q => ta σ H fun vs H1 => tk σ H1 fun zs H2 => vs.length = n ∧ zs.length = m ∧ n ≤ 1000 ∧
  ∀ a, H2 a = none → sp (gV (.ref a :: vs) zs) (upd H2 a (exo a C none)) (fun v H3 => v = .non ∧ Q (.ref a) H3) E
/-- e.f of an exception -/
def tXfld (K : PySem.W.Frag) (f : Str) (te : TE) : TE := fun σ H Q => te σ H fun x H1 => ∃ (a C dx : Addr) (fs : List (Str × V)) (v : V) (B newId initId : String) (bmB : List Value),
  x = .ref a ∧ H1 a = some (exo a C (some dx)) ∧ H1 dx = some (exd dx fs) ∧ XC K C B newId initId bmB ∧ PySem.W.findIn K (.ref C) f = some none ∧ fs.lookup f = some v ∧ Q v H1
/-- a whole exception at a -/
def XAt (H : Hp) (a C : Addr) : Prop := H a = some (exo a C none) ∨ ∃ dx fs, H a = some (exo a C (some dx)) ∧ H dx = some (exd dx fs)
/-- isinstance(e, c) | isinstance(e, (c, ..)) -/
def rXis (K : PySem.W.Frag) : List V → Hp → VK → Prop := fun xs H Q => ∃ (a C : Addr) (c : V) (B newId initId : String) (bmB : List Value) (b : Bool),
  xs = [.ref a, c] ∧ XAt H a C ∧ XC K C B newId initId bmB ∧ ((∃ cv, (∀ u, RelV c u → u = cv) ∧ PySem.W.kitOne K (.ref C) cv = some b) ∨
    ∃ p cs, c = .ref p ∧ H p = some (.tup cs) ∧ ∀ us, Vals cs us → PySem.W.kitAny K (.ref C) us = some b) ∧ Q (.bl b) H

section
variable {X : Cx} {o e : Expr} {es : List Expr} {to te : TE} {ta tk : TA} {f x : Str} {p p' p1 p2 pos : Pos} {initId : String}
theorem pe_xini {C0 : Addr} {pl : Sem Bool} (hg : Gl X x) (hm : X.mg x = some (.ref C0)) (hr : PySem.W.readsIn X.K C0 (.type "type") = true)
    (hs : PySem.W.specialIn X.K (.ref C0) "__getattribute__" = some (some (.builtin "type.__getattribute__"))) (hf : PySem.W.findCls X.K (.ref C0) (.type "type") "__init__" = some (.val (.builtin initId)))
    (hh : PySem.W.handedIn (.builtin initId) = true) (ha : PA X (e :: es) ta) (hdb : (x == ("__debug__" : Str)) = false := by decide)
    (hc : eval (.Call (.Attribute (.Name x p1) "__init__" p2) (e :: es) [] pos) X.env = (do
      let ov ← eval (.Name x p1) X.env
      standAt p2.atName
      let (f, first) ← holding [ov] (getMethod ov "__init__" pl)
      callWith pos f first (backTo pos (starEach (e :: es) X.env)) (backToKw pos (keywordEach [] X.env))) := by rfl)
    (he : starEach (e :: es) X.env = (false, eval e X.env) :: starEach es X.env := by rfl) (hpl : (backTo pos (starEach es X.env)).any (·.1) = false := by rfl) :
    PE X (.Call (.Attribute (.Name x p1) "__init__" p2) (e :: es) [] pos) (tXini X.K initId ta) := by
  refine ⟨fun pins s σ H Q I h => ?_⟩
  refine PySem.W.methodCall_KW (ld_glob I hg hm ?_ hdb) hc
  refine PySem.W.method_cls I.kIn hs (PySem.W.cls_value I.kIn hr hf hh ?_)
  show wpAny _ _ (callWith pos (Value.builtin initId) [] (backTo pos (starEach (e :: es) X.env)) []) _ _ _
  refine PyProof.Rows.callWith_method1 (thn (ha.run pos pins _ σ H _ (I.tok _) h) fun us s1 ⟨vs, H1, I1, r1, a, C, ws, B, newId, bmB, ev, hl, T, ea, q⟩ => ?_) he hpl
  subst ev
  cases r1 with
  | @cons _ u0 _ ur ra rw' =>
    obtain rfl : u0 = Value.ref a := ra
    exact xinit_ok T I1 ea (by rw [← Paired.length rw', sizeLine_eq]; omega) fun s' J => ⟨.non, H1, J, rfl, q⟩
theorem ps_xst (ho : PE X o to) (he : PE X e te) (hs : swapsWith e (some (.Attribute o f p')) pos.line X.env = pure false := by rfl) : PS X (.Assign [.Attribute o f p'] e pos) (tXst X.K f to te) := by
  refine ⟨fun pins s σ H D I h => ?_⟩
  refine plainObj_wpAny_Assign_Attribute (thn (he.run pins s σ H _ I h) fun v s1 ⟨y, H1, I1, r1, q1⟩ => thn (ho.run pins s1 σ H1 _ I1 q1) fun u s2 ⟨x, H2, I2, r2, a, C, B, n, i, bm, ex, T, hno, ea, q⟩ => ?_) hs
  subst ex
  obtain rfl : u = Value.ref a := r2
  exact xset_ok T I2 ea hno r1 fun dx s' nx ne J => ⟨σ, _, J, q dx nx ne⟩
theorem pe_xfld (he : PE X e te) (hb : attributeBase e f X.env (eval e X.env) = eval e X.env := by rfl) : PE X (.Attribute e f pos) (tXfld X.K f te) := by
  refine ⟨fun pins s σ H Q I h => ?_⟩
  refine attr_of hb (thn (he.run pins s σ H _ I h) fun u s1 hh => ?_)
  obtain ⟨x, H1, I1, rx, a, C, dx, fs, v, B, n, i, bm, ex, ea, ed, T, hno, l, q⟩ := hh
  subst ex
  obtain rfl : u = Value.ref a := rx
  obtain ⟨t1, ho⟩ := exo_at I1.hok ea
  obtain ⟨mA, hns, rel⟩ := exd_at I1.hok ed
  obtain ⟨od, hod, hl⟩ := lookIn_ns hns
  obtain ⟨u, hu, ru⟩ := RelO.some_of (v := v) (o := mA f) (by rw [← l]; exact rel f)
  refine HandSPX.exc_get I1.kIn (od := some od) ⟨ho, rfl, rfl, hod⟩ T.ga T.gg T.ex (PySem.W.findObj_own T.hd hno rfl (by rw [hl, hu])) (handed_of ru) ⟨v, H1, I1.tok _, ru, q⟩
theorem x_inst {pins : List (Addr × Obj)} {σ : L2.St} {H : Hp} {s : Shared} {a C : Addr} (I : Inv X pins σ H s) (h : XAt H a C) : ∃ ox od, PySem.W.InstAt s.heap a ox C od := by
  rcases h with ea | ⟨dx, fs, ea, ed⟩
  · obtain ⟨t1, ho⟩ := exo_at I.hok ea
    exact ⟨_, none, ho, rfl, rfl, trivial⟩
  · obtain ⟨t1, ho⟩ := exo_at I.hok ea
    obtain ⟨mA, hns, rel⟩ := exd_at I.hok ed
    obtain ⟨od, hod, hl⟩ := lookIn_ns hns
    exact ⟨_, some od, ho, rfl, rfl, hod⟩
theorem call_xis : CallR X (.builtin "isinstance") (rXis X.K) := by
  intro pins s σ H xs us Q I r h
  obtain ⟨a, C, c, B, n, i, bm, b, rfl, xa, T, hk, q⟩ := h
  cases r with
  | cons rx rr =>
    cases rr with
    | cons rt rr =>
      cases rr
      cases rx
      obtain ⟨ox, od, J⟩ := x_inst I xa
      have hcl : (PySem.W.clsIn X.K C).isSome = true := by
        obtain ⟨cd, hc, _⟩ := PySem.W.any_some T.hd
        rw [hc] <;> rfl
      have Z := PySem.W.kitx_exc (x := a) (ox := ox) (od := od) hcl T.ga T.gg T.ex T.cc T.gs T.tk T.mo
      rcases hk with ⟨cv, hcv, e⟩ | ⟨p, cs, rfl, hp, e⟩
      · have ec := hcv _ rt
        subst ec
        exact PySem.W.kia_one Z I.kIn J e (fun z => nomatch z) fun tk => ⟨.bl b, H, I.kept (t' := tk) fun _ _ z => z, rfl, q⟩
      · cases rt
        obtain ⟨_, its, rv, ⟨⟨oc, odd, odt, osl⟩, ho, hc, m, hd⟩⟩ := I.hok p _ hp
        dsimp only at hc hd
        subst hc hd
        exact PySem.W.kia_tup Z I.kIn J ho (e its rv) (fun z => nomatch z) fun tk => ⟨.bl b, H, I.kept (t' := tk) fun _ _ z => z, rfl, q⟩
end

/-- the same by a Bool -/
def xcB (K : PySem.W.Frag) (C : Addr) (newId : String) (bmB : List Value) : Bool :=
  PySem.W.excInitIn K C bmB newId && (PySem.W.excOver K C bmB && (PySem.W.hasDictIn K C && (decide (PySem.W.findIn K (.ref C) "__setattr__" = some (some (.builtin "object.__setattr__"))) &&
  (decide (PySem.W.findIn K (.ref C) "__getattribute__" = some (some (.builtin "BaseException.__getattribute__"))) && (decide (PySem.W.findIn K (.ref C) "__getattr__" = some none) &&
  (decide (PySem.W.subIn K (.ref C) (.type "BaseException") = some true) && (decide (PySem.W.findIn K (.ref C) "__class__" = some (some (.builtin "object.__class__"))) &&
  (decide (PySem.W.mroIn K C (.type "object") = some true) && (PySem.W.keepIn K (.ref C) && (decide (PySem.W.specialIn K (.builtin "object.__class__") "__get__" = some (some (.builtin "getset_descriptor.__get__"))) &&
  decide (PySem.W.takesIn K (.builtin "object.__class__") = some true)))))))))))
theorem xcB_ok {K : PySem.W.Frag} {C : Addr} {B newId initId : String} {bmB : List Value} (fb : ExcBaseFacts B newId initId bmB) (sf : StoreFacts B bmB "object.__setattr__" "object") (h : xcB K C newId bmB = true) : XC K C B newId initId bmB := by
  unfold xcB at h
  simp only [Bool.and_eq_true, decide_eq_true_eq] at h
  obtain ⟨h1, h2, h3, h4, h5, h6, h7, h8, h9, h10, h11, h12⟩ := h
  exact ⟨fb, sf, h1, h2, h3, h4, h5, h6, h7, h8, h9, h10, h11, h12⟩
end WXE

set_option Elab.async false
set_option linter.all false
set_option maxRecDepth 100000
set_option maxHeartbeats 4000000
/-! an exception of the program made by a call with keywords -/
namespace WXE
open PySem PySem.Spec PyProof.Rows L2 Builtin.ObjectAttr
section
variable {prog : Program} {w : World} {M : Model} {A : Around} {E : Value → Shared → Prop} {R : Result → Shared → Prop} {h : Heap} {g : Array GenState} {d : Drawn} {t : Nat} {os : OsState}
variable {nm q : Str} {C N : Addr} {bs bm bmB : List Value} {hdct : Bool} {sn : List Str} {sub : List Value} {ab : Bool} {col : Option Bool} {dd : Option Addr} {k0 k1 k2 k3 k5 : Option Value} {B newId initId : String}
theorem ck_new (FB : ExcBaseFacts B newId initId bmB) (hT : ∀ Y : String, bm.contains (.type Y) = bmB.contains (.type Y)) {args : List Value} {kw : List (Str × Value)} {Q : Unit → Shared → Prop}
    (hC : h.get? C = some (excClassObj nm q C N bs bm hdct sn sub ab col dd k0 k1 k2 k3 k5 newId)) (hq : Q () ⟨h, g, d, t, os⟩) :
    wpAny M A (checkBuiltinCall newId ⟨.ref C :: args, kw⟩) Q E ⟨h, g, d, t, os⟩ := by
  have z1 : (Value.ref C :: bm).contains (.type B) = true := by rw [List.contains_cons, hT, FB.hasB, Bool.or_true]
  have z2 := FB.noStar
  simp only [checkBuiltinCall, FB.newKind, FB.newSplit, FB.newRow]
  repeat (first
    | refine wpAny_loadPart_at hC ?_
    | (refine wpAny_isSubtype_exc hC ?_; rw [z1])
    | refine wpAny_staticBase_exc hC ?_
    | refine wpAny_madeBy_exc hC ?_
    | simp only [bne_self_eq_false, Bool.false_eq_true, if_false]
    | wp_step)
  exact hq
theorem ck_made (FB : ExcBaseFacts B newId initId bmB) (hT : ∀ Y : String, bm.contains (.type Y) = bmB.contains (.type Y)) {args : List Value} {kw : List (Str × Value)}
    (hC : h.get? C = some (excClassObj nm q C N bs bm hdct sn sub ab col dd k0 k1 k2 k3 k5 newId))
    (hq : R (.ok (.ret (.ref (h.objs.size + 1)))) ⟨(h.push (PySem.W.kdv_tup args)).push (PySem.HandSPX.excO C h.objs.size), g, d, t, os⟩) (hz : args.length ≤ sizeLine) :
    codeAny (model prog w) A (.builtin newId ⟨.ref C :: args, kw⟩) R ⟨h, g, d, t, os⟩ := by
  have z0 := FB.ends
  have z1 : (Value.ref C :: bm).contains (.type B) = true := by rw [List.contains_cons, hT, FB.hasB, Bool.or_true]
  have z2 : (Value.ref C :: bm).contains (.type "AttributeError") = false := by rw [List.contains_cons, hT, FB.noAttr]; rfl
  have z3 : (Value.ref C :: bm).contains (.type "NameError") = false := by rw [List.contains_cons, hT, FB.noName]; rfl
  refine codeAny_builtinAt FB.entry ?_
  unfold Builtin.«BaseException.__new__»
  refine PySem.wpAt_bind ?_
  show PySem.wpAt _ _ _ (stack >>= _) _ _ _
  refine PySem.wpAt_bind (PySem.wpAt_stack fun p below => PySem.wpAt_of_wpAny ?_)
  wp_walk
  refine PySem.wpAt_of_wpAny ?_
  rw [FB.owner]
  repeat (first
    | with_reducible refine wpAny_madeHere_exc FB.canon hC ?_
    | with_reducible refine wpAny_loadPart_at hC ?_
    | (with_reducible refine wpAny_isSubtype_exc hC ?_; first | rw [z1] | rw [z2] | rw [z3])
    | wp_step)
  show R _ _
  rw [Heap.size_push]
  exact hq
theorem ck_type (FB : ExcBaseFacts B newId initId bmB) (hT : ∀ Y : String, bm.contains (.type Y) = bmB.contains (.type Y)) {args : List Value} {kw : List (Str × Value)} {fI : Addr} {Q : Fin → Shared → Prop}
    (hC : h.get? C = some (excClassObj nm q C N bs bm hdct sn sub ab col dd k0 k1 k2 k3 k5 newId))
    (hi : PySem.W.Looks (model prog w) h (typeLookup (.ref C) "__init__") (some (.ref fI))) (hb : ∀ self, PySem.W.Looks (model prog w) h (bindSpecial (.ref fI) self) (.ref fI, [self])) (hz : args.length ≤ sizeLine)
    (hq : codeAny (model prog w) A (.call (.ref fI) ⟨.ref (h.objs.size + 1) :: args, kw⟩)
      (fun r s' => match r with
        | .ok (.ret v) => v = .none ∧ Q (.done (.ret (.ref (h.objs.size + 1)))) s'
        | .ok _ => False
        | .error e => E e s')
      ⟨(h.push (PySem.W.kdv_tup args)).push (PySem.HandSPX.excO C h.objs.size), g, d, t, os⟩) :
    wpAny (model prog w) A (Builtin.«type.__call__» ⟨.ref C :: args, kw⟩) Q E ⟨h, g, d, t, os⟩ := by
  repeat (first | with_reducible refine wpAny_loadPart_at hC ?_ | with_reducible refine wpAny_madeBy_exc hC ?_ | wp_step)
  refine codeAny_call_builtin_code (Code.quiet_builtin _ FB.quiet) (ck_new FB hT hC ?_)
  refine ck_made FB hT hC ?_ hz
  show wpAny _ _ _ _ _ _
  have kk : ∀ b o, h.get? b = some o → ((h.push (PySem.W.kdv_tup args)).push (PySem.HandSPX.excO C h.objs.size)).get? b = some o := fun b o z => Heap.get?_push_of_some _ (Heap.get?_push_of_some _ z)
  have hC1 := kk _ _ hC
  have hnew : ((h.push (PySem.W.kdv_tup args)).push (PySem.HandSPX.excO C h.objs.size)).get? (h.objs.size + 1) = some (PySem.HandSPX.excO C h.objs.size) := by heap_get
  have hself : (Value.ref C :: bm).contains (.ref C) = true := by simp
  have look1 := hi.keeps kk
  have bind1 := (hb (.ref (h.objs.size + 1))).keeps kk
  unfold isInstance
  repeat (first
    | with_reducible refine wpAny_loadPart_at hnew ?_
    | (with_reducible refine wpAny_isSubtype_exc hC1 ?_; rw [hself])
    | wp_step)
  show wpAny _ _ (typeLookup (.ref C) _) _ _ _
  refine look1.at ?_
  refine wpAny_holding (wpAny_bind (bind1.at ?_))
  refine wpAny_bind (wpAny_call (codeAny_mono hq fun r s' z => ?_))
  rcases r with e | (v | _ | _ | _) <;> first | exact z | exact z.elim | skip
  obtain ⟨rfl, z⟩ := z
  first
    | exact wpAny_pure (wpAny_pure z)
    | (wp_walk; exact z)
theorem ck_tc {args : List Value} {kw : List (Str × Value)} {Q : Unit → Shared → Prop} (hC : h.get? C = some (excClassObj nm q C N bs bm hdct sn sub ab col dd k0 k1 k2 k3 k5 newId))
    (hq : Q () ⟨h, g, d, t, os⟩) : wpAny M A (checkBuiltinCall "type.__call__" ⟨.ref C :: args, kw⟩) Q E ⟨h, g, d, t, os⟩ := by
  have z1 := tc_sub
  have z2 : (⟨h, g, d, t, os⟩ : Shared).TypeIs (.ref C) "type" := ⟨_, hC, rfl⟩
  simp only [checkBuiltinCall, tc_kind, tc_split]
  repeat (any_goals (first
    | assumption
    | with_reducible refine wpAny_loadPart_at hC ?_
    | with_reducible refine wpAny_onRaise ?_
    | with_reducible refine wpAny_map ?_
    | wp_step))
theorem ck_call (FB : ExcBaseFacts B newId initId bmB) (hT : ∀ Y : String, bm.contains (.type Y) = bmB.contains (.type Y)) {args : List Value} {kw : List (Str × Value)} {fI : Addr}
    (hC : h.get? C = some (excClassObj nm q C N bs bm hdct sn sub ab col dd k0 k1 k2 k3 k5 newId))
    (hi : PySem.W.Looks (model prog w) h (typeLookup (.ref C) "__init__") (some (.ref fI))) (hb : ∀ self, PySem.W.Looks (model prog w) h (bindSpecial (.ref fI) self) (.ref fI, [self])) (hz : args.length ≤ sizeLine)
    (hq : codeAny (model prog w) (A.under (.builtin "type.__call__" ⟨.ref C :: args, kw⟩)) (.call (.ref fI) ⟨.ref (h.objs.size + 1) :: args, kw⟩) (PySem.W.InitBack (h.objs.size + 1) R)
      ⟨(h.push (PySem.W.kdv_tup args)).push (PySem.HandSPX.excO C h.objs.size), g, d, t, os⟩) :
    codeAny (model prog w) A (.call (.ref C) ⟨args, kw⟩) R ⟨h, g, d, t, os⟩ := by
  have z1 := tc_lookup
  have z2 := tc_bind (.ref C)
  have z3 : (⟨h, g, d, t, os⟩ : Shared).TypeIs (.ref C) "type" := ⟨_, hC, rfl⟩
  refine codeAny_of_tree ?_
  show wpAny _ _ (callAny (.ref C) _) _ _ _
  repeat (any_goals (first | assumption | with_reducible refine wpAny_loadPart_at hC ?_ | wp_step))
  refine ⟨rfl, ?_⟩
  refine codeAny_call_builtin_at (Code.quiet_builtin _ (by decide +kernel)) entry_typeCall (ck_tc hC (ck_type FB hT hC hi hb hz ?_))
  refine codeAny_mono hq fun r s' z => ?_
  rcases r with e | (v | _ | _ | _) <;> exact z
end

section
variable {X : Cx} {CX : CXT} {k n : Nat} {C fI : Addr} {fd : FuncData} {ps ks : List Str} {sp : Sp} {E : XK} {x : Str} {p pos : Pos} {e : Expr} {es : List Expr} {kws : List Keyword} {ta tk : TA} {g : List Value → List Value → List Value} {gV : List V → List V → List V}
  {B newId initId : String} {bmB : List Value}
theorem run_xmk {pins : List (Addr × Obj)} {σ : L2.St} {H : Hp} {s : Shared} {Q : VK} {us ws : List Value} {vs zs : List V} (T : XC X.K C B newId initId bmB) (iC : PySem.W.findIn X.K (.ref C) "__init__" = some (some (.ref fI)))
    (tI : PySem.W.typeIn X.K (.ref fI) = some (.type "function")) (F : FnOk X.prog X.w X.K X.mg X.base CX k fI fd ps sp) (hr : Room (k + 1) X.A) (hb : KBn X.K fd ps (n + 1) ks g gV) (hx : Passes CX X E)
    (I : Inv X pins σ H s) (r : Vals vs us) (rz : Vals zs ws) (l1 : vs.length = n) (l2 : zs.length = ks.length) (hn : n ≤ 1000)
    (h : ∀ a, H a = none → sp (gV (.ref a :: vs) zs) (upd H a (exo a C none)) (fun v H2 => v = .non ∧ Q (.ref a) H2) E) :
    wpAny (model X.prog X.w) X.A (call (.ref C) us (ks.zip ws)) (EP X pins σ Q) X.xe s := by
  obtain ⟨nm, N, qn, bs, bm, hdct, sn, sub, ab, col, dd, k0, k1, k2, k3, k5, hC, hT⟩ := PySem.W.excInit_of I.kIn T.ini
  obtain ⟨hp, gg, dr, tk, os⟩ := s
  have hsz : hp.objs.size ≤ hp.objs.size + 1 := Nat.le_succ _
  have hq := h (hp.objs.size + 1) (I.hok.fresh hsz)
  have kk : ∀ b o, hp.get? b = some o → ((hp.push (PySem.W.kdv_tup us)).push (PySem.HandSPX.excO C hp.objs.size)).get? b = some o := fun b o z => Heap.get?_push_of_some _ (Heap.get?_push_of_some _ z)
  have hnew : ((hp.push (PySem.W.kdv_tup us)).push (PySem.HandSPX.excO C hp.objs.size)).get? (hp.objs.size + 1) = some (PySem.HandSPX.excO C hp.objs.size) := by heap_get
  have I2 : Inv X pins σ (upd H (hp.objs.size + 1) (exo (hp.objs.size + 1) C none)) ⟨(hp.push (PySem.W.kdv_tup us)).push (PySem.HandSPX.excO C hp.objs.size), gg, dr, tk, os⟩ :=
    I.laid (t' := tk) (o := exo (hp.objs.size + 1) C none) kk hsz (exo_ok hnew)
  have r2 : Vals (V.ref (hp.objs.size + 1) :: vs) (Value.ref (hp.objs.size + 1) :: us) := .cons rfl r
  have r3 := hb.rel r2 rz
  have hus : us.length ≤ sizeLine := by
    rw [← Paired.length r, sizeLine_eq]
    omega
  refine wpAny_call (ck_call T.fb hT hC (PySem.W.looks_findIn I.kIn iC) (fun self => PySem.W.bind_fn I.kIn self tI) hus
    (codeAny_mono (F.run _ X.stack _ _ ⟨Value.ref (hp.objs.size + 1) :: us, ks.zip ws⟩ (g (Value.ref (hp.objs.size + 1) :: us) ws) _ _ E (hr.make C us (ks.zip ws)) (I2.env0.make C us (ks.zip ws))
      (hb.to _ (Value.ref (hp.objs.size + 1) :: us) ws I2.kIn (r2.length.symm.trans (congrArg Nat.succ l1)) (rz.length.symm.trans l2)) r3 hq) fun r s' hq' => ?_))
  cases r with
  | error er => exact hx pins σ _ _ er s' I2 hq'
  | ok fl =>
    cases fl with
    | ret u =>
      obtain ⟨v, H', I3, rv, ev, q3⟩ := I2.after hq'
      subst ev
      exact ⟨rv, V.ref (hp.objs.size + 1), H', I3, rfl, q3⟩
    | next => exact False.elim hq'
    | brk => exact False.elim hq'
    | cont => exact False.elim hq'
/-- C(e, ..) -/
theorem pe_xmk (T : XC X.K C B newId initId bmB) (iC : PySem.W.findIn X.K (.ref C) "__init__" = some (some (.ref fI))) (tI : PySem.W.typeIn X.K (.ref fI) = some (.type "function"))
    (F : FnOk X.prog X.w X.K X.mg X.base CX k fI fd ps sp) (hr : Room (k + 1) X.A) (hg : Gl X x) (hm : X.mg x = some (.ref C)) (hb : KBn X.K fd ps (n + 1) [] g gV) (hx : Passes CX X E) (ha : PA X (e :: es) ta)
    (hdb : (x == ("__debug__" : Str)) = false := by decide) (he : starEach (e :: es) X.env = (false, eval e X.env) :: starEach es X.env := by rfl) (hpl : (backTo pos (starEach es X.env)).any (·.1) = false := by rfl) :
    PE X (.Call (.Name x p) (e :: es) [] pos) (tXmk C n 0 sp E gV ta tNil) := by
  refine ⟨fun pins s σ H Q I h => ?_⟩
  refine wpAny_Call_Name_kw (ld_glob I hg hm ?_ hdb)
  exact PySem.W.callWith_K (h₀ := X.base) I.ok.mod.kin T.kp (thn (ha.run pos pins s σ H _ I h) fun us s1 ⟨vs, H1, I1, r, l1, l2, hn, q⟩ => ⟨I1.kIn, run_xmk (ws := []) (zs := []) T iC tI F hr hb hx I1 r .nil l1 l2 hn q⟩) he hpl
/-- C() -/
theorem pe_xmk0 (T : XC X.K C B newId initId bmB) (iC : PySem.W.findIn X.K (.ref C) "__init__" = some (some (.ref fI))) (tI : PySem.W.typeIn X.K (.ref fI) = some (.type "function"))
    (F : FnOk X.prog X.w X.K X.mg X.base CX k fI fd ps sp) (hr : Room (k + 1) X.A) (hg : Gl X x) (hm : X.mg x = some (.ref C)) (hb : KBn X.K fd ps (0 + 1) [] g gV) (hx : Passes CX X E)
    (hdb : (x == ("__debug__" : Str)) = false := by decide) : PE X (.Call (.Name x p) [] [] pos) (tXmk C 0 0 sp E gV tNil tNil) := by
  refine ⟨fun pins s σ H Q I h => ?_⟩
  refine wpAny_Call_Name_kw (ld_glob I hg hm ?_ hdb)
  obtain ⟨l1, l2, hn, q⟩ := h
  exact PySem.W.callWith_K0 I.kIn T.kp (run_xmk (us := []) (vs := []) (ws := []) (zs := []) T iC tI F hr hb hx I .nil .nil l1 l2 hn q)
/-- C(k = v, ..) -/
theorem pe_xmkK (T : XC X.K C B newId initId bmB) (iC : PySem.W.findIn X.K (.ref C) "__init__" = some (some (.ref fI))) (tI : PySem.W.typeIn X.K (.ref fI) = some (.type "function"))
    (F : FnOk X.prog X.w X.K X.mg X.base CX k fI fd ps sp) (hr : Room (k + 1) X.A) (hg : Gl X x) (hm : X.mg x = some (.ref C)) (hb : KBn X.K fd ps (0 + 1) ks g gV) (hx : Passes CX X E) (hkw : PK X kws tk)
    (hall : (backToKw pos (keywordEach kws X.env)).all (·.1.isSome) = true := by rfl) (hks : (backToKw pos (keywordEach kws X.env)).filterMap (·.1) = ks := by rfl)
    (hdb : (x == ("__debug__" : Str)) = false := by decide) (hpl : ((backTo pos (starEach [] X.env)).any (·.1) || (backToKw pos (keywordEach kws X.env)).any (·.1.isNone)) = false := by rfl) :
    PE X (.Call (.Name x p) [] kws pos) (tXmk C 0 ks.length sp E gV tNil tk) := by
  refine ⟨fun pins s σ H Q I h => ?_⟩
  refine wpAny_Call_Name_kw (ld_glob I hg hm ?_ hdb)
  refine PySem.W.callWith_KW0 (h₀ := X.base) I.ok.mod.kin T.kp hall (thn (hkw.run pos pins s σ H _ I h) fun ws s1 ⟨zs, H1, I1, rz, l1, l2, hn, q⟩ => ⟨I1.kIn, ?_⟩) hpl
  rw [hks]
  exact run_xmk (us := []) (vs := []) T iC tI F hr hb hx I1 .nil rz l1 l2 hn q
end
end WXE

set_option Elab.async false
set_option linter.all false
set_option maxRecDepth 100000
set_option maxHeartbeats 2000000
/-! readings that only add objects: predicates of values, lists of them -/
namespace WLf
open PySem PySem.Spec L2 WEv WRd WXE
def Is (x : V) : HP V := fun v _ => v = x
def Fa : List (HP V) → List V → Hp → Prop
  | [], [], _ => True
  | P :: Ps, v :: vs, H => P v H ∧ Fa Ps vs H
  | _, _, _ => False
/-- a list object whose items are told -/
def LF (Ps : List (HP V)) : HP V := fun v H => ∃ p xs, v = .ref p ∧ H p = some (.lst xs) ∧ Fa Ps xs H
theorem Fa.len : ∀ {Ps : List (HP V)} {vs : List V} {H : Hp}, Fa Ps vs H → vs.length = Ps.length
  | [], [], _, _ => rfl
  | _ :: _, _ :: _, _, h => congrArg (· + 1) (Fa.len h.2)
  | [], _ :: _, _, h => h.elim
  | _ :: _, [], _, h => h.elim
theorem Fa.app : ∀ {Ps Qs : List (HP V)} {vs us : List V} {H : Hp}, Fa Ps vs H → Fa Qs us H → Fa (Ps ++ Qs) (vs ++ us) H
  | [], _, [], _, _, _, g => g
  | _ :: _, _, _ :: _, _, _, h, g => ⟨h.1, Fa.app h.2 g⟩
  | [], _, _ :: _, _, _, h, _ => h.elim
  | _ :: _, _, [], _, _, h, _ => h.elim
theorem Fa.get : ∀ {Ps : List (HP V)} {vs : List V} {H : Hp} {n : Nat} {P : HP V}, Fa Ps vs H → Ps[n]? = some P → ∃ v, vs[n]? = some v ∧ P v H
  | _ :: _, _ :: _, _, 0, _, h, e => ⟨_, rfl, by cases e; exact h.1⟩
  | _ :: _, _ :: _, _, n + 1, _, h, e => Fa.get (n := n) h.2 e
  | [], _ :: _, _, _, _, h, _ => h.elim
  | _ :: _, [], _, _, _, h, _ => h.elim
theorem Fa.is : ∀ {ys : List V} {vs : List V} {H : Hp}, Fa (ys.map Is) vs H → vs = ys
  | [], [], _, _ => rfl
  | _ :: _, _ :: _, _, h => by rw [show _ = _ from h.1, Fa.is h.2]
  | [], _ :: _, _, h => h.elim
  | _ :: _, [], _, h => h.elim
theorem mn_nil : Mn (Fa []) := fun vs H H' _ h => by
  cases vs with
  | nil => exact h
  | cons _ _ => exact h
theorem mn_cons {P : HP V} {Ps : List (HP V)} (m : Mn P) (ms : Mn (Fa Ps)) : Mn (Fa (P :: Ps)) := fun vs H H' s h => by
  cases vs with
  | nil => exact h
  | cons v vs => exact ⟨m _ _ _ s h.1, ms _ _ _ s h.2⟩
theorem Fa.cut : ∀ {Ps Qs : List (HP V)} {vs : List V} {H : Hp}, Fa (Ps ++ Qs) vs H → ∃ us ws, vs = us ++ ws ∧ Fa Ps us H ∧ Fa Qs ws H
  | [], _, vs, _, h => ⟨[], vs, rfl, trivial, h⟩
  | _ :: _, _, v :: vs, _, h => by
    obtain ⟨us, ws, e, h1, h2⟩ := Fa.cut h.2
    exact ⟨v :: us, ws, by rw [e]; rfl, ⟨h.1, h1⟩, h2⟩
  | _ :: _, _, [], _, h => h.elim
theorem mn_app {Ps Qs : List (HP V)} (ms : Mn (Fa Ps)) (mt : Mn (Fa Qs)) : Mn (Fa (Ps ++ Qs)) := fun vs H H' s h => by
  obtain ⟨us, ws, rfl, h1, h2⟩ := h.cut
  exact (ms _ _ _ s h1).app (mt _ _ _ s h2)
theorem mn_lf {Ps : List (HP V)} (m : Mn (Fa Ps)) : Mn (LF Ps) := fun _ _ _ s ⟨p, xs, e, h, q⟩ => ⟨p, xs, e, s _ _ h, m _ _ _ s q⟩
theorem mn_i {x : V} : Mn (Is x) := fun _ _ _ _ e => e
structure G (te : TE) (σ : L2.St) (H : Hp) (P : HP V) : Prop where
  ev : EvP te σ H P
  mn : Mn P
structure GA (ta : TA) (σ : L2.St) (H : Hp) (Ps : List (HP V)) : Prop where
  ev : EvA ta σ H (Fa Ps)
  mn : Mn (Fa Ps)
section
variable {K : PySem.W.Frag} {σ : L2.St} {H H' : Hp} {te ta tb td ty tv : TE} {tr : TA} {v x y : V} {vs : List V} {P Pa Pb : HP V} {Ps Qs : List (HP V)} {D : Ends} {n : Nat} {C : Addr} {f : Str} {B newId initId : String} {bmB : List Value}
theorem g_var {i : Nat} (h : σ[i]? = some (some v)) : G (tVar i) σ H (Is v) := ⟨p_var h, mn_i⟩
theorem g_varP {i : Nat} (h : σ[i]? = some (some v)) (p : P v H) (m : Mn P) : G (tVar i) σ H P := ⟨fun H1 s _ q => ⟨v, h, q _ H1 (Same.refl H1) (m _ _ _ s p)⟩, m⟩
theorem g_c : G (tC v) σ H (Is v) := ⟨p_c, mn_i⟩
theorem ga_nil : GA tNil σ H [] := ⟨fun H1 _ _ q => q _ H1 (Same.refl H1) trivial, mn_nil⟩
theorem ga_cons (h : G te σ H P) (g : GA tr σ H Ps) : GA (tCons te tr) σ H (P :: Ps) := ⟨fun H1 e Q q => h.ev H1 e _ fun x H2 s2 p2 => g.ev H2 (e.trans s2) _ fun xs H3 s3 p3 => q _ H3 (s2.trans s3) ⟨h.mn _ _ _ s3 p2, p3⟩, mn_cons h.mn g.mn⟩
theorem g_lst (h : GA tr σ H Ps) (hn : Ps.length ≤ 100000 := by exact Nat.le_of_ble_eq_true rfl) : G (tLst tr) σ H (LF Ps) := ⟨fun H1 e _ q =>
  h.ev H1 e _ fun xs H2 s2 p2 => ⟨by rw [p2.len]; exact Nat.le_trans hn (by decide), fun p hp => q _ _ (s2.trans (same_new hp)) ⟨p, xs, rfl, upd_same, h.mn _ _ _ (same_new hp) p2⟩⟩, mn_lf h.mn⟩
theorem g_cat (ha : G ta σ H (LF Ps)) (hb : G tb σ H (LF Qs)) (ma : Mn (Fa Ps)) (mb : Mn (Fa Qs)) (hn : Ps.length + Qs.length ≤ 100000 := by exact Nat.le_of_ble_eq_true rfl) : G (tOp rCat ta tb) σ H (LF (Ps ++ Qs)) := ⟨fun H1 e _ q =>
  ha.ev H1 e _ fun a H2 s2 pa => hb.ev H2 (e.trans s2) _ fun b H3 s3 pb => by
    obtain ⟨p, xs, rfl, hp, fa⟩ := ha.mn _ _ _ s3 pa
    obtain ⟨p', zs, rfl, hp', fb⟩ := pb
    refine ⟨p, p', xs, zs, rfl, rfl, hp, hp', by rw [fa.len, fb.len]; exact Nat.le_trans hn (by decide), fun r hr => q _ _ ((s2.trans s3).trans (same_new hr)) ⟨r, _, rfl, upd_same, (ma _ _ _ (same_new hr) fa).app (mb _ _ _ (same_new hr) fb)⟩⟩, mn_lf (mn_app ma mb)⟩
theorem g_asg {i : Nat} (h : G te σ H P) (k : ∀ v H1, Same H H1 → P v H1 → D.nx (σ.set i (some v)) H1) : tAsg te (gName i) D σ H := h.ev H (Same.refl H) _ k
theorem g_ret (h : G te σ H P) (k : ∀ v H1, Same H H1 → P v H1 → D.rt v H1) : tRet te D σ H := h.ev H (Same.refl H) _ k
/-- the n-th of a list -/
theorem g_ix {i : Nat} (h : σ[i]? = some (some v)) (p : LF Ps v H) (hn : Ps[n]? = some P) (m : Mn P) : G (tOp (rIxL K) (tVar i) (tC (.int (n : Int)))) σ H P := ⟨fun H1 e _ q => by
  obtain ⟨l, xs, rfl, hl, fa⟩ := p
  obtain ⟨x, hx, px⟩ := fa.get hn
  exact ⟨_, h, l, xs, n, x, rfl, rfl, .of (e _ _ hl), atI_nat hx, q _ H1 (Same.refl H1) (m _ _ _ e px)⟩, m⟩
/-! exceptions -/
def XN (C : Addr) : HP V := fun v H => ∃ e, v = .ref e ∧ H e = some (exo e C none)
def XF (C : Addr) (f : Str) (y : V) : HP V := fun v H => ∃ e dx, v = .ref e ∧ H e = some (exo e C (some dx)) ∧ H dx = some (exd dx [(f, y)])
theorem mn_xn : Mn (XN C) := fun _ _ _ s ⟨e, q, h⟩ => ⟨e, q, s _ _ h⟩
theorem mn_xf : Mn (XF C f y) := fun _ _ _ s ⟨e, dx, q, h, g⟩ => ⟨e, dx, q, s _ _ h, s _ _ g⟩
def spI0 (C : Addr) : Sp := fun vs H Q _ => ∃ a, vs = [.ref a] ∧ H a = some (exo a C none) ∧ Q .non H
def spI1 (C : Addr) (f : Str) : Sp := fun vs H Q _ => ∃ a y, vs = [.ref a, y] ∧ H a = some (exo a C none) ∧ ∀ dx, H dx = none → dx ≠ a → Q .non (upd (upd H dx (exd dx [(f, y)])) a (exo a C (some dx)))
theorem spI1_of {H : Hp} {a : Addr} {E : XK} {Q : VK} (ha : H a = none) (q : ∀ H2, Same H H2 → XF C f y (.ref a) H2 → Q (.ref a) H2) : spI1 C f [.ref a, y] (upd H a (exo a C none)) (fun v H3 => v = .non ∧ Q (.ref a) H3) E := by
  refine ⟨a, y, rfl, upd_same, fun dx hdx hne => ⟨rfl, q _ (fun b o e => ?_) ⟨a, dx, rfl, upd_same, ?_⟩⟩⟩
  · have h1 : b ≠ a := ne_of_none e ha
    have h2 : H dx = none := by rwa [upd_ne hne] at hdx
    rw [upd_ne h1, upd_ne (ne_of_none e h2), upd_ne h1]
    exact e
  · rw [upd_ne hne]
    exact upd_same
theorem g_mk1 {E : XK} (h : G te σ H (Is y)) : G (tXmk C 1 0 (spI1 C f) E (fun us _ => us) (tCons te tNil) tNil) σ H (XF C f y) := ⟨fun H1 e _ q =>
  h.ev H1 e _ fun x H2 s2 px => by
    obtain rfl : x = y := px
    exact ⟨rfl, rfl, by decide, fun a ha => spI1_of ha fun H3 s3 p3 => q _ _ (s2.trans s3) p3⟩, mn_xf⟩
theorem g_mkK {E : XK} (h : G te σ H (Is y)) : G (tXmk C 0 1 (spI1 C f) E (fun vs zs => vs ++ zs) tNil (tCons te tNil)) σ H (XF C f y) := ⟨fun H1 e _ q =>
  h.ev H1 e _ fun x H2 s2 px => by
    obtain rfl : x = y := px
    exact ⟨rfl, rfl, by decide, fun a ha => spI1_of ha fun H3 s3 p3 => q _ _ (s2.trans s3) p3⟩, mn_xf⟩
theorem g_mk0 {E : XK} : G (tXmk C 0 0 (spI0 C) E (fun us _ => us) tNil tNil) σ H (XN C) := ⟨fun H1 e _ q =>
  ⟨rfl, rfl, by decide, fun a ha => ⟨a, rfl, upd_same, rfl, q _ _ (same_new ha) ⟨a, rfl, upd_same⟩⟩⟩, mn_xn⟩
theorem g_fld (T : XC K C B newId initId bmB) (hn : PySem.W.findIn K (.ref C) f = some none) (h : G te σ H (XF C f y)) : G (tXfld K f te) σ H (Is y) := ⟨fun H1 e _ q =>
  h.ev H1 e _ fun x H2 s2 px => by
    obtain ⟨a, dx, rfl, h1, h2⟩ := px
    exact ⟨a, C, dx, [(f, y)], y, B, newId, initId, bmB, rfl, h1, h2, T, hn, by simp [List.lookup], q _ _ s2 rfl⟩, mn_i⟩
/-- isinstance(e, c), c a class or a type -/
theorem g_xis {a : Addr} {c : V} {cv : Value} {b : Bool} {i : Nat} (h : σ[i]? = some (some (.ref a))) (hx : XAt H a C) (T : XC K C B newId initId bmB) (hc : ∀ u, RelV c u → u = cv) (hk : PySem.W.kitOne K (.ref C) cv = some b) :
    G (tCB (rXis K) (tCons (tVar i) (tCons (tC c) tNil))) σ H (Is (.bl b)) := ⟨fun H1 e Q q => ⟨_, h, a, C, c, B, newId, initId, bmB, b, rfl, by
      rcases hx with hx | ⟨dx, fs, h1, h2⟩
      · exact .inl (e _ _ hx)
      · exact .inr ⟨dx, fs, e _ _ h1, e _ _ h2⟩, T, .inl ⟨cv, hc, hk⟩, q _ H1 (Same.refl H1) rfl⟩, mn_i⟩
theorem mv_xat (a : Addr) (H H' : Hp) (s : Same H H') (h : XAt H a C) : XAt H' a C := by
  rcases h with h | ⟨dx, fs, h1, h2⟩
  · exact .inl (s _ _ h)
  · exact .inr ⟨dx, fs, s _ _ h1, s _ _ h2⟩
theorem pe_globR {X : Cx} {x : Str} {a : Addr} {pos : Pos} (hg : Gl X x) (hm : X.mg x = some (.ref a)) (hd : (x == ("__debug__" : Str)) = false := by decide) : PE X (.Name x pos) (tC (.ref a)) := pe_glob hg hm rfl hd
theorem pe_bltnT {X : Cx} {x : Str} {n : String} {pos : Pos} (hg : Gl X x) (hm : X.mg x = none) (hv : bootBuiltins x = some (.type n)) (hn : x ≠ "__name__" := by decide) (hd : (x == ("__debug__" : Str)) = false := by decide) : PE X (.Name x pos) (tC (.ty n)) := pe_bltn (v := .ty n) hg hm hv rfl hn hd
theorem ref_cls {a : Addr} : ∀ u, RelV (.ref a) u → u = .ref a := fun _ h => h
theorem ty_cls {n : String} : ∀ u, RelV (.ty n) u → u = .type n := fun _ h => h
end
end WLf

set_option Elab.async false
set_option linter.all false
set_option maxRecDepth 100000
set_option maxHeartbeats 2000000
namespace WLf
open PySem PySem.Spec L2 WEv WRd WXE
theorem dpall_bls {K : PySem.W.Frag} {H : Hp} : ∀ bs : List Bool, DpAll K H (bs.map V.bl) (bs.map PyData.bool)
  | [] => .nil
  | b :: bs => .cons (.bl b) (dpall_bls bs)
theorem is_list {ys xs : List V} {H : Hp} (h : Fa (ys.map Is) xs H) : xs = ys := h.is
section
variable {K : PySem.W.Frag} {σ : L2.St} {H H' : Hp} {te ta tb td ty tv : TE} {tr : TA} {tt tu : TT} {v x y : V} {vs : List V} {P Pa Pb : HP V} {Ps Qs : List (HP V)} {D : Ends} {n : Nat} {b c : Bool}
theorem lf_dp {bs : List Bool} (h : LF ((bs.map V.bl).map Is) v H) : Dp K H v (.list (bs.map PyData.bool)) := by
  obtain ⟨p, xs, rfl, hp, fa⟩ := h
  obtain rfl := fa.is
  exact .lst (.of hp) (dpall_bls bs)
theorem mn_is {ys : List V} : Mn (Fa (ys.map Is)) := by
  induction ys with
  | nil => exact mn_nil
  | cons y ys ih => exact mn_cons mn_i ih
theorem et_ne {bs : List Bool} (ha : G ta σ H (LF ((bs.map V.bl).map Is))) (hb : G tb σ H (LF ((bs.map V.bl).map Is))) (hs : SeqAt.shaped (.list (bs.map PyData.bool)) = true) : EvT (tTest (tOp (rNeD K) ta tb)) σ H false := fun H1 e _ q =>
  ha.ev H1 e _ fun a H2 s2 pa => hb.ev H2 (e.trans s2) _ fun c H3 s3 pc => by
    refine ⟨_, _, lf_dp (ha.mn _ _ _ s3 pa), lf_dp pc, hs, hs, ?_⟩
    rw [SeqAt.eqv_refl _ (SeqAt.canLay_of_shaped hs)]
    exact ⟨false, rfl, q _ (s2.trans s3)⟩
theorem et_or0 (h : EvT tt σ H false) (g : EvT tu σ H b) : EvT (tOr tt tu) σ H b := fun H1 e Q q => h H1 e _ fun H2 s2 => g H2 (e.trans s2) _ fun H3 s3 => q _ (s2.trans s3)
theorem et_val (h : G te σ H (Is (.bl b))) : EvT (tB te) σ H b := fun H1 e Q q => h.ev H1 e _ fun x H2 s2 p => ⟨b, p, q _ s2⟩
theorem s_no {t u : TS} (h : EvT tt σ H false) (q : ∀ H1, Same H H1 → u D σ H1) : tIfS tt t u D σ H := h H (Same.refl H) _ fun H1 s => q H1 s
theorem s_yes {t u : TS} (h : EvT tt σ H true) (q : ∀ H1, Same H H1 → t D σ H1) : tIfS tt t u D σ H := h H (Same.refl H) _ fun H1 s => q H1 s
/-- [e for v in range(n)], e only read -/
theorem g_lcr {v : Nat} {m : Nat} (f : Nat → V) (hm : m ≤ 1000) (h : ∀ i H1, i < m → Same H H1 → Ev te ((σ.set v none).set v (some (.int ((0 : Int) + (i : Nat))))) H1 (f i)) :
    G (tLc (iRng1 (tCons (tC (.int (m : Int))) tNil)) (gName v) tYes te [v]) σ H (LF (((List.range m).map f).map Is)) := by
  refine ⟨fun H1 e Q q => ?_, mn_lf mn_is⟩
  refine ⟨m, rfl, by omega, by omega, fun D hD => ?_⟩
  show ∃ W, _
  refine lc_it (walk_range (lo := 0) (n := m)) (fun i H' => Same H1 H' ∧ H' D = some (.lst ((List.range i).map f))) ⟨same_new hD, upd_same⟩ (fun _ _ _ _ => trivial) (fun i x H2 H3 hi p y => ?_) (fun H2 p => ?_)
  · obtain ⟨s2, hd⟩ := p
    obtain ⟨rfl, rfl⟩ := y
    refine ⟨(List.set_set ..).trans (List.set_set ..), ?_⟩
    refine h i _ hi (e.trans s2) _ ⟨_, hd, ?_, same_put s2 hD, ?_⟩
    · rw [List.length_map, List.length_range]
      exact Nat.lt_of_lt_of_le hi (Nat.le_trans hm (by decide))
    · rw [upd_same, List.range_succ, List.map_append]
      rfl
  · exact q _ _ p.1 ⟨D, _, rfl, p.2, by
      have : ∀ ys : List V, Fa (ys.map Is) ys H2 := fun ys => by
        induction ys with
        | nil => trivial
        | cons y ys ih => exact ⟨rfl, ih⟩
      exact this _⟩
theorem g_eq {xs ys : List V} (h : G te σ H (LF (xs.map Is))) (e : xs = ys) : G te σ H (LF (ys.map Is)) := e ▸ h
theorem ty2 {n1 n2 : String} : ∀ us, Vals [V.ty n1, V.ty n2] us → us = [.type n1, .type n2] := fun us r => by
  cases r with
  | cons r1 r =>
    cases r with
    | cons r2 r =>
      cases r
      cases r1
      cases r2
      rfl
/-- isinstance(e, (T1, T2)) -/
theorem g_xis2 {a C : Addr} {n1 n2 B newId initId : String} {bmB : List Value} {b : Bool} {i : Nat} (h : σ[i]? = some (some (.ref a))) (hx : XAt H a C) (T : XC K C B newId initId bmB) (hk : PySem.W.kitAny K (.ref C) [.type n1, .type n2] = some b) :
    G (tCB (rXis K) (tCons (tVar i) (tCons (tTup (tCons (tC (.ty n1)) (tCons (tC (.ty n2)) tNil))) tNil))) σ H (Is (.bl b)) := ⟨fun H1 e Q q => ⟨_, h, (by decide : 2 ≤ sizeLine), fun p hp => ⟨a, C, .ref p, B, newId, initId, bmB, b, rfl, mv_xat a _ _ (same_new hp) (mv_xat a _ _ e hx), T, .inr ⟨p, _, rfl, upd_same, fun us r => by rw [ty2 us r]; exact hk⟩, q _ _ (same_new hp) rfl⟩⟩, mn_i⟩
theorem g_imp (h : G te σ H P) (k : ∀ v H, P v H → Pa v H) (m : Mn Pa) : G te σ H Pa := ⟨h.ev.imp k, m⟩
theorem ev_g (h : ∀ H1, Same H H1 → Ev te σ H1 v) : G te σ H (Is v) := ⟨fun H1 e Q q => h H1 e _ (q _ H1 (Same.refl H1) rfl), mn_i⟩
/-- a call that only adds objects -/
theorem g_call1 {sp : Sp} {E : XK} (ha : G ta σ H (Is x)) (hs : ∀ H1, Same H H1 → ∀ Q : VK, (∀ v H2, Same H1 H2 → P v H2 → Q v H2) → sp [x] H1 Q E) (m : Mn P) : G (tCall sp [] E (tCons ta tNil)) σ H P := ⟨fun H1 e Q q =>
  ha.ev H1 e _ fun a H2 s2 pa => by
    obtain rfl : a = x := pa
    exact hs H2 (e.trans s2) _ fun v H3 s3 p3 => q _ _ (s2.trans s3) p3, m⟩
end
end WLf

set_option Elab.async false
set_option linter.all false
set_option maxRecDepth 100000
set_option maxHeartbeats 4000000
namespace W48
open PySem PySem.Spec PyProof.Rows L2 WXG WEv WRd WLf WEn WZs WRu WSt StX WDc
/-! ### the source of draws -/
def src (s : Addr) (k l c f : Int) : List (Key × V) := [(Sum.inr "script", .ref s), (Sum.inr "at", .int k), (Sum.inr "left", .int l), (Sum.inr "count", .int c), (Sum.inr "first", .int f)]
theorem v_script {s : Addr} {k l c f : Int} : valV (src s k l c f) (Sum.inr "script") = some (.ref s) := rfl
theorem v_at {s : Addr} {k l c f : Int} : valV (src s k l c f) (Sum.inr "at") = some (.int k) := rfl
theorem v_left {s : Addr} {k l c f : Int} : valV (src s k l c f) (Sum.inr "left") = some (.int l) := rfl
theorem v_count {s : Addr} {k l c f : Int} : valV (src s k l c f) (Sum.inr "count") = some (.int c) := rfl
theorem v_first {s : Addr} {k l c f : Int} : valV (src s k l c f) (Sum.inr "first") = some (.int f) := rfl
theorem p_at {s : Addr} {k l c f x : Int} : putK (src s k l c f) (Sum.inr "at") (.int x) = src s x l c f := rfl
theorem p_left {s : Addr} {k l c f x : Int} : putK (src s k l c f) (Sum.inr "left") (.int x) = src s k x c f := rfl
theorem p_count {s : Addr} {k l c f x : Int} : putK (src s k l c f) (Sum.inr "count") (.int x) = src s k l x f := rfl
theorem p_first {s : Addr} {k l c f x : Int} : putK (src s k l c f) (Sum.inr "first") (.int x) = src s k l c x := rfl
/-- the source at m: it has drawn at most a times, and given c names -/
def SrcAt (K : PySem.W.Frag) (S : Addr × List Int × Int) (H : Hp) (m : Addr) (a c : Nat) : Prop := ∃ (s : Addr) (cs : List Int) (k l f : Int), H m = some (.dK (src s k l c f)) ∧ SqL K H s (cs.map V.int) ∧ cs.length ≤ 1000 ∧ 0 ≤ k ∧ k ≤ a ∧ (s, cs, f) = S
/-- all but what stands at m is as it was -/
def But (m : Addr) (H H' : Hp) : Prop := ∀ b o, H b = some o → b ≠ m → H' b = some o
theorem But.refl {m : Addr} {H : Hp} : But m H H := fun _ _ h _ => h
theorem But.trans {m : Addr} {H H' H'' : Hp} (h : But m H H') (g : But m H' H'') : But m H H'' := fun b o e n => g b o (h b o e n) n
theorem But.put {m : Addr} {H H' : Hp} {x : HO} (h : But m H H') : But m H (upd H' m x) := fun b o e n => by rw [upd_ne n]; exact h b o e n
theorem But.new {m p : Addr} {H H' : Hp} {x : HO} (h : But m H H') (hp : H' p = none) : But m H (upd H' p x) := fun b o e n => by
  have := h b o e n
  rw [upd_ne (fun z => by rw [z, hp] at this; cases this)]
  exact this
theorem But.seq {K : PySem.W.Frag} {m s : Addr} {H H' : Hp} {kvs : List (Key × V)} {xs : List V} (h : But m H H') (hm : H m = some (.dK kvs)) (q : SqL K H s xs) : SqL K H' s xs := by
  rcases q with (q | ⟨o, q⟩) | q
  · exact .inl (.inl (h _ _ q fun z => by rw [z, hm] at q; cases q))
  · exact .inl (.inr ⟨o, h _ _ q fun z => by rw [z, hm] at q; cases q⟩)
  · exact .inr q
theorem five {s : Addr} {k l c f : Int} : (src s k l c f).length < sizeLine := (by decide : 5 < sizeLine)
theorem fmod_nn {a b : Int} (h : 0 < b) : 0 ≤ a.fmod b ∧ a.fmod b < b := by
  rw [Int.fmod_eq_emod_of_nonneg a (Int.le_of_lt h)]
  exact ⟨Int.emod_nonneg a (by omega), Int.emod_lt_of_pos a h⟩
theorem st_any {te : TE} {σ : L2.St} {H : Hp} {D : Ends} {i : Nat} {R : V → Hp → Prop} (h : ∀ Q : VK, (∀ v H', R v H' → Q v H') → te σ H Q) (q : ∀ v H', R v H' → D.nx (σ.set i (some v)) H') : tAsg te (gName i) D σ H := h _ q
def spBegun (K : PySem.W.Frag) (S : Addr × List Int × Int) : Sp := fun vs H Q _ => vs = [.ref S.1] ∧ S.2.2 = 0 ∧ SqL K H S.1 (S.2.1.map V.int) ∧ S.2.1.length ≤ 1000 ∧ ∀ m H', H m = none → Same H H' → SrcAt K S H' m 0 0 → Q (.ref m) H'
def spNext (K : PySem.W.Frag) (S : Addr × List Int × Int) : Sp := fun vs H Q _ => ∃ (m : Addr) (b : Int) (a c : Nat), vs = [.ref m, .int b] ∧ 0 < b ∧ b ≤ 1000 ∧ SrcAt K S H m a c ∧ a ≤ 100000 ∧ ∀ r H', 0 ≤ r → r < b → But m H H' → SrcAt K S H' m (a + 1) c → Q (.int r) H'
section
variable {P : Program} {w : World} {K : PySem.W.Frag} {S : Addr × List Int × Int} {mg : Str → Option Value} {base : Heap}
theorem ok_begun (T : Env K mg) : FnOk P w K mg base CX0 1 (d_L_begun.loc K) T.fd_L_begun ["script"] (spBegun K S) := by
  refine T.F_L_begun.ok sc_L_begun (fun vs H Q E h => ?_) (fun cdv A outer s H vs Q E hr h => ?_)
  · obtain ⟨rfl, _⟩ := h
    rfl
  · have nd := sc_L_begun.nd
    have hu := hu_of hr
    obtain ⟨rfl, h00, hS, hl, k⟩ := h
    refine ⟨_, PSs.nox (pss_one (ps_ret (pe_disp (pps_cons pe_str (pv 0) (pps_cons pe_str pe_int (pps_cons pe_str pe_int (pps_cons pe_str pe_int (pps_cons pe_str pe_int pps_nil))))) (by rfl) (by rfl) (fun z => by cases z) (by decide)))), ?_⟩
    intro p hp
    have s1 : Same H (upd H p (.dK [])) := same_new hp
    refine ⟨_, rfl, upd_same, src S.1 0 0 0 0, rfl, (by decide : 5 ≤ 15), ?_⟩
    exact k p _ hp (same_put s1 hp) ⟨S.1, S.2.1, 0, 0, 0, upd_same, (same_put s1 hp).seq hS, hl, by decide, by decide, by rw [← h00]⟩
theorem ok_next (T : Env K mg) : FnOk P w K mg base CX0 1 (d_L_next.loc K) T.fd_L_next ["m", "total"] (spNext K S) := by
  refine T.F_L_next.ok sc_L_next (fun vs H Q E h => ?_) (fun cdv A outer s H vs Q E hr h => ?_)
  · obtain ⟨m, b, a, c, rfl, _⟩ := h
    rfl
  · have nd := sc_L_next.nd
    have hu := hu_of hr
    obtain ⟨m, b, a, c, rfl, hb0, hb1, hS, ha, k⟩ := h
    obtain ⟨s0, cs, kk, l, f, hm, hc, hlen, hk0, hka, hs0⟩ := hS
    refine ⟨_, PSs.nox (pss_cons (ps_if (pt_cmpR op_gt (pe_dget hu (pv 0) pe_str (fun _ _ => rfl)) pe_int (nomark _))
  (pss_cons (ps_set (i := 2) nd rfl (Or.inl rfl) (pe_op op_modN (pe_callTy call_int1 (by rfl) T.b_int (by decide +kernel) (pa_cons (pe_dget hu (pv 0) pe_str (fun _ _ => rfl)) pa_nil)) (pv 1)))
 (pss_cons (ps_dput hu (pv 0) pe_str (pe_op op_fdivN (pe_dget hu (pv 0) pe_str (fun _ _ => rfl)) (pv 1)) rfl)
 (pss_one (ps_ret (pv 2)))))
  pss_nil)
 (pss_cons (ps_set (i := 3) nd rfl (Or.inl rfl) (pe_dget hu (pv 0) pe_str (fun _ _ => rfl)))
 (pss_cons (ps_dput hu (pv 0) pe_str (pe_op op_add (pv 3) pe_int) rfl)
 (pss_cons (ps_set (i := 4) nd rfl (Or.inl rfl) (pe_ifExp (pt_cmpR (op_neN hr.units) (pe_dget hu (pv 0) pe_str (fun _ _ => rfl)) (pe_lst pa_nil) (nomark _)) (pe_ix (ixlK (K := K)) (pe_dget hu (pv 0) pe_str (fun _ _ => rfl)) (pe_op op_modN (pe_callTy call_int1 (by rfl) T.b_int (by decide +kernel) (pa_cons (pv 3) pa_nil)) (pe_callB call_len_seq (by rfl) T.b_len (by decide +kernel) (pa_cons (pe_dget hu (pv 0) pe_str (fun _ _ => rfl)) pa_nil))) (fun _ _ => rfl)) pe_int))
 (pss_cons (ps_if (PW.pt (pw_and (pt_cmpR op_ge (pv 4) (pe_op op_pow pe_int pe_int) (nomark _)) (pw_and1 (pt_cmpR op_lt (pv 3) (pe_callB call_len_seq (by rfl) T.b_len (by decide +kernel) (pa_cons (pe_dget hu (pv 0) pe_str (fun _ _ => rfl)) pa_nil)) (nomark _)))))
  (pss_cons (ps_dput hu (pv 0) pe_str (pe_op op_fdivN (pv 4) (pv 1)) rfl)
 (pss_one (ps_ret (pe_op op_modN (pe_callTy call_int1 (by rfl) T.b_int (by decide +kernel) (pa_cons (pv 4) pa_nil)) (pv 1)))))
  pss_nil)
 (pss_cons (ps_set (i := 5) nd rfl (Or.inl rfl) (pe_op op_add (pe_op op_mul (pe_op op_modN (pe_callTy call_int1 (by rfl) T.b_int (by decide +kernel) (pa_cons (pv 4) pa_nil)) pe_int) pe_int) (pe_op op_modN (pe_callTy call_int1 (by rfl) T.b_int (by decide +kernel) (pa_cons (pe_op op_fdivN (pv 4) pe_int) pa_nil)) pe_int)))
 (pss_cons (ps_set (i := 5) nd rfl (Or.inl rfl) (pe_op op_modN (pe_callTy call_int1 (by rfl) T.b_int (by decide +kernel) (pa_cons (pe_op op_add (pe_op op_add (pe_op op_add (pv 5) (pe_op op_mul (pe_op op_mul pe_int (pv 3)) (pv 3))) (pe_op op_mul pe_int (pv 3))) pe_int) pa_nil)) pe_int))
 (pss_cons (ps_set (i := 5) nd rfl (Or.inl rfl) (pe_op op_mul (pe_op op_modN (pe_callTy call_int1 (by rfl) T.b_int (by decide +kernel) (pa_cons (pe_op op_mul (pv 5) (pv 5)) pa_nil)) pe_int) pe_int))
 (pss_one (ps_ret (pe_op op_modN (pe_callTy call_int1 (by rfl) T.b_int (by decide +kernel) (pa_cons (pe_op op_fdivN (pe_op op_modN (pe_callTy call_int1 (by rfl) T.b_int (by decide +kernel) (pa_cons (pv 5) pa_nil)) pe_int) pe_int) pa_nil)) (pv 1)))))))))))), ?_⟩
    have fin : ∀ (z : Int) (H' : Hp) (k' l' : Int), H' m = some (.dK (src s0 k' l' c f)) → But m H H' → 0 ≤ k' → k' ≤ a + 1 → Q (.int (z.fmod b)) H' := by
      intro z H' k' l' hm' hb' h0 h1
      exact k _ _ (fmod_nn hb0).1 (fmod_nn hb0).2 hb' ⟨s0, cs, k', l', f, hm', hb'.seq hm hc, hlen, h0, by omega, hs0⟩
    refine st_if (evb_cmp (ev_dget (ev_var rfl) ev_c hm (k := Sum.inr "left") v_left) ev_c) ?_
    split
    · refine st_asg (ev_iI (ev_int1 (evl_cons (ev_dget (ev_var rfl) ev_c hm (k := Sum.inr "left") v_left) evl_nil)) (ev_var rfl) (by omega)) ?_
      refine st_dput (k := Sum.inr "left") (ev_iI (ev_dget (ev_var rfl) ev_c hm (k := Sum.inr "left") v_left) (ev_var rfl) ⟨by omega, by omega⟩) (ev_var rfl) ev_c hm five ?_
      rw [p_left]
      refine st_ret (ev_var rfl) ?_
      exact fin _ _ _ _ upd_same But.refl.put hk0 (by omega)
    · refine st_asg (ev_dget (ev_var rfl) ev_c hm (k := Sum.inr "at") v_at) ?_
      refine st_dput (k := Sum.inr "at") (ev_i0 (ev_var rfl) ev_c) (ev_var rfl) ev_c hm five ?_
      rw [p_at]
      have m1 : upd H m (.dK (src s0 (kk + 1) l c f)) m = some (.dK (src s0 (kk + 1) l c f)) := upd_same
      have B1 : But m H (upd H m (.dK (src s0 (kk + 1) l c f))) := But.refl.put
      generalize upd H m (.dK (src s0 (kk + 1) l c f)) = H1 at m1 B1 ⊢
      have s1 := B1.seq hm hc
      dsimp only
      show tAsg _ (gName 4) _ _ _
      refine st_any (R := fun v H2 => ∃ cell, v = .int cell ∧ H2 m = some (.dK (src s0 (kk + 1) l c f)) ∧ But m H H2) (fun Q' q' => ?_) (fun v H2 ⟨cell, hv, m2, B2⟩ => ?_)
      · refine ev_dget (ev_var rfl) ev_c m1 (k := Sum.inr "script") v_script _ ?_
        refine ⟨(by decide : 0 ≤ sizeLine), fun p hp => ?_⟩
        have mp : m ≠ p := fun z => by rw [← z, m1] at hp; cases hp
        have B2 : But m H (upd H1 p (.lst [])) := B1.new hp
        have m2 : upd H1 p (.lst []) m = some (.dK (src s0 (kk + 1) l c f)) := by rw [upd_ne mp]; exact m1
        have s2 := B2.seq hm hc
        refine ⟨s0, p, cs.map V.int, rfl, rfl, s2, .inl (.of upd_same), ?_⟩
        refine ⟨_, rfl, ?_⟩
        generalize upd H1 p (.lst []) = H2 at B2 m2 s2 ⊢
        by_cases he : cs.map V.int = []
        · rw [decide_eq_true he]
          exact q' _ _ ⟨0, rfl, m2, B2⟩
        · rw [decide_eq_false he]
          have hL : 0 < (cs.length : Int) := by
            cases cs with
            | nil => exact absurd rfl he
            | cons x xs => simp only [List.length_cons]; omega
          have fm := fmod_nn (a := kk) hL
          obtain ⟨cell, hcell⟩ : ∃ cell, cs[(kk.fmod cs.length).toNat]? = some cell := ⟨_, List.getElem?_eq_getElem (by omega)⟩
          have hat : atI (cs.map V.int) (kk.fmod ((cs.map V.int).length : Int)) = some (.int cell) := by
            rw [List.length_map]
            have := atI_nat (xs := cs.map V.int) (j := (kk.fmod cs.length).toNat) (v := .int cell) (by rw [List.getElem?_map, hcell]; rfl)
            rw [Int.toNat_of_nonneg fm.1] at this
            exact this
          refine ev_op (v := .int cell) (ev_dget (ev_var rfl) ev_c m2 (k := Sum.inr "script") v_script)
            (ev_iI (ev_int1 (evl_cons (ev_var rfl) evl_nil)) (ev_cb (vs := [.ref s0]) (v := .int ((cs.map V.int).length : Int)) (evl_cons (ev_dget (ev_var rfl) ev_c m2 (k := Sum.inr "script") v_script) evl_nil) fun Q q => ⟨s0, _, rfl, .inl s2, q⟩)
              (by rw [List.length_map]; omega)) (fun Q q => ⟨s0, _, _, _, rfl, rfl, s2, hat, q⟩) _ (q' _ _ ⟨cell, rfl, m2, B2⟩)
      · subst hv
        have s2 := B2.seq hm hc
        refine st_if (evb_and (evb_cmp (ev_var rfl) (ev_iI ev_c ev_c ⟨by decide, by decide, by decide⟩)) fun _ => evb_cmp (ev_var rfl)
          (ev_cb (vs := [.ref s0]) (v := .int ((cs.map V.int).length : Int)) (evl_cons (ev_dget (ev_var rfl) ev_c m2 (k := Sum.inr "script") v_script) evl_nil) fun Q q => ⟨s0, _, rfl, .inl s2, q⟩)) ?_
        split
        · refine st_dput (k := Sum.inr "left") (ev_iI (ev_var rfl) (ev_var rfl) ⟨by omega, by omega⟩) (ev_var rfl) ev_c m2 five ?_
          rw [p_left]
          refine st_ret (ev_iI (ev_int1 (evl_cons (ev_var rfl) evl_nil)) (ev_var rfl) (by omega)) ?_
          exact fin _ _ _ _ upd_same B2.put (by omega) (by omega)
        · have f1 := fmod_nn (a := cell) (b := 1000003) (by decide)
          refine st_asg (ev_i0 (ev_iI (ev_iI (ev_int1 (evl_cons (ev_var rfl) evl_nil)) ev_c (by decide)) ev_c (.inr (by decide))) (ev_iI (ev_int1 (evl_cons (ev_iI (ev_var rfl) ev_c ⟨by decide, by decide⟩) evl_nil)) ev_c (by decide))) ?_
          generalize cell.fmod 1000003 * 48271 + (cell.fdiv 1000003).fmod 1000003 = z1
          refine st_asg (ev_iI (ev_int1 (evl_cons (ev_i0 (ev_i0 (ev_i0 (ev_var rfl) (ev_iI (ev_iI ev_c (ev_var rfl) (.inl (by decide))) (ev_var rfl) (.inr ⟨by omega, by omega⟩))) (ev_iI ev_c (ev_var rfl) (.inl (by decide)))) ev_c) evl_nil)) ev_c (by decide)) ?_
          generalize z1 + 7919 * kk * kk + 104729 * kk + 61 = z2
          have f2 := fmod_nn (a := z2) (b := 2147483647) (by decide)
          generalize z2.fmod 2147483647 = z3 at f2 ⊢
          refine st_asg (ev_iI (ev_iI (ev_int1 (evl_cons (ev_iI (ev_var rfl) (ev_var rfl) (.inl ⟨by omega, by omega⟩)) evl_nil)) ev_c (by decide)) ev_c (.inr (by decide))) ?_
          refine st_ret (ev_iI (ev_int1 (evl_cons (ev_iI (ev_iI (ev_int1 (evl_cons (ev_var rfl) evl_nil)) ev_c (by decide)) ev_c ⟨by decide, by decide⟩) evl_nil)) (ev_var rfl) (by omega)) ?_
          exact fin _ _ _ _ m2 B2 (by omega) (by omega)
end
end W48

set_option Elab.async false
set_option linter.all false
set_option maxRecDepth 100000
set_option maxHeartbeats 4000000
namespace W48
open PySem PySem.Spec PyProof.Rows L2 WXG WEv WRd WLf WEn WZs WRu WSt StX WDc
/-! ### readings that draw -/
theorem SrcAt.new {K : PySem.W.Frag} {S : Addr × List Int × Int} {H : Hp} {m p : Addr} {a c : Nat} {x : HO} (h : SrcAt K S H m a c) (hp : H p = none) : SrcAt K S (upd H p x) m a c := by
  obtain ⟨s, cs, k, l, f, hm, hs, r⟩ := h
  have B : But m H (upd H p x) := But.refl.new hp
  exact ⟨s, cs, k, l, f, by rw [upd_ne (fun z => by rw [← z, hm] at hp; cases hp)]; exact hm, B.seq hm hs, r⟩
theorem SrcAt.mono {K : PySem.W.Frag} {S : Addr × List Int × Int} {H : Hp} {m : Addr} {a a' c : Nat} (h : SrcAt K S H m a c) (ha : a ≤ a') : SrcAt K S H m a' c := by
  obtain ⟨s, cs, k, l, f, hm, hs, h1, h2, h3, h4⟩ := h
  exact ⟨s, cs, k, l, f, hm, hs, h1, h2, by omega, h4⟩
theorem SrcAt.ne {K : PySem.W.Frag} {S : Addr × List Int × Int} {H : Hp} {m p : Addr} {a c : Nat} (h : SrcAt K S H m a c) (hp : H p = none) : p ≠ m := by
  obtain ⟨s, cs, k, l, f, hm, _⟩ := h
  exact fun z => by rw [z, hm] at hp; cases hp
abbrev VP := V → Hp → Prop
abbrev LP := List V → Hp → Prop
def MnB (m : Addr) (P : VP) : Prop := ∀ v H H', But m H H' → P v H → P v H'
def MnL (m : Addr) (P : LP) : Prop := ∀ v H H', But m H H' → P v H → P v H'
def Dr (K : PySem.W.Frag) (S : Addr × List Int × Int) (m : Addr) (te : TE) (σ : L2.St) (n d : Nat) (P : VP) : Prop := ∀ (a c : Nat) (H : Hp), SrcAt K S H m a c → a + n ≤ 100000 → c + d ≤ 100000 → ∀ Q : VK, (∀ v H', But m H H' → SrcAt K S H' m (a + n) (c + d) → P v H' → Q v H') → te σ H Q
def DrA (K : PySem.W.Frag) (S : Addr × List Int × Int) (m : Addr) (te : TA) (σ : L2.St) (n d : Nat) (P : LP) : Prop := ∀ (a c : Nat) (H : Hp), SrcAt K S H m a c → a + n ≤ 100000 → c + d ≤ 100000 → ∀ Q : List V → Hp → Prop, (∀ v H', But m H H' → SrcAt K S H' m (a + n) (c + d) → P v H' → Q v H') → te σ H Q
section
variable {K : PySem.W.Frag} {S : Addr × List Int × Int} {m : Addr} {σ : L2.St} {n d n' d' : Nat} {te ta tb : TE} {tr : TA} {P P' : VP} {Ps Ps' : LP}
theorem mb_pure {p : V → Prop} : MnB m (fun v _ => p v) := fun _ _ _ _ h => h
theorem dr_c {v : V} : Dr K S m (tC v) σ 0 0 (fun x _ => x = v) := fun a c H hS _ _ Q q => q v H But.refl hS rfl
theorem dr_var {i : Nat} {v : V} (h : σ[i]? = some (some v)) : Dr K S m (tVar i) σ 0 0 (fun x _ => x = v) := fun a c H hS _ _ Q q => ⟨v, h, q v H But.refl hS rfl⟩
theorem Dr.imp (h : Dr K S m te σ n d P) (k : ∀ v H, P v H → P' v H) : Dr K S m te σ n d P' := fun a c H hS h1 h2 Q q => h a c H hS h1 h2 Q fun v H' b s p => q v H' b s (k v H' p)
theorem DrA.imp (h : DrA K S m tr σ n d Ps) (k : ∀ v H, Ps v H → Ps' v H) : DrA K S m tr σ n d Ps' := fun a c H hS h1 h2 Q q => h a c H hS h1 h2 Q fun v H' b s p => q v H' b s (k v H' p)
theorem dra_nil : DrA K S m tNil σ 0 0 (fun x _ => x = []) := fun a c H hS _ _ Q q => q [] H But.refl hS rfl
theorem dra_cons (h : Dr K S m te σ n d P) (g : DrA K S m tr σ n' d' Ps) (mP : MnB m P) : DrA K S m (tCons te tr) σ (n + n') (d + d') (fun vs H => ∃ x xs, vs = x :: xs ∧ P x H ∧ Ps xs H) :=
  fun a c H hS h1 h2 Q q => h a c H hS (by omega) (by omega) _ fun x H1 b1 s1 p1 => g (a + n) (c + d) H1 s1 (by omega) (by omega) _ fun xs H2 b2 s2 p2 =>
    q (x :: xs) H2 (b1.trans b2) (by rw [← Nat.add_assoc, ← Nat.add_assoc]; exact s2) ⟨x, xs, rfl, mP _ _ _ b2 p1, p2⟩
theorem dr_lst (h : DrA K S m tr σ n d Ps) (hl : ∀ xs H, Ps xs H → xs.length ≤ 1000) (mP : MnL m Ps) : Dr K S m (tLst tr) σ n d (fun v H => ∃ l xs, v = .ref l ∧ H l = some (.lst xs) ∧ l ≠ m ∧ Ps xs H) :=
  fun a c H hS h1 h2 Q q => h a c H hS h1 h2 _ fun xs H1 b1 s1 p1 => ⟨Nat.le_trans (hl _ _ p1) (by decide), fun l hn => q (.ref l) _ (b1.new hn) (s1.new hn) ⟨l, xs, rfl, upd_same, s1.ne hn, mP _ _ _ (But.refl.new hn) p1⟩⟩
theorem dr_op0 {i j : Int → Prop} {g : Int → Int → V} (h : Dr K S m ta σ n d (fun v _ => ∃ x, v = .int x ∧ i x)) (h' : Dr K S m tb σ n' d' (fun v _ => ∃ x, v = .int x ∧ j x)) :
    Dr K S m (tOp (rI0 g) ta tb) σ (n + n') (d + d') (fun v _ => ∃ x y, v = g x y ∧ i x ∧ j y) :=
  fun a c H hS h1 h2 Q q => h a c H hS (by omega) (by omega) _ fun x H1 b1 s1 ⟨x', ex, px⟩ => h' (a + n) (c + d) H1 s1 (by omega) (by omega) _ fun y H2 b2 s2 ⟨y', ey, py⟩ =>
    ⟨x', y', ex, ey, q _ H2 (b1.trans b2) (by rw [← Nat.add_assoc, ← Nat.add_assoc]; exact s2) ⟨x', y', rfl, px, py⟩⟩
theorem dr_pure {te : TE} {p : V → Prop} (h : ∀ H (Q : VK), (∀ v, p v → Q v H) → te σ H Q) : Dr K S m te σ 0 0 (fun v _ => p v) := fun a c H hS _ _ Q q => h H Q fun v pv => q v H But.refl hS pv
theorem dr_next {b : Int} {E : XK} (h : DrA K S m tr σ n d (fun vs _ => vs = [.ref m, .int b])) (h0 : 0 < b) (hb : b ≤ 1000) : Dr K S m (tCall (spNext K S) [] E tr) σ (n + 1) d (fun v _ => ∃ r, v = .int r ∧ 0 ≤ r ∧ r < b) :=
  fun a c H hS h1 h2 Q q => h a c H hS (by omega) h2 _ fun vs H1 b1 s1 e => ⟨m, b, a + n, c + d, by rw [e]; rfl, h0, hb, s1, by omega, fun r H2 r0 r1 b2 s2 => q _ H2 (b1.trans b2) s2 ⟨r, rfl, r0, r1⟩⟩
theorem dra_mi {b : Int} (hm : σ[0]? = some (some (.ref m))) : DrA K S m (tCons (tVar 0) (tCons (tC (.int b)) tNil)) σ 0 0 (fun vs _ => vs = [.ref m, .int b]) :=
  (dra_cons (dr_var hm) (dra_cons dr_c dra_nil mb_pure) mb_pure).imp fun v H ⟨x, xs, e, ex, y, ys, e2, ey, e3⟩ => by subst e e2 ex ey e3; rfl
theorem dr_next' {b : Int} {E : XK} (hm : σ[0]? = some (some (.ref m))) (h0 : 0 < b) (hb : b ≤ 1000) : Dr K S m (tCall (spNext K S) [] E (tCons (tVar 0) (tCons (tC (.int b)) tNil))) σ 1 0 (fun v _ => ∃ r, v = .int r ∧ 0 ≤ r ∧ r < b) := dr_next (n := 0) (dra_mi hm) h0 hb
end
def spOf (K : PySem.W.Frag) (S : Addr × List Int × Int) : Sp := fun vs H Q _ => ∃ (m l : Addr) (xs : List V) (a c : Nat), vs = [.ref m, .ref l] ∧ H l = some (.lst xs) ∧ xs ≠ [] ∧ xs.length ≤ 1000 ∧ SrcAt K S H m a c ∧ a ≤ 100000 ∧ l ≠ m ∧
  ∀ v H', v ∈ xs → But m H H' → SrcAt K S H' m (a + 1) c → Q v H'
/-- the sign of the c-th name -/
def nmZ (f : Int) (c : Nat) : Nat := 97 + ((f + 5 * (c : Int)).fmod 26).toNat
def nmS (f : Int) (c : Nat) : Str := ⟨#[nmZ f c]⟩
theorem nmZ_in (f : Int) (c : Nat) : 97 ≤ nmZ f c ∧ nmZ f c ≤ 122 := by
  have fm := fmod_nn (a := f + 5 * (c : Int)) (b := 26) (by decide)
  unfold nmZ
  omega
theorem nm_inj {f : Int} {c d : Nat} (hc : c < 26) (hd : d < 26) (h : nmS f c = nmS f d) : c = d := by
  have h : nmZ f c = nmZ f d := by
    injection h with h
    injection h with h
    injection h
  have f1 := fmod_nn (a := f + 5 * (c : Int)) (b := 26) (by decide)
  have f2 := fmod_nn (a := f + 5 * (d : Int)) (b := 26) (by decide)
  unfold nmZ at h
  have e1 := Int.fmod_add_mul_fdiv (f + 5 * (c : Int)) 26
  have e2 := Int.fmod_add_mul_fdiv (f + 5 * (d : Int)) 26
  omega
def spName (K : PySem.W.Frag) (S : Addr × List Int × Int) : Sp := fun vs H Q _ => ∃ (m : Addr) (a c : Nat), vs = [.ref m] ∧ SrcAt K S H m a c ∧ c ≤ 25 ∧ ∀ H', But m H H' → SrcAt K S H' m a (c + 1) → Q (.str (nmS S.2.2 c)) H'
def spTicks (K : PySem.W.Frag) (S : Addr × List Int × Int) : Sp := fun vs H Q _ => ∃ (m : Addr) (a c : Nat), vs = [.ref m] ∧ SrcAt K S H m a c ∧ a + 4 ≤ 100000 ∧ c ≤ 100000 ∧ ∀ (i : Int) H', 0 ≤ i → i ≤ 1000 → But m H H' → SrcAt K S H' m (a + 4) c → Q (.int i) H'
section
variable {P : Program} {w : World} {K : PySem.W.Frag} {S : Addr × List Int × Int} {mg : Str → Option Value} {base : Heap}
theorem ok_of (T : Env K mg) : FnOk P w K mg base CX0 2 (d_L_of.loc K) T.fd_L_of ["m", "items"] (spOf K S) := by
  have G_L_next : FnOk P w K mg base CX0 1 _ _ _ _ := ok_next (S := S) T
  refine T.F_L_of.ok sc_L_of (fun vs H Q E h => ?_) (fun cdv A outer s H vs Q E hr h => ?_)
  · obtain ⟨m, l, xs, a, c, rfl, _⟩ := h
    rfl
  · have nd := sc_L_of.nd
    have hu := hu_of hr
    obtain ⟨m, l, xs, a, c, rfl, hl, hne, hlen, hS, ha, hlm, k⟩ := h
    refine ⟨_, PSs.nox (pss_one (ps_ret (pe_ix (ixlK (K := K)) (pv 1) (pe_call G_L_next (hr.mono (by decide)) (by rfl) T.g__law_next T.F_L_next.kp T.bi_L_next .nil pass0 (pa_cons (pv 0) (pa_cons (pe_callB call_len_seq (by rfl) T.b_len (by decide +kernel) (pa_cons (pv 1) pa_nil)) pa_nil))) (fun _ _ => rfl)))), ?_⟩
    have hx : 0 < xs.length := List.length_pos_iff.mpr hne
    refine ⟨.ref l, rfl, .ref m, rfl, .ref l, rfl, l, xs, rfl, .inl (.inl (.of hl)), ?_⟩
    refine ⟨m, (xs.length : Int), a, c, rfl, by omega, by omega, hS, ha, fun r H' h0 h1 hb hS' => ?_⟩
    obtain ⟨v, hv⟩ : ∃ v, xs[r.toNat]? = some v := ⟨_, List.getElem?_eq_getElem (by omega)⟩
    have hat := atI_nat hv
    rw [Int.toNat_of_nonneg h0] at hat
    exact ⟨l, xs, r, v, rfl, rfl, .inl (.of (hb _ _ hl hlm)), hat, k v H' (List.mem_of_getElem? hv) hb hS'⟩
theorem ok_name (T : Env K mg) : FnOk P w K mg base CX0 1 (d_L_name.loc K) T.fd_L_name ["m"] (spName K S) := by
  refine T.F_L_name.ok sc_L_name (fun vs H Q E h => ?_) (fun cdv A outer s H vs Q E hr h => ?_)
  · obtain ⟨m, a, c, rfl, _⟩ := h
    rfl
  · have nd := sc_L_name.nd
    have hu := hu_of hr
    obtain ⟨m, a, c, rfl, hS, hc, k⟩ := h
    obtain ⟨s0, cs, kk, l, f, hm, hs, hlen, hk0, hka, hS0⟩ := hS
    refine ⟨_, PSs.nox (pss_cons (ps_set (i := 1) nd rfl (Or.inl rfl) (pe_dget hu (pv 0) pe_str (fun _ _ => rfl)))
 (pss_cons (ps_dput hu (pv 0) pe_str (pe_op op_add (pv 1) pe_int) rfl)
 (pss_one (ps_ret (pe_op op_add_str (pe_ix ix_str pe_str (pe_op op_modN (pe_callTy call_int1 (by rfl) T.b_int (by decide +kernel) (pa_cons (pe_op op_add (pe_dget hu (pv 0) pe_str (fun _ _ => rfl)) (pe_op op_mul pe_int (pv 1))) pa_nil)) pe_int) (fun _ _ => rfl)) (pe_op op_mulS pe_str (pe_op op_fdivN (pv 1) pe_int))))))), ?_⟩
    refine st_asg (ev_dget (ev_var rfl) ev_c hm (k := Sum.inr "count") v_count) ?_
    refine st_dput (k := Sum.inr "count") (ev_i0 (ev_var rfl) ev_c) (ev_var rfl) ev_c hm five ?_
    rw [p_count]
    have m1 : upd H m (.dK (src s0 kk l (↑c + 1) f)) m = some (.dK (src s0 kk l (↑c + 1) f)) := upd_same
    have B1 : But m H (upd H m (.dK (src s0 kk l (↑c + 1) f))) := But.refl.put
    generalize upd H m (.dK (src s0 kk l (↑c + 1) f)) = H1 at m1 B1 ⊢
    have fm := fmod_nn (a := f + 5 * (c : Int)) (b := 26) (by decide)
    have hz : (Str.ofString "abcdefghijklmnopqrstuvwxyz").cps.toList[((f + 5 * (c : Int)).fmod 26).toNat]? = some (nmZ f c) := by
      have : ∀ j, j < 26 → (Str.ofString "abcdefghijklmnopqrstuvwxyz").cps.toList[j]? = some (97 + j) := by
        intro j hj
        have := (by decide +kernel : ∀ j : Fin 26, (Str.ofString "abcdefghijklmnopqrstuvwxyz").cps.toList[j.val]? = some (97 + j.val))
        exact this ⟨j, hj⟩
      exact this _ (by omega)
    have hat := atI_nat hz
    rw [Int.toNat_of_nonneg fm.1] at hat
    have hf : f = S.2.2 := by rw [← hS0]
    have e0 : Int.fdiv (c : Int) 26 = ((0 : Nat) : Int) := by
      rw [Int.fdiv_eq_ediv_of_nonneg _ (by decide)]
      omega
    dsimp only
    show tRet _ _ _ _
    refine st_ret (ev_op (x := .str (nmS f c)) (y := .str "") (v := .str (nmS f c)) ?_ ?_ fun Q q => ⟨_, _, rfl, rfl, (show 1 + 0 ≤ sizeLine by decide), q⟩) ?_
    · exact ev_op (v := .str (nmS f c)) ev_c (ev_iI (ev_int1 (evl_cons (ev_i0 (ev_dget (ev_var rfl) ev_c m1 (k := Sum.inr "first") v_first) (ev_iI ev_c (ev_var rfl) (.inl (by decide)))) evl_nil)) ev_c (by decide)) fun Q q => ⟨_, _, nmZ f c, rfl, rfl, (by decide), hat, q⟩
    · exact ev_op (v := .str "") ev_c (ev_iI (ev_var rfl) ev_c ⟨by omega, by decide⟩) fun Q q => ⟨"_", 0, rfl, congrArg V.int e0, by decide, by decide, q⟩
    have := k H1 B1 ⟨s0, cs, kk, l, f, m1, B1.seq hm hs, hlen, hk0, hka, hS0⟩
    rw [← hf] at this
    exact this
end
end W48

set_option Elab.async false
set_option linter.all false
set_option maxRecDepth 100000
set_option maxHeartbeats 4000000
namespace W48
open PySem PySem.Spec PyProof.Rows L2 WXG WEv WRd WLf WEn WZs WRu WSt StX WDc
section
variable {K : PySem.W.Frag} {S : Addr × List Int × Int} {m : Addr} {σ : L2.St} {n d n' d' k : Nat} {te ta tb : TE} {tr : TA} {p : V → Prop}
theorem dral_nil : DrA K S m tNil σ 0 0 (fun xs _ => xs.length = 0 ∧ ∀ x ∈ xs, p x) := dra_nil.imp fun v H e => by subst e; exact ⟨rfl, fun x hx => absurd hx (by simp)⟩
theorem dral_cons (h : Dr K S m te σ n d (fun v _ => p v)) (g : DrA K S m tr σ n' d' (fun xs _ => xs.length = k ∧ ∀ x ∈ xs, p x)) : DrA K S m (tCons te tr) σ (n + n') (d + d') (fun xs _ => xs.length = k + 1 ∧ ∀ x ∈ xs, p x) :=
  (dra_cons h g mb_pure).imp fun v H ⟨x, xs, e, px, hl, hp⟩ => by
    subst e
    refine ⟨by rw [List.length_cons, hl], fun y hy => ?_⟩
    rcases List.mem_cons.mp hy with e | hy
    · rw [e]; exact px
    · exact hp y hy
theorem ml_pure {p : List V → Prop} : MnL m (fun v _ => p v) := fun _ _ _ _ h => h
theorem dr_ev {v : V} (h : ∀ H, Ev te σ H v) (hp : p v) : Dr K S m te σ 0 0 (fun v _ => p v) := fun a c H hS _ _ Q q => h H Q (q v H But.refl hS hp)
theorem st_retD {a c : Nat} {H : Hp} {D : Ends} {P : VP} (h : Dr K S m te σ n d P) (hS : SrcAt K S H m a c) (h1 : a + n ≤ 100000) (h2 : c + d ≤ 100000) (q : ∀ v H', But m H H' → SrcAt K S H' m (a + n) (c + d) → P v H' → D.rt v H') : tRet te D σ H := h a c H hS h1 h2 _ q
theorem st_asgD {a c i : Nat} {H : Hp} {D : Ends} {P : VP} (h : Dr K S m te σ n d P) (hS : SrcAt K S H m a c) (h1 : a + n ≤ 100000) (h2 : c + d ≤ 100000) (q : ∀ v H', But m H H' → SrcAt K S H' m (a + n) (c + d) → P v H' → D.nx (σ.set i (some v)) H') : tAsg te (gName i) D σ H := h a c H hS h1 h2 _ q
theorem dr_ix {b : Int} {k : Nat} (h : Dr K S m ta σ n d (fun v H => ∃ l xs, v = .ref l ∧ H l = some (.lst xs) ∧ l ≠ m ∧ xs.length = k ∧ ∀ x ∈ xs, p x)) (g : Dr K S m tb σ n' d' (fun v _ => ∃ r, v = .int r ∧ 0 ≤ r ∧ r < b)) (hb : b ≤ k) : Dr K S m (tOp (rIxL K) ta tb) σ (n + n') (d + d') (fun v _ => p v) :=
  fun a c H hS h1 h2 Q q => h a c H hS (by omega) (by omega) _ fun v H1 b1 s1 ⟨l, xs, ev, hl, hlm, hlen, hp⟩ => g (a + n) (c + d) H1 s1 (by omega) (by omega) _ fun u H2 b2 s2 ⟨r, eu, h0, h1'⟩ => by
    subst ev eu
    obtain ⟨v, hv⟩ : ∃ v, xs[r.toNat]? = some v := ⟨_, List.getElem?_eq_getElem (by omega)⟩
    have hat := atI_nat hv
    rw [Int.toNat_of_nonneg h0] at hat
    exact ⟨l, xs, r, v, rfl, rfl, .inl (.of (b2 _ _ hl hlm)), hat, q v H2 (b1.trans b2) (by rw [← Nat.add_assoc, ← Nat.add_assoc]; exact s2) (hp v (List.mem_of_getElem? hv))⟩
theorem dr_int {z : Int} : Dr K S m (tC (.int z)) σ 0 0 (fun v _ => ∃ x, v = .int x ∧ x = z) := dr_ev (fun H => ev_c) ⟨z, rfl, rfl⟩
end
/-- 0 .. 10 ** 9 -/
def TkV (v : V) : Prop := ∃ i : Int, v = .int i ∧ 0 ≤ i ∧ i ≤ 1000
def LimV (v : V) : Prop := v = .non ∨ TkV v
section
variable {P : Program} {w : World} {K : PySem.W.Frag} {S : Addr × List Int × Int} {mg : Str → Option Value} {base : Heap}
theorem ok_ticks (T : Env K mg) : FnOk P w K mg base CX0 2 (d_L_ticks.loc K) T.fd_L_ticks ["m"] (spTicks K S) := by
  have G_L_next : FnOk P w K mg base CX0 1 _ _ _ _ := ok_next (S := S) T
  refine T.F_L_ticks.ok sc_L_ticks (fun vs H Q E h => ?_) (fun cdv A outer s H vs Q E hr h => ?_)
  · obtain ⟨m, a, c, rfl, _⟩ := h
    rfl
  · have nd := sc_L_ticks.nd
    have hu := hu_of hr
    obtain ⟨m, a, c, rfl, hS, ha, hc, k⟩ := h
    refine ⟨_, PSs.nox (pss_one (ps_ret (pe_ix (ixlK (K := K)) (pe_lst (pa_cons pe_int (pa_cons pe_int (pa_cons pe_int (pa_cons (pe_call G_L_next (hr.mono (by decide)) (by rfl) T.g__law_next T.F_L_next.kp T.bi_L_next .nil pass0 (pa_cons (pv 0) (pa_cons pe_int pa_nil))) (pa_cons (pe_call G_L_next (hr.mono (by decide)) (by rfl) T.g__law_next T.F_L_next.kp T.bi_L_next .nil pass0 (pa_cons (pv 0) (pa_cons pe_int pa_nil))) (pa_cons (pe_call G_L_next (hr.mono (by decide)) (by rfl) T.g__law_next T.F_L_next.kp T.bi_L_next .nil pass0 (pa_cons (pv 0) (pa_cons pe_int pa_nil))) pa_nil))))))) (pe_call G_L_next (hr.mono (by decide)) (by rfl) T.g__law_next T.F_L_next.kp T.bi_L_next .nil pass0 (pa_cons (pv 0) (pa_cons pe_int pa_nil))) (fun _ _ => rfl)))), ?_⟩
    refine st_retD (n := 4) (d := 0) (dr_ix (n := 3) (d := 0) (n' := 1) (d' := 0) (k := 6) (b := 6) (p := TkV) (dr_lst (m := m) (K := K) (n := 3) (d := 0) (dral_cons (n := 0) (d := 0) (n' := 3) (d' := 0) (p := TkV) (dr_ev (fun H => ev_c) ⟨0, rfl, by decide, by decide⟩)
      (dral_cons (n := 0) (d := 0) (n' := 3) (d' := 0) (p := TkV) (dr_ev (fun H => ev_c) ⟨0, rfl, by decide, by decide⟩)
      (dral_cons (n := 0) (d := 0) (n' := 3) (d' := 0) (p := TkV) (dr_ev (fun H => ev_c) ⟨1, rfl, by decide, by decide⟩)
      (dral_cons (n := 1) (d := 0) (n' := 2) (d' := 0) ((dr_next' rfl (by decide) (by decide)).imp fun v H ⟨r, e, h0, h1⟩ => ⟨r, e, h0, by omega⟩)
      (dral_cons (n := 1) (d := 0) (n' := 1) (d' := 0) ((dr_next' rfl (by decide) (by decide)).imp fun v H ⟨r, e, h0, h1⟩ => ⟨r, e, h0, by omega⟩)
      (dral_cons (n := 1) (d := 0) (n' := 0) (d' := 0) ((dr_next' rfl (by decide) (by decide)).imp fun v H ⟨r, e, h0, h1⟩ => ⟨r, e, h0, by omega⟩)
      dral_nil)))))) (fun xs H q => by rw [q.1]; decide) ml_pure) (dr_next' rfl (by decide) (by decide)) (by decide)) hS (by omega) (by omega) fun v H1 b1 s1 hv => ?_
    obtain ⟨i, ei, hi0, hi1⟩ := hv
    subst ei
    exact k i H1 hi0 hi1 b1 s1
end
end W48

set_option Elab.async false
set_option linter.all false
set_option maxRecDepth 100000
set_option maxHeartbeats 2000000
/-! slices from behind, *= of ints, zip of lists of unequal lengths -/
namespace WSl
open PySem PySem.Spec PyProof.Rows L2
theorem ip_mul {X : Cx} : PIp X .Mult (rI CMul fun i j => .int (i * j)) := iop_mul
/-- xs[l::-1], l left out or -2 -/
def revV (xs : List V) : Option Int → Option (List V)
  | none => some xs.reverse
  | some i => if i = -2 then some (xs.take (xs.length - 1)).reverse else none
def tSlR (K : PySem.W.Frag) (te : TE) (tl ts : TO) : TE := fun σ H Q => te σ H fun x H1 => tl σ H1 fun l H2 => ts σ H2 fun y H3 => y = some (-1) ∧ ∃ a xs zs, x = .ref a ∧ SqL K H3 a xs ∧ revV xs l = some zs ∧ ∀ p, H3 p = none → Q (.ref p) (upd H3 p (.lst zs))
def revW (xs : List Value) : Option Int → List Value
  | none => xs.reverse
  | some _ => (xs.take (xs.length - 1)).reverse
theorem fm_congr {α : Type} {β : Type} {f g : α → Option β} : ∀ {l : List α}, (∀ x ∈ l, f x = g x) → l.filterMap f = l.filterMap g
  | [], _ => rfl
  | a :: l, h => by rw [List.filterMap_cons, List.filterMap_cons, h a List.mem_cons_self, fm_congr fun x hx => h x (List.mem_cons_of_mem _ hx)]
theorem pick_rev (xs : List Value) (l : Option Int) (h : l = none ∨ l = some (-2)) : slicePick xs.toArray l none (some (-1)) = (revW xs l).toArray := by
  rcases h with rfl | rfl
  · rw [PySem.W.krv_pick]
    rfl
  · have hb : sliceBounds (some (-2)) none (some (-1)) xs.length = (max ((xs.length : Int) - 2) (-1), -1, -1) := by
      simp [sliceBounds]
      omega
    unfold slicePick
    rw [List.size_toArray, hb]
    show ((sliceRange (max ((xs.length : Int) - 2) (-1)) (-1) (-1)).filterMap (xs.toArray[·]?)).toArray = _
    congr 1
    have e1 : max ((xs.length : Int) - 2) (-1) = (((xs.length - 1 : Nat) : Int)) - 1 := by omega
    rw [e1, PySem.W.krv_sliceRange, PySem.W.krv_range, List.filterMap_reverse]
    show _ = (xs.take (xs.length - 1)).reverse
    congr 1
    have := PySem.W.krv_all (xs.take (xs.length - 1)).toArray
    rw [List.size_toArray, List.length_take, Nat.min_eq_left (by omega)] at this
    refine Eq.trans (fm_congr fun i hi => ?_) this
    have := List.mem_range.mp hi
    simp [List.getElem?_take, this]
theorem rev_vals {xs zs : List V} {its : List Value} {l : Option Int} (r : Vals xs its) (hz : revV xs l = some zs) : (l = none ∨ l = some (-2)) ∧ Vals zs (revW its l) ∧ zs.length ≤ xs.length := by
  cases l with
  | none =>
    cases hz
    exact ⟨.inl rfl, r.reverse, by simp⟩
  | some i =>
    have hz : (if i = -2 then some (xs.take (xs.length - 1)).reverse else none) = some zs := hz
    by_cases h : i = -2
    · rw [if_pos h] at hz
      cases hz
      refine ⟨.inr (by rw [h]), ?_, by rw [List.length_reverse, List.length_take]; omega⟩
      show Vals _ (its.take (its.length - 1)).reverse
      have := (r.take (its.length - 1)).reverse
      rw [← r.length] at this ⊢
      exact this
    · rw [if_neg h] at hz
      cases hz
section
variable {X : Cx} {e st : Expr} {te : TE} {lo : Option Expr} {tl ts : TO} {pos p2 : Pos}
/-- xs[::-1], xs[-2::-1] -/
theorem pe_sliceR (he : PE X e te) (hl : PO X lo tl) (hst : PO X (some st) ts) : PE X (.Subscript e (.Slice lo none (some st) p2) pos) (tSlR X.K te tl ts) := by
  refine ⟨fun pins s σ H Q I h => ?_⟩
  refine Subscript_ (thn (he.run pins s σ H _ I h) fun v s1 ⟨x, H1, I1, r1, q1⟩ => ?_)
  refine wpAny_Slice (thn (hl.run pins s1 σ H1 _ I1 q1) fun vl s2 ⟨l, H2, I2, pl, q2⟩ => ?_)
  rw [evalPart_none]
  refine wpAny_pure (thn (hst.run pins s2 σ H2 _ I2 q2) fun vs s3 ⟨u, H3, I3, ps, q3⟩ => ?_)
  obtain ⟨rfl, a, xs, zs, rfl, hx, hz, q⟩ := q3
  cases r1
  have I4 : Inv X pins σ H3 { s3 with heap := s3.heap.push { cls := .type "slice", data := .fields #[vl, .none, vs] } } := I3.kept (t' := s3.toks) fun b ob q => Heap.get?_push_of_some _ q
  obtain ⟨its, r, ht, hsz⟩ := I4.list hx
  have hlen := r.length
  have hs : (s3.heap.push { cls := .type "slice", data := .fields #[vl, .none, vs] }).IsSliceOf s3.heap.objs.size vl .none vs := Heap.IsSliceOf.new ..
  show wpAny (model X.prog X.w) X.A (subscriptTail e (.Slice lo none (some st) p2) (.ref a) (.ref s3.heap.objs.size)) (EP X pins σ Q) X.xe { s3 with heap := s3.heap.push { cls := .type "slice", data := .fields #[vl, .none, vs] } }
  refine tail_any (ops := [.ref a, .ref s3.heap.objs.size]) ht.isList.typeIs slot_list_getitem.lookup ?_ (by with_unfolding_all rfl)
  obtain ⟨hl, hv, hzl⟩ := rev_vals r hz
  refine wpAny_getItem_list_slice ht.isList hs pl .none ps (by simp) ?_ (by rw [List.size_toArray] <;> omega)
  rw [pick_rev _ _ hl]
  refine ⟨.ref _, _, I4.laid (t' := s3.toks) (o := .lst zs) (fun b ob q => Heap.get?_push_of_some _ q) (Nat.le_refl _) ?_, rfl, q _ (I4.hok.fresh (Nat.le_refl _))⟩
  exact ⟨Nat.le_trans hzl hsz, _, 0, hv, Heap.get?_push_size _ rfl⟩
end
theorem pg_tupK {X : Cx} {K : PySem.W.Frag} {es : List Expr} {k : Nat} {t : TGs} {n : Nat} {pos : Pos} (hc : X.calm = true) (h : PGs X es t) (hK : X.K = K := by rfl)
    (hn : (assignEach es X.env).length = n := by rfl) (hst : (assignEach es X.env).findIdx? (·.1) = none := by rfl) : PG X (.Tuple es k pos) (gTup K n t) := hK ▸ pg_tup hc h hn hst
/-- t.index(x) among data -/
def rIdxD (K : PySem.W.Frag) : V → List V → Hp → VK → Prop := fun x xs H Q => ∃ (p : Addr) (ys : List V) (ds : List PyData) (y : V) (d : PyData), x = .ref p ∧ xs = [y] ∧ SqT K H p ys ∧ DpAll K H ys ds ∧ Dp K H y d ∧ (∀ e ∈ ds, SeqAt.shaped e = true) ∧ SeqAt.shaped d = true ∧ true ∈ ds.map (fun e => PyData.eqv e d) ∧ Q (.int (((ds.map fun e => PyData.eqv e d).idxOf true : Nat) : Int)) H
theorem dpAll_get {X : Cx} {pins : List (Addr × Obj)} {σ : L2.St} {H : Hp} {s : Shared} (I : Inv X pins σ H s) : ∀ {ds : List PyData} {ys : List V} {us : List Value}, DpAll X.K H ys ds → Vals ys us → us.length = ds.length ∧ ∀ j (h1 : j < us.length) (h2 : j < ds.length), ∃ as, Reads s.heap us[j] ds[j] as
  | [], _, _, h, r => by
    cases h
    cases r
    exact ⟨rfl, fun j h1 => absurd h1 (Nat.not_lt_zero _)⟩
  | d :: ds, _, _, h, r => by
    cases h with
    | cons h1 h2 =>
      cases r with
      | cons r1 r2 =>
        obtain ⟨l, k⟩ := dpAll_get I h2 r2
        refine ⟨congrArg (· + 1) l, fun j j1 j2 => ?_⟩
        cases j with
        | zero => exact Dp.reads I d _ _ h1 r1
        | succ j => exact k j (Nat.lt_of_succ_lt_succ j1) (Nat.lt_of_succ_lt_succ j2)
theorem mt_tupIndexD {X : Cx} (hu : X.A.units + 66 < cLine) : MtR X "tuple.index" (rIdxD X.K) := by
  intro pins s σ H x xs v us Q I rx rs h
  obtain ⟨p, ys, ds, y, d, rfl, rfl, hq, hds, hd, hsh, hsd, hin, q⟩ := h
  cases rx
  obtain ⟨u, rfl, ru⟩ := vals1 rs
  obtain ⟨its, r, pl, hz⟩ := I.tuple hq
  obtain ⟨bs, rb⟩ := Dp.reads I d y u hd ru
  obtain ⟨le, rd⟩ := dpAll_get I hds r
  refine SeqAt.call_tuple_index (ks := ds.map fun e => PyData.eqv e d) (k := true) pl ⟨by rw [List.length_map, le], fun j h1 h2 => ?_⟩ hin ⟨.int _, H, I.tok _, ⟨_, rfl⟩, q⟩
  rw [List.length_map] at h2
  obtain ⟨as, ra⟩ := rd j h1 h2
  have := SeqAt.eqAt_reads ds[j] d X.A.in1 s its[j] u as bs ra rb (SeqAt.canLay_of_shaped (hsh _ (List.getElem_mem h2))) (SeqAt.canLay_of_shaped hsd) (SeqAt.room_of_shaped (hsh _ (List.getElem_mem h2)) (by show X.A.units + 1 + 64 < cLine; omega))
  rw [List.getElem_map]
  cases he : PyData.eqv ds[j] d with
  | true => rw [he] at this; exact this
  | false => rw [he] at this; exact this
/-- a loop over zip of two lists, the first one not the longer -/
theorem for_zipLe {K : PySem.W.Frag} {a b : Addr} {xs ys : List V} {g : TG} {tb : TS} {D : Ends} {σ : L2.St} {H : Hp} (hl : xs.length ≤ ys.length) (Pv : Nat → L2.St → Hp → Prop) (h0 : Pv 0 σ H) (hq : ∀ i σ H, Pv i σ H → SqL K H a xs ∧ SqL K H b ys)
    (hs : ∀ (i : Nat) (x y : V) (T : Addr) (σ : L2.St) (H : Hp), xs[i]? = some x → ys[i]? = some y → Pv i σ H → H T = none → g (.ref T) σ (upd H T (.tup [x, y])) fun σ2 H2 => tb { D with nx := Pv (i + 1), ct := Pv (i + 1), bk := D.nx } σ2 H2) (hd : ∀ σ H, Pv xs.length σ H → D.nx σ H) :
    ∃ W : Nat → Nat → L2.St → Hp → Prop, (∃ m, W 0 m σ H) ∧ ∀ i m σ H, W i m σ H →
      ((Itz K a b).stop i H ∧ D.nx σ H) ∨ ((Itz K a b).go i H ∧ ∃ N : L2.St → Hp → Prop, (∀ σ' H', N σ' H' → ∃ m', m' < m ∧ W (i + 1) m' σ' H') ∧ ∀ v H', (Itz K a b).yld i H v H' → g v σ H' fun σ2 H2 => tb { D with nx := N, ct := N, bk := D.nx } σ2 H2) := by
  refine ⟨fun i m σ H => m = xs.length - i ∧ i ≤ xs.length ∧ Pv i σ H, ⟨xs.length, rfl, Nat.zero_le _, h0⟩, ?_⟩
  rintro i m σ H ⟨rfl, hi, p⟩
  obtain ⟨qx, qy⟩ := hq i σ H p
  by_cases hlt : i < xs.length
  · have hx : xs[i]? = some xs[i] := List.getElem?_eq_getElem hlt
    have hlt2 : i < ys.length := by omega
    have hy : ys[i]? = some ys[i] := List.getElem?_eq_getElem hlt2
    refine .inr ⟨⟨xs, ys, _, _, qx, qy, hx, hy⟩, Pv (i + 1), fun σ' H' p' => ⟨xs.length - (i + 1), by omega, rfl, hlt, p'⟩, fun v H' y => ?_⟩
    obtain ⟨T, x', y', rfl, hT, rfl, f1, f2⟩ := y
    exact hs i x' y' T σ H (f1 xs qx) (f2 ys qy) p hT
  · have e : i = xs.length := by omega
    subst e
    exact .inl ⟨⟨xs, ys, qx, qy, Or.inl (Nat.le_refl _)⟩, hd σ H p⟩
/-! ### tuples that are known to have no dict: their methods -/
def ObT (ob : Obj) : Prop := ob.cls = .type "tuple" ∧ ob.dict = none
def TQ (H : Hp) (q : Addr) (ys : List V) : Prop := ∃ ob, H q = some (.frz ob (.tup ys)) ∧ ObT ob
theorem TQ.sq {K : PySem.W.Frag} {H : Hp} {q : Addr} {ys : List V} (h : TQ H q ys) : SqT K H q ys := let ⟨ob, h, _⟩ := h; .inl (.inr ⟨ob, h⟩)
theorem TQ.mn {H H' : Hp} {q : Addr} {ys : List V} (s : Same H H') (h : TQ H q ys) : TQ H' q ys := let ⟨ob, h, o⟩ := h; ⟨ob, s _ _ h, o⟩
theorem TQ.new {H : Hp} {l q : Addr} {ys : List V} {o : HO} (hl : H l = none) (h : TQ H q ys) : TQ (upd H l o) q ys := let ⟨ob, h, z⟩ := h; ⟨ob, by rw [upd_ne (ne_of_none h hl)]; exact h, z⟩
def rTupF (K : PySem.W.Frag) : List V → Hp → VK → Prop := fun xs H Q => ∃ p ys, xs = [.ref p] ∧ SqL K H p ys ∧ ∀ l ob, H l = none → ObT ob → Q (.ref l) (upd H l (.frz ob (.tup ys)))
theorem call_tuple_ofF {X : Cx} : CallR X (.type "tuple") (rTupF X.K) := by
  intro pins s σ H xs us Q I r h
  obtain ⟨p, ys, rfl, hq, q⟩ := h
  obtain ⟨u, rfl, rx⟩ := vals1 r
  cases rx
  obtain ⟨its, r', pl, hz⟩ := I.list hq
  have hlen := r'.length
  refine call_tuple_list pl.isList (fun h' kp => ?_) (by simp only [List.size_toArray] <;> omega)
  have I1 : Inv X pins σ H { s with heap := h' } := I.kept (t' := s.toks) kp
  have I2 : Inv X pins σ (upd H h'.objs.size (.frz { cls := .type "tuple", data := .seq its.toArray } (.tup ys))) { s with heap := h'.push { cls := .type "tuple", data := .seq its.toArray } } :=
    I1.laid (t' := s.toks) (fun b o e => Heap.get?_push_of_some _ e) (Nat.le_refl _) (show ObjOk X.prog X.w _ _ _ (.frz _ (.tup ys)) from ⟨Heap.get?_push_size _ rfl, hz, its, r', IsTup.new _ _⟩)
  exact ⟨.ref h'.objs.size, _, I2, rfl, q _ _ (I1.hok.fresh (Nat.le_refl _)) ⟨rfl, rfl⟩⟩
def tBMF (r : V → List V → Hp → VK → Prop) (to : TE) (t : TA) : TE := fun σ H Q => to σ H fun x H1 => (∃ p ys, x = .ref p ∧ TQ H1 p ys) ∧ t σ H1 fun xs H2 => r x xs H2 Q
theorem pe_bmF {X : Cx} {o e : Expr} {es : List Expr} {to : TE} {t : TA} {name : Str} {apos cpos : Pos} {id : String} {r : V → List V → Hp → VK → Prop} (pa : PlainAttrs "tuple") (slot : Slot "tuple" name id) (hty : typeOf (.builtin id) = pure (.type "method_descriptor")) (hm : MtR X id r) (ho : PE X o to) (ha : PA X (e :: es) t)
    (hbase : attributeBase o name X.env (eval o X.env) = eval o X.env := by rfl)
    (hfew : ((backTo cpos (starEach (e :: es) X.env)).all (fun x => !x.1) && (backToKw cpos (keywordEach [] X.env)).all (fun x => x.1.isSome)
      && decide ((e :: es).length + ([] : List Keyword).length + (if ([] : List Keyword).isEmpty then 0 else 1) < 30)) = true := by rfl)
    (hline : (apos.endLine == cpos.line) = true := by rfl) (hs : starEach (e :: es) X.env = (false, eval e X.env) :: starEach es X.env := by rfl) (hplain : (backTo cpos (starEach es X.env)).any (·.1) = false := by rfl) :
    PE X (.Call (.Attribute o name apos) (e :: es) [] cpos) (tBMF r to t) := by
  refine ⟨fun pins s σ H Q I h => ?_⟩
  refine wpAny_Call_method_late hbase hfew hline rfl (thn (ho.run pins s σ H _ I h) fun v s1 ⟨x, H1, I1, r1, ty, q1⟩ => ?_)
  obtain ⟨p, ys, rfl, ob, hp, hob⟩ := ty
  cases r1
  obtain ⟨e0, _⟩ := I1.hok _ _ hp
  refine ⟨"tuple", id, pa, slot, hty, ⟨ob, e0, hob.1⟩, fun a ea => ?_, ?_⟩
  · cases ea
    exact ⟨ob, e0, hob.2⟩
  have hA := ha.run cpos pins s1 σ H1 _ I1 q1
  rw [hs] at hA ⊢
  refine Calls.callWith_builtin (by show (false || (backTo cpos (starEach es X.env)).any (·.1)) = false; rw [hplain] <;> rfl) (Calls.evalArgs_plain ?_)
  exact thn hA fun us s2 ⟨vs, H2, I2, r2, q2⟩ => hm pins s2 σ H2 (.ref p) vs (.ref p) us Q I2 (rfl : RelV (.ref p) (.ref p)) r2 q2
end WSl

set_option Elab.async false
set_option linter.all false
set_option maxRecDepth 100000
set_option maxHeartbeats 4000000
namespace W48
open PySem PySem.Spec PyProof.Rows L2 WXG WEv WRd WLf WEn WZs WRu WSt StX WDc
/-! ### what a law's tuple tells -/
structure WD where
  name : Str
  word : Str
  b : Int
  e : Int
  lim : Option Int
  r : Int
structure SD where
  name : Str
  word : Str
  way : Str
  most : Int
  span : Int
  lim : Option Int
def Told : Nat → Type
  | 0 => Empty
  | n + 1 => WD ⊕ (SD × List (Told n))
def limV : Option Int → V
  | none => .non
  | some i => .int i
def WD.vals (d : WD) : List V := [.str "worker", .str d.name, .str d.word, .int d.b, .int d.e, limV d.lim, .int d.r]
def SD.vals (d : SD) (q : Addr) : List V := [.str "supervisor", .str d.name, .str d.word, .str d.way, .int d.most, .int d.span, limV d.lim, .ref q]
def cutI (f : Int) : Option Int → Int
  | none => f
  | some l => if f ≤ l then f else l
namespace Told
def opening : (n : Nat) → Told n → Int
  | 0, _ => 0
  | n + 1, t => match (show WD ⊕ (SD × List (Told n)) from t) with
    | .inl d => d.b
    | .inr x => (x.2.map (opening n)).sum
def stopping : (n : Nat) → Told n → Int
  | 0, _ => 0
  | n + 1, t => match (show WD ⊕ (SD × List (Told n)) from t) with
    | .inl d => cutI d.e d.lim
    | .inr x => cutI (x.2.map (stopping n)).sum x.1.lim
def size : (n : Nat) → Told n → Nat
  | 0, _ => 0
  | n + 1, t => match (show WD ⊕ (SD × List (Told n)) from t) with
    | .inl _ => 1
    | .inr x => 1 + (x.2.map (size n)).sum
end Told
def NameOk (z : Str) : Prop := ∃ cs : List Nat, z = ⟨cs.toArray⟩ ∧ 1 ≤ cs.length ∧ cs.length ≤ 2 ∧ ∀ c ∈ cs, 97 ≤ c ∧ c ≤ 122
def TickOk (i : Int) : Prop := 0 ≤ i ∧ i ≤ 1000000000
def LimOk (l : Option Int) : Prop := ∀ i, l = some i → TickOk i
def WordOk (z : Str) : Prop := z = "permanent" ∨ z = "transient" ∨ z = "temporary"
def WayOk (z : Str) : Prop := z = "one" ∨ z = "rest" ∨ z = "all"
def WD.Ok (d : WD) : Prop := NameOk d.name ∧ WordOk d.word ∧ TickOk d.b ∧ TickOk d.e ∧ LimOk d.lim ∧ 0 ≤ d.r ∧ d.r ≤ 100
def SD.Ok (d : SD) : Prop := NameOk d.name ∧ WordOk d.word ∧ WayOk d.way ∧ 0 ≤ d.most ∧ d.most ≤ 20 ∧ 1 ≤ d.span ∧ d.span ≤ 1000000000 ∧ LimOk d.lim
def LowL (l : Option Int) : Prop := ∀ i, l = some i → i ≤ 1000
def LowW (d : WD) : Prop := d.b ≤ 1000 ∧ d.e ≤ 1000 ∧ LowL d.lim
/-- most of all supervisors is at most k, ticks are few -/
def MostLe (k : Int) : (n : Nat) → Told n → Prop
  | 0, _ => True
  | n + 1, t => match (show WD ⊕ (SD × List (Told n)) from t) with
    | .inl d => LowW d
    | .inr x => x.1.most ≤ k ∧ LowL x.1.lim ∧ ∀ t ∈ x.2, MostLe k n t
def Told.Ok : (n : Nat) → Told n → Prop
  | 0, _ => True
  | n + 1, t => match (show WD ⊕ (SD × List (Told n)) from t) with
    | .inl d => d.Ok
    | .inr x => x.1.Ok ∧ x.2.length ≤ 4 ∧ ∀ t ∈ x.2, Ok n t
/-- names of one sign -/
def Told.One : (n : Nat) → Told n → Prop
  | 0, _ => True
  | n + 1, t => match (show WD ⊕ (SD × List (Told n)) from t) with
    | .inl d => d.name.length = 1
    | .inr x => x.1.name.length = 1 ∧ ∀ t ∈ x.2, One n t
def TW (d : WD) : HP V := fun v H => ∃ p, v = .ref p ∧ H p = some (.tup d.vals)
def TAt : (n : Nat) → Told n → HP V
  | 0, _ => fun _ _ => False
  | n + 1, t => match (show WD ⊕ (SD × List (Told n)) from t) with
    | .inl d => TW d
    | .inr x => fun v H => ∃ p q ys, v = .ref p ∧ H p = some (.tup (x.1.vals q)) ∧ WSl.TQ H q ys ∧ Fa (x.2.map (TAt n)) ys H
theorem limV_lim {v : V} (h : LimV v) : ∃ l, v = limV l ∧ LimOk l := by
  rcases h with rfl | ⟨i, rfl, h0, h1⟩
  · exact ⟨none, rfl, fun i e => nomatch e⟩
  · exact ⟨some i, rfl, fun j e => by cases e; exact ⟨h0, by omega⟩⟩
/-! ### all but lists and dicts as it was -/
def Kp (H H' : Hp) : Prop := ∀ b o, H b = some o → (∀ xs, o ≠ .lst xs) → (∀ kvs, o ≠ .dK kvs) → H' b = some o
def MnK (P : HP V) : Prop := ∀ x H H', Kp H H' → P x H → P x H'
theorem Kp.refl (H : Hp) : Kp H H := fun _ _ h _ _ => h
theorem Kp.trans {H H' H'' : Hp} (a : Kp H H') (b : Kp H' H'') : Kp H H'' := fun c o h h1 h2 => b c o (a c o h h1 h2) h1 h2
theorem Kp.same {H H' : Hp} (s : Same H H') : Kp H H' := fun b o h _ _ => s b o h
theorem Kp.but {H H' : Hp} {m : Addr} {kvs : List (Key × V)} (hm : H m = some (.dK kvs)) (s : But m H H') : Kp H H' := fun b o h _ h2 => s b o h fun z => by
  rw [z, hm] at h
  cases h
  exact h2 _ rfl
theorem Kp.lst {H : Hp} {l : Addr} {xs : List V} {x : HO} (hl : H l = some (.lst xs)) : Kp H (upd H l x) := fun b o h h1 _ => by
  rw [upd_ne (fun z => by rw [z, hl] at h; cases h; exact h1 _ rfl)]
  exact h
theorem MnK.mn {P : HP V} (m : MnK P) : Mn P := fun x H H' s h => m x H H' (Kp.same s) h
theorem mk_is {x : V} : MnK (Is x) := fun _ _ _ _ e => e
theorem fa_kp : ∀ {Ps : List (HP V)} {vs : List V} {H H' : Hp}, (∀ P ∈ Ps, MnK P) → Kp H H' → Fa Ps vs H → Fa Ps vs H'
  | [], [], _, _, _, _, _ => trivial
  | P :: _, _ :: _, _, _, m, s, h => ⟨m P List.mem_cons_self _ _ _ s h.1, fa_kp (fun Q hQ => m Q (List.mem_cons_of_mem _ hQ)) s h.2⟩
  | [], _ :: _, _, _, _, _, h => h.elim
  | _ :: _, [], _, _, _, _, h => h.elim
theorem mn_fa {Ps : List (HP V)} (m : ∀ P ∈ Ps, MnK P) : Mn (Fa Ps) := fun _ _ _ s h => fa_kp m (Kp.same s) h
theorem mk_tw {d : WD} : MnK (TW d) := fun _ _ _ s ⟨p, e, h⟩ => ⟨p, e, s _ _ h (fun _ z => nomatch z) (fun _ z => nomatch z)⟩
theorem kp_tq {H H' : Hp} {q : Addr} {ys : List V} (s : Kp H H') (h : WSl.TQ H q ys) : WSl.TQ H' q ys := let ⟨ob, h, o⟩ := h; ⟨ob, s _ _ h (fun _ z => nomatch z) (fun _ z => nomatch z), o⟩
theorem mk_tat : ∀ (n : Nat) (t : Told n), MnK (TAt n t)
  | 0, _ => fun _ _ _ _ h => h.elim
  | n + 1, t => by
    cases t with
    | inl d => exact mk_tw
    | inr x =>
      intro v H H' s h
      obtain ⟨p, q, ys, e, h1, h2, h3⟩ := h
      exact ⟨p, q, ys, e, s _ _ h1 (fun _ z => nomatch z) (fun _ z => nomatch z), kp_tq s h2, fa_kp (fun P hP => by
        obtain ⟨t, _, rfl⟩ := List.mem_map.mp hP
        exact mk_tat n t) s h3⟩
theorem mk_tats {n : Nat} {ts : List (Told n)} : ∀ P ∈ ts.map (TAt n), MnK P := fun P hP => by
  obtain ⟨t, _, rfl⟩ := List.mem_map.mp hP
  exact mk_tat n t
theorem mk_iss {xs : List V} : ∀ P ∈ xs.map Is, MnK P := fun P hP => by
  obtain ⟨t, _, rfl⟩ := List.mem_map.mp hP
  exact mk_is
theorem fa_take {Ps : List (HP V)} {vs : List V} {H : Hp} {i : Nat} {P : HP V} {v : V} (h : Fa (Ps.take i) vs H) (e : Ps[i]? = some P) (p : P v H) : Fa (Ps.take (i + 1)) (vs ++ [v]) H := by
  rw [List.take_succ, e]
  exact h.app ⟨p, trivial⟩
section
variable {K : PySem.W.Frag} {σ : L2.St} {H : Hp} {te ta tb : TE} {tr : TA} {D : Ends} {P P' : HP V} {tt tu : TT} {a b : Bool} {v : V}
theorem ev_ixT {i : Nat} {p : Addr} {xs : List V} {j : Int} (h : σ[i]? = some (some (.ref p))) (hp : H p = some (.tup xs)) (e : atI xs j = some v) : Ev (tOp (rIxT K) (tVar i) (tC (.int j))) σ H v := fun Q q => ⟨_, h, p, xs, j, v, rfl, rfl, .of hp, e, q⟩
theorem evb_eqS {x y : Str} (ha : Ev ta σ H (.str x)) (hb : Ev tb σ H (.str y)) (h : decide (x = y) = b) : EvB (tTest (tOp rEq ta tb)) σ H b := fun Q q => ha _ (hb _ ⟨rfl, b, by rw [← h]; simp, q⟩)
theorem evb_or (h : EvB tt σ H a) (g : a = false → EvB tu σ H b) : EvB (tOr tt tu) σ H (a || b) := fun Q q => h _ (by
  cases a with
  | true => exact q
  | false => exact g rfl _ q)
theorem ev_if {x : V} (h : EvB tt σ H b) (g : if b = true then Ev ta σ H x else Ev tb σ H x) : Ev (tIf tt ta tb) σ H x := fun Q q => h _ (by
  cases b with
  | true => exact g _ q
  | false => exact g _ q)
theorem evb_isN {x : V} (ha : Ev ta σ H x) : EvB (tTest (tOp (fun x y H Q => y = .non ∧ Q (.bl (decide (x = .non))) H) ta (tC .non))) σ H (decide (x = .non)) := fun Q q => ha _ ⟨rfl, _, rfl, q⟩
theorem g_par {i j : Nat} (ha : G ta σ H P) (hb : G tb σ H P') (k : ∀ v w H1, Same H H1 → P v H1 → P' w H1 → D.nx ((σ.set i (some v)).set j (some w)) H1) : tPar i j (tCons ta (tCons tb tNil)) D σ H :=
  ha.ev H (Same.refl H) _ fun v H1 s1 p1 => hb.ev H1 s1 _ fun w H2 s2 p2 => ⟨v, w, rfl, k v w H2 (s1.trans s2) (ha.mn _ _ _ s2 p1) p2⟩
/-- [e for v in xs], e only adds objects -/
theorem g_lcF {wi : TI} {J : It} {Gw : Hp → Prop} {v : Nat} {ys : List V} {Ps : List (HP V)} (hw : ∀ H1, Same H H1 → ∀ R : It → Hp → Prop, R J H1 → wi σ H1 R) (wk : Walk J ys.length Gw (YAt ys)) (hg : ∀ H1, Same H H1 → Gw H1)
    (hl : Ps.length = ys.length) (hz : ys.length ≤ 1000) (m : ∀ P ∈ Ps, MnK P)
    (h : ∀ (i : Nat) (x : V) (P : HP V) (H1 : Hp), ys[i]? = some x → Ps[i]? = some P → Same H H1 → ∀ Q : VK, (∀ y H2, Same H1 H2 → P y H2 → Q y H2) → te ((σ.set v none).set v (some x)) H1 Q) :
    G (tLc wi (gName v) tYes te [v]) σ H (LF Ps) := by
  refine ⟨fun H1 e Q q => ?_, mn_lf (mn_fa m)⟩
  refine hw H1 e _ ?_
  intro Dd hD
  show ∃ W, _
  refine lc_it wk (fun i H' => Same H1 H' ∧ ∃ acc, H' Dd = some (.lst acc) ∧ Fa (Ps.take i) acc H') ⟨same_new hD, [], upd_same, trivial⟩ (fun _ H' _ p => hg H' (e.trans p.1)) (fun i x H2 H3 hi p y => ?_) (fun H2 p => ?_)
  · obtain ⟨s2, acc, hd, fa⟩ := p
    obtain ⟨rfl, hx⟩ := y
    refine ⟨(List.set_set ..).trans (List.set_set ..), ?_⟩
    obtain ⟨P, hP⟩ : ∃ P, Ps[i]? = some P := ⟨_, List.getElem?_eq_getElem (by omega)⟩
    refine h i x P _ hx hP (e.trans s2) _ fun y H4 s4 py => ?_
    have hd4 := s4 _ _ hd
    have fa4 : Fa (Ps.take i) acc H4 := fa_kp (fun Q hQ => m Q (List.mem_of_mem_take hQ)) (Kp.same s4) fa
    have la := fa.len
    rw [List.length_take] at la
    refine ⟨acc, hd4, Nat.lt_of_le_of_lt (show acc.length ≤ 1000 by omega) (by decide), same_put (s2.trans s4) hD, acc ++ [y], upd_same, ?_⟩
    exact fa_kp (fun Q hQ => m Q (List.mem_of_mem_take hQ)) (Kp.lst hd4) (fa_take fa4 hP py)
  · obtain ⟨s2, acc, hd, fa⟩ := p
    rw [← hl, List.take_length] at fa
    exact q _ _ s2 ⟨Dd, acc, rfl, hd, fa⟩
theorem g_lcT {v i : Nat} {p q : Addr} {xs ys : List V} {j : Int} {Ps : List (HP V)} (h0 : σ[i]? = some (some (.ref p))) (hp : H p = some (.tup xs)) (ej : atI xs j = some (.ref q)) (hq : WSl.TQ H q ys)
    (hl : Ps.length = ys.length) (hz : ys.length ≤ 1000) (m : ∀ P ∈ Ps, MnK P)
    (h : ∀ (i : Nat) (x : V) (P : HP V) (H1 : Hp), ys[i]? = some x → Ps[i]? = some P → Same H H1 → ∀ Q : VK, (∀ y H2, Same H1 H2 → P y H2 → Q y H2) → te ((σ.set v none).set v (some x)) H1 Q) :
    G (tLc (iTup K (tOp (rIxT K) (tVar i) (tC (.int j)))) (gName v) tYes te [v]) σ H (LF Ps) :=
  g_lcF (J := Itt K q) (fun H1 s R r => ev_ixT h0 (s _ _ hp) ej _ ⟨q, rfl, ⟨ys, (hq.mn s).sq⟩, r⟩) walk_tup (fun H1 s => (hq.mn s).sq) hl hz m h
theorem g_lcL {v i : Nat} {q : Addr} {ys : List V} {Ps : List (HP V)} (h0 : σ[i]? = some (some (.ref q))) (hq : H q = some (.lst ys))
    (hl : Ps.length = ys.length) (hz : ys.length ≤ 1000) (m : ∀ P ∈ Ps, MnK P)
    (h : ∀ (i : Nat) (x : V) (P : HP V) (H1 : Hp), ys[i]? = some x → Ps[i]? = some P → Same H H1 → ∀ Q : VK, (∀ y H2, Same H1 H2 → P y H2 → Q y H2) → te ((σ.set v none).set v (some x)) H1 Q) :
    G (tLc (iList K (tVar i)) (gName v) tYes te [v]) σ H (LF Ps) :=
  g_lcF (J := Itl K q) (fun H1 s R r => ⟨_, h0, q, rfl, ⟨ys, .of (s _ _ hq)⟩, r⟩) walk_list (fun H1 s => .of (s _ _ hq)) hl hz m h
theorem g_sum {ns : List Int} (h : G te σ H (LF ((ns.map V.int).map Is))) : G (tCB (rSum K) (tCons te tNil)) σ H (Is (.int ns.sum)) := ⟨fun H1 e Q q => h.ev H1 e _ fun x H2 s2 px => by
  obtain ⟨p, xs, rfl, hp, fa⟩ := px
  obtain rfl := fa.is
  exact ⟨p, ns, rfl, .of hp, q _ _ s2 rfl⟩, mn_i⟩
end
def spOpen (n : Nat) : Sp := fun vs H Q _ => ∃ (v : V) (t : Told n), vs = [v] ∧ Told.Ok n t ∧ TAt n t v H ∧ ∀ H', Same H H' → Q (.int (Told.opening n t)) H'
def spStop (n : Nat) : Sp := fun vs H Q _ => ∃ (v : V) (t : Told n), vs = [v] ∧ Told.Ok n t ∧ TAt n t v H ∧ ∀ H', Same H H' → Q (.int (Told.stopping n t)) H'
theorem sup_len {n : Nat} {ts : List (Told n)} {ys : List V} {H : Hp} (h : Fa (ts.map (TAt n)) ys H) : ys.length = ts.length := by
  have := h.len
  rwa [List.length_map] at this
theorem sup_get {n : Nat} {ts : List (Told n)} {ys : List V} {H : Hp} (h : Fa (ts.map (TAt n)) ys H) {i : Nat} {x : V} (hx : ys[i]? = some x) : ∃ t, ts[i]? = some t ∧ TAt n t x H := by
  obtain ⟨t, ht⟩ : ∃ t, ts[i]? = some t := by
    have := (List.getElem?_eq_some_iff.mp hx).1
    rw [sup_len h] at this
    exact ⟨_, List.getElem?_eq_getElem this⟩
  obtain ⟨x', e, px⟩ := h.get (n := i) (P := TAt n t) (by rw [List.getElem?_map, ht]; rfl)
  rw [hx] at e
  cases e
  exact ⟨t, ht, px⟩
theorem ints_get {α : Type} {f : α → Int} {ts : List α} {i : Nat} {P : HP V} {t : α} (h : (((ts.map f).map V.int).map Is)[i]? = some P) (ht : ts[i]? = some t) : P = Is (.int (f t)) := by
  rw [List.getElem?_map, List.getElem?_map, List.getElem?_map, ht] at h
  cases h
  rfl
section
variable {P : Program} {w : World} {K : PySem.W.Frag} {mg : Str → Option Value} {base : Heap}
theorem ok_opening (T : Env K mg) : ∀ n, FnOk P w K mg base CX0 (n + 1) (d_L_opening.loc K) T.fd_L_opening ["told"] (spOpen n)
  | 0 => T.F_L_opening.ok sc_L_opening (fun vs H Q E (h : ∃ (v : V) (t : Told 0), _) => by obtain ⟨v, t, _⟩ := h; cases t) (fun cdv A outer s H vs Q E hr (h : ∃ (v : V) (t : Told 0), _) => by obtain ⟨v, t, _⟩ := h; cases t)
  | n + 1 => by
    have G_L_opening : FnOk P w K mg base CX0 (n + 1) _ _ _ _ := ok_opening T n
    refine T.F_L_opening.ok sc_L_opening (fun vs H Q E h => ?_) (fun cdv A outer s H vs Q E hr h => ?_)
    · obtain ⟨v, t, rfl, _⟩ := h
      rfl
    · have nd := sc_L_opening.nd
      have hu := hu_of hr
      obtain ⟨v, t, rfl, hok, ht, k⟩ := h
      refine ⟨_, PSs.nox (pss_cons (ps_if (pt_cmpR op_eq (pe_ix (ixtK (K := K)) (pv 0) pe_int (fun _ _ => rfl)) pe_str (nomark _))
  (pss_one (ps_ret (pe_ix (ixtK (K := K)) (pv 0) pe_int (fun _ _ => rfl))))
  pss_nil)
 (pss_one (ps_ret (pe_callB (cr_sum rfl) (by rfl) T.b_sum (by decide +kernel) (pa_cons (pe_lc (own := [("one", 1)]) (by rfl) nd (pi_tup (pe_ix (ixtK (K := K)) (pv 0) pe_int (fun _ _ => rfl))) (blkOk_by (N := ["told", "one"]) (sc := defScope s_L_opening) (by decide +kernel)) (fun _ _ _ _ _ => (pg_name (i := 1) nd rfl (Or.inl rfl))) (fun _ _ _ _ _ => pts_nil) (fun _ _ _ _ _ => (pe_call G_L_opening (hr.mono (by omega)) (by rfl) T.g__law_opening T.F_L_opening.kp T.bi_L_opening .nil pass0 (pa_cons (pv 1) pa_nil)))) pa_nil))))), ?_⟩
      cases t with
      | inl d =>
        obtain ⟨p, rfl, hp⟩ := ht
        refine st_if (b := true) (evb_eqS (ev_ixT rfl hp rfl) ev_c rfl) ?_
        exact st_ret (ev_ixT rfl hp rfl) (k _ (Same.refl _))
      | inr x =>
        obtain ⟨d, ts⟩ := x
        obtain ⟨p, q, ys, rfl, hp, hq, fa⟩ := ht
        refine st_if (b := false) (evb_eqS (ev_ixT rfl hp rfl) ev_c rfl) ?_
        refine g_ret (g_sum (ns := ts.map (Told.opening n)) (g_lcT rfl hp rfl hq (by simp [sup_len fa]) (by rw [sup_len fa]; exact Nat.le_trans hok.2.1 (by decide)) mk_iss fun i x P H1 hx hP s Q q => ?_)) fun v H1 s1 e => by cases e; exact k _ s1
        obtain ⟨t, ht, px⟩ := sup_get fa hx
        rw [ints_get hP ht] at q
        exact ⟨x, rfl, x, t, rfl, hok.2.2 t (List.mem_of_getElem? ht), (mk_tat n t).mn _ _ _ s px, fun H' s' => q _ _ s' rfl⟩
theorem ok_stopping (T : Env K mg) : ∀ n, FnOk P w K mg base CX0 (n + 1) (d_L_stopping.loc K) T.fd_L_stopping ["told"] (spStop n)
  | 0 => T.F_L_stopping.ok sc_L_stopping (fun vs H Q E (h : ∃ (v : V) (t : Told 0), _) => by obtain ⟨v, t, _⟩ := h; cases t) (fun cdv A outer s H vs Q E hr (h : ∃ (v : V) (t : Told 0), _) => by obtain ⟨v, t, _⟩ := h; cases t)
  | n + 1 => by
    have G_L_stopping : FnOk P w K mg base CX0 (n + 1) _ _ _ _ := ok_stopping T n
    refine T.F_L_stopping.ok sc_L_stopping (fun vs H Q E h => ?_) (fun cdv A outer s H vs Q E hr h => ?_)
    · obtain ⟨v, t, rfl, _⟩ := h
      rfl
    · have nd := sc_L_stopping.nd
      have hu := hu_of hr
      obtain ⟨v, t, rfl, hok, ht, k⟩ := h
      refine ⟨_, PSs.nox (pss_cons (ps_if (pt_cmpR op_eq (pe_ix (ixtK (K := K)) (pv 0) pe_int (fun _ _ => rfl)) pe_str (nomark _))
  (pss_one (ps_par (i := 1) (j := 2) (by rfl) nd rfl rfl (by decide) rfl rfl (pa_cons (pe_ix (ixtK (K := K)) (pv 0) pe_int (fun _ _ => rfl)) (pa_cons (pe_ix (ixtK (K := K)) (pv 0) pe_int (fun _ _ => rfl)) pa_nil)) (by rfl)))
  (pss_one (ps_par (i := 1) (j := 2) (by rfl) nd rfl rfl (by decide) rfl rfl (pa_cons (pe_callB (cr_sum rfl) (by rfl) T.b_sum (by decide +kernel) (pa_cons (pe_lc (own := [("one", 3)]) (by rfl) nd (pi_tup (pe_ix (ixtK (K := K)) (pv 0) pe_int (fun _ _ => rfl))) (blkOk_by (N := ["told", "found", "limit", "one"]) (sc := defScope s_L_stopping) (by decide +kernel)) (fun _ _ _ _ _ => (pg_name (i := 3) nd rfl (Or.inl rfl))) (fun _ _ _ _ _ => pts_nil) (fun _ _ _ _ _ => (pe_call G_L_stopping (hr.mono (by omega)) (by rfl) T.g__law_stopping T.F_L_stopping.kp T.bi_L_stopping .nil pass0 (pa_cons (pv 3) pa_nil)))) pa_nil)) (pa_cons (pe_ix (ixtK (K := K)) (pv 0) pe_int (fun _ _ => rfl)) pa_nil)) (by rfl))))
 (pss_one (ps_ret (pe_ifExp (PW.pt (pw_or (pt_cmpR op_isN (pv 2) pe_non (nomark _)) (pw_or1 (pt_cmpR op_le (pv 1) (pv 2) (nomark _))))) (pv 1) (pv 2))))), ?_⟩
      have fin : ∀ (σ : L2.St) (H1 : Hp) (f : Int) (l : Option Int) (D : Ends), σ[1]? = some (some (.int f)) → σ[2]? = some (some (limV l)) → D.rt (.int (cutI f l)) H1 →
          tRet (tIf (tOr (tTest (tOp (fun x y H Q => y = .non ∧ Q (.bl (decide (x = .non))) H) (tVar 2) (tC .non))) (tTest (tOp (rI0 fun i j => .bl (decide (i ≤ j))) (tVar 1) (tVar 2)))) (tVar 1) (tVar 2)) D σ H1 := by
        intro σ H1 f l D h1 h2 r
        cases l with
        | none => exact st_ret (ev_if (b := true) (fun Q q => ⟨_, h2, rfl, true, rfl, q⟩) (ev_var h1)) r
        | some l =>
          refine st_ret (v := .int (cutI f (some l))) (ev_if (b := decide (f ≤ l)) (fun Q q => ⟨_, h2, rfl, false, rfl, _, h1, _, h2, f, l, rfl, rfl, _, rfl, q⟩) ?_) r
          show if decide (f ≤ l) = true then Ev (tVar 1) σ H1 (.int (if f ≤ l then f else l)) else Ev (tVar 2) σ H1 (.int (if f ≤ l then f else l))
          by_cases z : f ≤ l
          · rw [if_pos (decide_eq_true z), if_pos z]
            exact ev_var h1
          · rw [if_neg (by simp [z]), if_neg z]
            exact ev_var h2
      cases t with
      | inl d =>
        obtain ⟨p, rfl, hp⟩ := ht
        refine st_if (b := true) (evb_eqS (ev_ixT rfl hp rfl) ev_c rfl) ?_
        refine g_par (ev_g fun H1 s => ev_ixT (v := .int d.e) rfl (s _ _ hp) rfl) (ev_g fun H1 s => ev_ixT (v := limV d.lim) rfl (s _ _ hp) rfl) fun v w H1 s1 e1 e2 => ?_
        cases e1
        cases e2
        exact fin _ _ d.e d.lim _ rfl rfl (k _ s1)
      | inr x =>
        obtain ⟨d, ts⟩ := x
        obtain ⟨p, q, ys, rfl, hp, hq, fa⟩ := ht
        refine st_if (b := false) (evb_eqS (ev_ixT rfl hp rfl) ev_c rfl) ?_
        refine g_par (g_sum (ns := ts.map (Told.stopping n)) (g_lcT rfl hp rfl hq (by simp [sup_len fa]) (by rw [sup_len fa]; exact Nat.le_trans hok.2.1 (by decide)) mk_iss fun i x P H1 hx hP s Q q => ?_)) (ev_g fun H1 s => ev_ixT (v := limV d.lim) rfl (s _ _ hp) rfl) fun v w H1 s1 e1 e2 => ?_
        · obtain ⟨t, ht, px⟩ := sup_get fa hx
          rw [ints_get hP ht] at q
          exact ⟨x, rfl, x, t, rfl, hok.2.2 t (List.mem_of_getElem? ht), (mk_tat n t).mn _ _ _ s px, fun H' s' => q _ _ s' rfl⟩
        · cases e1
          cases e2
          exact fin _ _ _ d.lim _ rfl rfl (k _ s1)
end
end W48

set_option Elab.async false
set_option linter.all false
set_option maxRecDepth 100000
set_option maxHeartbeats 4000000
namespace W48
open PySem PySem.Spec PyProof.Rows L2 WXG WEv WRd WLf WEn WZs WRu WSt StX WDc
theorem SrcAt.same {K : PySem.W.Frag} {S : Addr × List Int × Int} {H H' : Hp} {m : Addr} {a c : Nat} (s : Same H H') (h : SrcAt K S H m a c) : SrcAt K S H' m a c := by
  obtain ⟨x, cs, k, l, f, hm, hs, r⟩ := h
  exact ⟨x, cs, k, l, f, s _ _ hm, s.seq hs, r⟩
theorem But.same {m : Addr} {H H' : Hp} (s : Same H H') : But m H H' := fun b o e _ => s b o e
theorem But.kp {K : PySem.W.Frag} {S : Addr × List Int × Int} {m : Addr} {H H' : Hp} {a c : Nat} (b : But m H H') (h : SrcAt K S H m a c) : Kp H H' := by
  obtain ⟨x, cs, k, l, f, hm, _⟩ := h
  exact Kp.but hm b
def Far (K : PySem.W.Frag) (l : Addr) (S : Addr × List Int × Int) : Prop := ∀ (H : Hp) (x : HO), SqL K H S.1 (S.2.1.map V.int) → SqL K (upd H l x) S.1 (S.2.1.map V.int)
theorem SrcAt.far {K : PySem.W.Frag} {S : Addr × List Int × Int} {H : Hp} {m l : Addr} {a c : Nat} (h : SrcAt K S H m a c) (hl : H l = none) : Far K l S := by
  obtain ⟨s, cs, k, z, f, hm, hs, h1, h2, h3, rfl⟩ := h
  intro H' x q
  rcases hs with hs | hs
  · have ne : s ≠ l := fun e => by
      rcases hs with q | ⟨o, q⟩ <;> (rw [e, hl] at q; cases q)
    rcases q with (q | ⟨o, q⟩) | q
    · exact .inl (.inl (by rw [upd_ne ne]; exact q))
    · exact .inl (.inr ⟨o, by rw [upd_ne ne]; exact q⟩)
    · exact .inr q
  · exact .inr hs
theorem SrcAt.putl {K : PySem.W.Frag} {S : Addr × List Int × Int} {H : Hp} {m l : Addr} {a c : Nat} {xs : List V} {x : HO} (hl : H l = some (.lst xs)) (hn : Far K l S) (h : SrcAt K S H m a c) : SrcAt K S (upd H l x) m a c := by
  obtain ⟨s, cs, k, z, f, hm, hs, h1, h2, h3, rfl⟩ := h
  exact ⟨s, cs, k, z, f, by rw [upd_ne (fun e => by rw [← e, hm] at hl; cases hl)]; exact hm, hn _ _ hs, h1, h2, h3, rfl⟩
def spWorker (K : PySem.W.Frag) (S : Addr × List Int × Int) : Sp := fun vs H Q _ => ∃ (m : Addr) (a c : Nat), vs = [.ref m] ∧ SrcAt K S H m a c ∧ a ≤ 1000 ∧ c ≤ 13 ∧ ∀ v d H', d.Ok → LowW d → d.name = nmS S.2.2 c → TW d v H' → But m H H' → SrcAt K S H' m (a + 15) (c + 1) → Q v H'
theorem name1 {z : Nat} (h : 97 ≤ z) (h' : z ≤ 122) : NameOk ⟨#[z]⟩ := ⟨[z], rfl, Nat.le_refl _, (by decide : 1 ≤ 2), fun c hc => by
  cases List.mem_singleton.mp hc
  exact ⟨h, h'⟩⟩
theorem word_ok {v : V} (h : v ∈ [V.str "permanent", .str "transient", .str "temporary"]) : ∃ z, v = .str z ∧ WordOk z := by
  simp only [List.mem_cons, List.not_mem_nil, or_false] at h
  rcases h with rfl | rfl | rfl
  · exact ⟨_, rfl, .inl rfl⟩
  · exact ⟨_, rfl, .inr (.inl rfl)⟩
  · exact ⟨_, rfl, .inr (.inr rfl)⟩
theorem way_ok {v : V} (h : v ∈ [V.str "one", .str "rest", .str "all"]) : ∃ z, v = .str z ∧ WayOk z := by
  simp only [List.mem_cons, List.not_mem_nil, or_false] at h
  rcases h with rfl | rfl | rfl
  · exact ⟨_, rfl, .inl rfl⟩
  · exact ⟨_, rfl, .inr (.inl rfl)⟩
  · exact ⟨_, rfl, .inr (.inr rfl)⟩
theorem name_nm (f : Int) (c : Nat) : NameOk (nmS f c) := name1 (nmZ_in f c).1 (nmZ_in f c).2
theorem lim_ok {v : V} {r : Int} (r0 : 0 ≤ r) (r1 : r ≤ 1000) (h : v ∈ [V.non, .non, .int 0, .int r]) : ∃ l, v = limV l ∧ LimOk l ∧ LowL l := by
  simp only [List.mem_cons, List.not_mem_nil, or_false] at h
  rcases h with rfl | rfl | rfl | rfl
  · exact ⟨none, rfl, (fun i e => nomatch e), fun i e => nomatch e⟩
  · exact ⟨none, rfl, (fun i e => nomatch e), fun i e => nomatch e⟩
  · exact ⟨some 0, rfl, (fun i e => by cases e; exact ⟨by decide, by decide⟩), fun i e => by cases e; decide⟩
  · exact ⟨some r, rfl, (fun i e => by cases e; exact ⟨r0, by omega⟩), fun i e => by cases e; omega⟩
theorem word2_ok {v : V} (h : v ∈ [V.str "permanent", .str "transient"]) : ∃ z, v = .str z ∧ WordOk z := by
  simp only [List.mem_cons, List.not_mem_nil, or_false] at h
  rcases h with rfl | rfl
  · exact ⟨_, rfl, .inl rfl⟩
  · exact ⟨_, rfl, .inr (.inl rfl)⟩
namespace Told
def names : (n : Nat) → Told n → List Str
  | 0, _ => []
  | n + 1, t => match (show WD ⊕ (SD × List (Told n)) from t) with
    | .inl d => [d.name]
    | .inr x => x.1.name :: (x.2.map (names n)).flatten
/-- the greatest product of most + 1 -/
def great : (n : Nat) → Told n → Nat
  | 0, _ => 1
  | n + 1, t => match (show WD ⊕ (SD × List (Told n)) from t) with
    | .inl _ => 1
    | .inr x => (x.1.most.toNat + 1) * (x.2.map (great n)).foldr max 1
end Told
def nms (f : Int) : Nat → Nat → List Str
  | _, 0 => []
  | c, n + 1 => nmS f c :: nms f (c + 1) n
theorem nms_app (f : Int) : ∀ (m c n : Nat), nms f c (m + n) = nms f c m ++ nms f (c + m) n
  | 0, c, n => by rw [Nat.zero_add]; rfl
  | m + 1, c, n => by
    rw [Nat.succ_add]
    show nmS f c :: nms f (c + 1) (m + n) = nmS f c :: (nms f (c + 1) m ++ _)
    rw [nms_app f m (c + 1) n, Nat.add_assoc c 1, Nat.add_comm 1]
theorem max_le {q N : Nat} (h1 : q ≤ N) : ∀ {l : List Nat}, (∀ x ∈ l, x * q ≤ N) → l.foldr max 1 * q ≤ N
  | [], _ => by rw [List.foldr_nil, Nat.one_mul]; exact h1
  | x :: l, h => by
    rw [List.foldr_cons, Nat.max_def]
    split
    · exact max_le h1 fun y hy => h y (List.mem_cons_of_mem _ hy)
    · exact h x List.mem_cons_self
section
variable {P : Program} {w : World} {K : PySem.W.Frag} {S : Addr × List Int × Int} {mg : Str → Option Value} {base : Heap}
theorem ok_worker (T : Env K mg) : FnOk P w K mg base CX0 4 (d_L_worker.loc K) T.fd_L_worker ["m"] (spWorker K S) := by
  have G_L_name : FnOk P w K mg base CX0 1 _ _ _ _ := ok_name (S := S) T
  have G_L_ticks : FnOk P w K mg base CX0 2 _ _ _ _ := ok_ticks (S := S) T
  have G_L_of : FnOk P w K mg base CX0 2 _ _ _ _ := ok_of (S := S) T
  have G_L_next : FnOk P w K mg base CX0 1 _ _ _ _ := ok_next (S := S) T
  refine T.F_L_worker.ok sc_L_worker (fun vs H Q E h => ?_) (fun cdv A outer s H vs Q E hr h => ?_)
  · obtain ⟨m, a, c, rfl, _⟩ := h
    rfl
  · have nd := sc_L_worker.nd
    have hu := hu_of hr
    obtain ⟨m, a, c, rfl, hS, ha, hc, k⟩ := h
    refine ⟨_, PSs.nox (pss_cons (ps_par3 (i := 1) (j := 2) (l := 3) (by rfl) nd rfl rfl rfl (by decide) (by decide) (by decide) rfl rfl rfl (pa_cons (pe_call G_L_name (hr.mono (by decide)) (by rfl) T.g__law_name T.F_L_name.kp T.bi_L_name .nil pass0 (pa_cons (pv 0) pa_nil)) (pa_cons (pe_call G_L_ticks (hr.mono (by decide)) (by rfl) T.g__law_ticks T.F_L_ticks.kp T.bi_L_ticks .nil pass0 (pa_cons (pv 0) pa_nil)) (pa_cons (pe_call G_L_ticks (hr.mono (by decide)) (by rfl) T.g__law_ticks T.F_L_ticks.kp T.bi_L_ticks .nil pass0 (pa_cons (pv 0) pa_nil)) pa_nil))) (by rfl))
 (pss_cons (ps_set (i := 4) nd rfl (Or.inl rfl) (pe_call G_L_of (hr.mono (by decide)) (by rfl) T.g__law_of T.F_L_of.kp T.bi_L_of .nil pass0 (pa_cons (pv 0) (pa_cons (pe_lst (pa_cons pe_non (pa_cons pe_non (pa_cons pe_int (pa_cons (pe_call G_L_next (hr.mono (by decide)) (by rfl) T.g__law_next T.F_L_next.kp T.bi_L_next .nil pass0 (pa_cons (pv 0) (pa_cons pe_int pa_nil))) pa_nil))))) pa_nil))))
 (pss_one (ps_ret (pe_tup (pa_cons pe_str (pa_cons (pv 1) (pa_cons (pe_call G_L_of (hr.mono (by decide)) (by rfl) T.g__law_of T.F_L_of.kp T.bi_L_of .nil pass0 (pa_cons (pv 0) (pa_cons (pe_lst (pa_cons pe_str (pa_cons pe_str pa_nil))) pa_nil))) (pa_cons (pv 2) (pa_cons (pv 3) (pa_cons (pv 4) (pa_cons pe_int pa_nil)))))))))))), ?_⟩
    refine ⟨.ref m, rfl, m, a, c, rfl, hS, by omega, fun H1 b1 s1 => ?_⟩
    refine ⟨.ref m, rfl, m, a, c + 1, rfl, s1, by omega, by omega, fun i2 H2 l2 u2 b2 s2 => ?_⟩
    refine ⟨.ref m, rfl, m, a + 4, c + 1, rfl, s2, by omega, by omega, fun i3 H3 l3 u3 b3 s3 => ?_⟩
    refine ⟨_, _, _, rfl, ?_⟩
    refine ⟨.ref m, rfl, .ref m, rfl, m, 30, a + 8, c + 1, rfl, by decide, by decide, s3, by omega, fun r H4 r0 r1 b4 s4 => ⟨(by decide : 4 ≤ sizeLine), fun p hp => ?_⟩⟩
    refine ⟨m, p, _, a + 9, c + 1, rfl, upd_same, by simp, by simp, s4.new hp, by omega, s4.ne hp, fun lv H5 hlv b5 s5 => ?_⟩
    obtain ⟨lim, rfl, hlim, hlow⟩ := lim_ok r0 (by omega) hlv
    refine ⟨_, rfl, .ref m, rfl, (by decide : 2 ≤ sizeLine), fun p2 hp2 => ?_⟩
    refine ⟨m, p2, _, a + 10, c + 1, rfl, upd_same, by simp, by simp, s5.new hp2, by omega, s5.ne hp2, fun v H6 hv b6 s6 => ?_⟩
    obtain ⟨wd, rfl, hwd⟩ := word2_ok hv
    refine ⟨_, rfl, _, rfl, _, rfl, (by decide : 7 ≤ sizeLine), fun q hq => ?_⟩
    refine k (.ref q) ⟨nmS S.2.2 c, wd, i2, i3, lim, 0⟩ _ ⟨name_nm _ _, hwd, ⟨l2, by show i2 ≤ 1000000000; omega⟩, ⟨l3, by show i3 ≤ 1000000000; omega⟩, hlim, Int.le_refl _, (by decide : (0 : Int) ≤ 100)⟩ ⟨u2, u3, hlow⟩ rfl ⟨q, rfl, upd_same⟩ ?_ ((s6.new hq).mono (by omega))
    exact (((((((b1.trans b2).trans b3).trans b4).new hp).trans b5).new hp2).trans b6).new hq
theorem if_draw {tA tB tC : TT} {t u : TS} {D : Ends} {σ : L2.St} {H : Hp} {a b : Bool} (ha : EvB tA σ H a) (hb : EvB tB σ H b) (no : (a && b) = false → u D σ H) (yes : a = true → b = true → tC σ H fun c H1 => if c = true then t D σ H1 else u D σ H1) : tIfS (tAnd tA (tAnd tB tC)) t u D σ H := ha _ (by
  cases a with
  | false => exact no rfl
  | true => exact hb _ (by
      cases b with
      | false => exact no rfl
      | true => exact yes rfl rfl))
def spSup (K : PySem.W.Frag) (S : Addr × List Int × Int) (j : Nat) : Sp := fun vs H Q _ => ∃ (m : Addr) (a c p : Nat), vs = [.ref m, .int (6 - (j : Int)), .int (p : Nat)] ∧ 1 ≤ p ∧ p ≤ 200 ∧ 1 ≤ j ∧ j ≤ 5 ∧ SrcAt K S H m a c ∧ c ≤ 13 ∧ a ≤ 15 * c + 100 ∧
  ∀ v (t : Told (j + 1)) H', (∃ x : SD × List (Told j), t = Sum.inr x) → MostLe 3 (j + 1) t → Told.Ok (j + 1) t → Told.names (j + 1) t = nms S.2.2 c (Told.size (j + 1) t) → Told.great (j + 1) t * p ≤ 200 → TAt (j + 1) t v H' → c + Told.size (j + 1) t ≤ 14 → But m H H' → SrcAt K S H' m (a + 15 * Told.size (j + 1) t) (c + Told.size (j + 1) t) → Q v H'
theorem src_count {m : Addr} {H : Hp} {a c : Nat} (h : SrcAt K S H m a c) {σ : L2.St} (h0 : σ[0]? = some (some (.ref m))) : Ev (tDGet (tVar 0) (tC (.str "count"))) σ H (.int c) := by
  obtain ⟨s0, cs, kk, ll, f, hm, _⟩ := h
  exact ev_dget (ev_var h0) ev_c hm (k := Sum.inr "count") v_count
/-- a drawn list of children -/
structure Kids (f : Int) (c q : Nat) (j : Nat) (ts : List (Told (j + 1))) : Prop where
  ok : ∀ t ∈ ts, Told.Ok (j + 1) t
  nm : (ts.map (Told.names (j + 1))).flatten = nms f c (ts.map (Told.size (j + 1))).sum
  gr : ∀ t ∈ ts, Told.great (j + 1) t * q ≤ 200
  ml : ∀ t ∈ ts, MostLe 3 (j + 1) t
theorem Kids.add {f : Int} {c q j : Nat} {ts : List (Told (j + 1))} {t : Told (j + 1)} (h : Kids f c q j ts) (ok : Told.Ok (j + 1) t) (nm : Told.names (j + 1) t = nms f (c + (ts.map (Told.size (j + 1))).sum) (Told.size (j + 1) t)) (gr : Told.great (j + 1) t * q ≤ 200) (ml : MostLe 3 (j + 1) t) : Kids f c q j (ts ++ [t]) := by
  refine ⟨fun x hx => ?_, ?_, fun x hx => ?_, fun x hx => ?_⟩
  · rcases List.mem_append.mp hx with hx | hx
    · exact h.ok x hx
    · cases List.mem_singleton.mp hx
      exact ok
  · rw [List.map_append, List.flatten_append, h.nm, List.map_append, List.sum_append, nms_app]
    simp only [List.map_cons, List.map_nil, List.flatten_cons, List.flatten_nil, List.append_nil, List.sum_cons, List.sum_nil, Nat.add_zero]
    rw [nm]
  · rcases List.mem_append.mp hx with hx | hx
    · exact h.gr x hx
    · cases List.mem_singleton.mp hx
      exact gr
  · rcases List.mem_append.mp hx with hx | hx
    · exact h.ml x hx
    · cases List.mem_singleton.mp hx
      exact ml
def SupInv (K : PySem.W.Frag) (S : Addr × List Int × Int) (j : Nat) (m l : Addr) (lev : Int) (p q : Nat) (mo : Int) (a c : Nat) (H : Hp) (i : Nat) : L2.St → Hp → Prop := fun σ H' => ∃ (ts : List (Told (j + 1))) (ys : List V) (a6 a7 a8 a9 : Option V), σ = [some (.ref m), some (.int lev), some (.int (p : Nat)), some (.str (nmS S.2.2 c)), some (.ref l), some (.int mo), a6, a7, a8, a9] ∧ H' l = some (.lst ys) ∧ Fa (ts.map (TAt (j + 1))) ys H' ∧
        Kids S.2.2 (c + 1) q j ts ∧ ts.length ≤ i ∧ c + 1 + (ts.map (Told.size (j + 1))).sum ≤ 14 ∧ SrcAt K S H' m (a + 2 + i + 15 * (ts.map (Told.size (j + 1))).sum) (c + 1 + (ts.map (Told.size (j + 1))).sum) ∧ But m H H'
theorem sum_nn : ∀ (l : List Int), (∀ x ∈ l, 0 ≤ x) → 0 ≤ l.sum
  | [], _ => Int.le_refl _
  | x :: l, h => by
    rw [List.sum_cons]
    have := sum_nn l fun y hy => h y (List.mem_cons_of_mem _ hy)
    have := h x List.mem_cons_self
    omega
theorem cut_nn {f : Int} {l : Option Int} (h : 0 ≤ f) (hl : LimOk l) : 0 ≤ cutI f l := by
  cases l with
  | none => exact h
  | some i =>
    have := (hl i rfl).1
    show 0 ≤ if f ≤ i then f else i
    split <;> assumption
theorem stop_nn : ∀ (n : Nat) (t : Told n), Told.Ok n t → 0 ≤ Told.stopping n t
  | 0, _, _ => Int.le_refl _
  | n + 1, .inl d, h => cut_nn h.2.2.2.1.1 h.2.2.2.2.1
  | n + 1, .inr (d, ts), h => cut_nn (sum_nn _ fun x hx => by
      obtain ⟨t, ht, rfl⟩ := List.mem_map.mp hx
      exact stop_nn n t (h.2.2 t ht)) h.1.2.2.2.2.2.2.2
theorem ok_supervisor (T : Env K mg) : ∀ j, FnOk P w K mg base CX0 (j + 9) (d_L_supervisor.loc K) T.fd_L_supervisor ["m", "level", "product"] (spSup K S j)
  | 0 => T.F_L_supervisor.ok sc_L_supervisor (fun vs H Q E (h : spSup K S 0 vs H Q E) => by obtain ⟨m, a, c, p, rfl, _, _, z, _⟩ := h; cases z) (fun cdv A outer s H vs Q E hr (h : spSup K S 0 vs H Q E) => by obtain ⟨m, a, c, p, rfl, _, _, z, _⟩ := h; cases z)
  | j + 1 => by
    have G_L_name : FnOk P w K mg base CX0 1 _ _ _ _ := ok_name (S := S) T
    have G_L_of : FnOk P w K mg base CX0 2 _ _ _ _ := ok_of (S := S) T
    have G_L_next : FnOk P w K mg base CX0 1 _ _ _ _ := ok_next (S := S) T
    have G_L_worker : FnOk P w K mg base CX0 4 _ _ _ _ := ok_worker (S := S) T
    have G_L_supervisor : FnOk P w K mg base CX0 (j + 9) _ _ _ _ := ok_supervisor T j
    refine T.F_L_supervisor.ok sc_L_supervisor (fun vs H Q E h => ?_) (fun cdv A outer s H vs Q E hr h => ?_)
    · obtain ⟨m, a, c, p, rfl, _⟩ := h
      rfl
    · have nd := sc_L_supervisor.nd
      have hu := hu_of hr
      obtain ⟨m, a, c, p, rfl, hp1, hp2, hj0, hj, hS, hc, ha, k⟩ := h
      refine ⟨_, PSs.nox (pss_cons (ps_par3 (i := 3) (j := 4) (l := 5) (by rfl) nd rfl rfl rfl (by decide) (by decide) (by decide) rfl rfl rfl (pa_cons (pe_call G_L_name (hr.mono (by omega)) (by rfl) T.g__law_name T.F_L_name.kp T.bi_L_name .nil pass0 (pa_cons (pv 0) pa_nil)) (pa_cons (pe_lst pa_nil) (pa_cons (pe_callB (call_min2 rfl) (by rfl) T.b_min (by decide +kernel) (pa_cons (pe_call G_L_of (hr.mono (by omega)) (by rfl) T.g__law_of T.F_L_of.kp T.bi_L_of .nil pass0 (pa_cons (pv 0) (pa_cons (pe_lst (pa_cons pe_int (pa_cons pe_int (pa_cons pe_int (pa_cons pe_int (pa_cons pe_int pa_nil)))))) pa_nil))) (pa_cons (pe_op op_sub (pe_op op_fdivN pe_int (pv 2)) pe_int) pa_nil))) pa_nil))) (by rfl))
 (pss_cons (ps_for PassesOwn.never rfl (pi_range1 (by rfl) T.b_range (pa_cons (pe_op op_add pe_int (pe_call G_L_next (hr.mono (by omega)) (by rfl) T.g__law_next T.F_L_next.kp T.bi_L_next .nil pass0 (pa_cons (pv 0) (pa_cons pe_int pa_nil)))) pa_nil)) (pg_name (i := 6) nd rfl (Or.inl rfl))
  (pss_one (ps_if (PW.pt (pw_and (pt_cmpR op_lt (pe_dget hu (pv 0) pe_str (fun _ _ => rfl)) pe_int (nomark _)) (pw_and (pt_cmpR op_lt (pv 1) pe_int (nomark _)) (pw_and1 (pt_cmpR op_eq (pe_call G_L_next (hr.mono (by omega)) (by rfl) T.g__law_next T.F_L_next.kp T.bi_L_next .nil pass0 (pa_cons (pv 0) (pa_cons pe_int pa_nil))) pe_int (nomark _))))))
  (pss_one (ps_expr (pe_bm PySem.F.plainAttrs_list PySem.F.slot_list_append PySem.F.type_list_append mt_append (pv 4) (pa_cons (pe_call G_L_supervisor (hr.mono (by omega)) (by rfl) T.g__law_supervisor T.F_L_supervisor.kp T.bi_L_supervisor .nil pass0 (pa_cons (pv 0) (pa_cons (pe_op op_add (pv 1) pe_int) (pa_cons (pe_op op_mul (pv 2) (pe_op op_add (pv 5) pe_int)) pa_nil)))) pa_nil))))
  (pss_one (ps_if (pt_cmpR op_lt (pe_dget hu (pv 0) pe_str (fun _ _ => rfl)) pe_int (nomark _))
  (pss_one (ps_expr (pe_bm PySem.F.plainAttrs_list PySem.F.slot_list_append PySem.F.type_list_append mt_append (pv 4) (pa_cons (pe_call G_L_worker (hr.mono (by omega)) (by rfl) T.g__law_worker T.F_L_worker.kp T.bi_L_worker .nil pass0 (pa_cons (pv 0) pa_nil)) pa_nil))))
  pss_nil)))))
 (pss_cons (ps_par (i := 7) (j := 8) (by rfl) nd rfl rfl (by decide) rfl rfl (pa_cons (pe_call G_L_of (hr.mono (by omega)) (by rfl) T.g__law_of T.F_L_of.kp T.bi_L_of .nil pass0 (pa_cons (pv 0) (pa_cons (pe_lst (pa_cons pe_str (pa_cons pe_str pa_nil))) pa_nil))) (pa_cons (pe_call G_L_of (hr.mono (by omega)) (by rfl) T.g__law_of T.F_L_of.kp T.bi_L_of .nil pass0 (pa_cons (pv 0) (pa_cons (pe_lst (pa_cons pe_str (pa_cons pe_str (pa_cons pe_str pa_nil)))) pa_nil))) pa_nil)) (by rfl))
 (pss_cons (ps_set (i := 9) nd rfl (Or.inl rfl) (pe_call G_L_of (hr.mono (by omega)) (by rfl) T.g__law_of T.F_L_of.kp T.bi_L_of .nil pass0 (pa_cons (pv 0) (pa_cons (pe_lst (pa_cons pe_non (pa_cons pe_non (pa_cons pe_int (pa_cons (pe_call G_L_next (hr.mono (by omega)) (by rfl) T.g__law_next T.F_L_next.kp T.bi_L_next .nil pass0 (pa_cons (pv 0) (pa_cons pe_int pa_nil))) pa_nil))))) pa_nil))))
 (pss_one (ps_ret (pe_tup (pa_cons pe_str (pa_cons (pv 3) (pa_cons (pv 7) (pa_cons (pv 8) (pa_cons (pv 5) (pa_cons (pe_op op_add pe_int (pe_call G_L_next (hr.mono (by omega)) (by rfl) T.g__law_next T.F_L_next.kp T.bi_L_next .nil pass0 (pa_cons (pv 0) (pa_cons pe_int pa_nil)))) (pa_cons (pv 9) (pa_cons (pe_callTy WSl.call_tuple_ofF (by rfl) T.b_tuple (by decide +kernel) (pa_cons (pv 4) pa_nil)) pa_nil))))))))))))))), ?_⟩
      refine ⟨.ref m, rfl, m, a, c, rfl, hS, by omega, fun H1 b1 s1 => ?_⟩
      refine ⟨Nat.zero_le _, fun l hl => ?_⟩
      have far : Far K l S := s1.far hl
      have hlm : l ≠ m := s1.ne hl
      refine ⟨.ref m, rfl, (by decide : 5 ≤ sizeLine), fun p0 hp0 => ?_⟩
      refine ⟨m, p0, _, a, c + 1, rfl, upd_same, by simp, by simp, (s1.new hl).new hp0, by omega, (s1.new hl).ne hp0, fun mv H2 hmv b2 s2 => ?_⟩
      have hl2 : H2 l = some (.lst []) := b2 _ _ ((same_new hp0) _ _ upd_same) hlm
      have B2 : But m H H2 := ((b1.new hl).new hp0).trans b2
      have H0l : ∀ b o, H b = some o → b ≠ m → b ≠ l := fun b o e ne z => by
        have := b1 b o e ne
        rw [z, hl] at this
        cases this
      obtain ⟨mz, rfl, mz0, mz1⟩ : ∃ mz : Int, mv = .int mz ∧ 0 ≤ mz ∧ mz ≤ 3 := by
        simp only [List.mem_cons, List.not_mem_nil, or_false] at hmv
        rcases hmv with rfl | rfl | rfl | rfl | rfl <;> exact ⟨_, rfl, by decide, by decide⟩
      have hdiv : Int.fdiv 200 (p : Int) = ((200 / p : Nat) : Int) := by
        rw [Int.fdiv_eq_ediv_of_nonneg _ (by omega)]
        rfl
      have hdp : 1 ≤ 200 / p := (Nat.le_div_iff_mul_le (by omega)).mpr (by omega)
      have hpd : 200 / p * p ≤ 200 := Nat.div_mul_le_self 200 p
      refine ⟨_, rfl, 200, (p : Nat), rfl, rfl, ⟨by omega, by omega⟩, _, _, rfl, rfl, _, _, rfl, ?_⟩
      refine ⟨_, _, _, rfl, ?_⟩
      obtain ⟨mo, hmo, mo20, moq⟩ : ∃ mo : Nat, (if Int.fdiv 200 (p : Nat) - 1 < mz then Int.fdiv 200 (p : Nat) - 1 else mz) = ((mo : Nat) : Int) ∧ mo ≤ 3 ∧ p * (mo + 1) ≤ 200 := by
        rw [hdiv]
        generalize 200 / p = d at *
        have e : ∃ mo : Nat, (if ((d : Nat) : Int) - 1 < mz then ((d : Nat) : Int) - 1 else mz) = ((mo : Nat) : Int) ∧ mo ≤ 3 ∧ mo + 1 ≤ d := by
          split
          · exact ⟨d - 1, by omega, by omega, by omega⟩
          · exact ⟨mz.toNat, by omega, by omega, by omega⟩
        obtain ⟨mo, e1, e2, e3⟩ := e
        refine ⟨mo, e1, e2, Nat.le_trans (Nat.mul_le_mul_left p e3) ?_⟩
        rw [Nat.mul_comm]
        exact hpd
      rw [hmo]
      generalize hlev : (6 - ((j + 1 : Nat) : Int)) = lev at *
      refine ⟨.ref m, rfl, m, 4, _, _, rfl, by decide, by decide, s2, by omega, fun r H3 r0 r1 b3 s3 => ⟨1, r, rfl, rfl, 1 + r, rfl, by omega, by omega, ?_⟩⟩
      have hl3 := b3 _ _ hl2 hlm
      refine for_range (SupInv K S j m l lev p (p * (mo + 1)) ((mo : Nat) : Int) a c H) ⟨[], [], _, _, _, _, rfl, hl3, trivial, ⟨(fun _ z => nomatch z), rfl, (fun _ z => nomatch z), (fun _ z => nomatch z)⟩, by simp, by simp; omega, by simpa using s3, B2.trans b3⟩ (fun i σ H3 hi q => ?_) (fun σ H3 q => ?_)
      · obtain ⟨ts, ys, a6, a7, a8, a9, rfl, hl3, fa3, kd3, ln3, sz3, s3, b3⟩ := q
        have ylen := sup_len fa3
        generalize hsz : (ts.map (Told.size (j + 1))).sum = sz at *
        have add : ∀ (t : Told (j + 1)) (v : V) (H4 : Hp) (a' : Nat), MostLe 3 (j + 1) t → Told.Ok (j + 1) t → Told.names (j + 1) t = nms S.2.2 (c + 1 + sz) (Told.size (j + 1) t) → Told.great (j + 1) t * (p * (mo + 1)) ≤ 200 → TAt (j + 1) t v H4 → But m H3 H4 → c + 1 + sz + Told.size (j + 1) t ≤ 14 → a' ≤ a + 2 + (i + 1) + 15 * (sz + Told.size (j + 1) t) → SrcAt K S H4 m a' (c + 1 + sz + Told.size (j + 1) t) → rAppend (.ref l) [v] H4 fun _ H5 =>
            SupInv K S j m l lev p (p * (mo + 1)) ((mo : Nat) : Int) a c H (i + 1) [some (.ref m), some (.int lev), some (.int (p : Nat)), some (.str (nmS S.2.2 c)), some (.ref l), some (.int ((mo : Nat) : Int)), some (.int (0 + (i : Nat))), a7, a8, a9] H5 := by
          intro t v H4 a' hml hok hnm hgr ht b4 hz ha' s4
          have hl4 := b4 _ _ hl3 hlm
          have kp4 : Kp H3 (upd H4 l (.lst (ys ++ [v]))) := (b4.kp s3).trans (Kp.lst hl4)
          refine ⟨l, ys, v, rfl, rfl, hl4, Nat.lt_of_le_of_lt (show ys.length ≤ 5 by omega) (by decide), ts ++ [t], ys ++ [v], _, _, _, _, rfl, upd_same, ?_, kd3.add hok (by rw [hsz]; exact hnm) hgr hml, ?_, ?_, ?_, ?_⟩
          · rw [List.map_append]
            exact (fa_kp mk_tats kp4 fa3).app ⟨mk_tat _ t _ _ _ (Kp.lst hl4) ht, trivial⟩
          · rw [List.length_append]
            exact Nat.succ_le_succ ln3
          · rw [List.map_append, List.sum_append, hsz]
            simp only [List.map_cons, List.map_nil, List.sum_cons, List.sum_nil]
            omega
          · rw [List.map_append, List.sum_append, hsz]
            simp only [List.map_cons, List.map_nil, List.sum_cons, List.sum_nil]
            rw [Nat.add_zero, ← Nat.add_assoc (c + 1)]
            exact (s4.mono ha').putl hl4 far
          · intro b o e ne
            rw [upd_ne (H0l b o e ne)]
            exact b4 _ _ (b3 b o e ne) ne
        have same : ∀ H4, But m H3 H4 → SrcAt K S H4 m (a + 2 + (i + 1) + 15 * sz) (c + 1 + sz) → SupInv K S j m l lev p (p * (mo + 1)) ((mo : Nat) : Int) a c H (i + 1) [some (.ref m), some (.int lev), some (.int (p : Nat)), some (.str (nmS S.2.2 c)), some (.ref l), some (.int ((mo : Nat) : Int)), some (.int (0 + (i : Nat))), a7, a8, a9] H4 := by
          intro H4 b4 s4
          refine ⟨ts, ys, _, _, _, _, rfl, b4 _ _ hl3 hlm, fa_kp mk_tats (b4.kp s3) fa3, kd3, by omega, by omega, by rw [hsz]; exact s4, b3.trans b4⟩
        have els : ∀ (D : Ends) (H4 : Hp) (a' : Nat), But m H3 H4 → a' ≤ a + 2 + (i + 1) + 15 * sz → SrcAt K S H4 m a' (c + 1 + sz) → (∀ H5, (SupInv K S j m l lev p (p * (mo + 1)) ((mo : Nat) : Int) a c H (i + 1) [some (.ref m), some (.int lev), some (.int (p : Nat)), some (.str (nmS S.2.2 c)), some (.ref l), some (.int ((mo : Nat) : Int)), some (.int (0 + (i : Nat))), a7, a8, a9] H5) → D.nx [some (V.ref m), some (.int lev), some (.int (p : Nat)), some (.str (nmS S.2.2 c)), some (.ref l), some (.int ((mo : Nat) : Int)), some (.int (0 + (i : Nat))), a7, a8, a9] H5) →
            tIfS (tTest (tOp (rI0 fun i j => .bl (decide (i < j))) (tDGet (tVar 0) (tC (.str "count"))) (tC (.int 14)))) (tDrop (tBM K "list" rAppend (tVar 4) (tCons (tCall (spWorker K S) [] E (tCons (tVar 0) tNil)) tNil))) tNext D [some (.ref m), some (.int lev), some (.int (p : Nat)), some (.str (nmS S.2.2 c)), some (.ref l), some (.int ((mo : Nat) : Int)), some (.int (0 + (i : Nat))), a7, a8, a9] H4 := by
          intro D H4 a' b4 ha' s4 kk
          refine st_if (evb_cmp (src_count s4 rfl) ev_c) ?_
          split
          · rename_i hlt
            have hlt := of_decide_eq_true hlt
            refine ⟨.ref l, rfl, .inl ⟨rfl, _, .of (b4 _ _ hl3 hlm)⟩, .ref m, rfl, m, a', c + 1 + sz, rfl, s4, by omega, by omega, fun v d H5 dok dlow d1 tw b5 s5 => ?_⟩
            have := add (Sum.inl d) v H5 _ dlow dok (by show [d.name] = _; rw [d1]; rfl) (by show 1 * (p * (mo + 1)) ≤ 200; omega) tw (b4.trans b5) (by show c + 1 + sz + 1 ≤ 14; omega) (by show a' + 15 ≤ a + 2 + (i + 1) + 15 * (sz + 1); omega) s5
            obtain ⟨l', xs, y, e1, e2, e3, e4, q⟩ := this
            exact ⟨l', xs, y, e1, e2, e3, e4, kk _ q⟩
          · exact kk _ (same H4 b4 (s4.mono ha'))
        dsimp only
        refine if_draw (a := decide ((↑(c + 1 + sz) : Int) < 14)) (b := decide (lev < 5)) (evb_cmp (src_count s3 rfl) ev_c) (evb_cmp (ev_var rfl) ev_c) (fun no => ?_) (fun hlt hl5 => ?_)
        · exact els _ H3 _ But.refl (by omega) s3 fun H5 q => q
        · have hlt := of_decide_eq_true hlt
          have hl5 := of_decide_eq_true hl5
          refine ⟨.ref m, rfl, m, 2, _, _, rfl, by decide, by decide, s3, by omega, fun r4 H4 _ _ b4 s4 => ?_⟩
          refine ⟨rfl, _, rfl, ?_⟩
          dsimp only
          split
          · refine ⟨.ref l, rfl, .inl ⟨rfl, _, .of (b4 _ _ hl3 hlm)⟩, .ref m, rfl, .int lev, rfl, lev, 1, rfl, rfl, _, rfl, _, rfl, ((mo : Nat) : Int), 1, rfl, rfl, (p : Nat), ((mo : Nat) : Int) + 1, rfl, rfl, .inl ⟨by omega, by omega⟩, m, _, _, p * (mo + 1), ?_, by have := Nat.mul_le_mul hp1 (Nat.le_add_left 1 mo); omega, moq, by omega, by omega, s4, by omega, by omega, fun v t H5 _ hml hok hnm hgr ht hsz5 b5 s5 => ?_⟩
            · show [V.ref m, V.int (lev + 1), V.int ((p : Nat) * (((mo : Nat) : Int) + 1))] = [V.ref m, V.int (6 - (j : Int)), V.int ((p * (mo + 1) : Nat) : Int)]
              rw [show lev + 1 = 6 - (j : Int) by omega, Int.natCast_mul, Int.natCast_add]
              rfl
            · obtain ⟨l', xs, y, e1, e2, e3, e4, q⟩ := add t v H5 _ hml hok hnm hgr ht (b4.trans b5) hsz5 (by omega) s5
              exact ⟨l', xs, y, e1, e2, e3, e4, q⟩
          · exact els _ H4 _ b4 (by omega) s4 fun H5 q => q
      · obtain ⟨ts, ys, a6, a7, a8, a9, rfl, hl3, fa3, kd3, ln3, sz3, s3, b3⟩ := q
        generalize hsz : (ts.map (Told.size (j + 1))).sum = sz at *
        have ylen := sup_len fa3
        refine ⟨.ref m, rfl, (by decide : 2 ≤ sizeLine), fun p1 hp1' => ?_⟩
        refine ⟨m, p1, _, _, _, rfl, upd_same, by simp, by simp, s3.new hp1', by omega, s3.ne hp1', fun v5 H4 hv5 b4 s4 => ?_⟩
        refine ⟨.ref m, rfl, (by decide : 3 ≤ sizeLine), fun p2 hp2' => ?_⟩
        refine ⟨m, p2, _, _, _, rfl, upd_same, by simp, by simp, s4.new hp2', by omega, s4.ne hp2', fun v6 H5 hv6 b5 s5 => ?_⟩
        refine ⟨_, _, rfl, ?_⟩
        obtain ⟨wd, rfl, hwd⟩ := word2_ok hv5
        obtain ⟨wy, rfl, hwy⟩ := way_ok hv6
        have B5 : But m H3 H5 := (((But.refl.new hp1').trans b4).new hp2').trans b5
        clear b4 b5 hp1' hp2' s4
        dsimp only
        show tAsg _ (gName 9) _ _ _
        refine ⟨.ref m, rfl, .ref m, rfl, m, 60, _, _, rfl, by decide, by decide, s5, by omega, fun r6 H6 l6 u6 b6 s6 => ⟨(by decide : 4 ≤ sizeLine), fun p3 hp3 => ?_⟩⟩
        refine ⟨m, p3, _, _, _, rfl, upd_same, by simp, by simp, s6.new hp3, by omega, s6.ne hp3, fun lv H7 hlv b7 s7 => ?_⟩
        obtain ⟨lim, rfl, hlim, hlow⟩ := lim_ok l6 (by omega) hlv
        dsimp only
        show tRet _ _ _ _
        refine ⟨_, rfl, _, rfl, _, rfl, _, rfl, .ref m, rfl, m, 90, _, _, rfl, by decide, by decide, s7, by omega, fun r9 H9 l9 u9 b9 s9 => ?_⟩
        have B9 : But m H3 H9 := (((B5.trans b6).new hp3).trans b7).trans b9
        have hl9 := B9 _ _ hl3 hlm
        refine ⟨1, r9, rfl, rfl, _, rfl, .ref l, rfl, l, ys, rfl, .of hl9, fun q ob hq hob => ?_⟩
        refine ⟨(by decide : 8 ≤ sizeLine), fun pt hpt => ?_⟩
        have fa9 := fa_kp mk_tats (B9.kp s3) fa3
        have hq' : upd H9 q (.frz ob (.tup ys)) q = some (.frz ob (.tup ys)) := upd_same
        have pq : q ≠ pt := fun z => by rw [← z, hq'] at hpt; cases hpt
        refine k (.ref pt) (Sum.inr (⟨nmS S.2.2 c, wd, wy, ((mo : Nat) : Int), 1 + r9, lim⟩, ts)) _ ⟨_, rfl⟩ ⟨(by show ((mo : Nat) : Int) ≤ 3; omega), hlow, fun t ht => kd3.ml t ht⟩ ⟨⟨name_nm _ _, hwd, hwy, by show (0 : Int) ≤ (mo : Nat); omega, by show ((mo : Nat) : Int) ≤ 20; omega, by show 1 ≤ 1 + r9; omega, by show 1 + r9 ≤ 1000000000; omega, hlim⟩, by show ts.length ≤ 4; omega, fun t ht => kd3.ok t ht⟩ ?_ ?_
          ⟨pt, q, ys, rfl, upd_same, ⟨ob, by rw [upd_ne pq]; exact hq', hob⟩, fa_kp mk_tats ((Kp.same (same_new hq)).trans (Kp.same (same_new hpt))) fa9⟩ ?_ (((b3.trans B9).new hq).new hpt) ?_
        · show nmS S.2.2 c :: (ts.map (Told.names (j + 1))).flatten = nms S.2.2 c (1 + (ts.map (Told.size (j + 1))).sum)
          rw [kd3.nm, hsz, Nat.add_comm 1]
          rfl
        · show (((mo : Nat) : Int).toNat + 1) * (ts.map (Told.great (j + 1))).foldr max 1 * p ≤ 200
          rw [Int.toNat_natCast, Nat.mul_comm (mo + 1), Nat.mul_assoc, Nat.mul_comm (mo + 1)]
          exact max_le moq fun x hx => by
            obtain ⟨t, ht, rfl⟩ := List.mem_map.mp hx
            exact kd3.gr t ht
        · show c + (1 + (ts.map (Told.size (j + 1))).sum) ≤ 14
          omega
        · show SrcAt K S _ m (a + 15 * (1 + (ts.map (Told.size (j + 1))).sum)) (c + (1 + (ts.map (Told.size (j + 1))).sum))
          rw [hsz, ← Nat.add_assoc]
          exact ((s9.new hq).new hpt).mono (by omega)
end
end W48

set_option Elab.async false
set_option linter.all false
set_option maxRecDepth 100000
set_option maxHeartbeats 4000000
namespace W48
open PySem PySem.Spec PyProof.Rows L2 WXG WEv WRd WLf WEn WZs WRu WSt StX WDc
/-! ### lines -/
def numS (i : Int) : Str := Str.ofString (toString i)
def limS : Option Int → Str
  | none => "-"
  | some i => numS i
def WD.words (d : WD) : List Str := ["worker", d.name, d.word, numS d.b, numS d.e, limS d.lim, numS d.r]
def SD.words (d : SD) : List Str := ["supervisor", d.name, d.word, d.way, numS d.most, numS d.span, limS d.lim]
abbrev Item := WD ⊕ SD
def Item.words : Item → List Str
  | .inl d => d.words
  | .inr d => d.words
def Item.Ok : Item → Prop
  | .inl d => d.Ok
  | .inr d => d.Ok
def lineI (q : Nat × Item) : Str := repS "  " q.1 ++ Txt.join " " (Item.words q.2)
def Told.flat : (n : Nat) → Told n → Nat → List (Nat × Item)
  | 0, _, _ => []
  | n + 1, t, l => match (show WD ⊕ (SD × List (Told n)) from t) with
    | .inl d => [(l, .inl d)]
    | .inr x => (l, .inr x.1) :: x.2.flatMap fun t => flat n t (l + 1)
def shownV : V → Str
  | .non => "-"
  | .int i => numS i
  | .str z => z
  | _ => ""
theorem lim_shown (l : Option Int) : shownV (limV l) = limS l := by cases l <;> rfl
theorem flat_len : ∀ (n : Nat) (t : Told n) (l : Nat), (Told.flat n t l).length = Told.size n t
  | 0, _, _ => rfl
  | n + 1, .inl d, l => rfl
  | n + 1, .inr (d, ts), l => by
    show ((ts.flatMap fun t => Told.flat n t (l + 1)).length + 1) = 1 + (ts.map (Told.size n)).sum
    rw [List.length_flatMap, Nat.add_comm]
    congr 2
    exact List.map_congr_left fun t _ => flat_len n t (l + 1)
theorem flat_ok : ∀ (n : Nat) (t : Told n) (l : Nat), Told.Ok n t → ∀ q ∈ Told.flat n t l, Item.Ok q.2 ∧ q.1 ≤ l + n
  | 0, _, _, _, q, hq => absurd hq (by simp [Told.flat])
  | n + 1, .inl d, l, h, q, hq => by
    cases List.mem_singleton.mp hq
    exact ⟨h, by omega⟩
  | n + 1, .inr (d, ts), l, h, q, hq => by
    rcases List.mem_cons.mp hq with rfl | hq
    · exact ⟨h.1, by show l ≤ _; omega⟩
    · obtain ⟨t, ht, hq⟩ := List.mem_flatMap.mp hq
      have := flat_ok n t (l + 1) (h.2.2 t ht) q hq
      exact ⟨this.1, by omega⟩
/-! ### signs -/
theorem num_tl {i : Int} (h : 0 ≤ i) : TL.tl (numS i) = TL.numL i.toNat := by
  obtain ⟨n, rfl⟩ := Int.eq_ofNat_of_zero_le h
  exact TL.tl_num n
/-- a word of a line: short, without blanks -/
def WOk (z : Str) : Prop := z.length ≤ 12 ∧ 32 ∉ TL.tl z ∧ 10 ∉ TL.tl z ∧ TL.tl z ≠ []
theorem wok_num {i : Int} (h : TickOk i) : WOk (numS i) := by
  have e := num_tl h.1
  have l : (TL.numL i.toNat).length ≤ 10 := TL.numL_len (by decide) (by have := h.2; omega)
  refine ⟨?_, ?_, ?_, ?_⟩
  · rw [TL.len_tl, e]
    omega
  · rw [e]
    exact TL.numL_free (.inl (by decide))
  · rw [e]
    exact TL.numL_free (.inl (by decide))
  · rw [e]
    exact TL.numL_ne _
theorem wok_lit {z : Str} (h : (decide (z.length ≤ 12) && (!(TL.tl z).contains 32 && (!(TL.tl z).contains 10 && !(TL.tl z).isEmpty))) = true) : WOk z := by
  simp only [Bool.and_eq_true, decide_eq_true_eq, Bool.not_eq_true', List.contains_eq_mem, decide_eq_false_iff_not, List.isEmpty_eq_false_iff] at h
  exact h
theorem wok_lim {l : Option Int} (h : LimOk l) : WOk (limS l) := by
  cases l with
  | none => exact wok_lit (z := "-") (by decide)
  | some i => exact wok_num (h i rfl)
theorem wok_name {z : Str} (h : NameOk z) : WOk z := by
  obtain ⟨cs, rfl, h1, h2, h3⟩ := h
  refine ⟨?_, fun m => ?_, fun m => ?_, fun e => ?_⟩
  · rw [TL.len_tl]
    show cs.length ≤ 12
    omega
  · exact absurd (h3 32 m).1 (by decide)
  · exact absurd (h3 10 m).1 (by decide)
  · rw [show cs = [] from e] at h1
    cases h1
theorem wok_word {z : Str} (h : WordOk z) : WOk z := by
  rcases h with rfl | rfl | rfl
  · exact wok_lit (by decide)
  · exact wok_lit (by decide)
  · exact wok_lit (by decide)
theorem wok_way {z : Str} (h : WayOk z) : WOk z := by
  rcases h with rfl | rfl | rfl
  · exact wok_lit (by decide)
  · exact wok_lit (by decide)
  · exact wok_lit (by decide)
theorem item_words : ∀ {q : Item}, Item.Ok q → (Item.words q).length = 7 ∧ ∀ z ∈ Item.words q, WOk z
  | .inl d, h => ⟨rfl, by
    obtain ⟨h1, h2, h3, h4, h5, h6, h7⟩ := h
    intro z hz
    simp only [Item.words, WD.words, List.mem_cons, List.not_mem_nil, or_false] at hz
    rcases hz with rfl | rfl | rfl | rfl | rfl | rfl | rfl
    · exact wok_lit (by decide)
    · exact wok_name h1
    · exact wok_word h2
    · exact wok_num h3
    · exact wok_num h4
    · exact wok_lim h5
    · exact wok_num ⟨h6, by omega⟩⟩
  | .inr d, h => ⟨rfl, by
    obtain ⟨h1, h2, h3, h4, h5, h6, h7, h8⟩ := h
    intro z hz
    simp only [Item.words, SD.words, List.mem_cons, List.not_mem_nil, or_false] at hz
    rcases hz with rfl | rfl | rfl | rfl | rfl | rfl | rfl
    · exact wok_lit (by decide)
    · exact wok_name h1
    · exact wok_word h2
    · exact wok_way h3
    · exact wok_num ⟨h4, by omega⟩
    · exact wok_num ⟨by omega, h7⟩
    · exact wok_lim h8⟩
theorem sum_len : ∀ {ws : List Str}, (∀ z ∈ ws, WOk z) → (ws.map (·.length)).sum ≤ 12 * ws.length
  | [], _ => Nat.le_refl _
  | z :: ws, h => by
    have h1 := (h z List.mem_cons_self).1
    have h2 := sum_len fun y hy => h y (List.mem_cons_of_mem _ hy)
    rw [List.map_cons, List.sum_cons, List.length_cons]
    omega
theorem joinL_len (S : List Nat) : ∀ (ps : List (List Nat)), (TL.joinL S ps).length ≤ (ps.map (·.length)).sum + ps.length * S.length
  | [] => by simp [TL.joinL]
  | [p] => by simp [TL.joinL]
  | p :: q :: r => by
    have := joinL_len S (q :: r)
    show (p ++ (S ++ TL.joinL S (q :: r))).length ≤ _
    rw [List.length_append, List.length_append]
    simp only [List.map_cons, List.sum_cons, List.length_cons, Nat.add_mul, Nat.one_mul] at this ⊢
    omega
theorem join_len (y : Str) (ps : List Str) : (Txt.join y ps).length ≤ (ps.map (·.length)).sum + ps.length * y.length := by
  rw [TL.len_tl, TL.join_eq, TL.tl_join]
  have := joinL_len (TL.tl y) (ps.map TL.tl)
  rw [List.map_map, List.length_map] at this
  rw [TL.len_tl y]
  exact Nat.le_trans this (by
    rw [show (ps.map (List.length ∘ TL.tl)) = ps.map (·.length) from List.map_congr_left fun z _ => (TL.len_tl z).symm]
    exact Nat.le_refl _)
theorem foldl_arr (a : Array Nat) : ∀ (n : Nat) (x : Array Nat), ((List.replicate n a).foldl (· ++ ·) x).toList = x.toList ++ (List.replicate n a.toList).flatten
  | 0, x => by simp
  | n + 1, x => by
    rw [List.replicate_succ, List.foldl_cons, foldl_arr a n, List.replicate_succ, List.flatten_cons, Array.toList_append, List.append_assoc]
theorem tl_rep2 : ∀ n : Nat, (List.replicate n [32, 32]).flatten = List.replicate (2 * n) 32
  | 0 => rfl
  | n + 1 => by
    rw [List.replicate_succ, List.flatten_cons, tl_rep2 n, show 2 * (n + 1) = 2 * n + 1 + 1 by omega, List.replicate_succ, List.replicate_succ]
    rfl
theorem tl_ind (n : Nat) : TL.tl (repS "  " n) = List.replicate (2 * n) 32 := by
  rw [← tl_rep2]
  exact foldl_arr _ n #[]
theorem line_len {q : Nat × Item} (h : Item.Ok q.2) : (lineI q).length ≤ 2 * q.1 + 91 := by
  obtain ⟨hl, hw⟩ := item_words h
  have h1 := join_len " " (Item.words q.2)
  have h2 := sum_len hw
  rw [hl] at h1 h2
  unfold lineI
  rw [TL.len_tl, TL.tl_append, List.length_append, tl_ind, List.length_replicate, ← TL.len_tl]
  have : (" " : Str).length = 1 := by decide
  omega
end W48

set_option Elab.async false
set_option linter.all false
set_option maxRecDepth 100000
set_option maxHeartbeats 4000000
namespace W48
open PySem PySem.Spec PyProof.Rows L2 WXG WEv WRd WLf WEn WZs WRu WSt StX WDc
def LineP (q : Nat × Item) : V := .str (lineI q)
def spLines (n : Nat) : Sp := fun vs H Q _ => ∃ (v : V) (t : Told n) (l : Nat), vs = [v, .int (l : Int)] ∧ Told.Ok n t ∧ Told.size n t ≤ 16 ∧ l + n ≤ 20 ∧ TAt n t v H ∧ ∀ p H', Same H H' → H' p = some (.lst ((Told.flat n t l).map LineP)) → Q (.ref p) H'
/-- kind and name of all, in the order of the tree -/
def Told.rows : (n : Nat) → Told n → List (Bool × Str)
  | 0, _ => []
  | n + 1, t => match (show WD ⊕ (SD × List (Told n)) from t) with
    | .inl d => [(true, d.name)]
    | .inr x => (false, x.1.name) :: (x.2.map (Told.rows n)).flatten
theorem len_flat {α : Type} {β : Type} (f : α → List β) (g : α → Nat) : ∀ (l : List α), (∀ x ∈ l, (f x).length = g x) → (l.map f).flatten.length = (l.map g).sum
  | [], _ => rfl
  | x :: l, h => by
    simp only [List.map_cons, List.flatten_cons, List.length_append, List.sum_cons]
    rw [h x List.mem_cons_self, len_flat f g l fun y hy => h y (List.mem_cons_of_mem _ hy)]
theorem rows_len : ∀ (n : Nat) (t : Told n), (Told.rows n t).length = Told.size n t
  | 0, t => t.elim
  | n + 1, .inl d => rfl
  | n + 1, .inr x => by
    show ((x.2.map (Told.rows n)).flatten.length + 1) = 1 + (x.2.map (Told.size n)).sum
    rw [len_flat _ (Told.size n) _ fun t _ => rows_len n t, Nat.add_comm]
def kindS (b : Bool) : Str := if b = true then "worker" else "supervisor"
def RowP (r : Bool × Str) : HP V := fun v H => ∃ p xs, v = .ref p ∧ H p = some (.tup xs) ∧ atI xs 0 = some (.str (kindS r.1)) ∧ atI xs 1 = some (.str r.2)
theorem mk_row {r : Bool × Str} : MnK (RowP r) := fun _ _ _ s ⟨p, xs, h1, h2, h3, h4⟩ => ⟨p, xs, h1, s _ _ h2 (fun _ z => nomatch z) (fun _ z => nomatch z), h3, h4⟩
theorem mk_rows {rs : List (Bool × Str)} : ∀ P ∈ rs.map RowP, MnK P := fun P hP => by
  obtain ⟨r, _, rfl⟩ := List.mem_map.mp hP
  exact mk_row
def spAll (n : Nat) : Sp := fun vs H Q _ => ∃ (v : V) (t : Told n), vs = [v] ∧ Told.Ok n t ∧ Told.size n t ≤ 16 ∧ TAt n t v H ∧ ∀ p xs H', Same H H' → H' p = some (.lst xs) → Fa ((Told.rows n t).map RowP) xs H' → Q (.ref p) H'
theorem size_in {n : Nat} {ts : List (Told n)} {t : Told n} (h : t ∈ ts) : Told.size n t ≤ (ts.map (Told.size n)).sum := by
  induction ts with
  | nil => cases h
  | cons a ts ih =>
    rw [List.map_cons, List.sum_cons]
    rcases List.mem_cons.mp h with rfl | h
    · omega
    · have := ih h
      omega
section
variable {K : PySem.W.Frag} {σ : L2.St} {H : Hp} {te ta tb : TE} {tr : TA} {D : Ends} {P P' : HP V} {tt tu : TT} {a b : Bool} {v : V}
/-- [e for v in a new sequence] -/
theorem g_lcG {wi : TI} {v : Nat} {ys : List V} {Ps : List (HP V)} (hw : ∀ H1, Same H H1 → ∀ R : It → Hp → Prop, (∀ (J : It) (Gw : Hp → Prop) (H2 : Hp), Same H1 H2 → Walk J ys.length Gw (YAt ys) → (∀ H3, Same H2 H3 → Gw H3) → R J H2) → wi σ H1 R)
    (hl : Ps.length = ys.length) (hz : ys.length ≤ 1000) (m : ∀ P ∈ Ps, MnK P)
    (h : ∀ (i : Nat) (x : V) (P : HP V) (H1 : Hp), ys[i]? = some x → Ps[i]? = some P → Same H H1 → ∀ Q : VK, (∀ y H2, Same H1 H2 → P y H2 → Q y H2) → te ((σ.set v none).set v (some x)) H1 Q) :
    G (tLc wi (gName v) tYes te [v]) σ H (LF Ps) := by
  refine ⟨fun H1 e Q q => ?_, mn_lf (mn_fa m)⟩
  refine hw H1 e _ ?_
  intro J Gw H0 s0 wk hg
  intro Dd hD
  show ∃ W, _
  refine lc_it wk (fun i H' => Same H0 H' ∧ ∃ acc, H' Dd = some (.lst acc) ∧ Fa (Ps.take i) acc H') ⟨same_new hD, [], upd_same, trivial⟩ (fun _ H' _ p => hg H' p.1) (fun i x H2 H3 hi p y => ?_) (fun H2 p => ?_)
  · obtain ⟨s2, acc, hd, fa⟩ := p
    obtain ⟨rfl, hx⟩ := y
    refine ⟨(List.set_set ..).trans (List.set_set ..), ?_⟩
    obtain ⟨P, hP⟩ : ∃ P, Ps[i]? = some P := ⟨_, List.getElem?_eq_getElem (by omega)⟩
    refine h i x P _ hx hP ((e.trans s0).trans s2) _ fun y H4 s4 py => ?_
    have hd4 := s4 _ _ hd
    have fa4 : Fa (Ps.take i) acc H4 := fa_kp (fun Q hQ => m Q (List.mem_of_mem_take hQ)) (Kp.same s4) fa
    have la := fa.len
    rw [List.length_take] at la
    refine ⟨acc, hd4, Nat.lt_of_le_of_lt (show acc.length ≤ 1000 by omega) (by decide), same_put (s2.trans s4) hD, acc ++ [y], upd_same, ?_⟩
    exact fa_kp (fun Q hQ => m Q (List.mem_of_mem_take hQ)) (Kp.lst hd4) (fa_take fa4 hP py)
  · obtain ⟨s2, acc, hd, fa⟩ := p
    rw [← hl, List.take_length] at fa
    exact q _ _ (s0.trans s2) ⟨Dd, acc, rfl, hd, fa⟩
theorem sl_t {te : TE} {p : Addr} {xs : List V} {lo hi : Int} {Q : VK} (ev : Ev te σ H (.ref p)) (hp : H p = some (.tup xs)) (hc : ¬ (HT.sIx xs.length 0 (some lo) = 0 ∧ HT.sIx xs.length xs.length (some hi) = xs.length))
    (q : ∀ r, H r = none → Q (.ref r) (upd H r (.tup (cutV xs (some lo) (some hi))))) : tSl (rSlT K) te (tPart (tC (.int lo))) (tPart (tC (.int hi))) σ H Q :=
  ev _ ⟨lo, rfl, hi, rfl, p, xs, rfl, .of hp, hc, q⟩
theorem st_no {t : TS} (h : EvB tt σ H false) (k : D.nx σ H) : tIfS tt t tNext D σ H := h _ k
theorem st_asgCB {i : Nat} {r : List V → Hp → VK → Prop} (h : G te σ H P) (k : ∀ v H1, Same H H1 → P v H1 → r [v] H1 fun x H2 => D.nx (σ.set i (some x)) H2) : tAsg (tCB r (tCons te tNil)) (gName i) D σ H := h.ev H (Same.refl _) _ k
/-- a for over the tuple told[j] -/
theorem f_tup {g : TG} {tb : TS} {i : Nat} {p q : Addr} {xs ys : List V} {j : Int} (Pv : Nat → L2.St → Hp → Prop) (h0 : σ[i]? = some (some (.ref p))) (hp : H p = some (.tup xs)) (ej : atI xs j = some (.ref q)) (hq : WSl.TQ H q ys) (hi : Pv 0 σ H)
    (hk : ∀ i σ H', Pv i σ H' → Same H H') (hs : ∀ i x σ H', ys[i]? = some x → Pv i σ H' → g x σ H' fun σ2 H2 => tb { D with nx := Pv (i + 1), ct := Pv (i + 1), bk := D.nx } σ2 H2) (hd : ∀ σ H', Pv ys.length σ H' → D.nx σ H') :
    tFor (iTup K (tOp (rIxT K) (tVar i) (tC (.int j)))) g tb D σ H := by
  refine ev_ixT h0 hp ej _ ⟨q, rfl, ⟨ys, hq.sq⟩, ?_⟩
  exact for_it (walk_tup (xs := ys)) Pv hi (fun i σ H' _ p => (hq.mn (hk i σ H' p)).sq) (fun i x σ H1 H2 _ p y => by
    obtain ⟨rfl, hx⟩ := y
    exact hs i x σ _ hx p) hd
end
theorem line1 {K : PySem.W.Frag} {σ : L2.St} {H : Hp} {D : Ends} {p l2 : Addr} {xs : List V} {l : Nat} {ws : List Str} {w0 : Str} (h0 : σ[0]? = some (some (.ref p))) (h1 : σ[1]? = some (some (.int (l : Int)))) (h2 : σ[2]? = some (some (.ref l2))) (hp : H p = some (.tup xs)) (e0 : atI xs 0 = some (.str w0)) (hl2 : H l2 = some (.lst (ws.map V.str)))
    (hl : l ≤ 20) (hw : ∀ z ∈ w0 :: ws, WOk z) (hn : ws.length ≤ 6) (k : ∀ l4 H2, Same H H2 → H2 l4 = some (.lst [.str (repS "  " l ++ Txt.join " " (w0 :: ws))]) → D.nx (σ.set 4 (some (.ref l4))) H2) :
    tAsg (tLst (tCons (tOp (fun x y H Q => ∃ i j, x = .str i ∧ y = .str j ∧ i.length + j.length ≤ sizeLine ∧ Q (.str (i ++ j)) H) (tOp rMulS (tC (.str "  ")) (tVar 1)) (tM1 (fun x xs H Q => ∃ a p, ∃ ys : List Str, x = .str a ∧ xs = [.ref p] ∧ (SqL K H p (ys.map V.str) ∨ SqT K H p (ys.map V.str)) ∧
      (ys.map (·.length)).sum + ys.length * a.length ≤ 16777216 ∧ Q (.str (Txt.join a ys)) H) (tC (.str " ")) (tOp rCat (tLst (tCons (tOp (rIxT K) (tVar 0) (tC (.int 0))) tNil)) (tVar 2)))) tNil)) (gName 4) D σ H := by
  refine ⟨_, h1, "  ", l, rfl, rfl, by omega, by decide, ⟨_, rfl⟩, ?_⟩
  refine ⟨_, h0, p, xs, 0, _, rfl, rfl, .of hp, e0, (by decide : 1 ≤ sizeLine), fun a ha => ?_⟩
  have ea : upd H a (.lst [V.str w0]) a = some (.lst [V.str w0]) := upd_same
  have s1 : Same H (upd H a (.lst [V.str w0])) := same_new ha
  generalize upd H a (.lst [V.str w0]) = H1 at ea s1 ⊢
  have b1 := sum_len hw
  have b2 := join_len " " (w0 :: ws)
  have b3 : (" " : Str).length = 1 := by decide
  rw [List.length_cons] at b1 b2
  rw [b3] at b2
  refine ⟨_, h2, a, l2, [V.str w0], ws.map V.str, rfl, rfl, ea, s1 _ _ hl2, ?_, fun b hb => ?_⟩
  · rw [List.length_map]
    exact Nat.le_trans (show 1 + ws.length ≤ 1000 by omega) (by decide)
  have eb : upd H1 b (.lst ([V.str w0] ++ ws.map V.str)) b = some (.lst ([V.str w0] ++ ws.map V.str)) := upd_same
  have s2 : Same H (upd H1 b (.lst ([V.str w0] ++ ws.map V.str))) := s1.trans (same_new hb)
  generalize upd H1 b (.lst ([V.str w0] ++ ws.map V.str)) = H2 at eb s2 ⊢
  refine ⟨" ", b, w0 :: ws, rfl, rfl, .inl (.of eb), ?_, _, _, rfl, rfl, ?_, ?_⟩
  · rw [List.length_cons, b3]
    omega
  · have e1 : (repS "  " l).length ≤ 40 := by
      rw [TL.len_tl, tl_ind, List.length_replicate]
      omega
    exact Nat.le_trans (show _ ≤ 1000 by omega) (by decide)
  · exact ⟨(by decide : 1 ≤ sizeLine), fun c hc => k c _ (s2.trans (same_new hc)) upd_same⟩
theorem sum_take {α : Type} (f : α → Nat) (ts : List α) (i : Nat) : ((ts.take i).map f).sum ≤ (ts.map f).sum := by
  have e : (ts.map f).sum = ((ts.take i).map f).sum + ((ts.drop i).map f).sum := by
    rw [← List.sum_append, ← List.map_append, List.take_append_drop]
  omega
theorem cut_w (d : WD) : (cutV d.vals (some 1) (some 7)).map shownV = d.words.tail := by
  show [_, _, _, _, shownV (limV d.lim), _] = _
  rw [lim_shown]
  rfl
theorem cut_s (d : SD) (q : Addr) : (cutV (d.vals q) (some 1) (some 7)).map shownV = d.words.tail := by
  show [_, _, _, _, _, shownV (limV d.lim)] = _
  rw [lim_shown]
  rfl
/-- what str() makes of it -/
def Shows (x : V) : Prop := x = .non ∨ (∃ i, x = .int i ∧ TickOk i) ∨ ∃ z, x = .str z
theorem shows_lim {l : Option Int} (h : LimOk l) : Shows (limV l) := by
  cases l with
  | none => exact .inl rfl
  | some i => exact .inr (.inl ⟨i, rfl, h i rfl⟩)
theorem cut_ws {d : WD} (h : d.Ok) : ∀ x ∈ cutV d.vals (some 1) (some 7), Shows x := by
  obtain ⟨h1, h2, h3, h4, h5, h6, h7⟩ := h
  intro x hx
  have hx : x ∈ [V.str d.name, .str d.word, .int d.b, .int d.e, limV d.lim, .int d.r] := hx
  simp only [List.mem_cons, List.not_mem_nil, or_false] at hx
  rcases hx with rfl | rfl | rfl | rfl | rfl | rfl
  · exact .inr (.inr ⟨_, rfl⟩)
  · exact .inr (.inr ⟨_, rfl⟩)
  · exact .inr (.inl ⟨_, rfl, h3⟩)
  · exact .inr (.inl ⟨_, rfl, h4⟩)
  · exact shows_lim h5
  · exact .inr (.inl ⟨_, rfl, h6, by omega⟩)
theorem cut_ss {d : SD} (q : Addr) (h : d.Ok) : ∀ x ∈ cutV (d.vals q) (some 1) (some 7), Shows x := by
  obtain ⟨h1, h2, h3, h4, h5, h6, h7, h8⟩ := h
  intro x hx
  have hx : x ∈ [V.str d.name, .str d.word, .str d.way, .int d.most, .int d.span, limV d.lim] := hx
  simp only [List.mem_cons, List.not_mem_nil, or_false] at hx
  rcases hx with rfl | rfl | rfl | rfl | rfl | rfl
  · exact .inr (.inr ⟨_, rfl⟩)
  · exact .inr (.inr ⟨_, rfl⟩)
  · exact .inr (.inr ⟨_, rfl⟩)
  · exact .inr (.inl ⟨_, rfl, h4, by omega⟩)
  · exact .inr (.inl ⟨_, rfl, by omega, h7⟩)
  · exact shows_lim h8
section
variable {P : Program} {w : World} {K : PySem.W.Frag} {mg : Str → Option Value} {base : Heap}
theorem ok_lines (T : Env K mg) : ∀ n, FnOk P w K mg base CX0 (n + 1) (d_L_lines.loc K) T.fd_L_lines ["told", "level"] (spLines n)
  | 0 => T.F_L_lines.ok sc_L_lines (fun vs H Q E (h : spLines 0 vs H Q E) => by obtain ⟨v, t, _⟩ := h; cases t) (fun cdv A outer s H vs Q E hr (h : spLines 0 vs H Q E) => by obtain ⟨v, t, _⟩ := h; cases t)
  | n + 1 => by
    have G_L_lines : FnOk P w K mg base CX0 (n + 1) _ _ _ _ := ok_lines T n
    refine T.F_L_lines.ok sc_L_lines (fun vs H Q E h => ?_) (fun cdv A outer s H vs Q E hr h => ?_)
    · obtain ⟨v, t, l, rfl, _⟩ := h
      rfl
    · have nd := sc_L_lines.nd
      have hu := hu_of hr
      obtain ⟨v, t, l, rfl, hok, hz, hl, ht, k⟩ := h
      refine ⟨_, PSs.nox (pss_cons (ps_setLc (i := 2) (own := [("part", 3)]) (by rfl) nd rfl rfl (sw_true rfl rfl rfl (by decide +kernel)) (pi_tup (pe_slice sl_tup (pv 0) (po_some pe_int) (po_some pe_int))) (blkOk_by (N := ["told", "level", "last", "part", "found", "one"]) (sc := defScope s_L_lines) (by decide +kernel)) (fun _ _ _ _ _ => (pg_name (i := 3) nd rfl (Or.inl rfl))) (fun _ _ _ _ _ => pts_nil) (fun _ _ _ _ _ => (pe_ifExp (pt_cmpR op_isN (pv 3) pe_non (nomark _)) pe_str (pe_callTy (call_str_int.or SkE.call_str_str) (by rfl) T.b_str (by decide +kernel) (pa_cons (pv 3) pa_nil)))))
 (pss_cons (ps_set (i := 4) nd rfl (Or.inl rfl) (pe_lst (pa_cons (pe_op op_add_str (pe_op op_mulS pe_str (pv 1)) (pe_join pe_str (pe_op op_cat (pe_lst (pa_cons (pe_ix (ixtK (K := K)) (pv 0) pe_int (fun _ _ => rfl)) pa_nil)) (pv 2)))) pa_nil)))
 (pss_cons (ps_if (pt_cmpR op_eq (pe_ix (ixtK (K := K)) (pv 0) pe_int (fun _ _ => rfl)) pe_str (nomark _))
  (pss_one (ps_for PassesOwn.never rfl (pi_tup (pe_ix (ixtK (K := K)) (pv 0) pe_int (fun _ _ => rfl))) (pg_name (i := 5) nd rfl (Or.inl rfl))
  (pss_one (ps_set (i := 4) nd rfl (Or.inl rfl) (pe_op op_cat (pv 4) (pe_call G_L_lines (hr.mono (by omega)) (by rfl) T.g__law_lines T.F_L_lines.kp T.bi_L_lines .nil pass0 (pa_cons (pv 5) (pa_cons (pe_op op_add (pv 1) pe_int) pa_nil))))))))
  pss_nil)
 (pss_one (ps_ret (pv 4)))))), ?_⟩
      -- the words of the line
      have words : ∀ (p : Addr) (xs : List V) (D : Ends) (ws : List Str), H p = some (.tup xs) → ¬ (HT.sIx xs.length 0 (some 1) = 0 ∧ HT.sIx xs.length xs.length (some 7) = xs.length) → (∀ x ∈ cutV xs (some 1) (some 7), Shows x) → (cutV xs (some 1) (some 7)).map shownV = ws → ws.length ≤ 100 →
          (∀ l2 H1, Same H H1 → H1 l2 = some (.lst (ws.map V.str)) → D.nx [some (.ref p), some (.int l), some (.ref l2), none, none, none] H1) →
          tAsg (tLc (iTup K (tSl (rSlT K) (tVar 0) (tPart (tC (.int 1))) (tPart (tC (.int 7))))) (gName 3) tYes (tIf (tTest (tOp (fun x y H Q => y = .non ∧ Q (.bl (decide (x = .non))) H) (tVar 3) (tC .non))) (tC (.str "-")) (tCB (fun xs H Q => (∃ i, xs = [V.int i] ∧ i.natAbs.log2 < 1920 ∧ Q (.str (toString i)) H) ∨ ∃ a, xs = [V.str a] ∧ Q (.str a) H) (tCons (tVar 3) tNil))) [3]) (gName 2) D [some (.ref p), some (.int l), none, none, none, none] H := by
        intro p xs D ws hp hc hsh hws hwl kk
        refine g_asg (g_lcG (ys := cutV xs (some 1) (some 7)) (Ps := (ws.map V.str).map Is) (fun H1 s R r => sl_t (ev_var rfl) (s _ _ hp) hc fun q hq => ⟨q, rfl, ⟨_, .of upd_same⟩, r _ _ _ (same_new hq) walk_tup fun H3 s3 => .of (s3 _ _ upd_same)⟩) (by rw [← hws]; simp) (by rw [← hws, List.length_map] at hwl; omega) mk_iss fun i x P H1 hx hP s Q q => ?_) fun v H1 s1 e => ?_
        · rw [← hws, List.getElem?_map, List.getElem?_map, List.getElem?_map, hx] at hP
          cases hP
          rcases hsh x (List.mem_of_getElem? hx) with rfl | ⟨i, rfl, h0, h1⟩ | ⟨z, rfl⟩
          · exact ⟨_, rfl, rfl, true, rfl, q _ _ (Same.refl _) rfl⟩
          · refine ⟨_, rfl, rfl, false, rfl, _, rfl, .inl ⟨i, rfl, ?_, q _ _ (Same.refl _) rfl⟩⟩
            have : i.natAbs < 2 ^ 1920 := Nat.lt_of_le_of_lt (show i.natAbs ≤ 1000000000 by omega) (Nat.lt_of_lt_of_le (show 1000000000 < 2 ^ 30 by decide) (Nat.pow_le_pow_right (by decide) (by decide)))
            by_cases z : i.natAbs = 0
            · rw [z]
              decide
            · exact (Nat.log2_lt z).mpr this
          · exact ⟨_, rfl, rfl, false, rfl, _, rfl, .inr ⟨z, rfl, q _ _ (Same.refl _) rfl⟩⟩
        · obtain ⟨l2, xs2, rfl, hl2, fa⟩ := e
          obtain rfl := fa.is
          exact kk l2 H1 s1 hl2
      cases t with
      | inl d =>
        obtain ⟨p, rfl, hp⟩ := ht
        refine words p d.vals _ d.words.tail hp (show ¬ (HT.sIx 7 0 (some 1) = 0 ∧ HT.sIx 7 7 (some 7) = 7) by decide) (cut_ws hok) (cut_w d) (Nat.le_of_ble_eq_true rfl) fun l2 H1 s1 hl2 => ?_
        have wk := (item_words (q := .inl d) hok).2
        refine line1 (w0 := "worker") (ws := d.words.tail) rfl rfl rfl (s1 _ _ hp) rfl hl2 (by omega) wk (Nat.le_of_ble_eq_true rfl) fun l4 H2 s2 hl4 => ?_
        refine st_if (b := false) (evb_eqS (ev_ixT rfl (s2 _ _ (s1 _ _ hp)) rfl) ev_c rfl) ?_
        exact st_ret (ev_var rfl) (k l4 H2 (s1.trans s2) hl4)
      | inr x =>
        obtain ⟨d, ts⟩ := x
        obtain ⟨p, q, ys, rfl, hp, hq, fa⟩ := ht
        refine words p (d.vals q) _ d.words.tail hp (show ¬ (HT.sIx 8 0 (some 1) = 0 ∧ HT.sIx 8 8 (some 7) = 8) by decide) (cut_ss q hok.1) (cut_s d q) (Nat.le_of_ble_eq_true rfl) fun l2 H1 s1 hl2 => ?_
        have wk := (item_words (q := .inr d) hok.1).2
        refine line1 (w0 := "supervisor") (ws := d.words.tail) rfl rfl rfl (s1 _ _ hp) rfl hl2 (by omega) wk (Nat.le_of_ble_eq_true rfl) fun l4 H2 s2 hl4 => ?_
        refine st_if (b := true) (evb_eqS (ev_ixT rfl (s2 _ _ (s1 _ _ hp)) rfl) ev_c rfl) ?_
        have s3 := s1.trans s2
        refine f_tup (fun i σ H' => ∃ l4 a5, σ = [some (.ref p), some (.int (l : Int)), some (.ref l2), none, some (.ref l4), a5] ∧ Same H2 H' ∧ H' l4 = some (.lst ((((l, Sum.inr d) : Nat × Item) :: (ts.take i).flatMap fun t => Told.flat n t (l + 1)).map LineP))) rfl (s3 _ _ hp) rfl (WSl.TQ.mn s3 hq) ⟨l4, none, rfl, Same.refl _, hl4⟩ (fun i σ H' p => p.elim fun _ ⟨_, _, s, _⟩ => s) (fun i x σ H3 hx p => ?_) (fun σ H3 p => ?_)
        · obtain ⟨l5, a5, rfl, s4, hl5⟩ := p
          obtain ⟨t, ht, px⟩ := sup_get fa hx
          have tm := List.mem_of_getElem? ht
          have sz : Told.size n t ≤ (ts.map (Told.size n)).sum := size_in tm
          have hz' : 1 + (ts.map (Told.size n)).sum ≤ 16 := hz
          have sk := sum_take (Told.size n) ts i
          have fl : ((ts.take i).flatMap fun t => Told.flat n t (l + 1)).length = ((ts.take i).map (Told.size n)).sum := by
            rw [List.length_flatMap]
            congr 1
            exact List.map_congr_left fun t _ => flat_len n t (l + 1)
          refine ⟨_, rfl, _, rfl, _, rfl, l, 1, rfl, rfl, x, t, l + 1, rfl, hok.2.2 t tm, by omega, by omega, (mk_tat n t).mn _ _ _ (s3.trans s4) px, fun p6 H6 s6 hl6 => ?_⟩
          refine ⟨l5, p6, _, _, rfl, rfl, s6 _ _ hl5, hl6, ?_, fun p7 hp7 => ?_⟩
          · rw [List.length_map, List.length_map, List.length_cons, fl, flat_len]
            exact Nat.le_trans (show _ ≤ 1000 by omega) (by decide)
          · refine ⟨p7, _, rfl, (s4.trans s6).trans (same_new hp7), ?_⟩
            rw [List.take_succ, ht, upd_same, ← List.map_append]
            simp
        · obtain ⟨l5, a5, rfl, s4, hl5⟩ := p
          refine st_ret (ev_var rfl) (k l5 H3 (s3.trans s4) ?_)
          rw [hl5, sup_len fa, List.take_length]
          rfl
theorem ok_all (T : Env K mg) : ∀ n, FnOk P w K mg base CX0 (n + 1) (d_L_all.loc K) T.fd_L_all ["told"] (spAll n)
  | 0 => T.F_L_all.ok sc_L_all (fun vs H Q E (h : spAll 0 vs H Q E) => by obtain ⟨v, t, _⟩ := h; cases t) (fun cdv A outer s H vs Q E hr (h : spAll 0 vs H Q E) => by obtain ⟨v, t, _⟩ := h; cases t)
  | n + 1 => by
    have G_L_all : FnOk P w K mg base CX0 (n + 1) _ _ _ _ := ok_all T n
    refine T.F_L_all.ok sc_L_all (fun vs H Q E h => ?_) (fun cdv A outer s H vs Q E hr h => ?_)
    · obtain ⟨v, t, rfl, _⟩ := h
      rfl
    · have nd := sc_L_all.nd
      have hu := hu_of hr
      obtain ⟨v, t, rfl, hok, hz, ht, k⟩ := h
      refine ⟨_, PSs.nox (pss_cons (ps_set (i := 1) nd rfl (Or.inl rfl) (pe_lst (pa_cons (pv 0) pa_nil)))
 (pss_cons (ps_if (pt_cmpR op_eq (pe_ix (ixtK (K := K)) (pv 0) pe_int (fun _ _ => rfl)) pe_str (nomark _))
  (pss_one (ps_for PassesOwn.never rfl (pi_tup (pe_ix (ixtK (K := K)) (pv 0) pe_int (fun _ _ => rfl))) (pg_name (i := 2) nd rfl (Or.inl rfl))
  (pss_one (ps_set (i := 1) nd rfl (Or.inl rfl) (pe_op op_cat (pv 1) (pe_call G_L_all (hr.mono (by omega)) (by rfl) T.g__law_all T.F_L_all.kp T.bi_L_all .nil pass0 (pa_cons (pv 2) pa_nil)))))))
  pss_nil)
 (pss_one (ps_ret (pv 1))))), ?_⟩
      refine ⟨_, rfl, (by decide : 1 ≤ sizeLine), fun l hl => ?_⟩
      have s1 : Same H (upd H l (.lst [v])) := same_new hl
      have hl1 : upd H l (.lst [v]) l = some (.lst [v]) := upd_same
      generalize upd H l (.lst [v]) = H1 at s1 hl1 ⊢
      cases t with
      | inl d =>
        obtain ⟨p, rfl, hp⟩ := ht
        refine st_if (b := false) (evb_eqS (ev_ixT rfl (s1 _ _ hp) rfl) ev_c rfl) ?_
        exact st_ret (ev_var rfl) (k l _ H1 s1 hl1 ⟨⟨p, _, rfl, s1 _ _ hp, rfl, rfl⟩, trivial⟩)
      | inr x =>
        obtain ⟨d, ts⟩ := x
        obtain ⟨p, q, ys, rfl, hp, hq, fa⟩ := ht
        have hz' : 1 + (ts.map (Told.size n)).sum ≤ 16 := hz
        have me : RowP (false, d.name) (.ref p) H1 := ⟨p, _, rfl, s1 _ _ hp, rfl, rfl⟩
        refine st_if (b := true) (evb_eqS (ev_ixT rfl (s1 _ _ hp) rfl) ev_c rfl) ?_
        refine f_tup (fun i σ H' => ∃ l4 a5 xs, σ = [some (.ref p), some (.ref l4), a5] ∧ Same H1 H' ∧ H' l4 = some (.lst xs) ∧ Fa (((false, d.name) :: ((ts.take i).map (Told.rows n)).flatten).map RowP) xs H') rfl (s1 _ _ hp) rfl (WSl.TQ.mn s1 hq) ⟨l, none, _, rfl, Same.refl _, hl1, ⟨me, trivial⟩⟩ (fun i σ H' p => p.elim fun _ ⟨_, _, _, s, _⟩ => s) (fun i x σ H3 hx p => ?_) (fun σ H3 p => ?_)
        · obtain ⟨l5, a5, xs, rfl, s4, hl5, hxs⟩ := p
          obtain ⟨t, ht, px⟩ := sup_get fa hx
          have tm := List.mem_of_getElem? ht
          have sz : Told.size n t ≤ (ts.map (Told.size n)).sum := size_in tm
          have sk := sum_take (Told.size n) ts i
          refine ⟨_, rfl, _, rfl, x, t, rfl, hok.2.2 t tm, by omega, (mk_tat n t).mn _ _ _ (s1.trans s4) px, fun p6 zs H6 s6 hl6 hzs => ?_⟩
          have xlen : xs.length ≤ 16 := by
            have := hxs.len
            rw [List.length_map, List.length_cons, len_flat _ (Told.size n) _ fun t _ => rows_len n t] at this
            omega
          have zlen : zs.length ≤ 16 := by
            have := hzs.len
            rw [List.length_map, rows_len] at this
            omega
          refine ⟨l5, p6, _, _, rfl, rfl, s6 _ _ hl5, hl6, Nat.le_trans (show xs.length + zs.length ≤ 1000 by omega) (by decide), fun p7 hp7 => ?_⟩
          refine ⟨p7, _, _, rfl, (s4.trans s6).trans (same_new hp7), upd_same, ?_⟩
          rw [List.take_succ, ht, List.map_append, List.flatten_append, ← List.cons_append, List.map_append]
          simp only [Option.toList_some, List.map_cons, List.map_nil, List.flatten_cons, List.flatten_nil, List.append_nil]
          exact (mn_fa mk_rows _ _ _ (s6.trans (same_new hp7)) hxs).app (mn_fa mk_rows _ _ _ (same_new hp7) hzs)
        · obtain ⟨l5, a5, xs, rfl, s4, hl5, hxs⟩ := p
          rw [sup_len fa, List.take_length] at hxs
          exact st_ret (ev_var rfl) (k l5 xs H3 (s1.trans s4) hl5 hxs)
end
theorem name_len {z : Str} (h : NameOk z) : z.length ≤ 2 := by
  obtain ⟨cs, rfl, _, h2, _⟩ := h
  rw [TL.len_tl]
  exact h2
end W48

set_option Elab.async false
set_option linter.all false
set_option maxRecDepth 100000
set_option maxHeartbeats 4000000
namespace W48
open PySem PySem.Spec PyProof.Rows L2 WXG WEv WRd WLf WEn WZs WRu WSt StX WDc
section
variable {K : PySem.W.Frag} {σ : L2.St} {H : Hp} {te ta tb tc : TE} {tr : TA} {D : Ends} {P P' : HP V} {tt tu : TT} {a b : Bool} {v : V}
theorem evb_not (h : EvB tt σ H b) : EvB (tNot tt) σ H (!b) := fun Q q => h _ q
theorem evb_B (h : Ev te σ H (.bl b)) : EvB (tB te) σ H b := fun Q q => h _ ⟨b, rfl, q⟩
theorem ev_isi {x : V} {n : String} {t : Value} (ha : Ev ta σ H x) (ht : TyX K H x t) (hk : PySem.W.kitOne K t (.type n) = some b) : Ev (tCB (rIsi K) (tCons ta (tCons (tC (.ty n)) tNil))) σ H (.bl b) := fun Q q => ha _ ⟨x, .ty n, t, .type n, b, rfl, .ty _, ht, hk, q⟩
theorem ev_isiC {x : V} {C : Addr} {t : Value} (ha : Ev ta σ H x) (ht : TyX K H x t) (hk : PySem.W.kitOne K t (.ref C) = some b) : Ev (tCB (rIsi K) (tCons ta (tCons (tC (.ref C)) tNil))) σ H (.bl b) := fun Q q => ha _ ⟨x, .ref C, t, .ref C, b, rfl, .own _, ht, hk, q⟩
theorem ev_lenS {z : Str} (ha : Ev ta σ H (.str z)) (hz : z.length ≤ sizeLine) : Ev (tCB (fun xs H Q => ∃ z, xs = [V.str z] ∧ z.length ≤ sizeLine ∧ Q (.int z.length) H) (tCons ta tNil)) σ H (.int (z.length : Int)) := fun Q q => ha _ ⟨z, rfl, hz, q⟩
theorem ev_chain {i j k : Int} (ha : Ev ta σ H (.int i)) (hb : Ev tb σ H (.int j)) (hc : Ev tc σ H (.int k)) (h1 : i ≤ j) (h2 : j ≤ k) : Ev (tChain (rI0 fun i j => .bl (decide (i ≤ j))) (rI0 fun i j => .bl (decide (i ≤ j))) ta tb tc) σ H (.bl true) := fun Q q =>
  ha _ (hb _ ⟨i, j, rfl, rfl, true, congrArg V.bl (decide_eq_true h1), hc _ ⟨j, k, rfl, rfl, (congrArg (fun b => Q (.bl b) H) (decide_eq_true h2)).mpr q⟩⟩)
theorem ev_and (ha : Ev ta σ H (.bl true)) (hb : Ev tb σ H v) : Ev (tAndV ta tb) σ H v := fun Q q => ha _ ⟨true, rfl, hb _ q⟩
theorem g_ev (h : ∀ H1, Same H H1 → Ev te σ H1 v) : G te σ H (Is v) := ev_g h
theorem g_and (ha : G ta σ H (Is (.bl true))) (hb : G tb σ H P) : G (tAndV ta tb) σ H P := ⟨fun H1 e Q q => ha.ev H1 e _ fun x H2 s2 px => by
  cases px
  exact ⟨true, rfl, hb.ev H2 (e.trans s2) _ fun y H3 s3 py => q y H3 (s2.trans s3) py⟩, hb.mn⟩
theorem g_all {bs : List Bool} (h : G te σ H (LF ((bs.map V.bl).map Is))) : G (tCB (rAll K) (tCons te tNil)) σ H (Is (.bl (bs.all id))) := ⟨fun H1 e Q q => h.ev H1 e _ fun x H2 s2 px => by
  obtain ⟨p, xs, rfl, hp, fa⟩ := px
  obtain rfl := fa.is
  exact ⟨p, bs, rfl, .of hp, q _ _ s2 rfl⟩, mn_i⟩
theorem g_callL {sp : Sp} {E : XK} {vs : List V} (ha : ∀ H1, Same H H1 → EvL tr σ H1 vs) (hs : ∀ H1, Same H H1 → ∀ Q : VK, (∀ v H2, Same H1 H2 → P v H2 → Q v H2) → sp (vs ++ []) H1 Q E) (m : Mn P) : G (tCall sp [] E tr) σ H P :=
  ⟨fun H1 e Q q => ha H1 e _ (hs H1 e _ q), m⟩
/-- a list comprehension over the signs of a text -/
theorem g_lcS {v i : Nat} {cs : List Nat} {Ps : List (HP V)} (h0 : σ[i]? = some (some (.str ⟨cs.toArray⟩)))
    (hl : Ps.length = cs.length) (hz : cs.length ≤ 1000) (m : ∀ P ∈ Ps, MnK P)
    (h : ∀ (i : Nat) (c : Nat) (P : HP V) (H1 : Hp), cs[i]? = some c → Ps[i]? = some P → Same H H1 → ∀ Q : VK, (∀ y H2, Same H1 H2 → P y H2 → Q y H2) → te ((σ.set v none).set v (some (.str ⟨#[c]⟩))) H1 Q) :
    G (tLc (iStr (tVar i)) (gName v) tYes te [v]) σ H (LF Ps) :=
  g_lcF (ys := cs.map fun c => .str ⟨#[c]⟩) (J := Its ⟨cs.toArray⟩) (Gw := fun _ => True) (fun H1 s R r => ⟨_, h0, _, rfl, r⟩) (by
    have := walk_str (z := ⟨cs.toArray⟩)
    rw [show (⟨cs.toArray⟩ : Str).cps.size = (cs.map fun c => V.str ⟨#[c]⟩).length by simp] at this
    exact this.mono (fun _ g => g) fun i H x H' hi g y => by
      obtain ⟨e, c, hc, ex⟩ := y
      refine ⟨e, ?_⟩
      rw [List.getElem?_map, show cs[i]? = some c by simpa using hc, ex]
      rfl) (fun _ _ => trivial) (by rw [hl, List.length_map]) (by rw [List.length_map]; exact hz) m fun i x P H1 hx hP s Q q => by
    rw [List.getElem?_map] at hx
    obtain ⟨c, hc, rfl⟩ := Option.map_eq_some_iff.mp hx
    exact h i c P H1 hc hP s Q q
end
theorem ty_str {K : PySem.W.Frag} {H : Hp} {z : Str} : TyX K H (.str z) (.type "str") := .base (.str z)
theorem ty_int {K : PySem.W.Frag} {H : Hp} {i : Int} : TyX K H (.int i) (.type "int") := .base (.int i)
theorem kit_ss {K : PySem.W.Frag} : PySem.W.kitOne K (.type "str") (.type "str") = some true := kit_ty (by decide +kernel)
theorem kit_ii {K : PySem.W.Frag} : PySem.W.kitOne K (.type "int") (.type "int") = some true := kit_ty (by decide +kernel)
theorem kit_ib {K : PySem.W.Frag} : PySem.W.kitOne K (.type "int") (.type "bool") = some false := kit_ty (by decide +kernel)
theorem kit_tt {K : PySem.W.Frag} : PySem.W.kitOne K (.type "tuple") (.type "tuple") = some true := kit_ty (by decide +kernel)
theorem in_letters {c : Nat} (h : 97 ≤ c) (h' : c ≤ 122) : decide (c ∈ (Str.ofString "abcdefghijklmnopqrstuvwxyz").cps.toList) = true ∧ decide (c ∈ (Str.ofString "abcdefghijklmnopqrstuvwxyz0123456789_").cps.toList) = true := by
  have : ∀ j : Fin 26, decide (97 + j.val ∈ (Str.ofString "abcdefghijklmnopqrstuvwxyz").cps.toList) = true ∧ decide (97 + j.val ∈ (Str.ofString "abcdefghijklmnopqrstuvwxyz0123456789_").cps.toList) = true := by decide +kernel
  have := this ⟨c - 97, by omega⟩
  rw [show 97 + (c - 97) = c by omega] at this
  exact this
def spTrue1 : Sp := fun vs H Q _ => ∃ z, vs = [.str z] ∧ NameOk z ∧ ∀ H', Same H H' → Q (.bl true) H'
def spBetween : Sp := fun vs H Q _ => ∃ i lo hi : Int, vs = [.int i, .int lo, .int hi] ∧ lo ≤ i ∧ i ≤ hi ∧ Q (.bl true) H
def spOneOf (K : PySem.W.Frag) : Sp := fun vs H Q _ => ∃ z a ws, vs = [.str z, .ref a] ∧ SqT K H a ws ∧ ws.all flatV = true ∧ inV (.str z) ws = true ∧ Q (.bl true) H
def spDeadline : Sp := fun vs H Q _ => ∃ l, vs = [limV l] ∧ LimOk l ∧ Q (.bl true) H
def ReqRow : HP V := fun v H => ∃ p s, v = .ref p ∧ H p = some (.tup [.str s, .bl true])
def spRequire : Sp := fun vs H Q _ => ∃ l xs, vs = [.ref l] ∧ H l = some (.lst xs) ∧ (∀ x ∈ xs, ReqRow x H) ∧ Q .non H
def spNoScript (r : V) : Sp := fun vs H Q _ => ∃ p, vs = [.ref p] ∧ H p = some (.tup []) ∧ ∀ H', Same H H' → Q r H'
theorem mk_req : MnK ReqRow := fun _ _ _ s ⟨p, x, e, h⟩ => ⟨p, x, e, s _ _ h (fun _ z => nomatch z) (fun _ z => nomatch z)⟩
section
variable {P : Program} {w : World} {K : PySem.W.Frag} {mg : Str → Option Value} {base : Heap}
theorem ok_is_word (T : Env K mg) : FnOk P w K mg base CX0 1 (d_is_word.loc K) T.fd_is_word ["value"] spTrue1 := by
  refine T.F_is_word.ok sc_is_word (fun vs H Q E h => ?_) (fun cdv A outer s H vs Q E hr h => ?_)
  · obtain ⟨z, rfl, _⟩ := h
    rfl
  · have nd := sc_is_word.nd
    have hu := hu_of hr
    obtain ⟨z, rfl, hz, k⟩ := h
    refine ⟨_, PSs.nox (pss_cons (ps_if (PW.pt (pw_or (pt_not (pt_val (pe_callB (isiK (K := K)) (by rfl) T.b_isinstance (by decide +kernel) (pa_cons (pv 0) (pa_cons (pe_bltnT (n := "str") (by rfl) T.b_str (by decide +kernel)) pa_nil))))) (pw_or (pt_not (pt_chain op_le op_le pe_int (pe_callB call_len_str (by rfl) T.b_len (by decide +kernel) (pa_cons (pv 0) pa_nil)) (C8.pe_gc (by rfl) T.c_MOST_SIGNS))) (pw_or1 (pt_cmpR op_notIn_sign (pe_ix ix_str (pv 0) pe_int (fun _ _ => rfl)) (C8.pe_gc (by rfl) T.c_LETTERS) (by rfl))))))
  (pss_one (ps_ret pe_bl))
  pss_nil)
 (pss_one (ps_ret (pe_callB (cr_all rfl) (by rfl) T.b_all (by decide +kernel) (pa_cons (pe_lc (own := [("sign", 1)]) (by rfl) nd (pi_str (pv 0)) (blkOk_by (N := ["value", "sign"]) (sc := defScope s_is_word) (by decide +kernel)) (fun _ _ _ _ _ => (pg_name (i := 1) nd rfl (Or.inl rfl))) (fun _ _ _ _ _ => pts_nil) (fun _ _ _ _ _ => (pe_cmpR op_in_sign (pv 1) (C8.pe_gc (by rfl) T.c_SIGNS) (by rfl)))) pa_nil))))), ?_⟩
    obtain ⟨cs, rfl, h1, h2, h3⟩ := hz
    have hlen : (⟨cs.toArray⟩ : Str).length = cs.length := TL.len_tl _
    obtain ⟨c0, hc0⟩ : ∃ c, cs[0]? = some c := ⟨_, List.getElem?_eq_getElem (by omega)⟩
    have hm := h3 c0 (List.mem_of_getElem? hc0)
    refine st_no (evb_or (a := false) (evb_not (b := true) (evb_B (ev_isi (ev_var rfl) ty_str kit_ss))) fun _ => evb_or (a := false) (evb_not (b := true) (evb_test (ev_chain ev_c (ev_lenS (ev_var rfl) (by rw [hlen]; exact Nat.le_trans h2 (by decide))) ev_c (by rw [hlen]; omega) (by rw [hlen]; omega)))) fun _ => evb_test (b := false) (fun Q q => ?_)) ?_
    · refine ⟨_, rfl, _, 0, c0, rfl, rfl, by rw [hlen]; exact Nat.le_trans h2 (by decide), atI_nat (j := 0) hc0, c0, _, rfl, rfl, ?_⟩
      rw [(in_letters hm.1 hm.2).1]
      exact q
    · refine g_ret (g_all (bs := cs.map fun _ => true) (g_lcS rfl (by simp) (by omega) mk_iss fun i c P H1 hc hP s Q q => ?_)) fun v H1 s1 e => ?_
      · rw [List.getElem?_map, List.getElem?_map, List.getElem?_map, hc] at hP
        cases hP
        have hm := h3 c (List.mem_of_getElem? hc)
        refine ⟨_, rfl, c, _, rfl, rfl, ?_⟩
        rw [(in_letters hm.1 hm.2).2]
        exact q _ _ (Same.refl _) rfl
      · cases e
        rw [show ((cs.map fun _ => true).all id) = true by simp]
        exact k _ s1
theorem ok_is_name (T : Env K mg) : FnOk P w K mg base CX0 2 (d_is_name.loc K) T.fd_is_name ["value"] spTrue1 := by
  have G_is_word : FnOk P w K mg base CX0 1 _ _ _ _ := ok_is_word T
  refine T.F_is_name.ok sc_is_name (fun vs H Q E h => ?_) (fun cdv A outer s H vs Q E hr h => ?_)
  · obtain ⟨z, rfl, _⟩ := h
    rfl
  · have nd := sc_is_name.nd
    have hu := hu_of hr
    obtain ⟨z, rfl, hz, k⟩ := h
    refine ⟨_, PSs.nox (pss_one (ps_ret (pe_and (pe_call G_is_word (hr.mono (by decide)) (by rfl) T.g_is_word T.F_is_word.kp T.bi_is_word .nil pass0 (pa_cons (pv 0) pa_nil)) (pe_one (pe_cmpR (op_notIn_seq) (pv 0) (pe_globR (by rfl) T.g_RESERVED) (by rfl)))))), ?_⟩
    refine ⟨_, rfl, z, rfl, hz, fun H1 s1 => ⟨true, rfl, ?_⟩⟩
    refine ⟨_, rfl, _, _, rfl, .inr (T.q_RESERVED _), rfl, rfl, ?_⟩
    have nl := name_len hz
    have e : inV (V.str z) [.str "own", .str "sender", .str "about"] = false := by
      have n : ∀ y : Str, 2 < y.length → y ≠ z := fun y hy e => by rw [← e] at nl; omega
      have n1 := n "own" (by decide)
      have n2 := n "sender" (by decide)
      have n3 := n "about" (by decide)
      simp [inV, eqV, n1, n2, n3]
    rw [if_pos rfl, e]
    exact k _ s1
theorem ok_is_between (T : Env K mg) : FnOk P w K mg base CX0 1 (d_is_between.loc K) T.fd_is_between ["value", "low", "high"] spBetween := by
  refine T.F_is_between.ok sc_is_between (fun vs H Q E h => ?_) (fun cdv A outer s H vs Q E hr h => ?_)
  · obtain ⟨i, lo, hi, rfl, _⟩ := h
    rfl
  · have nd := sc_is_between.nd
    have hu := hu_of hr
    obtain ⟨i, lo, hi, rfl, h1, h2, k⟩ := h
    refine ⟨_, PSs.nox (pss_one (ps_ret (pe_and (pe_callB (isiK (K := K)) (by rfl) T.b_isinstance (by decide +kernel) (pa_cons (pv 0) (pa_cons (pe_bltnT (n := "int") (by rfl) T.b_int (by decide +kernel)) pa_nil))) (pe_and (pe_not (pe_callB (isiK (K := K)) (by rfl) T.b_isinstance (by decide +kernel) (pa_cons (pv 0) (pa_cons (pe_bltnT (n := "bool") (by rfl) T.b_bool (by decide +kernel)) pa_nil)))) (pe_one (pe_chain op_le op_le (pv 1) (pv 0) (pv 2))))))), ?_⟩
    exact st_ret (ev_and (ev_isi (ev_var rfl) ty_int kit_ii) (ev_and (fun Q q => ev_isi (ev_var rfl) ty_int kit_ib _ ⟨false, rfl, q⟩) (ev_chain (ev_var rfl) (ev_var rfl) (ev_var rfl) h1 h2))) k
theorem ok_is_one_of (T : Env K mg) : FnOk P w K mg base CX0 1 (d_is_one_of.loc K) T.fd_is_one_of ["value", "words"] (spOneOf K) := by
  refine T.F_is_one_of.ok sc_is_one_of (fun vs H Q E h => ?_) (fun cdv A outer s H vs Q E hr h => ?_)
  · obtain ⟨z, a, ws, rfl, _⟩ := h
    rfl
  · have nd := sc_is_one_of.nd
    have hu := hu_of hr
    obtain ⟨z, a, ws, rfl, hS, hf, hi, k⟩ := h
    refine ⟨_, PSs.nox (pss_one (ps_ret (pe_and (pe_callB (isiK (K := K)) (by rfl) T.b_isinstance (by decide +kernel) (pa_cons (pv 0) (pa_cons (pe_bltnT (n := "str") (by rfl) T.b_str (by decide +kernel)) pa_nil))) (pe_one (pe_cmpR (op_in_seq) (pv 0) (pv 1) (by rfl)))))), ?_⟩
    refine st_ret (v := .bl true) (ev_and (ev_isi (ev_var rfl) ty_str kit_ss) (fun Q q => ⟨_, rfl, _, rfl, a, ws, rfl, .inr hS, rfl, hf, ?_⟩)) k
    rw [if_neg Bool.false_ne_true, hi]
    exact q
theorem ok_is_deadline (T : Env K mg) : FnOk P w K mg base CX0 2 (d_is_deadline.loc K) T.fd_is_deadline ["value"] spDeadline := by
  have G_is_between : FnOk P w K mg base CX0 1 _ _ _ _ := ok_is_between T
  refine T.F_is_deadline.ok sc_is_deadline (fun vs H Q E h => ?_) (fun cdv A outer s H vs Q E hr h => ?_)
  · obtain ⟨l, rfl, _⟩ := h
    rfl
  · have nd := sc_is_deadline.nd
    have hu := hu_of hr
    obtain ⟨l, rfl, hl, k⟩ := h
    refine ⟨_, PSs.nox (pss_one (ps_ret (pe_or (pe_cmpR op_isN (pv 0) pe_non (nomark _)) (pe_one (pe_call G_is_between (hr.mono (by decide)) (by rfl) T.g_is_between T.F_is_between.kp T.bi_is_between .nil pass0 (pa_cons (pv 0) (pa_cons pe_int (pa_cons (C8.pe_gc (by rfl) T.c_MOST_WAIT) pa_nil)))))))), ?_⟩
    cases l with
    | none => exact ⟨_, rfl, rfl, true, rfl, k⟩
    | some i => exact ⟨_, rfl, rfl, false, rfl, _, rfl, i, 0, 1000000000, rfl, (hl i rfl).1, (hl i rfl).2, k⟩
theorem ok_require (T : Env K mg) : FnOk P w K mg base CX0 1 (d_require.loc K) T.fd_require ["rows"] spRequire := by
  refine T.F_require.ok sc_require (fun vs H Q E h => ?_) (fun cdv A outer s H vs Q E hr h => ?_)
  · obtain ⟨l, xs, rfl, _⟩ := h
    rfl
  · have nd := sc_require.nd
    have hu := hu_of hr
    obtain ⟨l, xs, rfl, hl, hx, k⟩ := h
    refine ⟨_, PSs.nox (pss_one (ps_for PassesOwn.never rfl (pi_list (pv 0)) (pg_tup rfl (pgs_cons (pg_name (i := 1) nd rfl (Or.inl rfl)) (pgs_cons (pg_name (i := 2) nd rfl (Or.inl rfl)) pgs_nil)))
  (pss_one (ps_if (pt_not (pt_val (pv 2)))
  (pss_one ps_dead)
  pss_nil)))), ?_⟩
    refine ⟨_, rfl, l, rfl, ⟨xs, .of hl⟩, ?_⟩
    refine for_it (walk_list (xs := xs)) (fun i σ H' => H' = H ∧ ∃ a1 a2, σ = [some (.ref l), a1, a2]) ⟨rfl, _, _, rfl⟩ (fun i σ H' _ q => by rw [q.1]; exact .of hl) (fun i x σ H1 H2 hi q y => ?_) (fun σ H1 q => by rw [q.1]; exact k)
    obtain ⟨rfl, a1, a2, rfl⟩ := q
    obtain ⟨rfl, ex⟩ := y
    obtain ⟨p, s, rfl, hp⟩ := hx x (List.mem_of_getElem? ex)
    refine ⟨p, _, rfl, .of hp, rfl, _, _, rfl, _, _, rfl, rfl, ?_⟩
    exact st_no (evb_not (b := true) (evb_B (ev_var rfl))) ⟨rfl, _, _, rfl⟩
theorem ok_wrong_row (T : Env K mg) : FnOk P w K mg base CX0 1 (d_wrong_row.loc K) T.fd_wrong_row ["script"] (spNoScript .non) := by
  refine T.F_wrong_row.ok sc_wrong_row (fun vs H Q E h => ?_) (fun cdv A outer s H vs Q E hr h => ?_)
  · obtain ⟨p, rfl, _⟩ := h
    rfl
  · have nd := sc_wrong_row.nd
    have hu := hu_of hr
    obtain ⟨p, rfl, hp, k⟩ := h
    refine ⟨_, PSs.nox (pss_cons (ps_if (pt_not (pt_val (pe_callB (isiK (K := K)) (by rfl) T.b_isinstance (by decide +kernel) (pa_cons (pv 0) (pa_cons (pe_bltnT (n := "tuple") (by rfl) T.b_tuple (by decide +kernel)) pa_nil)))))
  (pss_one ps_dead)
  pss_nil)
 (pss_cons (ps_set (i := 1) nd rfl (Or.inl rfl) pe_dnewK)
 (pss_cons (ps_for PassesOwn.never rfl (pi_enumT (by rfl) T.b_enumerate (pa_cons (pv 0) pa_nil)) (pg_tup rfl (pgs_cons (pg_name (i := 2) nd rfl (Or.inl rfl)) (pgs_cons (pg_name (i := 3) nd rfl (Or.inl rfl)) pgs_nil)))
  pss_dead)
 (pss_one (ps_ret pe_non))))), ?_⟩
    refine st_no (evb_not (b := true) (evb_B (ev_isi (ev_var rfl) (.base (.tup hp)) kit_tt))) ?_
    refine fun q hq => ?_
    have s1 : Same H (upd H q (.dK [])) := same_new hq
    refine ⟨_, rfl, p, [], rfl, .of (s1 _ _ hp), ?_⟩
    show ∃ W, _
    refine for_it (tb := fun _ _ _ => False) (walk_enumC (K := K) (t := true) (c := 0) (a := p) (xs := [])) (fun i σ H' => Same H H') s1 (fun i σ H' _ s => (show SqT K H' p [] from .of (s _ _ hp))) (fun i x σ H1 H2 hi _ _ => nomatch hi) (fun σ H1 s => ?_)
    exact k _ s
theorem ok_is_script (T : Env K mg) : FnOk P w K mg base CX0 2 (d_is_script.loc K) T.fd_is_script ["value"] (spNoScript (.bl true)) := by
  have G_wrong_row : FnOk P w K mg base CX0 1 _ _ _ _ := ok_wrong_row T
  refine T.F_is_script.ok sc_is_script (fun vs H Q E h => ?_) (fun cdv A outer s H vs Q E hr h => ?_)
  · obtain ⟨p, rfl, _⟩ := h
    rfl
  · have nd := sc_is_script.nd
    have hu := hu_of hr
    obtain ⟨p, rfl, hp, k⟩ := h
    refine ⟨_, PSs.nox (pss_one (ps_ret (pe_and (pe_callB (isiK (K := K)) (by rfl) T.b_isinstance (by decide +kernel) (pa_cons (pv 0) (pa_cons (pe_bltnT (n := "tuple") (by rfl) T.b_tuple (by decide +kernel)) pa_nil))) (pe_one (pe_cmpR op_isN (pe_call G_wrong_row (hr.mono (by decide)) (by rfl) T.g_wrong_row T.F_wrong_row.kp T.bi_wrong_row .nil pass0 (pa_cons (pv 0) pa_nil)) pe_non (nomark _)))))), ?_⟩
    refine ev_isi (ev_var rfl) (.base (.tup hp)) kit_tt _ ⟨true, rfl, _, rfl, p, rfl, hp, fun H1 s1 => ⟨rfl, k _ s1⟩⟩
end
end W48

set_option Elab.async false
set_option linter.all false
set_option maxRecDepth 100000
set_option maxHeartbeats 4000000
namespace W48
open PySem PySem.Spec PyProof.Rows L2 WXG WEv WRd WLf WEn WZs WRu WSt StX WDc
/-! ### plans -/
abbrev CW (K : PySem.W.Frag) : Addr := He.ga K "WorkerPlan"
abbrev CS (K : PySem.W.Frag) : Addr := He.ga K "SupervisorPlan"
def WD.own (d : WD) (s : Addr) : List V := [.str d.name, .str d.word, .int d.b, .int d.e, limV d.lim, .int d.r, .ref s]
def SD.own (d : SD) : List V := [.str d.name, .str d.word, .str d.way, .int d.most, .int d.span, limV d.lim]
def WIns (K : PySem.W.Frag) (dx q : Addr) : HO := .ins (CW K) dx [("own_settings", .ref q), ("own_count", .int 1), ("own_depth", .int 1)]
def SIns (K : PySem.W.Frag) (dx q c : Addr) (n k : Int) : HO := .ins (CS K) dx [("own_settings", .ref q), ("own_children", .ref c), ("own_count", .int n), ("own_depth", .int k)]
def PW (K : PySem.W.Frag) (d : WD) : HP V := fun v H => ∃ a dx q s, v = .ref a ∧ H a = some (WIns K dx q) ∧ H q = some (.tup (d.own s)) ∧ H s = some (.tup [])
def PAt (K : PySem.W.Frag) : (n : Nat) → Told n → HP V
  | 0, _ => fun _ _ => False
  | n + 1, t => match (show WD ⊕ (SD × List (Told n)) from t) with
    | .inl d => PW K d
    | .inr x => fun v H => ∃ (a dx q c : Addr) (k : Nat) (ys : List V), v = .ref a ∧ H a = some (SIns K dx q c (1 + (x.2.map (Told.size n)).sum : Nat) k) ∧ H q = some (.tup x.1.own) ∧ H c = some (.tup ys) ∧ k ≤ n + 1 ∧ Fa (x.2.map (PAt K n)) ys H
theorem kp_ins {H H' : Hp} {a C dx : Addr} {fs : List (Str × V)} (s : Kp H H') (h : H a = some (.ins C dx fs)) : H' a = some (.ins C dx fs) := s _ _ h (fun _ z => nomatch z) (fun _ z => nomatch z)
theorem kp_tup {H H' : Hp} {a : Addr} {xs : List V} (s : Kp H H') (h : H a = some (.tup xs)) : H' a = some (.tup xs) := s _ _ h (fun _ z => nomatch z) (fun _ z => nomatch z)
theorem mk_pw {K : PySem.W.Frag} {d : WD} : MnK (PW K d) := fun _ _ _ s ⟨a, dx, q, x, e, h1, h2, h3⟩ => ⟨a, dx, q, x, e, kp_ins s h1, kp_tup s h2, kp_tup s h3⟩
theorem mk_pat {K : PySem.W.Frag} : ∀ (n : Nat) (t : Told n), MnK (PAt K n t)
  | 0, _ => fun _ _ _ _ h => h.elim
  | n + 1, t => by
    cases t with
    | inl d => exact mk_pw
    | inr x =>
      intro v H H' s h
      obtain ⟨a, dx, q, c, k, ys, e, h1, h2, h3, h4, h5⟩ := h
      exact ⟨a, dx, q, c, k, ys, e, kp_ins s h1, kp_tup s h2, kp_tup s h3, h4, fa_kp (fun P hP => by
        obtain ⟨t, _, rfl⟩ := List.mem_map.mp hP
        exact mk_pat n t) s h5⟩
theorem mk_pats {K : PySem.W.Frag} {n : Nat} {ts : List (Told n)} : ∀ P ∈ ts.map (PAt K n), MnK P := fun P hP => by
  obtain ⟨t, _, rfl⟩ := List.mem_map.mp hP
  exact mk_pat n t
theorem pat_len {K : PySem.W.Frag} {n : Nat} {ts : List (Told n)} {ys : List V} {H : Hp} (h : Fa (ts.map (PAt K n)) ys H) : ys.length = ts.length := by
  have := h.len
  rwa [List.length_map] at this
theorem pat_get {K : PySem.W.Frag} {n : Nat} {ts : List (Told n)} {ys : List V} {H : Hp} (h : Fa (ts.map (PAt K n)) ys H) {i : Nat} {x : V} (hx : ys[i]? = some x) : ∃ t, ts[i]? = some t ∧ PAt K n t x H := by
  obtain ⟨t, ht⟩ : ∃ t, ts[i]? = some t := by
    have := (List.getElem?_eq_some_iff.mp hx).1
    rw [pat_len h] at this
    exact ⟨_, List.getElem?_eq_getElem this⟩
  obtain ⟨x', e, px⟩ := h.get (n := i) (P := PAt K n t) (by rw [List.getElem?_map, ht]; rfl)
  rw [hx] at e
  cases e
  exact ⟨t, ht, px⟩
/-- a plan's own count and levels, its class -/
theorem pat_cd {K : PySem.W.Frag} : ∀ (n : Nat) (t : Told n) {v : V} {H : Hp}, PAt K n t v H → ∃ (a C dx : Addr) (fs : List (Str × V)) (k : Nat), v = .ref a ∧ H a = some (.ins C dx fs) ∧ (C = CW K ∨ C = CS K) ∧ fs.lookup ("own_count" : Str) = some (V.int (Told.size n t : Nat)) ∧ fs.lookup ("own_depth" : Str) = some (V.int k) ∧ k ≤ n
  | 0, _, _, _, h => h.elim
  | n + 1, .inl d, _, _, h => by
    obtain ⟨a, dx, q, x, e, h1, h2, h3⟩ := h
    exact ⟨a, _, dx, _, 1, e, h1, .inl rfl, rfl, rfl, by omega⟩
  | n + 1, .inr (d, ts), _, _, h => by
    obtain ⟨a, dx, q, c, k, ys, e, h1, h2, h3, h4, h5⟩ := h
    exact ⟨a, _, dx, _, k, e, h1, .inr rfl, rfl, rfl, h4⟩
def InitEnd (x : Addr) (H : Hp) (o : HO) (H' : Hp) : Prop := (∀ b u, H b = some u → b ≠ x → H' b = some u) ∧ H' x = some o
def spWInit (K : PySem.W.Frag) : Sp := fun vs H Q _ => ∃ (x dx s : Addr) (d : WD), vs = .ref x :: d.own s ∧ d.Ok ∧ H x = some (.ins (CW K) dx []) ∧ H s = some (.tup []) ∧ ∀ q H', InitEnd x H (WIns K dx q) H' → H' q = some (.tup (d.own s)) → Q .non H'
def spSInit (K : PySem.W.Frag) (n : Nat) : Sp := fun vs H Q _ => ∃ (x dx c : Addr) (d : SD) (ts : List (Told n)) (ys : List V), vs = .ref x :: (d.own ++ [.ref c]) ∧ d.Ok ∧ ts.length ≤ 4 ∧ n ≤ 15 ∧ (ts.map (Told.size n)).sum ≤ 100 ∧ H x = some (.ins (CS K) dx []) ∧ H c = some (.tup ys) ∧ Fa (ts.map (PAt K n)) ys H ∧
  ∀ q (k : Nat) H', k ≤ n + 1 → InitEnd x H (SIns K dx q c (1 + (ts.map (Told.size n)).sum : Nat) k) H' → H' q = some (.tup d.own) → Q .non H'
section
variable {K : PySem.W.Frag} {σ : L2.St} {H0 H : Hp} {te : TE} {D : Ends} {l : Addr} {xs : List V}
theorem g_req {s : Str} (h : G te σ H (Is (.bl true))) : G (tTup (tCons (tC (.str s)) (tCons te tNil))) σ H ReqRow := ⟨fun H1 e Q q => h.ev H1 e _ fun x H2 s2 px => by
  cases px
  exact ⟨(by decide : 2 ≤ sizeLine), fun p hp => q _ _ (s2.trans (same_new hp)) ⟨p, s, rfl, upd_same⟩⟩, mk_req.mn⟩
/-- rows.append((.., True)), rows a new list -/
theorem st_appR {i : Nat} (s0 : Same H0 H) (hn : H0 l = none) (h0 : σ[i]? = some (some (.ref l))) (hl : H l = some (.lst xs)) (hx : ∀ x ∈ xs, ReqRow x H) (len : xs.length ≤ 20) (h : G te σ H0 ReqRow)
    (k : ∀ H1 ys, Same H0 H1 → H1 l = some (.lst ys) → (∀ x ∈ ys, ReqRow x H1) → ys.length = xs.length + 1 → D.nx σ H1) : tDrop (tBM K "list" rAppend (tVar i) (tCons te tNil)) D σ H := by
  refine ⟨_, h0, .inl ⟨rfl, _, .of hl⟩, h.ev H s0 _ fun y H2 s2 py => ?_⟩
  refine ⟨l, xs, y, rfl, rfl, s2 _ _ hl, Nat.lt_of_le_of_lt len (by decide), ?_⟩
  have kp : Kp H2 (upd H2 l (.lst (xs ++ [y]))) := Kp.lst (s2 _ _ hl)
  refine k _ (xs ++ [y]) (same_put (s0.trans s2) hn) upd_same (fun x hm => ?_) (by simp)
  rcases List.mem_append.mp hm with hm | hm
  · exact mk_req _ _ _ ((Kp.same s2).trans kp) (hx x hm)
  · cases List.mem_singleton.mp hm
    exact mk_req _ _ _ kp py
/-- rows = [(.., True), (.., True)] -/
theorem st_rows {i : Nat} {ta tb : TE} (ha : G ta σ H ReqRow) (hb : G tb σ H ReqRow) (k : ∀ l ys H1, Same H H1 → H l = none → H1 l = some (.lst ys) → (∀ x ∈ ys, ReqRow x H1) → ys.length = 2 → D.nx (σ.set i (some (.ref l))) H1) :
    tAsg (tLst (tCons ta (tCons tb tNil))) (gName i) D σ H := by
  refine ha.ev H (Same.refl _) _ fun v1 H1 s1 p1 => hb.ev H1 s1 _ fun v2 H2 s2 p2 => ⟨(by decide : 2 ≤ sizeLine), fun l hl => ?_⟩
  have s12 := s1.trans s2
  refine k l _ _ (s12.trans (same_new hl)) (Same.free s12 hl) upd_same (fun x hx => ?_) rfl
  simp only [List.mem_cons, List.not_mem_nil, or_false] at hx
  rcases hx with rfl | rfl
  · exact mk_req.mn _ _ _ (s2.trans (same_new hl)) p1
  · exact mk_req.mn _ _ _ (same_new hl) p2
/-- self.f = v at a new object -/
theorem st_fld {ta tv : TE} {x C dx : Addr} {fs : List (Str × V)} {f : Str} {v : V} (hv : Ev tv σ H v) (ha : Ev ta σ H (.ref x)) (hx : H x = some (.ins C dx fs)) (hc : Cls K C) (hn : NoAttr K C f) (hl : fs.length < 1000) (k : D.nx σ (upd H x (.ins C dx (putF f v fs)))) : sFld K ta tv f D σ H :=
  hv _ (ha _ ⟨x, C, dx, fs, rfl, hx, hc, hn, hl, k⟩)
end
theorem evb_cmpF {σ : L2.St} {H : Hp} {ta tb : TE} {i j : Int} {b : Bool} {g : Int → Int → Bool} (ha : Ev ta σ H (.int i)) (hb : Ev tb σ H (.int j)) (h : g i j = b) : EvB (tTest (tOp (rI0 fun i j => .bl (g i j)) ta tb)) σ H b := fun Q q => ha _ (hb _ ⟨i, j, rfl, rfl, b, congrArg V.bl h, q⟩)
theorem tyx_w {K : PySem.W.Frag} {mg : Str → Option Value} (T : Env K mg) {H : Hp} {a dx : Addr} {fs : List (Str × V)} (h : H a = some (.ins (CW K) dx fs)) : TyX K H (.ref a) (.ref (CW K)) := .base (.ins h T.dc_WorkerPlan.cls T.dc_WorkerPlan.ca T.dc_WorkerPlan.cn T.dc_WorkerPlan.ct T.dc_WorkerPlan.ob)
theorem tyx_s {K : PySem.W.Frag} {mg : Str → Option Value} (T : Env K mg) {H : Hp} {a dx : Addr} {fs : List (Str × V)} (h : H a = some (.ins (CS K) dx fs)) : TyX K H (.ref a) (.ref (CS K)) := .base (.ins h T.dc_SupervisorPlan.cls T.dc_SupervisorPlan.ca T.dc_SupervisorPlan.cn T.dc_SupervisorPlan.ct T.dc_SupervisorPlan.ob)
theorem inv_word {z : Str} (h : WordOk z) : inV (.str z) [.str "permanent", .str "transient", .str "temporary"] = true := by
  rcases h with rfl | rfl | rfl <;> decide
theorem inv_way {z : Str} (h : WayOk z) : inV (.str z) [.str "one", .str "rest", .str "all"] = true := by
  rcases h with rfl | rfl | rfl <;> decide
section
variable {P : Program} {w : World} {K : PySem.W.Frag} {mg : Str → Option Value} {base : Heap}
theorem ok_winit (T : Env K mg) : FnOk P w K mg base CX0 3 (d_WorkerPlan__init.loc K) T.fd_WorkerPlan__init ["self", "name", "restart", "opening", "closing", "deadline", "refused", "script"] (spWInit K) := by
  have G_is_name : FnOk P w K mg base CX0 2 _ _ _ _ := ok_is_name T
  have G_is_one_of : FnOk P w K mg base CX0 1 _ _ _ _ := ok_is_one_of T
  have G_is_between : FnOk P w K mg base CX0 1 _ _ _ _ := ok_is_between T
  have G_is_deadline : FnOk P w K mg base CX0 2 _ _ _ _ := ok_is_deadline T
  have G_is_script : FnOk P w K mg base CX0 2 _ _ _ _ := ok_is_script T
  have G_require : FnOk P w K mg base CX0 1 _ _ _ _ := ok_require T
  refine T.F_WorkerPlan__init.ok sc_WorkerPlan__init (fun vs H Q E h => ?_) (fun cdv A outer s H vs Q E hr h => ?_)
  · obtain ⟨x, dx, s, d, rfl, _⟩ := h
    rfl
  · have nd := sc_WorkerPlan__init.nd
    have hu := hu_of hr
    obtain ⟨x, dx, s, d, rfl, hok, hx, hs, k⟩ := h
    obtain ⟨o1, o2, o3, o4, o5, o6, o7⟩ := hok
    refine ⟨_, PSs.nox (pss_cons (ps_set (i := 8) nd rfl (Or.inl rfl) (pe_lst (pa_cons (pe_tup (pa_cons pe_str (pa_cons (pe_call G_is_name (hr.mono (by decide)) (by rfl) T.g_is_name T.F_is_name.kp T.bi_is_name .nil pass0 (pa_cons (pv 1) pa_nil)) pa_nil))) (pa_cons (pe_tup (pa_cons pe_str (pa_cons (pe_call G_is_one_of (hr.mono (by decide)) (by rfl) T.g_is_one_of T.F_is_one_of.kp T.bi_is_one_of .nil pass0 (pa_cons (pv 2) (pa_cons (pe_globR (by rfl) T.g_RESTARTS) pa_nil))) pa_nil))) pa_nil))))
 (pss_cons (ps_expr (pe_bm PySem.F.plainAttrs_list PySem.F.slot_list_append PySem.F.type_list_append mt_append (pv 8) (pa_cons (pe_tup (pa_cons pe_str (pa_cons (pe_call G_is_between (hr.mono (by decide)) (by rfl) T.g_is_between T.F_is_between.kp T.bi_is_between .nil pass0 (pa_cons (pv 3) (pa_cons pe_int (pa_cons (C8.pe_gc (by rfl) T.c_MOST_WAIT) pa_nil)))) pa_nil))) pa_nil)))
 (pss_cons (ps_expr (pe_bm PySem.F.plainAttrs_list PySem.F.slot_list_append PySem.F.type_list_append mt_append (pv 8) (pa_cons (pe_tup (pa_cons pe_str (pa_cons (pe_call G_is_between (hr.mono (by decide)) (by rfl) T.g_is_between T.F_is_between.kp T.bi_is_between .nil pass0 (pa_cons (pv 4) (pa_cons pe_int (pa_cons (C8.pe_gc (by rfl) T.c_MOST_WAIT) pa_nil)))) pa_nil))) pa_nil)))
 (pss_cons (ps_expr (pe_bm PySem.F.plainAttrs_list PySem.F.slot_list_append PySem.F.type_list_append mt_append (pv 8) (pa_cons (pe_tup (pa_cons pe_str (pa_cons (pe_call G_is_deadline (hr.mono (by decide)) (by rfl) T.g_is_deadline T.F_is_deadline.kp T.bi_is_deadline .nil pass0 (pa_cons (pv 5) pa_nil)) pa_nil))) pa_nil)))
 (pss_cons (ps_expr (pe_bm PySem.F.plainAttrs_list PySem.F.slot_list_append PySem.F.type_list_append mt_append (pv 8) (pa_cons (pe_tup (pa_cons pe_str (pa_cons (pe_call G_is_between (hr.mono (by decide)) (by rfl) T.g_is_between T.F_is_between.kp T.bi_is_between .nil pass0 (pa_cons (pv 6) (pa_cons pe_int (pa_cons pe_int pa_nil)))) pa_nil))) pa_nil)))
 (pss_cons (ps_expr (pe_bm PySem.F.plainAttrs_list PySem.F.slot_list_append PySem.F.type_list_append mt_append (pv 8) (pa_cons (pe_tup (pa_cons pe_str (pa_cons (pe_call G_is_script (hr.mono (by decide)) (by rfl) T.g_is_script T.F_is_script.kp T.bi_is_script .nil pass0 (pa_cons (pv 7) pa_nil)) pa_nil))) pa_nil)))
 (pss_cons (ps_expr (pe_call G_require (hr.mono (by decide)) (by rfl) T.g_require T.F_require.kp T.bi_require .nil pass0 (pa_cons (pv 8) pa_nil)))
 (pss_cons (ps_fld (pv 0) (pe_tup (pa_cons (pv 1) (pa_cons (pv 2) (pa_cons (pv 3) (pa_cons (pv 4) (pa_cons (pv 5) (pa_cons (pv 6) (pa_cons (pv 7) pa_nil)))))))) rfl)
 (pss_cons (ps_fld (pv 0) pe_int rfl)
 (pss_one (ps_fld (pv 0) pe_int rfl))))))))))), ?_⟩
    have btw : ∀ (i lo hi : Int) (H1 : Hp) (Q : VK), lo ≤ i → i ≤ hi → (∀ v H2, Same H1 H2 → Is (.bl true) v H2 → Q v H2) → spBetween [.int i, .int lo, .int hi] H1 Q E0 := fun i lo hi H1 Q h1 h2 q => ⟨i, lo, hi, rfl, h1, h2, q _ _ (Same.refl _) rfl⟩
    refine st_rows (g_req (s := "name") (g_callL (sp := spTrue1) (E := E0) (vs := [.str d.name]) (fun H1 _ => evl_cons (ev_var rfl) evl_nil) (fun H1 s Q q => ⟨d.name, rfl, o1, fun H' s' => q _ _ s' rfl⟩) mn_i))
      (g_req (s := "restart") (g_callL (sp := spOneOf K) (E := E0) (vs := [.str d.word, .ref (He.ga K "RESTARTS")]) (fun H1 _ => evl_cons (ev_var rfl) (evl_cons ev_c evl_nil)) (fun H1 s Q q => ⟨d.word, _, _, rfl, T.q_RESTARTS _, rfl, inv_word o2, q _ _ (Same.refl _) rfl⟩) mn_i)) fun l ys H3 sn hn el rq n3 => ?_
    dsimp only
    show tSeq _ _ _ _ _
    refine st_appR sn hn rfl el rq (by rw [n3]; decide) (g_req (g_callL (sp := spBetween) (E := E0) (vs := [.int d.b, .int 0, .int 1000000000]) (fun H1 _ => evl_cons (ev_var rfl) (evl_cons ev_c (evl_cons ev_c evl_nil))) (fun H1 s Q q => btw _ _ _ _ _ o3.1 o3.2 q) mn_i)) fun H4 xs4 s4 el4 rq4 n4 => ?_
    refine st_appR s4 hn rfl el4 rq4 (by rw [n4, n3]; decide) (g_req (g_callL (sp := spBetween) (E := E0) (vs := [.int d.e, .int 0, .int 1000000000]) (fun H1 _ => evl_cons (ev_var rfl) (evl_cons ev_c (evl_cons ev_c evl_nil))) (fun H1 s Q q => btw _ _ _ _ _ o4.1 o4.2 q) mn_i)) fun H5 xs5 s5 el5 rq5 n5 => ?_
    refine st_appR s5 hn rfl el5 rq5 (by rw [n5, n4, n3]; decide) (g_req (g_callL (sp := spDeadline) (E := E0) (vs := [limV d.lim]) (fun H1 _ => evl_cons (ev_var rfl) evl_nil) (fun H1 s Q q => ⟨d.lim, rfl, o5, q _ _ (Same.refl _) rfl⟩) mn_i)) fun H6 xs6 s6 el6 rq6 n6 => ?_
    refine st_appR s6 hn rfl el6 rq6 (by rw [n6, n5, n4, n3]; decide) (g_req (g_callL (sp := spBetween) (E := E0) (vs := [.int d.r, .int 0, .int 100]) (fun H1 _ => evl_cons (ev_var rfl) (evl_cons ev_c (evl_cons ev_c evl_nil))) (fun H1 s Q q => btw _ _ _ _ _ o6 o7 q) mn_i)) fun H7 xs7 s7 el7 rq7 n7 => ?_
    refine st_appR s7 hn rfl el7 rq7 (by rw [n7, n6, n5, n4, n3]; decide) (g_req (g_callL (sp := spNoScript (.bl true)) (E := E0) (vs := [.ref s]) (fun H1 _ => evl_cons (ev_var rfl) evl_nil) (fun H1 s Q q => ⟨_, rfl, s _ _ hs, fun H' s' => q _ _ s' rfl⟩) mn_i)) fun H8 xs8 s8 el8 rq8 n8 => ?_
    refine ⟨_, rfl, l, xs8, rfl, el8, rq8, ?_⟩
    refine ⟨_, rfl, _, rfl, _, rfl, _, rfl, _, rfl, _, rfl, _, rfl, (by decide : 7 ≤ sizeLine), fun q hq => ?_⟩
    have hx8 := s8 _ _ hx
    have xq : x ≠ q := fun z => by rw [← z, hx8] at hq; cases hq
    have sq : Same H (upd H8 q (.tup (d.own s))) := s8.trans (same_new hq)
    have eq8 : upd H8 q (.tup (d.own s)) q = some (.tup (d.own s)) := upd_same
    refine ⟨_, rfl, x, CW K, dx, [], rfl, sq _ _ hx, T.dc_WorkerPlan.cls, T.n_WorkerPlan_own_settings, (by decide : 0 < 1000), ?_⟩
    refine ⟨_, rfl, x, CW K, dx, [("own_settings", .ref q)], rfl, upd_same, T.dc_WorkerPlan.cls, T.n_WorkerPlan_own_count, (by decide : 1 < 1000), ?_⟩
    refine ⟨_, rfl, x, CW K, dx, [("own_settings", .ref q), ("own_count", .int 1)], rfl, upd_same, T.dc_WorkerPlan.cls, T.n_WorkerPlan_own_depth, (by decide : 2 < 1000), ?_⟩
    refine k q _ ⟨fun b u hb ne => ?_, upd_same⟩ ?_
    · rw [upd_ne ne, upd_ne ne, upd_ne ne]
      exact sq _ _ hb
    · rw [upd_ne (Ne.symm xq), upd_ne (Ne.symm xq), upd_ne (Ne.symm xq)]
      exact eq8
theorem ok_sinit (T : Env K mg) (n : Nat) {fa : Addr} {cdv : Value} (A : Around) (outer : List PySem.Env) (s : Shared) (H : Hp) (vs : List V) (Q : VK) (E : XK) (hr : Room 2 (A.deeper (envOfC d_SupervisorPlan__init.qual d_SupervisorPlan__init.scope s.heap.objs.size fa cdv))) (h : spSInit K n vs H Q E) :
    ∃ t, PSs (cxOf CX0 P w K mg base ["self", "name", "restart", "strategy", "most", "span", "deadline", "children", "rows", "count", "depth", "index", "child"] d_SupervisorPlan__init.qual d_SupervisorPlan__init.scope fa cdv A outer s H E) d_SupervisorPlan__init.body t ∧ t { nx := fun _ H' => Q .non H', rt := Q } (start ["self", "name", "restart", "strategy", "most", "span", "deadline", "children", "rows", "count", "depth", "index", "child"] vs) H := by
  have G_is_name : FnOk P w K mg base CX0 2 _ _ _ _ := ok_is_name T
  have G_is_one_of : FnOk P w K mg base CX0 1 _ _ _ _ := ok_is_one_of T
  have G_is_between : FnOk P w K mg base CX0 1 _ _ _ _ := ok_is_between T
  have G_is_deadline : FnOk P w K mg base CX0 2 _ _ _ _ := ok_is_deadline T
  have G_require : FnOk P w K mg base CX0 1 _ _ _ _ := ok_require T
  have nd := sc_SupervisorPlan__init.nd
  have hu := hu_of hr
  obtain ⟨x, dx, c, d, ts, ys, rfl, hok, hts, hn15, hsz, hx, hc, fa, k⟩ := h
  obtain ⟨o1, o2, o3, o4, o5, o6, o7, o8⟩ := hok
  refine ⟨_, PSs.nox (pss_cons (ps_set (i := 8) nd rfl (Or.inl rfl) (pe_lst (pa_cons (pe_tup (pa_cons pe_str (pa_cons (pe_call G_is_name (hr.mono (by decide)) (by rfl) T.g_is_name T.F_is_name.kp T.bi_is_name .nil pass0 (pa_cons (pv 1) pa_nil)) pa_nil))) (pa_cons (pe_tup (pa_cons pe_str (pa_cons (pe_call G_is_one_of (hr.mono (by decide)) (by rfl) T.g_is_one_of T.F_is_one_of.kp T.bi_is_one_of .nil pass0 (pa_cons (pv 2) (pa_cons (pe_globR (by rfl) T.g_RESTARTS) pa_nil))) pa_nil))) pa_nil))))
 (pss_cons (ps_expr (pe_bm PySem.F.plainAttrs_list PySem.F.slot_list_append PySem.F.type_list_append mt_append (pv 8) (pa_cons (pe_tup (pa_cons pe_str (pa_cons (pe_call G_is_one_of (hr.mono (by decide)) (by rfl) T.g_is_one_of T.F_is_one_of.kp T.bi_is_one_of .nil pass0 (pa_cons (pv 3) (pa_cons (pe_globR (by rfl) T.g_STRATEGIES) pa_nil))) pa_nil))) pa_nil)))
 (pss_cons (ps_expr (pe_bm PySem.F.plainAttrs_list PySem.F.slot_list_append PySem.F.type_list_append mt_append (pv 8) (pa_cons (pe_tup (pa_cons pe_str (pa_cons (pe_call G_is_between (hr.mono (by decide)) (by rfl) T.g_is_between T.F_is_between.kp T.bi_is_between .nil pass0 (pa_cons (pv 4) (pa_cons pe_int (pa_cons pe_int pa_nil)))) pa_nil))) pa_nil)))
 (pss_cons (ps_expr (pe_bm PySem.F.plainAttrs_list PySem.F.slot_list_append PySem.F.type_list_append mt_append (pv 8) (pa_cons (pe_tup (pa_cons pe_str (pa_cons (pe_call G_is_between (hr.mono (by decide)) (by rfl) T.g_is_between T.F_is_between.kp T.bi_is_between .nil pass0 (pa_cons (pv 5) (pa_cons pe_int (pa_cons (C8.pe_gc (by rfl) T.c_MOST_WAIT) pa_nil)))) pa_nil))) pa_nil)))
 (pss_cons (ps_expr (pe_bm PySem.F.plainAttrs_list PySem.F.slot_list_append PySem.F.type_list_append mt_append (pv 8) (pa_cons (pe_tup (pa_cons pe_str (pa_cons (pe_call G_is_deadline (hr.mono (by decide)) (by rfl) T.g_is_deadline T.F_is_deadline.kp T.bi_is_deadline .nil pass0 (pa_cons (pv 6) pa_nil)) pa_nil))) pa_nil)))
 (pss_cons (ps_expr (pe_call G_require (hr.mono (by decide)) (by rfl) T.g_require T.F_require.kp T.bi_require .nil pass0 (pa_cons (pv 8) pa_nil)))
 (pss_cons (ps_asg (pe_tup (pa_cons pe_int (pa_cons pe_int pa_nil))) (pg_tup rfl (pgs_cons (pg_name (i := 9) nd rfl (Or.inl rfl)) (pgs_cons (pg_name (i := 10) nd rfl (Or.inl rfl)) pgs_nil))))
 (pss_cons (ps_for PassesOwn.never rfl (pi_enumT (by rfl) T.b_enumerate (pa_cons (pv 7) pa_nil)) (pg_tup rfl (pgs_cons (pg_name (i := 11) nd rfl (Or.inl rfl)) (pgs_cons (pg_name (i := 12) nd rfl (Or.inl rfl)) pgs_nil)))
  (pss_cons (ps_if (PW.pt (pw_or (pt_not (pt_val (pe_callB (isiK (K := K)) (by rfl) T.b_isinstance (by decide +kernel) (pa_cons (pv 12) (pa_cons (pe_globR (by rfl) T.g_Plan) pa_nil))))) (pw_or1 (pt_cmpR op_ge (pv 11) (C8.pe_gc (by rfl) T.c_MOST_CHILDREN) (nomark _)))))
  (pss_one ps_dead)
  pss_nil)
 (pss_cons (ps_par (i := 9) (j := 10) (by rfl) nd rfl rfl (by decide) rfl rfl (pa_cons (pe_op op_add (pv 9) (pe_fld (pv 12) rfl)) (pa_cons (pe_callB (call_max2 rfl) (by rfl) T.b_max (by decide +kernel) (pa_cons (pv 10) (pa_cons (pe_op op_add (pe_fld (pv 12) rfl) pe_int) pa_nil))) pa_nil)) (by rfl))
 (pss_one (ps_if (PW.pt (pw_or (pt_cmpR op_gt (pv 9) (C8.pe_gc (by rfl) T.c_MOST_WHOLE) (nomark _)) (pw_or1 (pt_cmpR op_gt (pv 10) (C8.pe_gc (by rfl) T.c_MOST_DEPTH) (nomark _)))))
  (pss_one ps_dead)
  pss_nil)))))
 (pss_cons (ps_fld (pv 0) (pe_tup (pa_cons (pv 1) (pa_cons (pv 2) (pa_cons (pv 3) (pa_cons (pv 4) (pa_cons (pv 5) (pa_cons (pv 6) pa_nil))))))) rfl)
 (pss_cons (ps_fld (pv 0) (pv 7) rfl)
 (pss_cons (ps_fld (pv 0) (pv 9) rfl)
 (pss_one (ps_fld (pv 0) (pv 10) rfl))))))))))))), ?_⟩
  have btw : ∀ (i lo hi : Int) (H1 : Hp) (Q : VK), lo ≤ i → i ≤ hi → (∀ v H2, Same H1 H2 → Is (.bl true) v H2 → Q v H2) → spBetween [.int i, .int lo, .int hi] H1 Q E0 := fun i lo hi H1 Q h1 h2 q => ⟨i, lo, hi, rfl, h1, h2, q _ _ (Same.refl _) rfl⟩
  refine st_rows (g_req (s := "name") (g_callL (sp := spTrue1) (E := E0) (vs := [.str d.name]) (fun H1 _ => evl_cons (ev_var rfl) evl_nil) (fun H1 s Q q => ⟨d.name, rfl, o1, fun H' s' => q _ _ s' rfl⟩) mn_i))
    (g_req (s := "restart") (g_callL (sp := spOneOf K) (E := E0) (vs := [.str d.word, .ref (He.ga K "RESTARTS")]) (fun H1 _ => evl_cons (ev_var rfl) (evl_cons ev_c evl_nil)) (fun H1 s Q q => ⟨d.word, _, _, rfl, T.q_RESTARTS _, rfl, inv_word o2, q _ _ (Same.refl _) rfl⟩) mn_i)) fun l xs3 H3 s3 hn el3 rq3 n3 => ?_
  dsimp only
  show tSeq _ _ _ _ _
  refine st_appR s3 hn rfl el3 rq3 (by rw [n3]; decide) (g_req (s := "strategy") (g_callL (sp := spOneOf K) (E := E0) (vs := [.str d.way, .ref (He.ga K "STRATEGIES")]) (fun H1 _ => evl_cons (ev_var rfl) (evl_cons ev_c evl_nil)) (fun H1 s Q q => ⟨d.way, _, _, rfl, T.q_STRATEGIES _, rfl, inv_way o3, q _ _ (Same.refl _) rfl⟩) mn_i)) fun H4 xs4 s4 el4 rq4 n4 => ?_
  refine st_appR s4 hn rfl el4 rq4 (by rw [n4, n3]; decide) (g_req (g_callL (sp := spBetween) (E := E0) (vs := [.int d.most, .int 0, .int 20]) (fun H1 _ => evl_cons (ev_var rfl) (evl_cons ev_c (evl_cons ev_c evl_nil))) (fun H1 s Q q => btw _ _ _ _ _ o4 o5 q) mn_i)) fun H5 xs5 s5 el5 rq5 n5 => ?_
  refine st_appR s5 hn rfl el5 rq5 (by rw [n5, n4, n3]; decide) (g_req (g_callL (sp := spBetween) (E := E0) (vs := [.int d.span, .int 1, .int 1000000000]) (fun H1 _ => evl_cons (ev_var rfl) (evl_cons ev_c (evl_cons ev_c evl_nil))) (fun H1 s Q q => btw _ _ _ _ _ o6 o7 q) mn_i)) fun H6 xs6 s6 el6 rq6 n6 => ?_
  refine st_appR s6 hn rfl el6 rq6 (by rw [n6, n5, n4, n3]; decide) (g_req (g_callL (sp := spDeadline) (E := E0) (vs := [limV d.lim]) (fun H1 _ => evl_cons (ev_var rfl) evl_nil) (fun H1 s Q q => ⟨d.lim, rfl, o8, q _ _ (Same.refl _) rfl⟩) mn_i)) fun H8 xs8 s8 el8 rq8 n8 => ?_
  refine ⟨_, rfl, l, xs8, rfl, el8, rq8, ?_⟩
  clear el3 rq3 el4 rq4 el5 rq5 el6 rq6 el8 rq8 s3 s4 s5 s6
  refine ⟨(by decide : 2 ≤ sizeLine), fun p hp => ?_⟩
  refine ⟨p, _, rfl, .of upd_same, rfl, _, _, rfl, _, _, rfl, rfl, ?_⟩
  have s9 : Same H (upd H8 p (.tup [.int 1, .int 1])) := s8.trans (same_new hp)
  generalize upd H8 p (.tup [.int 1, .int 1]) = H9 at s9 ⊢
  have yl := pat_len fa
  refine ⟨_, rfl, c, ys, rfl, .of (s9 _ _ hc), ?_⟩
  show ∃ W, _
  refine for_it (walk_enumC (K := K) (t := true) (c := 0) (a := c) (xs := ys)) (fun i σ H' => Same H H' ∧ ∃ (a11 a12 : Option V) (kk : Nat), kk ≤ n + 1 ∧ σ = [some (.ref x), some (.str d.name), some (.str d.word), some (.str d.way), some (.int d.most), some (.int d.span), some (limV d.lim), some (.ref c), some (.ref l), some (.int (1 + ((ts.take i).map (Told.size n)).sum : Nat)), some (.int kk), a11, a12])
    ⟨s9, none, none, 1, by omega, rfl⟩ (fun i σ H' _ q => (show SqT K H' c ys from .of (q.1 _ _ hc))) (fun i y σ H1 H2 hi q yy => ?_) (fun σ H1 q => ?_)
  · obtain ⟨s10, a11, a12, kk, hkk, rfl⟩ := q
    obtain ⟨t0, u, g, rfl, ht0, rfl, eu, eg⟩ := yy
    cases eu
    obtain ⟨t, ht, px⟩ := pat_get fa eg
    obtain ⟨b, C, dy, fs, k2, rfl, hb, hC, l1, l2, hk2⟩ := pat_cd n t px
    have hi4 : i < 4 := by omega
    have s11 := s10.trans (same_new (o := .tup [.int (0 + (i : Nat)), .ref b]) ht0)
    refine ⟨t0, _, rfl, .of upd_same, rfl, _, _, rfl, _, _, rfl, rfl, ?_⟩
    generalize upd H1 t0 (.tup [.int (0 + (i : Nat)), .ref b]) = H2 at s11 ⊢
    have hb2 := s11 _ _ hb
    have cl : Cls K C ∧ NoAttr K C "own_count" ∧ NoAttr K C "own_depth" ∧ PySem.W.kitOne K (.ref C) (.ref (He.ga K "Plan")) = some true ∧ TyX K H2 (.ref b) (.ref C) := by
      rcases hC with rfl | rfl
      · exact ⟨T.dc_WorkerPlan.cls, T.n_WorkerPlan_own_count, T.n_WorkerPlan_own_depth, T.k_WorkerPlan_Plan, tyx_w T hb2⟩
      · exact ⟨T.dc_SupervisorPlan.cls, T.n_SupervisorPlan_own_count, T.n_SupervisorPlan_own_depth, T.k_SupervisorPlan_Plan, tyx_s T hb2⟩
    have sz : Told.size n t ≤ (ts.map (Told.size n)).sum := size_in (List.mem_of_getElem? ht)
    have e1 : ((ts.take (i + 1)).map (Told.size n)).sum = ((ts.take i).map (Told.size n)).sum + Told.size n t := by
      rw [List.take_succ, ht, List.map_append, List.sum_append]
      simp
    have sk := sum_take (Told.size n) ts (i + 1)
    refine st_no (evb_or (a := false) (evb_not (b := true) (evb_B (ev_isiC (ev_var rfl) cl.2.2.2.2 cl.2.2.2.1))) fun _ => evb_cmpF (ev_var rfl) ev_c (decide_eq_false (by omega))) ?_
    refine ⟨_, rfl, _, rfl, b, C, dy, fs, _, rfl, hb2, cl.1, cl.2.1, l1, _, _, rfl, rfl, ?_⟩
    refine ⟨_, rfl, _, rfl, b, C, dy, fs, _, rfl, hb2, cl.1, cl.2.2.1, l2, _, _, rfl, rfl, _, _, rfl, ?_⟩
    refine ⟨_, _, rfl, ?_⟩
    have ec : ((1 + ((ts.take i).map (Told.size n)).sum : Nat) : Int) + (Told.size n t : Nat) = ((1 + ((ts.take (i + 1)).map (Told.size n)).sum : Nat) : Int) := by rw [e1]; omega
    obtain ⟨k3, hk3, hk3'⟩ : ∃ k3 : Nat, (if (k2 : Int) + 1 > (kk : Int) then (k2 : Int) + 1 else kk) = (k3 : Int) ∧ k3 ≤ n + 1 := by
      split
      · exact ⟨k2 + 1, by omega, by omega⟩
      · exact ⟨kk, rfl, hkk⟩
    dsimp only
    rw [ec, hk3]
    refine st_no (evb_or (a := false) (evb_cmpF (ev_var rfl) ev_c (decide_eq_false (by omega))) fun _ => evb_cmpF (ev_var rfl) ev_c (decide_eq_false (by omega))) ?_
    exact ⟨s11, _, _, k3, hk3', rfl⟩
  · obtain ⟨s10, a11, a12, kk, hkk, rfl⟩ := q
    rw [yl, List.take_length]
    refine ⟨_, rfl, _, rfl, _, rfl, _, rfl, _, rfl, _, rfl, (by decide : 6 ≤ sizeLine), fun q hq => ?_⟩
    have hx8 := s10 _ _ hx
    have xq : x ≠ q := fun z => by rw [← z, hx8] at hq; cases hq
    have sq : Same H (upd H1 q (.tup d.own)) := s10.trans (same_new hq)
    have eq8 : upd H1 q (.tup d.own) q = some (.tup d.own) := upd_same
    refine ⟨_, rfl, x, CS K, dx, [], rfl, sq _ _ hx, T.dc_SupervisorPlan.cls, T.n_SupervisorPlan_own_settings, (by decide : 0 < 1000), ?_⟩
    refine ⟨_, rfl, _, rfl, x, CS K, dx, [("own_settings", .ref q)], rfl, upd_same, T.dc_SupervisorPlan.cls, T.n_SupervisorPlan_own_children, (by decide : 1 < 1000), ?_⟩
    refine ⟨_, rfl, _, rfl, x, CS K, dx, [("own_settings", .ref q), ("own_children", .ref c)], rfl, upd_same, T.dc_SupervisorPlan.cls, T.n_SupervisorPlan_own_count, (by decide : 2 < 1000), ?_⟩
    refine ⟨_, rfl, _, rfl, x, CS K, dx, [("own_settings", .ref q), ("own_children", .ref c), ("own_count", .int (1 + (ts.map (Told.size n)).sum : Nat))], rfl, upd_same, T.dc_SupervisorPlan.cls, T.n_SupervisorPlan_own_depth, (by decide : 3 < 1000), ?_⟩
    refine k q kk _ hkk ⟨fun b u hb ne => ?_, upd_same⟩ ?_
    · rw [upd_ne ne, upd_ne ne, upd_ne ne, upd_ne ne]
      exact sq _ _ hb
    · rw [upd_ne (Ne.symm xq), upd_ne (Ne.symm xq), upd_ne (Ne.symm xq), upd_ne (Ne.symm xq)]
      exact eq8
end
end W48

set_option Elab.async false
set_option linter.all false
set_option maxRecDepth 100000
set_option maxHeartbeats 4000000
namespace W48
open PySem PySem.Spec PyProof.Rows L2 WXG WEv WRd WLf WEn WZs WRu WSt StX WDc
section
variable {P : Program} {w : World} {K : PySem.W.Frag} {mg : Str → Option Value} {base : Heap}
theorem kb_worker (T : Env K mg) : KBn K T.fd_WorkerPlan__init ["self", "name", "restart", "opening", "closing", "deadline", "refused", "script"] 2 ["restart", "opening", "closing", "deadline", "refused", "script"] (fun us ws => us ++ ws) (fun vs zs => vs ++ zs) := by
  obtain ⟨oc, od, dV, kV, doc, pm, an, cdv, ct, osl, e, lk, hcd, hD, hK⟩ := T.F_WorkerPlan__init.ex
  obtain rfl : dV = .none := hD.elim (fun h => h.2) fun h => absurd rfl h.1
  refine ⟨fun s us ws X l1 l2 => ?_, fun r1 r2 => r1.append r2⟩
  rw [e]
  refine BindsTo.of_looks fun M => PySem.W.Looks.of_pure ?_
  match us, ws, l1, l2 with
  | [a, b], [c, d, e, f, g, h], _, _ => rfl
def spkW (K : PySem.W.Frag) : SpK := fun vs zs H Q E => vs.length = 2 ∧ spWInit K (vs ++ zs) H Q E
theorem fk_worker (T : Env K mg) : FnK P w K mg base CX0 3 (He.fAd K ("WorkerPlan", some "__init__")) ["restart", "opening", "closing", "deadline", "refused", "script"] (spkW K) :=
  FnK.of_ok (ok_winit T) (kb_worker T) fun e => e.mod.kin.keeps fun b o h => (e.bs b o h).1
def spkS (K : PySem.W.Frag) (n : Nat) : SpK := fun vs zs H Q E => ∃ as rest, vs = as ++ rest ∧ as.length = 2 ∧ rest.length ≤ sizeLine ∧ ∀ p, H p = Option.none → spSInit K n (as ++ zs ++ [V.ref p]) (upd H p (.tup rest)) Q E
theorem fk_super (T : Env K mg) (n : Nat) : FnK P w K mg base CX0 3 (He.fAd K ("SupervisorPlan", some "__init__")) ["restart", "strategy", "most", "span", "deadline"] (spkS K n) := by
  obtain ⟨oc, od, dV, kV, doc, pm, an, cdv, ct, osl, e, lk, hcd, hD, hK⟩ := T.F_SupervisorPlan__init.ex
  obtain rfl : dV = .none := hD.elim (fun h => h.2) fun h => absurd rfl h.1
  rw [e] at lk
  refine fn_starK (ps := ["self", "name"]) (ks := ["restart", "strategy", "most", "span", "deadline"]) (pv := "children") lk hcd sc_SupervisorPlan__init (fun _ _ _ _ _ _ _ _ _ _ _ h => h) (fun us rest ws l1 l2 => ?_) (fun A outer s H vs Q E hr h => ok_sinit T n A outer s H vs Q E hr h)
  match us, ws, rest, l1, l2 with
  | [a, b], [c, d, e, f, g], [], _, _ => rfl
  | [a, b], [c, d, e, f, g], r :: rs, _, _ => rfl
def WD.kvs (d : WD) (s : Addr) : List (Key × V) := [(Sum.inr "script", .ref s), (Sum.inr "name", .str d.name), (Sum.inr "restart", .str d.word), (Sum.inr "opening", .int d.b), (Sum.inr "closing", .int d.e), (Sum.inr "deadline", limV d.lim), (Sum.inr "refused", .int d.r)]
def SD.kvs (d : SD) : List (Key × V) := [(Sum.inr "name", .str d.name), (Sum.inr "restart", .str d.word), (Sum.inr "strategy", .str d.way), (Sum.inr "most", .int d.most), (Sum.inr "span", .int d.span), (Sum.inr "deadline", limV d.lim)]
def WD.made (d : WD) (s : Addr) : List (Key × V) := [(Sum.inr "restart", .str d.word), (Sum.inr "opening", .int d.b), (Sum.inr "closing", .int d.e), (Sum.inr "deadline", limV d.lim), (Sum.inr "refused", .int d.r), (Sum.inr "script", .ref s)]
def SD.made (d : SD) : List (Key × V) := [(Sum.inr "restart", .str d.word), (Sum.inr "strategy", .str d.way), (Sum.inr "most", .int d.most), (Sum.inr "span", .int d.span), (Sum.inr "deadline", limV d.lim)]
/-- the settings of a worker as a dict -/
def WV (d : WD) : HP V := fun v H => ∃ m s, v = .ref m ∧ H m = some (.dK (d.kvs s)) ∧ H s = some (.tup [])
def SV (d : SD) : HP V := fun v H => ∃ m, v = .ref m ∧ H m = some (.dK d.kvs)
theorem mn_wv {d : WD} : Mn (WV d) := fun _ _ _ s ⟨m, x, e, h1, h2⟩ => ⟨m, x, e, s _ _ h1, s _ _ h2⟩
theorem mn_sv {d : SD} : Mn (SV d) := fun _ _ _ s ⟨m, e, h1⟩ => ⟨m, e, s _ _ h1⟩
/-- made = {s: values[s] for s in SETTINGS[1:]} -/
theorem st_made {σ : L2.St} {H : Hp} {D : Ends} {i j v : Nat} {m S : Addr} {kvs kvs2 : List (Key × V)} {xs : List V} {ns : List Str} (hS : ∀ H, SqT K H S xs) (hc : ¬ (HT.sIx xs.length 0 (some 1) = 0 ∧ HT.sIx xs.length xs.length none = xs.length)) (hcut : cutV xs (some 1) none = ns.map V.str)
    (h0 : ∀ x, ((σ.set v none).set v (some x))[j]? = some (some (.ref m))) (hv : ∀ x, ((σ.set v none).set v (some x))[v]? = some (some x)) (hm : H m = some (.dK kvs)) (hl : kvs2.length = ns.length) (hz : kvs2.length ≤ 100)
    (hp : ∀ i n, ns[i]? = some n → ∃ x, valV kvs (Sum.inr n) = some x ∧ putK (kvs2.take i) (Sum.inr n) x = kvs2.take (i + 1))
    (k : ∀ dm H1, Same H H1 → H1 dm = some (.dK kvs2) → D.nx (σ.set i (some (.ref dm))) H1) :
    tAsg (tDc (iTup K (tSl (rSlT K) (tC (.ref S)) (tPart (tC (.int 1))) tNoPart)) (gName v) tYes (tVar v) (tDGet (tVar j) (tVar v)) [v]) (gName i) D σ H := by
  refine ⟨1, rfl, S, xs, rfl, hS _, hc, fun r hr => ?_⟩
  rw [hcut]
  have s1 : Same H (upd H r (.tup (ns.map V.str))) := same_new hr
  have er : upd H r (.tup (ns.map V.str)) r = some (.tup (ns.map V.str)) := upd_same
  generalize upd H r (.tup (ns.map V.str)) = H1 at s1 er ⊢
  refine ⟨r, rfl, ⟨_, .of er⟩, fun Dd hD => ?_⟩
  show ∃ W, _
  refine dc_tup (xs := ns.map V.str) (fun i H' => Same H1 H' ∧ H' Dd = some (.dK (kvs2.take i))) ⟨same_new hD, upd_same⟩ (fun i H' _ p => .of (p.1 _ _ er)) (fun i x H' hx p => ?_) (fun H' p => ?_)
  · obtain ⟨s2, hd⟩ := p
    rw [List.getElem?_map] at hx
    obtain ⟨n, hn, rfl⟩ := Option.map_eq_some_iff.mp hx
    obtain ⟨x, e1, e2⟩ := hp i n hn
    refine ⟨(List.set_set ..).trans (List.set_set ..), ?_⟩
    refine ⟨_, hv _, _, h0 _, _, hv _, m, x, rfl, .inl ⟨kvs, Sum.inr n, .inl (s2 _ _ (s1 _ _ hm)), rfl, e1.symm⟩, _, Sum.inr n, rfl, hd, ?_, same_put s2 hD, ?_⟩
    · rw [List.length_take]
      exact Nat.lt_of_le_of_lt (show _ ≤ 100 by omega) (by decide)
    · rw [upd_same, e2]
  · obtain ⟨s2, hd⟩ := p
    rw [List.length_map, ← hl, List.take_length] at hd
    exact k Dd H' (s1.trans s2) hd
theorem same_init {H H1 H' : Hp} {d x dx C : Addr} {kvs : List (Key × V)} {o : HO} (s : Same H H1) (hd : H1 d = none) (hx : upd (upd H1 d (.dK [])) d (.dK kvs) x = none) (hdx : upd (upd H1 d (.dK [])) d (.dK kvs) dx = none) (ne : dx ≠ x)
    (e : InitEnd x (upd (upd (upd (upd H1 d (.dK [])) d (.dK kvs)) dx (.own x)) x (.ins C dx [])) o H') : Same H1 H' := by
  have s1 : Same H1 (upd (upd H1 d (.dK [])) d (.dK kvs)) := same_put (same_new hd) hd
  generalize upd (upd H1 d (.dK [])) d (.dK kvs) = H2 at s1 hx hdx e
  intro b u hb
  have hb2 := s1 _ _ hb
  have bx : b ≠ x := fun z => by rw [z, hx] at hb2; cases hb2
  have bd : b ≠ dx := fun z => by rw [z, hdx] at hb2; cases hb2
  exact e.1 b u (by rw [upd_ne bx, upd_ne bd]; exact hb2) bx
theorem same_pre {H1 : Hp} {d x dx C : Addr} {kvs : List (Key × V)} (hd : H1 d = none) (hx : upd (upd H1 d (.dK [])) d (.dK kvs) x = none) (hdx : upd (upd H1 d (.dK [])) d (.dK kvs) dx = none) (ne : dx ≠ x) : Same H1 (upd (upd (upd (upd H1 d (.dK [])) d (.dK kvs)) dx (.own x)) x (.ins C dx [])) := by
  have s1 : Same H1 (upd (upd H1 d (.dK [])) d (.dK kvs)) := same_put (same_new hd) hd
  generalize upd (upd H1 d (.dK [])) d (.dK kvs) = H2 at s1 hx hdx
  refine s1.trans ((same_new hdx).trans (same_new ?_))
  rw [upd_ne (Ne.symm ne)]
  exact hx
def spWOf (K : PySem.W.Frag) : Sp := fun vs H Q _ => ∃ (v : V) (d : WD), vs = [v] ∧ d.Ok ∧ WV d v H ∧ ∀ v' H', Same H H' → PW K d v' H' → Q v' H'
theorem ok_worker_of (T : Env K mg) : FnOk P w K mg base CX0 5 (d_worker_of.loc K) T.fd_worker_of ["values"] (spWOf K) := by
  have G_mk_WorkerPlan : FnK P w K mg base CX0 3 _ _ _ := fk_worker T
  refine T.F_worker_of.ok sc_worker_of (fun vs H Q E h => ?_) (fun cdv A outer s H vs Q E hr h => ?_)
  · obtain ⟨v, d, rfl, _⟩ := h
    rfl
  · have nd := sc_worker_of.nd
    have hu := hu_of hr
    obtain ⟨v, d, rfl, hok, hv, k⟩ := h
    obtain ⟨m, sc, rfl, hm, hs⟩ := hv
    refine ⟨_, PSs.nox (pss_cons (ps_setDc (i := 1) (own := [("setting", 2)]) (by rfl) nd rfl rfl (sw_trueD rfl rfl rfl (by decide +kernel)) (pi_tup (pe_slice sl_tup (pe_globR (by rfl) T.g_WORKER_SETTINGS) (po_some pe_int) po_none)) (blkOk_by (N := ["values", "made", "setting", "name"]) (sc := defScope s_worker_of) (by decide +kernel)) (fun _ _ _ _ _ => (pg_name (i := 2) nd rfl (Or.inl rfl))) (fun _ _ _ _ _ => pts_nil) (fun _ _ _ _ _ => (pv 2)) (fun _ _ _ _ _ => (pe_dget hu (pv 0) (pv 2) (fun _ _ => rfl))))
 (pss_cons (ps_set (i := 3) nd rfl (Or.inl rfl) (pe_dget hu (pv 0) pe_str (fun _ _ => rfl)))
 (pss_one (ps_ret (pe_mkSS T.mk_WorkerPlan G_mk_WorkerPlan (hr.mono (by decide)) (by rfl) T.g_WorkerPlan pass0 (pa_cons (pv 3) pa_nil) (pv 1)))))), ?_⟩
    refine st_made (m := m) (kvs := d.kvs sc) (kvs2 := d.made sc) (ns := ["restart", "opening", "closing", "deadline", "refused", "script"]) T.q_WORKER_SETTINGS (show ¬ (HT.sIx 7 0 (some 1) = 0 ∧ HT.sIx 7 7 none = 7) by decide) rfl (fun _ => rfl) (fun _ => rfl) hm rfl (Nat.le_of_ble_eq_true rfl) (fun i n hn => ?_) fun dm H1 s1 hdm => ?_
    · match i, hn with
      | 0, hn => cases hn; exact ⟨_, rfl, rfl⟩
      | 1, hn => cases hn; exact ⟨_, rfl, rfl⟩
      | 2, hn => cases hn; exact ⟨_, rfl, rfl⟩
      | 3, hn => cases hn; exact ⟨_, rfl, rfl⟩
      | 4, hn => cases hn; exact ⟨_, rfl, rfl⟩
      | 5, hn => cases hn; exact ⟨_, rfl, rfl⟩
      | n + 6, hn => cases hn
    · dsimp only
      show tAsg _ (gName 3) _ _ _
      refine st_asg (ev_dget (ev_var rfl) ev_c (s1 _ _ hm) (k := Sum.inr "name") (v := .str d.name) rfl) ?_
      refine ⟨_, rfl, fun dd hd => ⟨_, rfl, dm, d.made sc, rfl, ?_, upd_same, ?_, rfl, fun x dx hx hdx ne => ?_⟩⟩
      · exact (same_new hd) _ _ hdm
      · exact fun z => by rw [z, hd] at hdm; cases hdm
      · refine ⟨rfl, x, dx, sc, d, rfl, hok, upd_same, same_pre hd hx hdx ne _ _ (s1 _ _ hs), fun q H' he hq => ⟨rfl, k (.ref x) H' (s1.trans (same_init (Same.refl _) hd hx hdx ne he)) ⟨x, dx, q, sc, rfl, he.2, hq, same_init (Same.refl _) hd hx hdx ne he _ _ (s1 _ _ hs)⟩⟩⟩
end
end W48

set_option Elab.async false
set_option linter.all false
set_option maxRecDepth 100000
set_option maxHeartbeats 4000000
namespace W48
open PySem PySem.Spec PyProof.Rows L2 WXG WEv WRd WLf WEn WZs WRu WSt StX WDc
def spSOf (K : PySem.W.Frag) (n : Nat) : Sp := fun vs H Q _ => ∃ (v : V) (l : Addr) (d : SD) (ts : List (Told n)) (ys : List V), vs = [v, .ref l] ∧ d.Ok ∧ SV d v H ∧ H l = some (.lst ys) ∧ Fa (ts.map (PAt K n)) ys H ∧ ts.length ≤ 4 ∧ n ≤ 15 ∧ (ts.map (Told.size n)).sum ≤ 100 ∧
  ∀ v' H', Same H H' → PAt K (n + 1) (Sum.inr (d, ts)) v' H' → Q v' H'
/-- self.own_settings[j] -/
def spPr (C : Addr) (j : Int) : Sp := fun vs H Q _ => ∃ (a dx q : Addr) (fs : List (Str × V)) (xs : List V) (x : V), vs = [.ref a] ∧ H a = some (.ins C dx fs) ∧ fs.lookup ("own_settings" : Str) = some (.ref q) ∧ H q = some (.tup xs) ∧ atI xs j = some x ∧ Q x H
def spCh (K : PySem.W.Frag) : Sp := fun vs H Q _ => ∃ (a dx : Addr) (fs : List (Str × V)) (x : V), vs = [.ref a] ∧ H a = some (.ins (CS K) dx fs) ∧ fs.lookup ("own_children" : Str) = some x ∧ Q x H
def spBelowW : Sp := fun vs H Q _ => ∃ v, vs = [v] ∧ ∀ p H', Same H H' → H' p = some (.tup []) → Q (.ref p) H'
def spSet (K : PySem.W.Frag) : Sp := fun vs H Q _ => ∃ (a dx q : Addr) (fs : List (Str × V)), vs = [.ref a] ∧ fs.lookup ("own_settings" : Str) = some (.ref q) ∧ fs.lookup ("below" : Str) = none ∧
  ((H a = some (.ins (CW K) dx fs) ∧ ∀ p b H', Same H H' → H' p = some (.tup [.ref q, .ref b]) → H' b = some (.tup []) → Q (.ref p) H') ∨
   (∃ c, H a = some (.ins (CS K) dx fs) ∧ fs.lookup ("own_children" : Str) = some c ∧ ∀ p H', Same H H' → H' p = some (.tup [.ref q, c]) → Q (.ref p) H'))
section
variable {P : Program} {w : World} {K : PySem.W.Frag} {mg : Str → Option Value} {base : Heap}
theorem ok_supervisor_of (T : Env K mg) (n : Nat) : FnOk P w K mg base CX0 5 (d_supervisor_of.loc K) T.fd_supervisor_of ["values", "children"] (spSOf K n) := by
  have G_mk_SupervisorPlan : FnK P w K mg base CX0 3 _ _ _ := fk_super T n
  refine T.F_supervisor_of.ok sc_supervisor_of (fun vs H Q E h => ?_) (fun cdv A outer s H vs Q E hr h => ?_)
  · obtain ⟨v, l, d, ts, ys, rfl, _⟩ := h
    rfl
  · have nd := sc_supervisor_of.nd
    have hu := hu_of hr
    obtain ⟨v, l, d, ts, ys, rfl, hok, hv, hl, fa, hts, hn15, hsz, k⟩ := h
    obtain ⟨m, rfl, hm⟩ := hv
    have yl := pat_len fa
    refine ⟨_, PSs.nox (pss_cons (ps_setDc (i := 2) (own := [("setting", 3)]) (by rfl) nd rfl rfl (sw_trueD rfl rfl rfl (by decide +kernel)) (pi_tup (pe_slice sl_tup (pe_globR (by rfl) T.g_SUPERVISOR_SETTINGS) (po_some pe_int) po_none)) (blkOk_by (N := ["values", "children", "made", "setting", "name"]) (sc := defScope s_supervisor_of) (by decide +kernel)) (fun _ _ _ _ _ => (pg_name (i := 3) nd rfl (Or.inl rfl))) (fun _ _ _ _ _ => pts_nil) (fun _ _ _ _ _ => (pv 3)) (fun _ _ _ _ _ => (pe_dget hu (pv 0) (pv 3) (fun _ _ => rfl))))
 (pss_cons (ps_set (i := 4) nd rfl (Or.inl rfl) (pe_dget hu (pv 0) pe_str (fun _ _ => rfl)))
 (pss_one (ps_ret (pe_mkSS T.mk_SupervisorPlan G_mk_SupervisorPlan (hr.mono (by decide)) (by rfl) T.g_SupervisorPlan pass0 (pa_cons (pv 4) (pa_star (pv 1) pa_nil)) (pv 2)))))), ?_⟩
    refine st_made (m := m) (kvs := d.kvs) (kvs2 := d.made) (ns := ["restart", "strategy", "most", "span", "deadline"]) T.q_SUPERVISOR_SETTINGS (show ¬ (HT.sIx 6 0 (some 1) = 0 ∧ HT.sIx 6 6 none = 6) by decide) rfl (fun _ => rfl) (fun _ => rfl) hm rfl (Nat.le_of_ble_eq_true rfl) (fun i n hn => ?_) fun dm H1 s1 hdm => ?_
    · match i, hn with
      | 0, hn => cases hn; exact ⟨_, rfl, rfl⟩
      | 1, hn => cases hn; exact ⟨_, rfl, rfl⟩
      | 2, hn => cases hn; exact ⟨_, rfl, rfl⟩
      | 3, hn => cases hn; exact ⟨_, rfl, rfl⟩
      | 4, hn => cases hn; exact ⟨_, rfl, rfl⟩
      | n + 5, hn => cases hn
    · dsimp only
      show tAsg _ (gName 4) _ _ _
      refine st_asg (ev_dget (ev_var rfl) ev_c (s1 _ _ hm) (k := Sum.inr "name") (v := .str d.name) rfl) ?_
      refine ⟨_, rfl, _, rfl, l, ys, rfl, .inr (.of (s1 _ _ hl)), fun dd hd => ⟨_, rfl, dm, d.made, rfl, ?_, upd_same, ?_, rfl, fun x dx hx hdx ne => ?_⟩⟩
      · exact (same_new hd) _ _ hdm
      · exact fun z => by rw [z, hd] at hdm; cases hdm
      · refine ⟨[.ref x, .str d.name], ys ++ [], rfl, rfl, ?_, fun p hp => ?_⟩
        · rw [List.append_nil]
          exact Nat.le_trans (show ys.length ≤ 4 by omega) (by decide)
        · rw [List.append_nil]
          have spre := s1.trans (same_pre (C := CS K) (kvs := d.made) hd hx hdx ne)
          have e1 : upd (upd (upd (upd H1 dd (.dK [])) dd (.dK d.made)) dx (.own x)) x (.ins (CS K) dx []) x = some (.ins (CS K) dx []) := upd_same
          have si := fun {o : HO} {H' : Hp} (e : InitEnd x (upd (upd (upd (upd H1 dd (.dK [])) dd (.dK d.made)) dx (.own x)) x (.ins (CS K) dx [])) o H') => same_init (Same.refl _) hd hx hdx ne e
          generalize upd (upd (upd (upd H1 dd (.dK [])) dd (.dK d.made)) dx (.own x)) x (.ins (CS K) dx []) = H2 at *
          have xp : x ≠ p := fun z => by rw [← z, e1] at hp; cases hp
          have fa2 := fa_kp mk_pats (Kp.same (spre.trans (same_new (o := .tup ys) hp))) fa
          refine ⟨x, dx, p, d, ts, ys, rfl, hok, hts, hn15, hsz, (same_new hp) _ _ e1, upd_same, fa2, fun q kk H' hk he hq => ⟨rfl, ?_⟩⟩
          have sH := s1.trans (si ⟨fun b u hb ne => he.1 b u ((same_new hp) _ _ hb) ne, he.2⟩)
          exact k (.ref x) H' sH ⟨x, dx, q, p, kk, ys, rfl, he.2, hq, he.1 p _ upd_same (Ne.symm xp), hk, mn_fa mk_pats _ _ _ sH fa⟩
theorem ok_WP_opening (T : Env K mg) : FnOk P w K mg base CX0 1 (d_WorkerPlan_opening.loc K) T.fd_WorkerPlan_opening ["self"] (spPr (CW K) 2) := by
  refine T.F_WorkerPlan_opening.ok sc_WorkerPlan_opening (fun vs H Q E h => ?_) (fun cdv A outer s H vs Q E hr h => ?_)
  · obtain ⟨a, dx, q, fs, xs, x, rfl, _⟩ := h
    rfl
  · have nd := sc_WorkerPlan_opening.nd
    have hu := hu_of hr
    obtain ⟨a, dx, q, fs, xs, x, rfl, ha, hf, hq, hx, k⟩ := h
    refine ⟨_, PSs.nox (pss_one (ps_ret (pe_ix (ixtK (K := K)) (pe_fld (pv 0) rfl) pe_int (fun _ _ => rfl)))), ?_⟩
    exact ⟨_, rfl, a, _, dx, fs, _, rfl, ha, T.dc_WorkerPlan.cls, T.n_WorkerPlan_own_settings, hf, q, xs, 2, x, rfl, rfl, .of hq, hx, k⟩
theorem ok_WP_closing (T : Env K mg) : FnOk P w K mg base CX0 1 (d_WorkerPlan_closing.loc K) T.fd_WorkerPlan_closing ["self"] (spPr (CW K) 3) := by
  refine T.F_WorkerPlan_closing.ok sc_WorkerPlan_closing (fun vs H Q E h => ?_) (fun cdv A outer s H vs Q E hr h => ?_)
  · obtain ⟨a, dx, q, fs, xs, x, rfl, _⟩ := h
    rfl
  · have nd := sc_WorkerPlan_closing.nd
    have hu := hu_of hr
    obtain ⟨a, dx, q, fs, xs, x, rfl, ha, hf, hq, hx, k⟩ := h
    refine ⟨_, PSs.nox (pss_one (ps_ret (pe_ix (ixtK (K := K)) (pe_fld (pv 0) rfl) pe_int (fun _ _ => rfl)))), ?_⟩
    exact ⟨_, rfl, a, _, dx, fs, _, rfl, ha, T.dc_WorkerPlan.cls, T.n_WorkerPlan_own_settings, hf, q, xs, 3, x, rfl, rfl, .of hq, hx, k⟩
theorem ok_WP_deadline (T : Env K mg) : FnOk P w K mg base CX0 1 (d_WorkerPlan_deadline.loc K) T.fd_WorkerPlan_deadline ["self"] (spPr (CW K) 4) := by
  refine T.F_WorkerPlan_deadline.ok sc_WorkerPlan_deadline (fun vs H Q E h => ?_) (fun cdv A outer s H vs Q E hr h => ?_)
  · obtain ⟨a, dx, q, fs, xs, x, rfl, _⟩ := h
    rfl
  · have nd := sc_WorkerPlan_deadline.nd
    have hu := hu_of hr
    obtain ⟨a, dx, q, fs, xs, x, rfl, ha, hf, hq, hx, k⟩ := h
    refine ⟨_, PSs.nox (pss_one (ps_ret (pe_ix (ixtK (K := K)) (pe_fld (pv 0) rfl) pe_int (fun _ _ => rfl)))), ?_⟩
    exact ⟨_, rfl, a, _, dx, fs, _, rfl, ha, T.dc_WorkerPlan.cls, T.n_WorkerPlan_own_settings, hf, q, xs, 4, x, rfl, rfl, .of hq, hx, k⟩
theorem ok_SP_deadline (T : Env K mg) : FnOk P w K mg base CX0 1 (d_SupervisorPlan_deadline.loc K) T.fd_SupervisorPlan_deadline ["self"] (spPr (CS K) 5) := by
  refine T.F_SupervisorPlan_deadline.ok sc_SupervisorPlan_deadline (fun vs H Q E h => ?_) (fun cdv A outer s H vs Q E hr h => ?_)
  · obtain ⟨a, dx, q, fs, xs, x, rfl, _⟩ := h
    rfl
  · have nd := sc_SupervisorPlan_deadline.nd
    have hu := hu_of hr
    obtain ⟨a, dx, q, fs, xs, x, rfl, ha, hf, hq, hx, k⟩ := h
    refine ⟨_, PSs.nox (pss_one (ps_ret (pe_ix (ixtK (K := K)) (pe_fld (pv 0) rfl) pe_int (fun _ _ => rfl)))), ?_⟩
    exact ⟨_, rfl, a, _, dx, fs, _, rfl, ha, T.dc_SupervisorPlan.cls, T.n_SupervisorPlan_own_settings, hf, q, xs, 5, x, rfl, rfl, .of hq, hx, k⟩
theorem ok_SP_children (T : Env K mg) : FnOk P w K mg base CX0 1 (d_SupervisorPlan_children.loc K) T.fd_SupervisorPlan_children ["self"] (spCh K) := by
  refine T.F_SupervisorPlan_children.ok sc_SupervisorPlan_children (fun vs H Q E h => ?_) (fun cdv A outer s H vs Q E hr h => ?_)
  · obtain ⟨a, dx, fs, x, rfl, _⟩ := h
    rfl
  · have nd := sc_SupervisorPlan_children.nd
    have hu := hu_of hr
    obtain ⟨a, dx, fs, x, rfl, ha, hf, k⟩ := h
    refine ⟨_, PSs.nox (pss_one (ps_ret (pe_fld (pv 0) rfl))), ?_⟩
    exact ⟨_, rfl, a, _, dx, fs, _, rfl, ha, T.dc_SupervisorPlan.cls, T.n_SupervisorPlan_own_children, hf, k⟩
theorem ok_SP_below (T : Env K mg) : FnOk P w K mg base CX0 1 (d_SupervisorPlan_below.loc K) T.fd_SupervisorPlan_below ["self"] (spCh K) := by
  refine T.F_SupervisorPlan_below.ok sc_SupervisorPlan_below (fun vs H Q E h => ?_) (fun cdv A outer s H vs Q E hr h => ?_)
  · obtain ⟨a, dx, fs, x, rfl, _⟩ := h
    rfl
  · have nd := sc_SupervisorPlan_below.nd
    have hu := hu_of hr
    obtain ⟨a, dx, fs, x, rfl, ha, hf, k⟩ := h
    refine ⟨_, PSs.nox (pss_one (ps_ret (pe_fld (pv 0) rfl))), ?_⟩
    exact ⟨_, rfl, a, _, dx, fs, _, rfl, ha, T.dc_SupervisorPlan.cls, T.n_SupervisorPlan_own_children, hf, k⟩
theorem ok_P_below (T : Env K mg) : FnOk P w K mg base CX0 1 (d_Plan_below.loc K) T.fd_Plan_below ["self"] spBelowW := by
  refine T.F_Plan_below.ok sc_Plan_below (fun vs H Q E h => ?_) (fun cdv A outer s H vs Q E hr h => ?_)
  · obtain ⟨v, rfl, _⟩ := h
    rfl
  · have nd := sc_Plan_below.nd
    have hu := hu_of hr
    obtain ⟨v, rfl, k⟩ := h
    refine ⟨_, PSs.nox (pss_one (ps_ret (pe_tup pa_nil))), ?_⟩
    exact ⟨Nat.zero_le _, fun p hp => k p _ (same_new hp) upd_same⟩
theorem ok_P_settings (T : Env K mg) : FnOk P w K mg base CX0 2 (d_Plan_settings.loc K) T.fd_Plan_settings ["self"] (spSet K) := by
  have G_Plan_below : FnOk P w K mg base CX0 1 _ _ _ _ := ok_P_below T
  have G_SupervisorPlan_below : FnOk P w K mg base CX0 1 _ _ _ _ := ok_SP_below T
  refine T.F_Plan_settings.ok sc_Plan_settings (fun vs H Q E h => ?_) (fun cdv A outer s H vs Q E hr h => ?_)
  · obtain ⟨a, dx, q, fs, rfl, _⟩ := h
    rfl
  · have nd := sc_Plan_settings.nd
    have hu := hu_of hr
    obtain ⟨a, dx, q, fs, rfl, hf, hb, h⟩ := h
    refine ⟨_, PSs.nox (pss_one (ps_ret (pe_tup (pa_cons (pe_fld (pv 0) rfl) (pa_cons (pe_or (pe_meth0 (pv 0) T.dc_WorkerPlan.cls T.m_WorkerPlan_below G_Plan_below (hr.mono (by decide)) T.bi_Plan_below .nil pass0) (pe_meth0 (pv 0) T.dc_SupervisorPlan.cls T.m_SupervisorPlan_below G_SupervisorPlan_below (hr.mono (by decide)) T.bi_SupervisorPlan_below .nil pass0)) pa_nil))))), ?_⟩
    rcases h with ⟨ha, k⟩ | ⟨c, ha, hc, k⟩
    · refine ⟨_, rfl, a, CW K, dx, fs, _, rfl, ha, T.dc_WorkerPlan.cls, T.n_WorkerPlan_own_settings, hf, .inl ⟨_, rfl, a, dx, fs, rfl, ha, hb, .ref a, rfl, fun p H1 s1 hp => ?_⟩⟩
      exact ⟨(by decide : 2 ≤ sizeLine), fun r hr => k r p _ (s1.trans (same_new hr)) upd_same ((same_new hr) _ _ hp)⟩
    · refine ⟨_, rfl, a, CS K, dx, fs, _, rfl, ha, T.dc_SupervisorPlan.cls, T.n_SupervisorPlan_own_settings, hf, .inr ⟨_, rfl, a, dx, fs, rfl, ha, hb, a, dx, fs, c, rfl, ha, hc, ?_⟩⟩
      exact ⟨(by decide : 2 ≤ sizeLine), fun r hr => k r _ (same_new hr) upd_same⟩
/-! ### equal plans -/
def RW (K : PySem.W.Frag) (a b : Addr) (H : Hp) : Prop := ∃ d : WD, PW K d (.ref a) H ∧ PW K d (.ref b) H
def RS (K : PySem.W.Frag) (n : Nat) (a b : Addr) (H : Hp) : Prop := ∃ x : SD × List (Told n), PAt K (n + 1) (Sum.inr x) (.ref a) H ∧ PAt K (n + 1) (Sum.inr x) (.ref b) H
def D1 (K : PySem.W.Frag) : Eqv := fun x y H => DFlat x y H ∨ DTup K DFlat x y H
def DW (K : PySem.W.Frag) : Eqv := DTup K (DTup K (D1 K))
def ChD (K : PySem.W.Frag) : Nat → Eqv
  | 0 => fun _ _ _ => False
  | n + 1 => fun x y H => DIns (CW K) (RW K) x y H ∨ DIns (CS K) (RS K n) x y H
def D2 (K : PySem.W.Frag) (n : Nat) : Eqv := fun x y H => DTup K DFlat x y H ∨ DTup K (ChD K n) x y H
def DS (K : PySem.W.Frag) (n : Nat) : Eqv := DTup K (D2 K n)
theorem mon_rw {K : PySem.W.Frag} : ∀ a b H H', Ext H H' → RW K a b H → RW K a b H' := fun a b H H' e ⟨d, h1, h2⟩ => ⟨d, mk_pw.mn _ _ _ e h1, mk_pw.mn _ _ _ e h2⟩
theorem mon_rs {K : PySem.W.Frag} {n : Nat} : ∀ a b H H', Ext H H' → RS K n a b H → RS K n a b H' := fun a b H H' e ⟨x, h1, h2⟩ => ⟨x, (mk_pat (n + 1) (Sum.inr x)).mn _ _ _ e h1, (mk_pat (n + 1) (Sum.inr x)).mn _ _ _ e h2⟩
theorem mon_d1 {K : PySem.W.Frag} : Mon (D1 K) := mon_flat.or (mon_tup mon_flat)
theorem mon_ch {K : PySem.W.Frag} : ∀ n, Mon (ChD K n)
  | 0 => fun _ _ _ _ _ h => h.elim
  | n + 1 => (mon_ins mon_rw).or (mon_ins mon_rs)
theorem mon_d2 {K : PySem.W.Frag} {n : Nat} : Mon (D2 K n) := (mon_tup mon_flat).or (mon_tup (mon_ch n))
theorem flat_refl {H : Hp} : ∀ x, flatV x = true → DFlat x x H
  | .non, _ => ⟨rfl, rfl, rfl⟩
  | .bl b, _ => ⟨rfl, rfl, by simp [eqV]⟩
  | .int i, _ => ⟨rfl, rfl, by simp [eqV]⟩
  | .str z, _ => ⟨rfl, rfl, by simp [eqV]⟩
  | .ref _, h => by cases h
  | .flt _, h => by cases h
  | .byt _, h => by cases h
  | .ty _, h => by cases h
theorem flat_lim (l : Option Int) : flatV (limV l) = true := by cases l <;> rfl
theorem own_eq {K : PySem.W.Frag} {H : Hp} {d : WD} {s s' : Addr} (h : H s = some (.tup [])) (h' : H s' = some (.tup [])) : Prs (D1 K) (d.own s) (d.own s') H :=
  .cons (.inl (flat_refl _ rfl)) (.cons (.inl (flat_refl _ rfl)) (.cons (.inl (flat_refl _ rfl)) (.cons (.inl (flat_refl _ rfl)) (.cons (.inl (flat_refl _ (flat_lim _))) (.cons (.inl (flat_refl _ rfl)) (.cons (.inr ⟨s, s', [], [], rfl, rfl, .of h, .of h', .nil⟩) .nil))))))
theorem owns_eq {H : Hp} {d : SD} : Prs DFlat d.own d.own H :=
  .cons (flat_refl _ rfl) (.cons (flat_refl _ rfl) (.cons (flat_refl _ rfl) (.cons (flat_refl _ rfl) (.cons (flat_refl _ rfl) (.cons (flat_refl _ (flat_lim _)) .nil)))))
theorem pat_ch {K : PySem.W.Frag} {H : Hp} : ∀ (n : Nat) (t : Told n) {x y : V}, PAt K n t x H → PAt K n t y H → ChD K n x y H
  | 0, _, _, _, h, _ => h.elim
  | n + 1, .inl d, x, y, h, h' => by
    have g := h
    have g' := h'
    obtain ⟨a, dx, q, s, rfl, h1, _⟩ := h
    obtain ⟨a', dx', q', s', rfl, h1', _⟩ := h'
    exact .inl ⟨a, a', dx, dx', _, _, rfl, rfl, h1, h1', d, g, g'⟩
  | n + 1, .inr z, x, y, h, h' => by
    have g := h
    have g' := h'
    obtain ⟨a, dx, q, c, k, ys, rfl, h1, _⟩ := h
    obtain ⟨a', dx', q', c', k', ys', rfl, h1', _⟩ := h'
    exact .inr ⟨a, a', dx, dx', _, _, rfl, rfl, h1, h1', z, g, g'⟩
theorem chs_eq {K : PySem.W.Frag} {H : Hp} {n : Nat} {ts : List (Told n)} {ys zs : List V} (h : Fa (ts.map (PAt K n)) ys H) (h' : Fa (ts.map (PAt K n)) zs H) : Prs (ChD K n) ys zs H := by
  refine ⟨(pat_len h).trans (pat_len h').symm, fun i x y hx hy => ?_⟩
  obtain ⟨t, ht, px⟩ := pat_get h hx
  obtain ⟨t', ht', py⟩ := pat_get h' hy
  rw [ht] at ht'
  cases ht'
  exact pat_ch n t px py
theorem rc_w {X : Cx} {K : PySem.W.Frag} (h : X.K = K) : RcG X 3 (DW K) := by
  subst h
  exact rcG_tup (mon_tup mon_d1) (eqG_tup mon_d1 ((eqG_flat.mono (by decide)).or (eqG_tup mon_flat eqG_flat)))
theorem ok_W_eq (T : Env K mg) : FnOk P w K mg base CX0 5 (d_WorkerPlan__eq.loc K) T.fd_WorkerPlan__eq ["self", "other"] (spEq (RW K)) := by
  have G_Plan_settings : FnOk P w K mg base CX0 2 _ _ _ _ := ok_P_settings T
  have RC : ∀ X : Cx, X.prog = P → X.w = w → X.K = K → X.mg = mg → X.base = base → RcG X 3 (DW K) := fun X _ _ h _ _ => rc_w h
  have RM : 3 ≤ 4 := by decide
  refine T.F_WorkerPlan__eq.ok sc_WorkerPlan__eq (fun vs H Q E h => ?_) (fun cdv A outer s H vs Q E hr h => ?_)
  · obtain ⟨a, b, rfl, _⟩ := h
    rfl
  · have nd := sc_WorkerPlan__eq.nd
    have hu := hu_of hr
    obtain ⟨a, b, rfl, hR, k⟩ := h
    obtain ⟨d, ⟨a', dx, q, s, e, h1, h2, h3⟩, ⟨b', dy, q', s', e', h1', h2', h3'⟩⟩ := hR
    cases e
    cases e'
    refine ⟨_, PSs.nox (pss_one (ps_ret (pe_and (pe_callB (isiK (K := K)) (by rfl) T.b_isinstance (by decide +kernel) (pa_cons (pv 1) (pa_cons (pe_globR (by rfl) T.g_WorkerPlan) pa_nil))) (pe_one (pe_cmpR (op_eqG (RC _ rfl rfl rfl rfl rfl) (hr.mono RM)) (pe_or (pe_meth0 (pv 0) T.dc_WorkerPlan.cls T.m_WorkerPlan_settings G_Plan_settings (hr.mono (by decide)) T.bi_Plan_settings .nil pass0) (pe_meth0 (pv 0) T.dc_SupervisorPlan.cls T.m_SupervisorPlan_settings G_Plan_settings (hr.mono (by decide)) T.bi_Plan_settings .nil pass0)) (pe_or (pe_meth0 (pv 1) T.dc_WorkerPlan.cls T.m_WorkerPlan_settings G_Plan_settings (hr.mono (by decide)) T.bi_Plan_settings .nil pass0) (pe_meth0 (pv 1) T.dc_SupervisorPlan.cls T.m_SupervisorPlan_settings G_Plan_settings (hr.mono (by decide)) T.bi_Plan_settings .nil pass0)) (nomark _)))))), ?_⟩
    refine ev_isiC (ev_var rfl) (tyx_w T h1') T.k_WorkerPlan_WorkerPlan _ ⟨true, rfl, ?_⟩
    refine .inl ⟨_, rfl, a, dx, _, rfl, h1, rfl, a, dx, q, _, rfl, rfl, rfl, .inl ⟨h1, fun p b1 H1 s1 hp hb1 => ?_⟩⟩
    refine .inl ⟨_, rfl, b, dy, _, rfl, s1 _ _ h1', rfl, b, dy, q', _, rfl, rfl, rfl, .inl ⟨s1 _ _ h1', fun p' b2 H2 s2 hp' hb2 => ?_⟩⟩
    refine ⟨⟨p, p', _, _, rfl, rfl, .of (s2 _ _ hp), .of hp', .cons ⟨q, q', _, _, rfl, rfl, .of (s2 _ _ (s1 _ _ h2)), .of (s2 _ _ (s1 _ _ h2')), own_eq (s2 _ _ (s1 _ _ h3)) (s2 _ _ (s1 _ _ h3'))⟩ (.cons ⟨b1, b2, [], [], rfl, rfl, .of (s2 _ _ hb1), .of hb2, .nil⟩ .nil)⟩, fun H' e => ?_⟩
    exact k H' ((s1.trans s2).trans e)
theorem ok_S_eq (T : Env K mg) : ∀ n, FnOk P w K mg base CX0 (3 * n + 8) (d_SupervisorPlan__eq.loc K) T.fd_SupervisorPlan__eq ["self", "other"] (spEq (RS K n)) := by
  have body : ∀ n, (∀ X : Cx, X.prog = P → X.w = w → X.K = K → X.mg = mg → X.base = base → EqG X (3 * n + 5) (ChD K n)) → FnOk P w K mg base CX0 (3 * n + 8) (d_SupervisorPlan__eq.loc K) T.fd_SupervisorPlan__eq ["self", "other"] (spEq (RS K n)) := by
    intro n EG
    have G_Plan_settings : FnOk P w K mg base CX0 2 _ _ _ _ := ok_P_settings T
    have RC : ∀ X : Cx, X.prog = P → X.w = w → X.K = K → X.mg = mg → X.base = base → RcG X (3 * n + 7) (DS K n) := fun X e1 e2 e3 e4 e5 => by
      have g := EG X e1 e2 e3 e4 e5
      subst e3
      exact rcG_tup mon_d2 (((eqG_tup mon_flat eqG_flat).mono (by omega)).or (eqG_tup (mon_ch n) g))
    have RM : 3 * n + 7 ≤ 3 * n + 7 := Nat.le_refl _
    refine T.F_SupervisorPlan__eq.ok sc_SupervisorPlan__eq (fun vs H Q E h => ?_) (fun cdv A outer s H vs Q E hr h => ?_)
    · obtain ⟨a, b, rfl, _⟩ := h
      rfl
    · have nd := sc_SupervisorPlan__eq.nd
      have hu := hu_of hr
      obtain ⟨a, b, rfl, hR, k⟩ := h
      obtain ⟨x, ⟨a', dx, q, c, kk, ys, e, h1, h2, h3, h4, h5⟩, ⟨b', dy, q', c', kk', zs, e', h1', h2', h3', h4', h5'⟩⟩ := hR
      cases e
      cases e'
      refine ⟨_, PSs.nox (pss_one (ps_ret (pe_and (pe_callB (isiK (K := K)) (by rfl) T.b_isinstance (by decide +kernel) (pa_cons (pv 1) (pa_cons (pe_globR (by rfl) T.g_SupervisorPlan) pa_nil))) (pe_one (pe_cmpR (op_eqG (RC _ rfl rfl rfl rfl rfl) (hr.mono RM)) (pe_or (pe_meth0 (pv 0) T.dc_WorkerPlan.cls T.m_WorkerPlan_settings G_Plan_settings (hr.mono (by omega)) T.bi_Plan_settings .nil pass0) (pe_meth0 (pv 0) T.dc_SupervisorPlan.cls T.m_SupervisorPlan_settings G_Plan_settings (hr.mono (by omega)) T.bi_Plan_settings .nil pass0)) (pe_or (pe_meth0 (pv 1) T.dc_WorkerPlan.cls T.m_WorkerPlan_settings G_Plan_settings (hr.mono (by omega)) T.bi_Plan_settings .nil pass0) (pe_meth0 (pv 1) T.dc_SupervisorPlan.cls T.m_SupervisorPlan_settings G_Plan_settings (hr.mono (by omega)) T.bi_Plan_settings .nil pass0)) (nomark _)))))), ?_⟩
      refine ev_isiC (ev_var rfl) (tyx_s T h1') T.k_SupervisorPlan_SupervisorPlan _ ⟨true, rfl, ?_⟩
      refine .inr ⟨_, rfl, a, dx, _, rfl, h1, rfl, a, dx, q, _, rfl, rfl, rfl, .inr ⟨_, h1, rfl, fun p H1 s1 hp => ?_⟩⟩
      refine .inr ⟨_, rfl, b, dy, _, rfl, s1 _ _ h1', rfl, b, dy, q', _, rfl, rfl, rfl, .inr ⟨_, s1 _ _ h1', rfl, fun p' H2 s2 hp' => ?_⟩⟩
      have s12 := s1.trans s2
      refine ⟨⟨p, p', _, _, rfl, rfl, .of (s2 _ _ hp), .of hp', .cons (.inl ⟨q, q', _, _, rfl, rfl, .of (s12 _ _ h2), .of (s12 _ _ h2'), owns_eq⟩) (.cons (.inr ⟨c, c', ys, zs, rfl, rfl, .of (s12 _ _ h3), .of (s12 _ _ h3'), chs_eq (mn_fa mk_pats _ _ _ s12 h5) (mn_fa mk_pats _ _ _ s12 h5')⟩) .nil)⟩, fun H' e => ?_⟩
      exact k H' (s12.trans e)
  intro n
  induction n with
  | zero => exact body 0 fun X _ _ _ _ _ A pins s σ H x y u v _ _ _ _ h => h.elim
  | succ n ih =>
    refine body (n + 1) fun X e1 e2 e3 e4 e5 => ?_
    have FW := ok_W_eq (P := P) (w := w) (base := base) T
    have FS := ih
    subst e1 e2 e3 e4 e5
    exact ((eqG_ins FW T.dc_WorkerPlan.eq T.dc_WorkerPlan.fn T.bi_WorkerPlan__eq (pass0 : Passes CX0 X E0)).mono (by omega)).or ((eqG_ins FS T.dc_SupervisorPlan.eq T.dc_SupervisorPlan.fn T.bi_SupervisorPlan__eq (pass0 : Passes CX0 X E0)).mono (by omega))
end
end W48

set_option Elab.async false
set_option linter.all false
set_option maxRecDepth 100000
set_option maxHeartbeats 4000000
namespace W48
open PySem PySem.Spec PyProof.Rows L2 WXG WEv WRd WLf WEn WZs WRu WSt StX WDc
section
variable {K : PySem.W.Frag} {σ : L2.St} {H : Hp} {te ta tb : TE} {tr : TA} {D : Ends} {P P' : HP V} {tt tu : TT} {a b : Bool} {v : V}
theorem st_retIf1 (h : EvB tt σ H true) (q : tRet ta D σ H) : tRet (tIf tt ta tb) D σ H := h _ q
theorem st_retIf0 (h : EvB tt σ H false) (q : tRet tb D σ H) : tRet (tIf tt ta tb) D σ H := h _ q
theorem st_asgIf1 {i : Nat} (h : EvB tt σ H true) (q : tAsg ta (gName i) D σ H) : tAsg (tIf tt ta tb) (gName i) D σ H := h _ q
theorem st_asgIf0 {i : Nat} (h : EvB tt σ H false) (q : tAsg tb (gName i) D σ H) : tAsg (tIf tt ta tb) (gName i) D σ H := h _ q
/-- [v for v in xs if ..], none -/
theorem g_lcNone {wi : TI} {J : It} {Gw : Hp → Prop} {v : Nat} {ys : List V} (hw : ∀ H1, Same H H1 → ∀ R : It → Hp → Prop, R J H1 → wi σ H1 R) (wk : Walk J ys.length Gw (YAt ys)) (hg : ∀ H1, Same H H1 → Gw H1)
    (h : ∀ (i : Nat) (x : V) (H1 : Hp), ys[i]? = some x → EvB tt ((σ.set v none).set v (some x)) H1 false) :
    G (tLc wi (gName v) tt te [v]) σ H (LF []) := by
  refine ⟨fun H1 e Q q => ?_, mn_lf mn_nil⟩
  refine hw H1 e _ ?_
  intro Dd hD
  show ∃ W, _
  refine lc_it wk (fun i H' => Same H1 H' ∧ H' Dd = some (.lst [])) ⟨same_new hD, upd_same⟩ (fun _ H' _ p => hg H' (e.trans p.1)) (fun i x H2 H3 hi p y => ?_) (fun H2 p => q _ _ p.1 ⟨Dd, [], rfl, p.2, trivial⟩)
  obtain ⟨rfl, hx⟩ := y
  exact ⟨(List.set_set ..).trans (List.set_set ..), h i x _ hx _ p⟩
theorem et_neN (h : G te σ H (LF [])) : EvT (tTest (tOp (rNeN K) te (tLst tNil))) σ H false := fun H1 e Q q => h.ev H1 e _ fun x H2 s2 px => by
  obtain ⟨l, xs, rfl, hl, fa⟩ := px
  obtain rfl : xs = [] := List.length_eq_zero_iff.mp fa.len
  exact ⟨Nat.zero_le _, fun b hb => ⟨l, b, [], rfl, rfl, .of ((same_new hb) _ _ hl), .of upd_same, false, rfl, q _ (s2.trans (same_new hb))⟩⟩
end
def spIsS (K : PySem.W.Frag) : Sp := fun vs H Q _ => ∃ (a dx : Addr) (fs : List (Str × V)), vs = [.ref a] ∧ ((H a = some (.ins (CW K) dx fs) ∧ Q (.bl false) H) ∨ (H a = some (.ins (CS K) dx fs) ∧ Q (.bl true) H))
def spCut : Sp := fun vs H Q _ => ∃ (t : Int) (l : Option Int), vs = [.int t, limV l] ∧ Q (.int (cutI t l)) H
def spOT (K : PySem.W.Frag) (n : Nat) : Sp := fun vs H Q _ => ∃ (v : V) (t : Told n), vs = [v] ∧ Told.Ok n t ∧ PAt K n t v H ∧ ∀ H', Same H H' → Q (.int (Told.opening n t)) H'
def spST (K : PySem.W.Frag) (n : Nat) : Sp := fun vs H Q _ => ∃ (v : V) (t : Told n), vs = [v] ∧ Told.Ok n t ∧ PAt K n t v H ∧ ∀ H', Same H H' → Q (.int (Told.stopping n t)) H'
section
variable {P : Program} {w : World} {K : PySem.W.Frag} {mg : Str → Option Value} {base : Heap}
theorem ok_is_supervisor (T : Env K mg) : FnOk P w K mg base CX0 1 (d_is_supervisor.loc K) T.fd_is_supervisor ["plan"] (spIsS K) := by
  refine T.F_is_supervisor.ok sc_is_supervisor (fun vs H Q E h => ?_) (fun cdv A outer s H vs Q E hr h => ?_)
  · obtain ⟨a, dx, fs, rfl, _⟩ := h
    rfl
  · have nd := sc_is_supervisor.nd
    have hu := hu_of hr
    obtain ⟨a, dx, fs, rfl, h⟩ := h
    refine ⟨_, PSs.nox (pss_one (ps_ret (pe_callB (isiK (K := K)) (by rfl) T.b_isinstance (by decide +kernel) (pa_cons (pv 0) (pa_cons (pe_globR (by rfl) T.g_SupervisorPlan) pa_nil))))), ?_⟩
    rcases h with ⟨h, k⟩ | ⟨h, k⟩
    · exact st_ret (ev_isiC (ev_var rfl) (tyx_w T h) T.k_WorkerPlan_SupervisorPlan) k
    · exact st_ret (ev_isiC (ev_var rfl) (tyx_s T h) T.k_SupervisorPlan_SupervisorPlan) k
theorem ok_cut (T : Env K mg) : FnOk P w K mg base CX0 1 (d_cut.loc K) T.fd_cut ["ticks", "deadline"] spCut := by
  refine T.F_cut.ok sc_cut (fun vs H Q E h => ?_) (fun cdv A outer s H vs Q E hr h => ?_)
  · obtain ⟨t, l, rfl, _⟩ := h
    rfl
  · have nd := sc_cut.nd
    have hu := hu_of hr
    obtain ⟨t, l, rfl, k⟩ := h
    refine ⟨_, PSs.nox (pss_one (ps_ret (pe_ifExp (pt_cmpR op_isN (pv 1) pe_non (nomark _)) (pv 0) (pe_callB (call_min2 rfl) (by rfl) T.b_min (by decide +kernel) (pa_cons (pv 0) (pa_cons (pv 1) pa_nil)))))), ?_⟩
    cases l with
    | none => exact st_retIf1 (fun Q q => ⟨_, rfl, rfl, true, rfl, q⟩) (st_ret (ev_var rfl) k)
    | some l =>
      refine st_retIf0 (fun Q q => ⟨_, rfl, rfl, false, rfl, q⟩) ⟨_, rfl, _, rfl, t, l, rfl, ?_⟩
      have e : (if l < t then l else t) = cutI t (some l) := by
        show _ = if t ≤ l then t else l
        split <;> split <;> omega
      rw [e]
      exact k
theorem ok_opening_time (T : Env K mg) : ∀ n, FnOk P w K mg base CX0 (n + 3) (d_opening_time.loc K) T.fd_opening_time ["plan"] (spOT K n)
  | 0 => T.F_opening_time.ok sc_opening_time (fun vs H Q E (h : spOT K 0 vs H Q E) => by obtain ⟨v, t, _⟩ := h; cases t) (fun cdv A outer s H vs Q E hr (h : spOT K 0 vs H Q E) => by obtain ⟨v, t, _⟩ := h; cases t)
  | n + 1 => by
    have G_opening_time : FnOk P w K mg base CX0 (n + 3) _ _ _ _ := ok_opening_time T n
    have G_is_supervisor : FnOk P w K mg base CX0 1 _ _ _ _ := ok_is_supervisor T
    have G_SupervisorPlan_children : FnOk P w K mg base CX0 1 _ _ _ _ := ok_SP_children T
    have G_WorkerPlan_opening : FnOk P w K mg base CX0 1 _ _ _ _ := ok_WP_opening T
    refine T.F_opening_time.ok sc_opening_time (fun vs H Q E h => ?_) (fun cdv A outer s H vs Q E hr h => ?_)
    · obtain ⟨v, t, rfl, _⟩ := h
      rfl
    · have nd := sc_opening_time.nd
      have hu := hu_of hr
      obtain ⟨v, t, rfl, hok, ht, k⟩ := h
      refine ⟨_, PSs.nox (pss_one (ps_ret (pe_ifExp (pt_val (pe_call G_is_supervisor (hr.mono (by omega)) (by rfl) T.g_is_supervisor T.F_is_supervisor.kp T.bi_is_supervisor .nil pass0 (pa_cons (pv 0) pa_nil))) (pe_callB (cr_sum rfl) (by rfl) T.b_sum (by decide +kernel) (pa_cons (pe_lc (own := [("child", 1)]) (by rfl) nd (pi_tup (pe_prop (pv 0) T.dc_SupervisorPlan.cls T.p_SupervisorPlan_children G_SupervisorPlan_children (hr.mono (by omega)) T.bi_SupervisorPlan_children .nil pass0 rfl)) (blkOk_by (N := ["plan", "child"]) (sc := defScope s_opening_time) (by decide +kernel)) (fun _ _ _ _ _ => (pg_name (i := 1) nd rfl (Or.inl rfl))) (fun _ _ _ _ _ => pts_nil) (fun _ _ _ _ _ => (pe_call G_opening_time (hr.mono (by omega)) (by rfl) T.g_opening_time T.F_opening_time.kp T.bi_opening_time .nil pass0 (pa_cons (pv 1) pa_nil)))) pa_nil)) (pe_prop (pv 0) T.dc_WorkerPlan.cls T.p_WorkerPlan_opening G_WorkerPlan_opening (hr.mono (by omega)) T.bi_WorkerPlan_opening .nil pass0 rfl)))), ?_⟩
      cases t with
      | inl d =>
        obtain ⟨a, dx, q, sc, rfl, h1, h2, h3⟩ := ht
        exact st_retIf0 (fun Q q => ⟨_, rfl, a, dx, _, rfl, .inl ⟨h1, false, rfl, q⟩⟩) ⟨_, rfl, a, dx, _, rfl, h1, a, dx, q, _, _, _, rfl, h1, rfl, h2, rfl, k _ (Same.refl _)⟩
      | inr x =>
        obtain ⟨d, ts⟩ := x
        obtain ⟨a, dx, q, c, kk, ys, rfl, h1, h2, h3, h4, fa⟩ := ht
        have yl := pat_len fa
        refine st_retIf1 (fun Q q => ⟨_, rfl, a, dx, _, rfl, .inr ⟨h1, true, rfl, q⟩⟩) ?_
        refine g_ret (g_sum (ns := ts.map (Told.opening n)) (g_lcF (J := Itt K c) (ys := ys) (fun H1 s R r => ⟨_, rfl, a, dx, _, rfl, s _ _ h1, a, dx, _, .ref c, rfl, s _ _ h1, rfl, c, rfl, ⟨ys, .of (s _ _ h3)⟩, r⟩) walk_tup (fun H1 s => .of (s _ _ h3)) (by simp [yl]) (by rw [yl]; exact Nat.le_trans hok.2.1 (by decide)) mk_iss fun i x P H1 hx hP s Q q => ?_)) fun v H1 s1 e => by cases e; exact k _ s1
        obtain ⟨t, ht, px⟩ := pat_get fa hx
        rw [ints_get hP ht] at q
        exact ⟨x, rfl, x, t, rfl, hok.2.2 t (List.mem_of_getElem? ht), (mk_pat n t).mn _ _ _ s px, fun H' s' => q _ _ s' rfl⟩
theorem ok_stopping_time (T : Env K mg) : ∀ n, FnOk P w K mg base CX0 (n + 3) (d_stopping_time.loc K) T.fd_stopping_time ["plan"] (spST K n)
  | 0 => T.F_stopping_time.ok sc_stopping_time (fun vs H Q E (h : spST K 0 vs H Q E) => by obtain ⟨v, t, _⟩ := h; cases t) (fun cdv A outer s H vs Q E hr (h : spST K 0 vs H Q E) => by obtain ⟨v, t, _⟩ := h; cases t)
  | n + 1 => by
    have G_stopping_time : FnOk P w K mg base CX0 (n + 3) _ _ _ _ := ok_stopping_time T n
    have G_is_supervisor : FnOk P w K mg base CX0 1 _ _ _ _ := ok_is_supervisor T
    have G_cut : FnOk P w K mg base CX0 1 _ _ _ _ := ok_cut T
    have G_SupervisorPlan_children : FnOk P w K mg base CX0 1 _ _ _ _ := ok_SP_children T
    have G_WorkerPlan_closing : FnOk P w K mg base CX0 1 _ _ _ _ := ok_WP_closing T
    have G_WorkerPlan_deadline : FnOk P w K mg base CX0 1 _ _ _ _ := ok_WP_deadline T
    have G_SupervisorPlan_deadline : FnOk P w K mg base CX0 1 _ _ _ _ := ok_SP_deadline T
    refine T.F_stopping_time.ok sc_stopping_time (fun vs H Q E h => ?_) (fun cdv A outer s H vs Q E hr h => ?_)
    · obtain ⟨v, t, rfl, _⟩ := h
      rfl
    · have nd := sc_stopping_time.nd
      have hu := hu_of hr
      obtain ⟨v, t, rfl, hok, ht, k⟩ := h
      refine ⟨_, PSs.nox (pss_cons (ps_set (i := 1) nd rfl (Or.inl rfl) (pe_ifExp (pt_val (pe_call G_is_supervisor (hr.mono (by omega)) (by rfl) T.g_is_supervisor T.F_is_supervisor.kp T.bi_is_supervisor .nil pass0 (pa_cons (pv 0) pa_nil))) (pe_callB (cr_sum rfl) (by rfl) T.b_sum (by decide +kernel) (pa_cons (pe_lc (own := [("child", 2)]) (by rfl) nd (pi_tup (pe_prop (pv 0) T.dc_SupervisorPlan.cls T.p_SupervisorPlan_children G_SupervisorPlan_children (hr.mono (by omega)) T.bi_SupervisorPlan_children .nil pass0 rfl)) (blkOk_by (N := ["plan", "ticks", "child"]) (sc := defScope s_stopping_time) (by decide +kernel)) (fun _ _ _ _ _ => (pg_name (i := 2) nd rfl (Or.inl rfl))) (fun _ _ _ _ _ => pts_nil) (fun _ _ _ _ _ => (pe_call G_stopping_time (hr.mono (by omega)) (by rfl) T.g_stopping_time T.F_stopping_time.kp T.bi_stopping_time .nil pass0 (pa_cons (pv 2) pa_nil)))) pa_nil)) (pe_prop (pv 0) T.dc_WorkerPlan.cls T.p_WorkerPlan_closing G_WorkerPlan_closing (hr.mono (by omega)) T.bi_WorkerPlan_closing .nil pass0 rfl)))
 (pss_one (ps_ret (pe_call G_cut (hr.mono (by omega)) (by rfl) T.g_cut T.F_cut.kp T.bi_cut .nil pass0 (pa_cons (pv 1) (pa_cons (pe_or (pe_prop (pv 0) T.dc_WorkerPlan.cls T.p_WorkerPlan_deadline G_WorkerPlan_deadline (hr.mono (by omega)) T.bi_WorkerPlan_deadline .nil pass0 rfl) (pe_prop (pv 0) T.dc_SupervisorPlan.cls T.p_SupervisorPlan_deadline G_SupervisorPlan_deadline (hr.mono (by omega)) T.bi_SupervisorPlan_deadline .nil pass0 rfl)) pa_nil)))))), ?_⟩
      cases t with
      | inl d =>
        obtain ⟨a, dx, q, sc, rfl, h1, h2, h3⟩ := ht
        refine st_asgIf0 (fun Q q => ⟨_, rfl, a, dx, _, rfl, .inl ⟨h1, false, rfl, q⟩⟩) ⟨_, rfl, a, dx, _, rfl, h1, a, dx, q, _, _, _, rfl, h1, rfl, h2, rfl, ?_⟩
        exact ⟨_, rfl, .inl ⟨_, rfl, a, dx, _, rfl, h1, a, dx, q, _, _, _, rfl, h1, rfl, h2, rfl, d.e, d.lim, rfl, k _ (Same.refl _)⟩⟩
      | inr x =>
        obtain ⟨d, ts⟩ := x
        obtain ⟨a, dx, q, c, kk, ys, rfl, h1, h2, h3, h4, fa⟩ := ht
        have yl := pat_len fa
        refine st_asgIf1 (fun Q q => ⟨_, rfl, a, dx, _, rfl, .inr ⟨h1, true, rfl, q⟩⟩) ?_
        refine g_asg (g_sum (ns := ts.map (Told.stopping n)) (g_lcF (J := Itt K c) (ys := ys) (fun H1 s R r => ⟨_, rfl, a, dx, _, rfl, s _ _ h1, a, dx, _, .ref c, rfl, s _ _ h1, rfl, c, rfl, ⟨ys, .of (s _ _ h3)⟩, r⟩) walk_tup (fun H1 s => .of (s _ _ h3)) (by simp [yl]) (by rw [yl]; exact Nat.le_trans hok.2.1 (by decide)) mk_iss fun i x P H1 hx hP s Q q => ?_)) fun v H1 s1 e => ?_
        · obtain ⟨t, ht, px⟩ := pat_get fa hx
          rw [ints_get hP ht] at q
          exact ⟨x, rfl, x, t, rfl, hok.2.2 t (List.mem_of_getElem? ht), (mk_pat n t).mn _ _ _ s px, fun H' s' => q _ _ s' rfl⟩
        · cases e
          exact ⟨_, rfl, .inr ⟨_, rfl, a, dx, _, rfl, s1 _ _ h1, a, dx, q, _, _, _, rfl, s1 _ _ h1, rfl, s1 _ _ h2, rfl, _, d.lim, rfl, k _ s1⟩⟩
end
end W48

set_option Elab.async false
set_option linter.all false
set_option maxRecDepth 100000
set_option maxHeartbeats 4000000
namespace W48
open PySem PySem.Spec PyProof.Rows L2 WXG WEv WRd WLf WEn WZs WRu WSt StX WDc PySem.Builtin.Str PySem.Builtin PySem.P
theorem getD_tl (x : Str) (k : Nat) : x.cps.getD k 0 = (TL.tl x).getD k 0 := by
  simp [TL.tl, Array.getD_eq_getD_getElem?, List.getD_eq_getElem?_getD]
theorem goes32 (c : Nat) : (" " : Str).cps.contains c = decide (c = 32) := by
  show (#[32] : Array Nat).contains c = _
  by_cases h : c = 32
  · subst h
    simp
  · rw [decide_eq_false h]
    simp [h]
theorem lstrip_ind {n c : Nat} {b : Str} {cs : List Nat} (h : TL.tl b = c :: cs) (hc : c ≠ 32) : Txt.lstripChars (repS "  " n ++ b) " " = b := by
  have ex : TL.tl (repS "  " n ++ b) = List.replicate (2 * n) 32 ++ (c :: cs) := by rw [TL.tl_append, tl_ind, h]
  generalize repS "  " n ++ b = x at ex
  unfold Txt.lstripChars
  rw [stripBy_eq]
  obtain ⟨f1, f2, f3⟩ := lo_facts (" " : Str).cps.contains x
  have hlen : x.length = 2 * n + (cs.length + 1) := by rw [TL.len_tl, ex]; simp
  have at1 : ∀ k, k < 2 * n → (TL.tl x).getD k 0 = 32 := fun k hk => by
    rw [ex, List.getD_eq_getElem?_getD, List.getElem?_append_left (by simpa using hk), List.getElem?_replicate, if_pos hk]
    rfl
  have at2 : (TL.tl x).getD (2 * n) 0 = c := by
    rw [ex, List.getD_eq_getElem?_getD, List.getElem?_append_right (by simp)]
    simp
  generalize hlo : stripLo (" " : Str).cps.contains true x = lo at *
  have e : lo = 2 * n := by
    rcases Nat.lt_trichotomy lo (2 * n) with h1 | h1 | h1
    · rcases f3 with f3 | f3
      · omega
      · rw [getD_tl, at1 lo h1, goes32] at f3
        cases f3
    · exact h1
    · have := f2 (2 * n) h1
      rw [getD_tl, at2, goes32, decide_eq_false hc] at this
      cases this
  subst e
  show strSub x (2 * n) x.length = b
  refine TL.ext_tl ?_
  rw [TL.tl_strSub_end, ex, h]
  simp
theorem num_head : ∀ n : Nat, 0 < n → ∃ c cs, TL.numL n = c :: cs ∧ c ≠ 48 := by
  intro n
  induction n using Nat.strongRecOn with
  | _ n ih =>
    intro hn
    by_cases h : n < 10
    · exact ⟨48 + n, [], TL.numL_lt h, by omega⟩
    · obtain ⟨c, cs, e, hc⟩ := ih (n / 10) (by omega) (by omega)
      exact ⟨c, cs ++ [48 + n % 10], by rw [TL.numL_step (by omega), e]; rfl, hc⟩
section
variable {K : PySem.W.Frag} {σ : L2.St} {H : Hp} {te ta tb : TE} {tr : TA} {D : Ends} {P P' : HP V} {tt tu : TT} {a b : Bool} {v : V}
theorem s_noN {t : TS} (h : EvT tt σ H false) (q : ∀ H1, Same H H1 → D.nx σ H1) : tIfS tt t tNext D σ H := h H (Same.refl H) _ fun H1 s => q H1 s
theorem et_ev (h : ∀ H1, Same H H1 → EvB tt σ H1 b) : EvT tt σ H b := fun H1 e Q q => h H1 e _ (q H1 (Same.refl _))
theorem et_not (h : EvT tt σ H b) : EvT (tNot tt) σ H (!b) := fun H1 e _ q => h H1 e _ fun H2 s => q H2 s
theorem evb_neS {x y : Str} (ha : Ev ta σ H (.str x)) (hb : Ev tb σ H (.str y)) (h : (!decide (x = y)) = b) : EvB (tTest (tOp (fun x y H Q => scal x y = true ∧ Q (.bl (!decide (x = y))) H) ta tb)) σ H b := fun Q q => ha _ (hb _ ⟨rfl, b, by rw [← h]; simp, q⟩)
end
theorem in_digits {c : Nat} (h : 48 ≤ c) (h' : c ≤ 57) : decide (c ∈ (Str.ofString "0123456789").cps.toList) = true := by
  have : ∀ j : Fin 10, decide (48 + j.val ∈ (Str.ofString "0123456789").cps.toList) = true := by decide +kernel
  have := this ⟨c - 48, by omega⟩
  rw [show 48 + (c - 48) = c by omega] at this
  exact this
def spNumber : Sp := fun vs H Q _ => (∃ i, vs = [.str (numS i)] ∧ TickOk i ∧ ∀ H', Same H H' → Q (.int i) H') ∨ (vs = [.str "-"] ∧ ∀ H', Same H H' → Q (.int (-1)) H')
section
variable {P : Program} {w : World} {K : PySem.W.Frag} {mg : Str → Option Value} {base : Heap}
theorem ok_number_of (T : Env K mg) : FnOk P w K mg base CX0 1 (d_number_of.loc K) T.fd_number_of ["word"] spNumber := by
  refine T.F_number_of.ok sc_number_of (fun vs H Q E h => ?_) (fun cdv A outer s H vs Q E hr h => ?_)
  · rcases h with ⟨i, rfl, _⟩ | ⟨rfl, _⟩ <;> rfl
  · have nd := sc_number_of.nd
    have hu := hu_of hr
    refine ⟨_, PSs.nox (pss_cons (ps_if (PW.pt (pw_or (pt_cmpR op_eq (pv 0) pe_str (nomark _)) (pw_or (pt_cmpR op_gt (pe_callB call_len_str (by rfl) T.b_len (by decide +kernel) (pa_cons (pv 0) pa_nil)) pe_int (nomark _)) (pw_or1 (pt_not (pt_val (pe_callB (cr_all rfl) (by rfl) T.b_all (by decide +kernel) (pa_cons (pe_lc (own := [("sign", 1)]) (by rfl) nd (pi_str (pv 0)) (blkOk_by (N := ["word", "sign"]) (sc := defScope s_number_of) (by decide +kernel)) (fun _ _ _ _ _ => (pg_name (i := 1) nd rfl (Or.inl rfl))) (fun _ _ _ _ _ => pts_nil) (fun _ _ _ _ _ => (pe_cmpR op_in_sign (pv 1) (C8.pe_gc (by rfl) T.c_DIGITS) (by rfl)))) pa_nil))))))))
  (pss_one (ps_ret (pe_un un_neg pe_int)))
  pss_nil)
 (pss_one (ps_ret (pe_ifExp (PW.pt (pw_or (pt_cmpR op_eq (pv 0) pe_str (nomark _)) (pw_or1 (pt_cmpR op_ne (pe_ix ix_str (pv 0) pe_int (fun _ _ => rfl)) pe_str (nomark _))))) (pe_callTy call_int_str (by rfl) T.b_int (by decide +kernel) (pa_cons (pv 0) pa_nil)) (pe_un un_neg pe_int))))), ?_⟩
    rcases h with ⟨i, rfl, hi, k⟩ | ⟨rfl, k⟩
    · have et := num_tl hi.1
      obtain ⟨n, rfl⟩ := Int.eq_ofNat_of_zero_le hi.1
      rw [Int.toNat_natCast] at et
      have hlen : (numS n).length ≤ 10 := by
        rw [TL.len_tl, et]
        exact TL.numL_len (by decide) (by have := hi.2; omega)
      have hdig := TL.numL_digits n
      have hint : intText? (numS n) = some (n : Int) := TL.int_num (by
        rw [TL.len_tl, et] at hlen
        omega)
      generalize hcs : TL.numL n = cs at et hdig
      have ez : numS n = ⟨cs.toArray⟩ := TL.ext_tl et
      have hne : cs ≠ [] := by rw [← hcs]; exact TL.numL_ne n
      have hl2 : cs.length ≤ 10 := by rw [TL.len_tl, et] at hlen; exact hlen
      have n0 : n = 0 ∨ ∃ c r, cs = c :: r ∧ c ≠ 48 := by
        rcases Nat.eq_zero_or_pos n with h | h
        · exact .inl h
        · obtain ⟨c, r, e, hc⟩ := num_head n h
          exact .inr ⟨c, r, hcs.symm.trans e, hc⟩
      rw [ez] at hint hlen ⊢
      refine s_noN (et_or0 (et_ev fun H1 _ => evb_eqS (ev_var rfl) ev_c (decide_eq_false fun e => hne (congrArg TL.tl e))) (et_or0 (et_ev fun H1 _ => evb_cmpF (ev_lenS (ev_var rfl) (Nat.le_trans hlen (by decide))) ev_c (decide_eq_false (by omega)))
        (et_not (b := true) (et_val (g_imp (P := Is (.bl ((cs.map fun _ => true).all id))) (g_all (bs := cs.map fun _ => true) (g_lcS rfl (by simp) (by omega) mk_iss fun i c P H1 hc hP s Q q => ?_)) (fun v H e => by rw [show ((cs.map fun _ => true).all id) = true by simp] at e; exact e) mn_i))))) fun H1 s1 => ?_
      · rw [List.getElem?_map, List.getElem?_map, List.getElem?_map, hc] at hP
        cases hP
        have hm := hdig c (List.mem_of_getElem? hc)
        refine ⟨_, rfl, c, _, rfl, rfl, ?_⟩
        rw [in_digits hm.1 hm.2]
        exact q _ _ (Same.refl _) rfl
      · dsimp only
        show tRet _ _ _ _
        refine st_retIf1 ?_ (st_ret (v := .int n) (fun Q q => ⟨_, rfl, _, _, rfl, hint, Nat.le_trans hlen (by decide), q⟩) (k _ s1))
        rcases n0 with rfl | ⟨c, r, e, hc⟩
        · have e0 : (⟨cs.toArray⟩ : Str) = "0" := by
            rw [← hcs]
            decide
          exact fun Q q => evb_eqS (ev_var rfl) ev_c (decide_eq_true e0) _ q
        · have e0 : (⟨cs.toArray⟩ : Str) ≠ "0" := fun z => by
            have := congrArg TL.tl z
            rw [show TL.tl (⟨cs.toArray⟩ : Str) = cs from rfl, e] at this
            exact hc (List.cons.inj (this.trans (show TL.tl ("0" : Str) = [48] by decide))).1
          have e1 : (⟨#[c]⟩ : Str) ≠ "0" := fun z => hc (List.cons.inj ((congrArg TL.tl z).trans (show TL.tl ("0" : Str) = [48] by decide))).1
          exact evb_or (a := false) (evb_eqS (ev_var rfl) ev_c (decide_eq_false e0)) fun _ => evb_neS (x := ⟨#[c]⟩) (fun Q q => ⟨_, rfl, _, 0, c, rfl, rfl, Nat.le_trans hlen (by decide), atI_nat (j := 0) (show cs[0]? = some c by rw [e]; rfl), q⟩) ev_c (by rw [decide_eq_false e1]; rfl)
    · refine s_yes (et_or0 (et_ev fun H1 _ => evb_eqS (ev_var rfl) ev_c (by decide)) (et_or0 (et_ev fun H1 _ => evb_cmpF (ev_lenS (ev_var rfl) (by decide)) ev_c (by decide))
        (et_not (b := false) (et_val (g_imp (P := Is (.bl (([45].map fun _ => false).all id))) (g_all (bs := [45].map fun _ => false) (g_lcS (cs := [45]) rfl rfl (by decide) mk_iss fun i c P H1 hc hP s Q q => ?_)) (fun v H e => e) mn_i))))) fun H1 s1 => st_ret (v := .int (-1)) (fun Q q => ⟨1, rfl, q⟩) (k _ s1)
      match i, hc with
      | 0, hc =>
        cases hc
        cases hP
        refine ⟨_, rfl, 45, _, rfl, rfl, ?_⟩
        rw [show decide (45 ∈ (Str.ofString "0123456789").cps.toList) = false by decide +kernel]
        exact q _ _ (Same.refl _) rfl
      | i + 1, hc => cases hc
end
end W48

set_option Elab.async false
set_option linter.all false
set_option maxRecDepth 100000
set_option maxHeartbeats 4000000
namespace W48
open PySem PySem.Spec PyProof.Rows L2 WXG WEv WRd WLf WEn WZs WRu WSt StX WDc
namespace Item
def names : Item → List Str
  | .inl _ => ["name", "restart", "opening", "closing", "deadline", "refused"]
  | .inr _ => ["name", "restart", "strategy", "most", "span", "deadline"]
def full : Item → Addr → List (Key × V)
  | .inl d, s => d.kvs s
  | .inr d, _ => d.kvs
def off : Item → Nat
  | .inl _ => 1
  | .inr _ => 0
def sup : Item → Bool
  | .inl _ => false
  | .inr _ => true
end Item
/-- the settings of an item as a dict -/
def IV : Item → HP V
  | .inl d => WV d
  | .inr d => SV d
/-- the first i of them -/
def IP (q : Item) (i : Nat) : HP V := fun v H => ∃ m s, v = .ref m ∧ H m = some (.dK ((Item.full q s).take (Item.off q + i))) ∧ (Item.sup q = true ∨ H s = some (.tup []))
theorem ip_iv {q : Item} {v : V} {H : Hp} (h : IP q 6 v H) : IV q v H := by
  obtain ⟨m, s, rfl, h1, h2⟩ := h
  cases q with
  | inl d => exact ⟨m, s, rfl, h1, h2.resolve_left (fun z => by cases z)⟩
  | inr d => exact ⟨m, rfl, h1⟩
def worded : List V := [.str "name", .str "restart", .str "strategy"]
def StepOk (q : Item) (s : Addr) (i : Nat) : Prop := ∃ n z x, (Item.names q)[i]? = some n ∧ (Item.words q)[i + 1]? = some z ∧ (∀ y, putK ((Item.full q s).take (Item.off q + i)) (Sum.inr n) y = (Item.full q s).take (Item.off q + i) ++ [(Sum.inr n, y)]) ∧
  (∀ y y', putK ((Item.full q s).take (Item.off q + i) ++ [(Sum.inr n, y)]) (Sum.inr n) y' = (Item.full q s).take (Item.off q + i) ++ [(Sum.inr n, y')]) ∧ (Item.full q s).take (Item.off q + (i + 1)) = (Item.full q s).take (Item.off q + i) ++ [(Sum.inr n, x)] ∧
  ((inV (.str n) worded = true ∧ n ≠ "deadline" ∧ x = .str z) ∨ (inV (.str n) worded = false ∧ ∃ k, TickOk k ∧ z = numS k ∧ x = .int k) ∨ (inV (.str n) worded = false ∧ n = "deadline" ∧ z = "-" ∧ x = .non))
theorem step_ok {q : Item} (h : Item.Ok q) (s : Addr) : ∀ i, i < 6 → StepOk q s i := by
  intro i hi
  cases q with
  | inl d =>
    obtain ⟨h1, h2, h3, h4, h5, h6, h7⟩ := h
    match i, hi with
    | 0, _ => exact ⟨"name", d.name, _, rfl, rfl, fun _ => rfl, fun _ _ => rfl, rfl, .inl ⟨by decide, by decide, rfl⟩⟩
    | 1, _ => exact ⟨"restart", d.word, _, rfl, rfl, fun _ => rfl, fun _ _ => rfl, rfl, .inl ⟨by decide, by decide, rfl⟩⟩
    | 2, _ => exact ⟨"opening", numS d.b, _, rfl, rfl, fun _ => rfl, fun _ _ => rfl, rfl, .inr (.inl ⟨by decide, d.b, h3, rfl, rfl⟩)⟩
    | 3, _ => exact ⟨"closing", numS d.e, _, rfl, rfl, fun _ => rfl, fun _ _ => rfl, rfl, .inr (.inl ⟨by decide, d.e, h4, rfl, rfl⟩)⟩
    | 4, _ =>
      refine ⟨"deadline", limS d.lim, limV d.lim, rfl, rfl, fun _ => rfl, fun _ _ => rfl, rfl, ?_⟩
      cases e : d.lim with
      | none => exact .inr (.inr ⟨by decide, rfl, rfl, rfl⟩)
      | some k => exact .inr (.inl ⟨by decide, k, h5 k e, rfl, rfl⟩)
    | 5, _ => exact ⟨"refused", numS d.r, _, rfl, rfl, fun _ => rfl, fun _ _ => rfl, rfl, .inr (.inl ⟨by decide, d.r, ⟨h6, by omega⟩, rfl, rfl⟩)⟩
  | inr d =>
    obtain ⟨h1, h2, h3, h4, h5, h6, h7, h8⟩ := h
    match i, hi with
    | 0, _ => exact ⟨"name", d.name, _, rfl, rfl, fun _ => rfl, fun _ _ => rfl, rfl, .inl ⟨by decide, by decide, rfl⟩⟩
    | 1, _ => exact ⟨"restart", d.word, _, rfl, rfl, fun _ => rfl, fun _ _ => rfl, rfl, .inl ⟨by decide, by decide, rfl⟩⟩
    | 2, _ => exact ⟨"strategy", d.way, _, rfl, rfl, fun _ => rfl, fun _ _ => rfl, rfl, .inl ⟨by decide, by decide, rfl⟩⟩
    | 3, _ => exact ⟨"most", numS d.most, _, rfl, rfl, fun _ => rfl, fun _ _ => rfl, rfl, .inr (.inl ⟨by decide, d.most, ⟨h4, by omega⟩, rfl, rfl⟩)⟩
    | 4, _ => exact ⟨"span", numS d.span, _, rfl, rfl, fun _ => rfl, fun _ _ => rfl, rfl, .inr (.inl ⟨by decide, d.span, ⟨by omega, h7⟩, rfl, rfl⟩)⟩
    | 5, _ =>
      refine ⟨"deadline", limS d.lim, limV d.lim, rfl, rfl, fun _ => rfl, fun _ _ => rfl, rfl, ?_⟩
      cases e : d.lim with
      | none => exact .inr (.inr ⟨by decide, rfl, rfl, rfl⟩)
      | some k => exact .inr (.inl ⟨by decide, k, h8 k e, rfl, rfl⟩)
theorem num_ne {k : Int} (h : TickOk k) : numS k ≠ "-" := fun e => by
  have e1 := num_tl h.1
  rw [e] at e1
  have := TL.numL_digits k.toNat 45 (by rw [← e1]; decide)
  omega
theorem dp_strs {K : PySem.W.Frag} {H : Hp} : ∀ ws : List Str, DpAll K H (ws.map V.str) (ws.map PyData.str)
  | [] => .nil
  | b :: bs => .cons (.str b) (dp_strs bs)
theorem names_sh (q : Item) : SeqAt.shaped (.tuple ((Item.names q).map PyData.str)) = true ∧ PyData.eqv (.tuple ((Item.names q).map PyData.str)) (.tuple []) = false ∧ (Item.names q).length = 6 := by
  cases q
  · exact ⟨show SeqAt.shaped (.tuple ([("name" : Str), "restart", "opening", "closing", "deadline", "refused"].map PyData.str)) = true by decide +kernel, show PyData.eqv (.tuple ([("name" : Str), "restart", "opening", "closing", "deadline", "refused"].map PyData.str)) (.tuple []) = false by decide +kernel, rfl⟩
  · exact ⟨show SeqAt.shaped (.tuple ([("name" : Str), "restart", "strategy", "most", "span", "deadline"].map PyData.str)) = true by decide +kernel, show PyData.eqv (.tuple ([("name" : Str), "restart", "strategy", "most", "span", "deadline"].map PyData.str)) (.tuple []) = false by decide +kernel, rfl⟩
theorem mn_ip {q : Item} {i : Nat} : Mn (IP q i) := fun _ _ _ s ⟨m, x, e, h1, h2⟩ => ⟨m, x, e, s _ _ h1, h2.imp id (s _ _)⟩
section
variable {K : PySem.W.Frag} {σ : L2.St} {H : Hp} {te ta tb : TE} {tr : TA} {D : Ends} {P P' : HP V} {tt tu : TT} {a b : Bool} {v : V}
theorem g_if1 (h : ∀ H1, Same H H1 → EvB tt σ H1 true) (g : G ta σ H P) : G (tIf tt ta tb) σ H P := ⟨fun H1 e Q q => h H1 e _ (g.ev H1 e _ q), g.mn⟩
theorem g_if0 (h : ∀ H1, Same H H1 → EvB tt σ H1 false) (g : G tb σ H P) : G (tIf tt ta tb) σ H P := ⟨fun H1 e Q q => h H1 e _ (g.ev H1 e _ q), g.mn⟩
theorem ev_ixL {i : Nat} {p : Addr} {xs : List V} {j : Int} (h : σ[i]? = some (some (.ref p))) (hp : H p = some (.lst xs)) (e : atI xs j = some v) : Ev (tOp (rIxL K) (tVar i) (tC (.int j))) σ H v := fun Q q => ⟨_, h, p, xs, j, v, rfl, rfl, .of hp, e, q⟩
theorem But.seqT {m s : Addr} {H H' : Hp} {kvs : List (Key × V)} {xs : List V} (h : But m H H') (hm : H m = some (.dK kvs)) (q : SqT K H s xs) : SqT K H' s xs := by
  rcases q with (q | ⟨o, q⟩) | q
  · exact .inl (.inl (h _ _ q fun z => by rw [z, hm] at q; cases q))
  · exact .inl (.inr ⟨o, h _ _ q fun z => by rw [z, hm] at q; cases q⟩)
  · exact .inr q
end
theorem words_cut (q : Item) : cutV ((Item.words q).map V.str) (some 1) none = (Item.words q).tail.map V.str ∧ (Item.words q).tail.length = 6 := by
  cases q <;> exact ⟨rfl, rfl⟩
def spValues : Sp := fun vs H Q _ => ∃ (l : Addr) (q : Item), vs = [.ref l] ∧ Item.Ok q ∧ H l = some (.lst ((Item.words q).map V.str)) ∧ ∀ v H', Same H H' → IV q v H' → Q v H'
section
variable {P : Program} {w : World} {K : PySem.W.Frag} {mg : Str → Option Value} {base : Heap}
theorem ok_values_in (T : Env K mg) : FnOk P w K mg base CX0 2 (d_values_in.loc K) T.fd_values_in ["words"] spValues := by
  have G_number_of : FnOk P w K mg base CX0 1 _ _ _ _ := ok_number_of T
  refine T.F_values_in.ok sc_values_in (fun vs H Q E h => ?_) (fun cdv A outer s H vs Q E hr h => ?_)
  · obtain ⟨l, q, rfl, _⟩ := h
    rfl
  · have nd := sc_values_in.nd
    have hu := hu_of hr
    obtain ⟨l, q, rfl, hok, hl, k⟩ := h
    obtain ⟨wl, wk⟩ := item_words hok
    obtain ⟨sh, ne, nl⟩ := names_sh q
    refine ⟨_, PSs.nox (pss_cons (ps_set (i := 1) nd rfl (Or.inl rfl) (pe_dget2 hu (pe_disp (pps_cons pe_str (pe_slice sl_tup (pe_globR (by rfl) T.g_WORKER_SETTINGS) po_none (po_some (pe_un un_neg pe_int))) (pps_cons pe_str (pe_globR (by rfl) T.g_SUPERVISOR_SETTINGS) pps_nil)) (by rfl) (by rfl) (fun z => by cases z) (by decide)) (pe_ix (ixlK (K := K)) (pv 0) pe_int (fun _ _ => rfl)) (pe_tup pa_nil) ⟨by rfl, by rfl, by rfl, by rfl⟩))
 (pss_cons (ps_if (PW.pt (pw_or (pt_cmpR (op_eqD hr.units) (pv 1) (pe_tup pa_nil) (nomark _)) (pw_or1 (pt_cmpR op_ne (pe_callB call_len_seq (by rfl) T.b_len (by decide +kernel) (pa_cons (pv 0) pa_nil)) (pe_op op_add (pe_callB call_len_seq (by rfl) T.b_len (by decide +kernel) (pa_cons (pv 1) pa_nil)) pe_int) (nomark _)))))
  (pss_one (ps_ret pe_non))
  pss_nil)
 (pss_cons (ps_set (i := 2) nd rfl (Or.inl rfl) (pe_ifExp (pt_cmpR op_eq (pe_ix (ixlK (K := K)) (pv 0) pe_int (fun _ _ => rfl)) pe_str (nomark _)) (pe_disp (pps_cons pe_str (pe_tup pa_nil) pps_nil) (by rfl) (by rfl) (fun z => by cases z) (by decide)) pe_dnewK))
 (pss_cons (ps_for PassesOwn.never rfl (pi_zipS (by rfl) T.b_zip (pa_cons (pv 1) (pa_cons (pe_slice sl_list (pv 0) (po_some pe_int) po_none) pa_nil)) (pk_cons pe_bl pk_nil)) (pg_tup rfl (pgs_cons (pg_name (i := 3) nd rfl (Or.inl rfl)) (pgs_cons (pg_name (i := 4) nd rfl (Or.inl rfl)) pgs_nil)))
  (pss_cons (ps_dput hu (pv 2) (pv 3) (pe_ifExp (pt_cmpR (op_in_seq) (pv 3) (pe_globR (by rfl) T.g_WORDED) (by rfl)) (pv 4) (pe_call G_number_of (hr.mono (by decide)) (by rfl) T.g_number_of T.F_number_of.kp T.bi_number_of .nil pass0 (pa_cons (pv 4) pa_nil))) rfl)
 (pss_one (ps_if (PW.pt (pw_and (pt_cmpR op_eq (pv 3) pe_str (nomark _)) (pw_and1 (pt_cmpR op_eq (pv 4) pe_str (nomark _)))))
  (pss_one (ps_dput hu (pv 2) (pv 3) pe_non rfl))
  pss_nil))))
 (pss_one (ps_ret (pv 2))))))), ?_⟩
    -- known
    refine g_asg (P := fun v H => ∃ kn, v = .ref kn ∧ SqT K H kn ((Item.names q).map V.str)) ⟨fun H1 s1 Q1 q1 => ?_, fun v H H' s ⟨kn, e, h⟩ => ⟨kn, e, h.ext s⟩⟩ fun v1 H1 s1 hk => ?_
    · refine fun p hp => ⟨1, rfl, -1, rfl, _, _, rfl, T.q_WORKER_SETTINGS _, (show ¬ (HT.sIx 7 0 none = 0 ∧ HT.sIx 7 7 (some (-1)) = 7) by decide), fun r hr => ?_⟩
      have s2 : Same (upd H1 p (.dK [])) _ := same_new (o := .tup (cutV [V.str "name", .str "restart", .str "opening", .str "closing", .str "deadline", .str "refused", .str "script"] none (some (-1)))) hr
      have hr2 : upd (upd H1 p (.dK [])) r (.tup (cutV [V.str "name", .str "restart", .str "opening", .str "closing", .str "deadline", .str "refused", .str "script"] none (some (-1)))) r = some (.tup ([("name" : Str), "restart", "opening", "closing", "deadline", "refused"].map V.str)) := upd_same
      have hp2 := s2 _ _ (show upd H1 p (.dK []) p = some (.dK []) from upd_same)
      have s3 : Same H1 (upd (upd H1 p (.dK [])) r (.tup (cutV [V.str "name", .str "restart", .str "opening", .str "closing", .str "deadline", .str "refused", .str "script"] none (some (-1))))) := (same_new hp).trans s2
      generalize upd (upd H1 p (.dK [])) r (.tup (cutV [V.str "name", .str "restart", .str "opening", .str "closing", .str "deadline", .str "refused", .str "script"] none (some (-1)))) = H2 at *
      have rp : r ≠ p := fun z => by rw [z, hp2] at hr2; cases hr2
      refine ⟨hp2, [(Sum.inr "worker", .ref r), (Sum.inr "supervisor", .ref (He.ga K "SUPERVISOR_SETTINGS"))], rfl, Nat.le_of_ble_eq_true rfl, p, rfl, .inl ⟨_, .inl upd_same⟩, ?_⟩
      have s4 := same_put (o := .dK (mergeK [] [(Sum.inr "worker", V.ref r), (Sum.inr "supervisor", .ref (He.ga K "SUPERVISOR_SETTINGS"))])) s3 hp
      have hr3 : upd H2 p (.dK (mergeK [] [(Sum.inr "worker", V.ref r), (Sum.inr "supervisor", .ref (He.ga K "SUPERVISOR_SETTINGS"))])) r = some (.tup ([("name" : Str), "restart", "opening", "closing", "deadline", "refused"].map V.str)) := by rw [upd_ne rp]; exact hr2
      have hp3 : upd H2 p (.dK (mergeK [] [(Sum.inr "worker", V.ref r), (Sum.inr "supervisor", .ref (He.ga K "SUPERVISOR_SETTINGS"))])) p = some (.dK [(Sum.inr "worker", V.ref r), (Sum.inr "supervisor", .ref (He.ga K "SUPERVISOR_SETTINGS"))]) := upd_same
      generalize upd H2 p (.dK (mergeK [] [(Sum.inr "worker", V.ref r), (Sum.inr "supervisor", .ref (He.ga K "SUPERVISOR_SETTINGS"))])) = H3 at *
      have hl3 := s4 _ _ (s1 _ _ hl)
      cases q with
      | inl d =>
        refine ⟨_, rfl, l, _, 0, .str "worker", rfl, rfl, .of hl3, rfl, Nat.zero_le _, fun e he => ⟨some (.ref r), .inl ⟨_, Sum.inr "worker", .inl ((same_new he) _ _ hp3), rfl, rfl⟩, ?_⟩⟩
        exact q1 _ _ (s4.trans (same_new he)) ⟨r, rfl, .of ((same_new he) _ _ hr3)⟩
      | inr d =>
        refine ⟨_, rfl, l, _, 0, .str "supervisor", rfl, rfl, .of hl3, rfl, Nat.zero_le _, fun e he => ⟨some (.ref (He.ga K "SUPERVISOR_SETTINGS")), .inl ⟨_, Sum.inr "supervisor", .inl ((same_new he) _ _ hp3), rfl, rfl⟩, ?_⟩⟩
        exact q1 _ _ (s4.trans (same_new he)) ⟨_, rfl, T.q_SUPERVISOR_SETTINGS _⟩
    obtain ⟨kn, rfl, hkn⟩ := hk
    dsimp only
    show tSeq _ _ _ _ _
    refine s_noN (et_or0 (fun H2 s2 Q1 q1 => ?_) (et_ev fun H2 s2 Q1 q1 => ?_)) fun H2 s2 => ?_
    · refine ⟨_, rfl, Nat.zero_le _, fun p hp => ⟨_, .tuple [], .tup (hkn.ext (s2.trans (same_new hp))) (dp_strs _), .tup (.of upd_same) .nil, sh, by decide +kernel, false, by rw [ne], q1 _ (same_new hp)⟩⟩
    · refine ⟨_, rfl, l, _, rfl, .inl (.of (s2 _ _ (s1 _ _ hl))), _, rfl, kn, _, rfl, .inr (hkn.ext s2), _, _, rfl, rfl, rfl, false, ?_, q1⟩
      rw [List.length_map, List.length_map, wl, nl]
      decide
    dsimp only
    show tSeq _ _ _ _ _
    refine g_asg (P := fun v H' => IP q 0 v H' ∧ ∀ m, v = .ref m → H m = none) ?_ fun v3 H3 s3 hv => ?_
    · have hl2 := s2 _ _ (s1 _ _ hl)
      cases q with
      | inl d =>
        refine g_if1 (fun H3 s3 => evb_eqS (x := "worker") (ev_ixL rfl (s3 _ _ hl2) rfl) ev_c rfl) ⟨fun H3 s3 Q1 q1 => ?_, fun v H H' s h => ⟨mn_ip _ _ _ s h.1, h.2⟩⟩
        refine fun p hp => ⟨Nat.zero_le _, fun e he => ⟨(same_new he) _ _ upd_same, [(Sum.inr "script", .ref e)], rfl, by simp, ?_⟩⟩
        have ep : e ≠ p := fun z => by rw [z, upd_same] at he; cases he
        refine q1 _ _ (same_put ((same_new hp).trans (same_new he)) hp) ⟨⟨p, e, rfl, upd_same, .inr (by rw [upd_ne ep]; exact upd_same)⟩, fun m z => by cases z; exact Same.free ((s1.trans s2).trans s3) hp⟩
      | inr d =>
        refine g_if0 (fun H3 s3 => evb_eqS (x := "supervisor") (ev_ixL rfl (s3 _ _ hl2) rfl) ev_c rfl) ⟨fun H3 s3 Q1 q1 => ?_, fun v H H' s h => ⟨mn_ip _ _ _ s h.1, h.2⟩⟩
        exact fun p hp => q1 _ _ (same_new hp) ⟨⟨p, 0, rfl, upd_same, .inl rfl⟩, fun m z => by cases z; exact Same.free ((s1.trans s2).trans s3) hp⟩
    obtain ⟨⟨m, s, rfl, hm, hs⟩, hfr⟩ := hv
    have hm0 := hfr m rfl
    have s123 := (s1.trans s2).trans s3
    obtain ⟨cut, tl⟩ := words_cut q
    dsimp only
    show tSeq _ _ _ _ _
    refine ⟨_, rfl, _, rfl, 1, rfl, l, _, rfl, .of (s123 _ _ hl), fun r hr => ?_⟩
    rw [cut]
    have s4 := same_new (o := .lst ((Item.words q).tail.map V.str)) hr
    have er : upd H3 r (.lst ((Item.words q).tail.map V.str)) r = some (.lst ((Item.words q).tail.map V.str)) := upd_same
    generalize upd H3 r (.lst ((Item.words q).tail.map V.str)) = H4 at s4 er ⊢
    have hm4 := s4 _ _ hm
    have hs4 := hs.imp id (s4 _ _)
    have hk4 : SqT K H4 kn ((Item.names q).map V.str) := hkn.ext ((s2.trans s3).trans s4)
    refine ⟨kn, r, _, _, rfl, rfl, hk4, .of er, ?_⟩
    show ∃ W, _
    have len6 : ((Item.names q).map V.str).length = ((Item.words q).tail.map V.str).length := by rw [List.length_map, List.length_map, nl, tl]
    refine for_it (walk_zs (K := K) (a := kn) (b := r) len6) (fun i σ H' => But m H4 H' ∧ H' m = some (.dK ((Item.full q s).take (Item.off q + i))) ∧ ∃ a3 a4, σ = [some (.ref l), some (.ref kn), some (.ref m), a3, a4]) ⟨But.refl, hm4, none, none, rfl⟩ (fun i σ H' _ p => ⟨p.1.seqT hm4 hk4, p.1.seq hm4 (.of er)⟩) (fun i y σ H5 H6 hi p yy => ?_) (fun σ H5 p => ?_)
    · obtain ⟨b5, hm5, a3, a4, rfl⟩ := p
      obtain ⟨t0, u, g, rfl, ht0, rfl, eu, eg⟩ := yy
      rw [List.length_map, nl] at hi
      obtain ⟨n, z, x, e1, e2, e3, e4, e5, e6⟩ := step_ok hok s i hi
      have eu : ((Item.names q).map V.str)[i]? = some u := eu
      have eg : ((Item.words q).tail.map V.str)[i]? = some g := eg
      rw [List.getElem?_map, e1] at eu
      cases eu
      rw [List.getElem?_map, List.getElem?_tail, e2] at eg
      cases eg
      refine ⟨t0, _, rfl, .of upd_same, rfl, _, _, rfl, _, _, rfl, rfl, ?_⟩
      have b6 : But m H4 (upd H5 t0 (.tup [.str n, .str z])) := b5.new ht0
      have hm6 := (same_new (o := .tup [.str n, .str z]) ht0) _ _ hm5
      generalize upd H5 t0 (.tup [V.str n, .str z]) = H6 at b6 hm6 ⊢
      have flen : ((Item.full q s).take (Item.off q + i)).length ≤ 100 := by
        rw [List.length_take]
        exact Nat.le_trans (Nat.min_le_left _ _) (by cases q <;> simp [Item.off] <;> omega)
      -- the second look
      have fin : ∀ (y : V) (H7 : Hp) (D : Ends), Same H6 H7 → ((n = "deadline" ∧ z = "-" ∧ x = .non) ∨ (¬ (n = "deadline" ∧ z = "-") ∧ y = x)) → (∀ H', But m H4 H' → H' m = some (.dK ((Item.full q s).take (Item.off q + (i + 1)))) → D.nx [some (.ref l), some (.ref kn), some (.ref m), some (.str n), some (.str z)] H') →
          tIfS (tAnd (tTest (tOp rEq (tVar 3) (tC (.str "deadline")))) (tTest (tOp rEq (tVar 4) (tC (.str "-"))))) (sDPut (tVar 2) (tVar 3) (tC .non)) tNext D [some (.ref l), some (.ref kn), some (.ref m), some (.str n), some (.str z)] (upd H7 m (.dK (putK ((Item.full q s).take (Item.off q + i)) (Sum.inr n) y))) := by
        intro y H7 D s7 hy kk
        have b7 : But m H4 (upd H7 m (.dK (putK ((Item.full q s).take (Item.off q + i)) (Sum.inr n) y))) := (b6.trans (But.same s7)).put
        refine st_if (b := decide (n = "deadline") && decide (z = "-")) (evb_and (evb_eqS (ev_var rfl) ev_c rfl) fun _ => evb_eqS (ev_var rfl) ev_c rfl) ?_
        rcases hy with ⟨h1, h2, h3⟩ | ⟨h1, h2⟩
        · rw [decide_eq_true h1, decide_eq_true h2, if_pos (show (true && true) = true from rfl)]
          refine ⟨_, rfl, _, rfl, m, _, rfl, .inl ⟨_, Sum.inr n, upd_same, rfl, ?_, rfl⟩, kk _ b7.put ?_⟩
          · rw [e3, List.length_append]
            exact Nat.lt_of_le_of_lt (show _ ≤ 101 by simpa using flen) (by decide)
          · rw [upd_same, e3, e4, e5, h3]
        · rw [if_neg (by simpa using h1)]
          refine kk _ b7 ?_
          rw [upd_same, e3, e5, h2]
      have put : ∀ (y : V) (H7 : Hp), Same H6 H7 → DPut H7 m (.str n) y (upd H7 m (.dK (putK ((Item.full q s).take (Item.off q + i)) (Sum.inr n) y))) := fun y H7 s7 => .inl ⟨_, Sum.inr n, s7 _ _ hm6, rfl, Nat.lt_of_le_of_lt flen (by decide), rfl⟩
      rcases e6 with ⟨h1, h2, h3⟩ | ⟨h1, kv, hk1, h2, h3⟩ | ⟨h1, h2, h3, h4⟩
      · refine ⟨_, rfl, _, _, rfl, .inr (T.q_WORDED _), rfl, rfl, true, congrArg V.bl (show (if false = true then _ else inV (.str n) worded) = true by rw [if_neg Bool.false_ne_true]; exact h1), _, rfl, ?_⟩
        refine ⟨_, rfl, _, rfl, m, _, rfl, put _ _ (Same.refl _), ?_⟩
        exact fin _ H6 _ (Same.refl _) (.inr ⟨fun z => h2 z.1, h3.symm⟩) fun H' b h => ⟨b, h, _, _, rfl⟩
      · refine ⟨_, rfl, _, _, rfl, .inr (T.q_WORDED _), rfl, rfl, false, congrArg V.bl (show (if false = true then _ else inV (.str n) worded) = false by rw [if_neg Bool.false_ne_true]; exact h1), _, rfl, .inl ⟨kv, by rw [h2]; rfl, hk1, fun H7 s7 => ?_⟩⟩
        refine ⟨_, rfl, _, rfl, m, _, rfl, put _ _ s7, ?_⟩
        exact fin _ H7 _ s7 (.inr ⟨fun z => num_ne hk1 (h2.symm.trans z.2), h3.symm⟩) fun H' b h => ⟨b, h, _, _, rfl⟩
      · refine ⟨_, rfl, _, _, rfl, .inr (T.q_WORDED _), rfl, rfl, false, congrArg V.bl (show (if false = true then _ else inV (.str n) worded) = false by rw [if_neg Bool.false_ne_true]; exact h1), _, rfl, .inr ⟨by rw [h3]; rfl, fun H7 s7 => ?_⟩⟩
        refine ⟨_, rfl, _, rfl, m, _, rfl, put _ _ s7, ?_⟩
        exact fin _ H7 _ s7 (.inl ⟨h2, h3, h4⟩) fun H' b h => ⟨b, h, _, _, rfl⟩
    · obtain ⟨b5, hm5, a3, a4, rfl⟩ := p
      rw [List.length_map, nl] at hm5
      have sH : Same H H5 := fun b o hb => b5 b o ((s123.trans s4) _ _ hb) fun z => by rw [z, hm0] at hb; cases hb
      refine st_ret (ev_var rfl) (k _ H5 sH (ip_iv ⟨m, s, rfl, hm5, hs4.imp id fun h => b5 _ _ h fun z => by rw [z, hm4] at h; cases h⟩))
end
end W48

set_option Elab.async false
set_option linter.all false
set_option maxRecDepth 100000
set_option maxHeartbeats 4000000
namespace W48
open PySem PySem.Spec PyProof.Rows L2 WXG WEv WRd WLf WEn WZs WRu WSt StX WDc
/-! ### rows -/
def RowAt (q : Nat × Item) : HP V := fun v H => ∃ p m, v = .ref p ∧ H p = some (.tup [.int q.1, .bl (Item.sup q.2), m]) ∧ IV q.2 m H
/-- all but lists as it was -/
def KpL (H H' : Hp) : Prop := ∀ b o, H b = some o → (∀ xs, o ≠ .lst xs) → H' b = some o
theorem KpL.same {H H' : Hp} (s : Same H H') : KpL H H' := fun b o h _ => s b o h
theorem KpL.trans {H H' H'' : Hp} (a : KpL H H') (b : KpL H' H'') : KpL H H'' := fun c o h h1 => b c o (a c o h h1) h1
theorem KpL.lst {H : Hp} {l : Addr} {xs : List V} {x : HO} (hl : H l = some (.lst xs)) : KpL H (upd H l x) := fun b o h h1 => by
  rw [upd_ne (fun z => by rw [z, hl] at h; cases h; exact h1 _ rfl)]
  exact h
theorem iv_kpl {q : Item} {v : V} {H H' : Hp} (s : KpL H H') (h : IV q v H) : IV q v H' := by
  cases q with
  | inl d =>
    obtain ⟨m, x, e, h1, h2⟩ := h
    exact ⟨m, x, e, s _ _ h1 (fun _ z => nomatch z), s _ _ h2 (fun _ z => nomatch z)⟩
  | inr d =>
    obtain ⟨m, e, h1⟩ := h
    exact ⟨m, e, s _ _ h1 (fun _ z => nomatch z)⟩
theorem row_kpl {q : Nat × Item} {v : V} {H H' : Hp} (s : KpL H H') (h : RowAt q v H) : RowAt q v H' := by
  obtain ⟨p, m, e, h1, h2⟩ := h
  exact ⟨p, m, e, s _ _ h1 (fun _ z => nomatch z), iv_kpl s h2⟩
theorem rows_kpl {H H' : Hp} (s : KpL H H') : ∀ {qs : List (Nat × Item)} {vs : List V}, Fa (qs.map RowAt) vs H → Fa (qs.map RowAt) vs H'
  | [], [], _ => trivial
  | q :: qs, v :: vs, h => ⟨row_kpl s h.1, rows_kpl s h.2⟩
  | [], _ :: _, h => h.elim
  | _ :: _, [], h => h.elim
theorem mn_iv {q : Item} : Mn (IV q) := fun _ _ _ s h => iv_kpl (KpL.same s) h
def spRow : Sp := fun vs H Q _ => ∃ q : Nat × Item, vs = [.str (lineI q)] ∧ Item.Ok q.2 ∧ q.1 ≤ 20 ∧ ∀ v H', Same H H' → RowAt q v H' → Q v H'
theorem join_head (q : Item) : ∃ c cs, TL.tl (Txt.join " " (Item.words q)) = c :: cs ∧ c ≠ 32 := by
  cases q with
  | inl d =>
    have e : TL.tl (Txt.join " " (Item.words (.inl d))) = 119 :: ([111, 114, 107, 101, 114] ++ ([32] ++ TL.joinL [32] (d.words.tail.map TL.tl))) := by
      rw [TL.join_eq, TL.tl_join]
      rfl
    exact ⟨119, _, e, by decide⟩
  | inr d =>
    have e : TL.tl (Txt.join " " (Item.words (.inr d))) = 115 :: ([117, 112, 101, 114, 118, 105, 115, 111, 114] ++ ([32] ++ TL.joinL [32] (d.words.tail.map TL.tl))) := by
      rw [TL.join_eq, TL.tl_join]
      rfl
    exact ⟨115, _, e, by decide⟩
section
variable {P : Program} {w : World} {K : PySem.W.Frag} {mg : Str → Option Value} {base : Heap}
theorem ok_row_of (T : Env K mg) : FnOk P w K mg base CX0 6 (d_row_of.loc K) T.fd_row_of ["line"] spRow := by
  have G_values_in : FnOk P w K mg base CX0 2 _ _ _ _ := ok_values_in T
  have G_worker_of : FnOk P w K mg base CX0 5 _ _ _ _ := ok_worker_of T
  have G_supervisor_of : FnOk P w K mg base CX0 5 _ _ _ _ := ok_supervisor_of T 0
  refine T.F_row_of.ok sc_row_of (fun vs H Q E h => ?_) (fun cdv A outer s H vs Q E hr h => ?_)
  · obtain ⟨q, rfl, _⟩ := h
    rfl
  · have nd := sc_row_of.nd
    have hu := hu_of hr
    obtain ⟨q, rfl, hok, hlv, k⟩ := h
    refine ⟨_, PSs.nox (pss_cons (ps_set (i := 1) nd rfl (Or.inl rfl) (pe_m1 PySem.F.slot_str_lstrip PySem.F.type_str_lstrip mt_lstripChars (pv 0) pe_str))
 (pss_cons (ps_asg (pe_callB call_divmod (by rfl) T.b_divmod (by decide +kernel) (pa_cons (pe_op op_sub (pe_callB call_len_str (by rfl) T.b_len (by decide +kernel) (pa_cons (pv 0) pa_nil)) (pe_callB call_len_str (by rfl) T.b_len (by decide +kernel) (pa_cons (pv 1) pa_nil))) (pa_cons (pe_callB call_len_str (by rfl) T.b_len (by decide +kernel) (pa_cons (C8.pe_gc (by rfl) T.c_INDENT) pa_nil)) pa_nil))) (pg_tup rfl (pgs_cons (pg_name (i := 2) nd rfl (Or.inl rfl)) (pgs_cons (pg_name (i := 3) nd rfl (Or.inl rfl)) pgs_nil))))
 (pss_cons (ps_set (i := 4) nd rfl (Or.inl rfl) (pe_split (pv 1) pe_str))
 (pss_cons (ps_set (i := 5) nd rfl (Or.inl rfl) (pe_call G_values_in (hr.mono (by decide)) (by rfl) T.g_values_in T.F_values_in.kp T.bi_values_in .nil pass0 (pa_cons (pv 4) pa_nil)))
 (pss_cons (ps_if (PW.pt (pw_or (pt_cmpR op_gt (pv 3) pe_int (nomark _)) (pw_or1 (pt_cmpR op_isN (pv 5) pe_non (nomark _)))))
  (pss_one (ps_ret pe_non))
  pss_nil)
 (pss_cons (ps_try_only rfl rfl ⟨by rfl, by decide, .inl T.g_BadSetting⟩ takes_none5 (fun W pn xe tk po => (pss_one (ps_if (pt_cmpR op_eq (pe_ix (ixlK (K := K)) (pv 4) pe_int (fun _ _ => rfl)) pe_str (nomark _))
  (pss_one (ps_expr (pe_call G_worker_of (hr.mono (by decide)) (by rfl) T.g_worker_of T.F_worker_of.kp T.bi_worker_of .nil pass0 (pa_cons (pv 5) pa_nil))))
  (pss_one (ps_expr (pe_call G_supervisor_of (hr.mono (by decide)) (by rfl) T.g_supervisor_of T.F_supervisor_of.kp T.bi_supervisor_of .nil pass0 (pa_cons (pv 5) (pa_cons (pe_lst pa_nil) pa_nil))))))))
  (fun oa oe cls d pn hz hv => pss_dead))
 (pss_one (ps_ret (pe_tup (pa_cons (pv 2) (pa_cons (pe_cmpR op_eq (pe_ix (ixlK (K := K)) (pv 4) pe_int (fun _ _ => rfl)) pe_str (nomark _)) (pa_cons (pv 5) pa_nil)))))))))))), ?_⟩
    obtain ⟨wl, wk⟩ := item_words hok
    obtain ⟨c, cs, ej, hc⟩ := join_head q.2
    have ll := line_len hok
    have strip : Txt.lstripChars (lineI q) " " = Txt.join " " (Item.words q.2) := lstrip_ind ej hc
    have lens : (lineI q).length = 2 * q.1 + (Txt.join " " (Item.words q.2)).length := by
      unfold lineI
      rw [TL.len_tl, TL.tl_append, List.length_append, tl_ind, List.length_replicate, ← TL.len_tl]
    have split : Txt.split (Txt.join " " (Item.words q.2)) " " = Item.words q.2 := TL.split_join (y := " ") (s := 32) (S := []) (by decide) (by decide +kernel) (fun e => by rw [e] at wl; cases wl) fun z hz => (wk z hz).2.1
    have big : 1000 ≤ sizeLine := by decide
    generalize Txt.join " " (Item.words q.2) = bare at *
    refine ⟨_, rfl, ⟨_, rfl⟩, lineI q, " ", rfl, rfl, by omega, ?_⟩
    rw [strip]
    refine ⟨_, rfl, lineI q, rfl, by omega, _, rfl, bare, rfl, by omega, _, _, rfl, rfl, "  ", rfl, by decide, _, _, rfl, (show CDiv _ ((("  " : Str).length : Nat) : Int) from ⟨by decide, by decide⟩), fun p hp => ⟨p, _, rfl, .of upd_same, rfl, _, _, rfl, _, _, rfl, rfl, ?_⟩⟩
    have e1 : ((lineI q).length - (bare.length : Int)) / ((("  " : Str).length : Nat) : Int) = (q.1 : Int) := by
      have : (("  " : Str).length : Nat) = 2 := by decide
      rw [this, lens]
      omega
    have e2 : ((lineI q).length - (bare.length : Int)) % ((("  " : Str).length : Nat) : Int) = 0 := by
      have : (("  " : Str).length : Nat) = 2 := by decide
      rw [this, lens]
      omega
    dsimp only
    rw [e1, e2]
    have s1 := same_new (o := .tup [V.int q.1, .int 0]) hp
    generalize upd H p (.tup [V.int q.1, .int 0]) = H1 at s1 ⊢
    refine ⟨_, rfl, ⟨_, rfl⟩, bare, " ", rfl, rfl, by decide, by omega, fun l hl => ?_⟩
    rw [split]
    have s2 := s1.trans (same_new (o := .lst ((Item.words q.2).map V.str)) hl)
    have el : upd H1 l (.lst ((Item.words q.2).map V.str)) l = some (.lst ((Item.words q.2).map V.str)) := upd_same
    generalize upd H1 l (.lst ((Item.words q.2).map V.str)) = H2 at s2 el ⊢
    refine ⟨_, rfl, l, q.2, rfl, hok, el, fun v H3 s3 hv => ?_⟩
    have hvr : ∃ m, v = .ref m := by
      obtain ⟨lv, it⟩ := q
      cases it with
      | inl d => obtain ⟨m, _, e, _⟩ := hv; exact ⟨m, e⟩
      | inr d => obtain ⟨m, e, _⟩ := hv; exact ⟨m, e⟩
    obtain ⟨m, rfl⟩ := hvr
    dsimp only
    show tSeq _ _ _ _ _
    refine st_no (evb_or (a := false) (evb_cmpF (ev_var rfl) ev_c (by decide)) fun _ => (fun Q q => ⟨_, rfl, rfl, false, rfl, q⟩)) ?_
    have el3 := s3 _ _ el
    have last : ∀ H4, Same H3 H4 → tRet (tTup (tCons (tVar 2) (tCons (tOp rEq (tOp (rIxL K) (tVar 4) (tC (.int 0))) (tC (.str "supervisor"))) (tCons (tVar 5) tNil)))) { nx := fun _ H' => Q .non H', rt := Q } [some (.str (lineI q)), some (.str bare), some (.int q.1), some (.int 0), some (.ref l), some (.ref m)] H4 := by
      intro H4 s4
      obtain ⟨lv, it⟩ := q
      cases it with
      | inl d => exact ⟨_, rfl, _, rfl, l, _, 0, .str "worker", rfl, rfl, .of (s4 _ _ el3), rfl, rfl, _, rfl, (by decide : 3 ≤ sizeLine), fun r hr => k (.ref r) _ (((s2.trans s3).trans s4).trans (same_new hr)) ⟨r, .ref m, rfl, upd_same, iv_kpl (KpL.same (s4.trans (same_new hr))) hv⟩⟩
      | inr d => exact ⟨_, rfl, _, rfl, l, _, 0, .str "supervisor", rfl, rfl, .of (s4 _ _ el3), rfl, rfl, _, rfl, (by decide : 3 ≤ sizeLine), fun r hr => k (.ref r) _ (((s2.trans s3).trans s4).trans (same_new hr)) ⟨r, .ref m, rfl, upd_same, iv_kpl (KpL.same (s4.trans (same_new hr))) hv⟩⟩
    obtain ⟨lv, it⟩ := q
    cases it with
    | inl d =>
      refine st_if (b := true) (evb_eqS (x := "worker") (ev_ixL rfl el3 rfl) ev_c rfl) ?_
      exact ⟨_, rfl, .ref m, d, rfl, hok, hv, fun v' H4 s4 _ => last H4 s4⟩
    | inr d =>
      refine st_if (b := false) (evb_eqS (x := "supervisor") (ev_ixL rfl el3 rfl) ev_c rfl) ?_
      refine ⟨_, rfl, Nat.zero_le _, fun r hr => ⟨.ref m, r, d, [], [], rfl, hok, mn_sv _ _ _ (same_new hr) hv, upd_same, trivial, by decide, by decide, by decide, fun v' H4 s4 _ => last H4 ((same_new hr).trans s4)⟩⟩
end
end W48

set_option Elab.async false
set_option linter.all false
set_option maxRecDepth 100000
set_option maxHeartbeats 4000000
namespace W48
open PySem PySem.Spec PyProof.Rows L2 WXG WEv WRd WLf WEn WZs WRu WSt StX WDc
/-! ### the way down to a row, and how many children each has -/
abbrev St2 := List Bool × List Int
def bump (l : Nat) (c : List Int) : List Int := (c.take l).set (l - 1) (c.getD (l - 1) 0 + 1)
def stp (s : St2) (q : Nat × Item) : St2 := (s.1.take q.1 ++ [Item.sup q.2], bump q.1 s.2 ++ [0])
def Gd (s : St2) (q : Nat × Item) : Prop := q.1 ≤ s.1.length ∧ s.1.length = s.2.length ∧ (0 < q.1 → s.1[q.1 - 1]? = some true ∧ ∃ k, s.2[q.1 - 1]? = some k ∧ k < 12)
def Runs : St2 → List (Nat × Item) → St2 → Prop
  | s, [], s' => s = s'
  | s, q :: r, s' => Gd s q ∧ Runs (stp s q) r s'
theorem Runs.app : ∀ {r r' : List (Nat × Item)} {s s' s'' : St2}, Runs s r s' → Runs s' r' s'' → Runs s (r ++ r') s''
  | [], _, _, _, _, h, h' => by
    cases h
    exact h'
  | _ :: r, _, _, _, _, h, h' => ⟨h.1, h.2.app h'⟩
theorem stp_facts {s : St2} {l : Nat} {it : Item} (hl : s.1.length = s.2.length) (hle : l ≤ s.1.length) : (stp s (l, it)).1.length = l + 1 ∧ (stp s (l, it)).2.length = l + 1 ∧ (∀ i, i < l → (stp s (l, it)).1[i]? = s.1[i]?) ∧ (stp s (l, it)).1[l]? = some (Item.sup it) ∧
    (∀ i, i + 1 < l → (stp s (l, it)).2[i]? = s.2[i]?) ∧ (0 < l → ∀ k, s.2[l - 1]? = some k → (stp s (l, it)).2[l - 1]? = some (k + 1)) ∧ (stp s (l, it)).2[l]? = some 0 := by
  have hb : (bump l s.2).length = l := by
    unfold bump
    rw [List.length_set, List.length_take]
    omega
  refine ⟨?_, ?_, fun i hi => ?_, ?_, fun i hi => ?_, fun h0 k hk => ?_, ?_⟩
  · show (s.1.take l ++ [Item.sup it]).length = _
    rw [List.length_append, List.length_take]
    simp
    omega
  · show (bump l s.2 ++ [0]).length = _
    rw [List.length_append, hb]
    rfl
  · show (s.1.take l ++ [Item.sup it])[i]? = _
    rw [List.getElem?_append_left (by rw [List.length_take]; omega), List.getElem?_take_of_lt hi]
  · show (s.1.take l ++ [Item.sup it])[l]? = _
    rw [List.getElem?_append_right (by rw [List.length_take]; omega), List.length_take, Nat.min_eq_left hle, Nat.sub_self]
    rfl
  · show (bump l s.2 ++ [0])[i]? = _
    rw [List.getElem?_append_left (by omega)]
    unfold bump
    rw [List.getElem?_set_ne (by omega), List.getElem?_take_of_lt (by omega)]
  · show (bump l s.2 ++ [0])[l - 1]? = _
    rw [List.getElem?_append_left (by omega)]
    unfold bump
    rw [List.getElem?_set_self (by rw [List.length_take]; omega), List.getD_eq_getElem?_getD, hk]
    rfl
  · show (bump l s.2 ++ [0])[l]? = _
    rw [List.getElem?_append_right (by omega), hb, Nat.sub_self]
    rfl
def FR (n : Nat) : Prop := ∀ (t : Told n) (l : Nat) (s : St2), Told.Ok n t → s.1.length = s.2.length → l ≤ s.1.length → (0 < l → s.1[l - 1]? = some true ∧ ∃ k, s.2[l - 1]? = some k ∧ k < 12) →
  ∃ s', Runs s (Told.flat n t l) s' ∧ s'.1.length = s'.2.length ∧ l < s'.1.length ∧ (∀ i, i < l → s'.1[i]? = s.1[i]?) ∧ (∀ i, i + 1 < l → s'.2[i]? = s.2[i]?) ∧ (0 < l → ∀ k, s.2[l - 1]? = some k → s'.2[l - 1]? = some (k + 1))
theorem fr_all {n : Nat} (ih : FR n) (l : Nat) : ∀ (ts : List (Told n)) (s : St2) (j : Int), (∀ t ∈ ts, Told.Ok n t) → s.1.length = s.2.length → l < s.1.length → s.1[l]? = some true → s.2[l]? = some j → j + ts.length ≤ 12 →
    ∃ s', Runs s (ts.flatMap fun t => Told.flat n t (l + 1)) s' ∧ s'.1.length = s'.2.length ∧ l < s'.1.length ∧ (∀ i, i ≤ l → s'.1[i]? = s.1[i]?) ∧ (∀ i, i < l → s'.2[i]? = s.2[i]?)
  | [], s, j, _, h1, h2, _, _, _ => ⟨s, rfl, h1, h2, fun _ _ => rfl, fun _ _ => rfl⟩
  | t :: ts, s, j, hok, h1, h2, h3, h4, h5 => by
    rw [List.length_cons] at h5
    obtain ⟨s2, r2, a1, a2, a3, a4, a5⟩ := ih t (l + 1) s (hok t List.mem_cons_self) h1 (by omega) fun _ => ⟨h3, j, h4, by omega⟩
    have a5' := a5 (by omega) j h4
    obtain ⟨s3, r3, b1, b2, b3, b4⟩ := fr_all ih l ts s2 (j + 1) (fun t ht => hok t (List.mem_cons_of_mem _ ht)) a1 (by omega) ((a3 l (by omega)).trans h3) a5' (by omega)
    exact ⟨s3, r2.app r3, b1, b2, fun i hi => (b3 i hi).trans (a3 i (by omega)), fun i hi => (b4 i hi).trans (a4 i (by omega))⟩
theorem flat_runs : ∀ n, FR n
  | 0 => fun t => by cases t
  | n + 1 => fun t l s hok hlen hle hp => by
    cases t with
    | inl d =>
      obtain ⟨f1, f2, f3, f4, f5, f6, f7⟩ := stp_facts (it := .inl d) hlen hle
      exact ⟨stp s (l, .inl d), ⟨⟨hle, hlen, hp⟩, rfl⟩, f1.trans f2.symm, by omega, f3, f5, f6⟩
    | inr x =>
      obtain ⟨d, ts⟩ := x
      obtain ⟨f1, f2, f3, f4, f5, f6, f7⟩ := stp_facts (it := .inr d) hlen hle
      have h4 : ts.length ≤ 4 := hok.2.1
      obtain ⟨s3, r3, b1, b2, b3, b4⟩ := fr_all (flat_runs n) l ts (stp s (l, .inr d)) 0 hok.2.2 (f1.trans f2.symm) (by omega) f4 f7 (by omega)
      exact ⟨s3, ⟨⟨hle, hlen, hp⟩, r3⟩, b1, b2, fun i hi => (b3 i (by omega)).trans (f3 i hi), fun i hi => (b4 i (by omega)).trans (f5 i hi), fun h0 k hk => (b4 (l - 1) (by omega)).trans (f6 h0 k hk)⟩
theorem flat_cons : ∀ (n : Nat) (t : Told n) (l : Nat), (∃ it rest, Told.flat n t l = (l, it) :: rest ∧ ∀ q ∈ rest, l < q.1) ∨ Told.flat n t l = []
  | 0, t, _ => by cases t
  | n + 1, .inl d, l => .inl ⟨.inl d, [], rfl, fun q hq => by cases hq⟩
  | n + 1, .inr (d, ts), l => .inl ⟨.inr d, _, rfl, fun q hq => by
    obtain ⟨t, ht, hq⟩ := List.mem_flatMap.mp hq
    rcases flat_cons n t (l + 1) with ⟨it, rest, e, h⟩ | e
    · rw [e] at hq
      rcases List.mem_cons.mp hq with rfl | hq
      · exact Nat.lt_succ_self l
      · have := h q hq
        omega
    · rw [e] at hq
      cases hq⟩
theorem cut_take (xs : List V) (k : Nat) : cutV xs none (some (k : Int)) = xs.take k := by
  unfold cutV
  rw [HT.sIx_none, HT.sIx_nat, List.drop_zero, Nat.sub_zero]
  rcases Nat.le_total k xs.length with h | h
  · rw [Nat.min_eq_left h]
  · rw [Nat.min_eq_right h, List.take_length, List.take_of_length_le h]
theorem ixN_last {n : Nat} (h : 0 < n) : ixN n (-1) = some (n - 1) := by
  unfold ixN
  simp
  omega
theorem atI_last {xs : List V} {v : V} (h : xs[xs.length - 1]? = some v) : atI xs (-1) = some v := by
  have hl := (List.getElem?_eq_some_iff.mp h).1
  unfold atI
  rw [ixN_last (by omega)]
  exact h
end W48

set_option Elab.async false
set_option linter.all false
set_option maxRecDepth 100000
set_option maxHeartbeats 4000000
namespace W48
open PySem PySem.Spec PyProof.Rows L2 WXG WEv WRd WLf WEn WZs WRu WSt StX WDc
def spRows (n : Nat) : Sp := fun vs H Q _ => ∃ (t : Told n), vs = [.str (Txt.join "\n" ((Told.flat n t 0).map lineI))] ∧ Told.Ok n t ∧ Told.size n t ≤ 16 ∧ n ≤ 15 ∧
  ∀ l ys H', Same H H' → H' l = some (.lst ys) → Fa ((Told.flat n t 0).map RowAt) ys H' → Q (.ref l) H'
theorem line_free {q : Nat × Item} (h : Item.Ok q.2) : 10 ∉ TL.tl (lineI q) := by
  obtain ⟨wl, wk⟩ := item_words h
  unfold lineI
  rw [TL.tl_append, tl_ind, TL.join_eq, TL.tl_join]
  intro m
  rcases List.mem_append.mp m with m | m
  · have := (List.mem_replicate.mp m).2
    cases this
  · have key : ∀ ps : List (List Nat), (∀ p ∈ ps, 10 ∉ p) → 10 ∉ TL.joinL [32] ps := by
      intro ps
      induction ps with
      | nil => intro _ m; cases m
      | cons p ps ih =>
        intro hp m
        cases ps with
        | nil => exact hp p List.mem_cons_self m
        | cons q r =>
          have m : 10 ∈ p ++ ([32] ++ TL.joinL [32] (q :: r)) := m
          rcases List.mem_append.mp m with m | m
          · exact hp p List.mem_cons_self m
          · rcases List.mem_append.mp m with m | m
            · cases List.mem_singleton.mp m
            · exact ih (fun p hp' => hp p (List.mem_cons_of_mem _ hp')) m
    exact key _ (fun p hp => by
      obtain ⟨z, hz, rfl⟩ := List.mem_map.mp hp
      exact (wk z hz).2.2.1) m
theorem rows_text {n : Nat} {t : Told n} (hok : Told.Ok n t) (hz : Told.size n t ≤ 16) (hn : n ≤ 15) (hs : Told.flat n t 0 ≠ []) : Txt.split (Txt.join "\n" ((Told.flat n t 0).map lineI)) "\n" = (Told.flat n t 0).map lineI ∧ (Txt.join "\n" ((Told.flat n t 0).map lineI)).length ≤ 10000 := by
  refine ⟨TL.split_join (y := "\n") (s := 10) (S := []) (by decide) (by decide +kernel) (fun e => hs (List.map_eq_nil_iff.mp e)) fun p hp => ?_, ?_⟩
  · obtain ⟨q, hq, rfl⟩ := List.mem_map.mp hp
    exact line_free (flat_ok n t 0 hok q hq).1
  · refine Nat.le_trans (join_len _ _) ?_
    have key : ∀ qs : List (Nat × Item), (∀ q ∈ qs, Item.Ok q.2 ∧ q.1 ≤ 15) → (((qs.map lineI).map (·.length)).sum ≤ 121 * qs.length) := by
      intro qs
      induction qs with
      | nil => intro _; exact Nat.le_refl _
      | cons q qs ih =>
        intro h
        have h1 := ih fun q hq => h q (List.mem_cons_of_mem _ hq)
        obtain ⟨h2, h3⟩ := h q List.mem_cons_self
        have h4 := line_len h2
        simp only [List.map_cons, List.sum_cons, List.length_cons]
        omega
    have k1 := key (Told.flat n t 0) fun q hq => by
      have := flat_ok n t 0 hok q hq
      exact ⟨this.1, by omega⟩
    have k2 := flat_len n t 0
    have k3 : ("\n" : Str).length = 1 := by decide
    rw [k3, List.length_map]
    omega
theorem size_pos : ∀ (n : Nat) (t : Told n), 1 ≤ Told.size n t
  | 0, t => by cases t
  | n + 1, .inl d => Nat.le_refl _
  | n + 1, .inr (d, ts) => Nat.le_add_right _ _
theorem flat_ne {n : Nat} {t : Told n} {l : Nat} : ∃ it rest, Told.flat n t l = (l, it) :: rest ∧ ∀ q ∈ rest, l < q.1 := by
  rcases flat_cons n t l with h | h
  · exact h
  · have := flat_len n t l
    rw [h] at this
    have := size_pos n t
    simp only [List.length_nil] at *
    omega
/-- if counts != []: counts[-1] += 1 -/
theorem st_bump {K : PySem.W.Frag} {σ : L2.St} {H : Hp} {D : Ends} {c1 : Addr} {c : List Int} {l : Nat} (h : σ[3]? = some (some (.ref c1))) (hc : H c1 = some (.lst ((c.map V.int).take l))) (hl : l ≤ c.length)
    (k : ∀ H1 HD, Same H H1 → (HD = H1 ∨ HD = upd H1 c1 (.lst ((bump l c).map V.int))) → HD c1 = some (.lst ((bump l c).map V.int)) → D.nx σ HD) :
    tIfS (tTest (tOp (rNeN K) (tVar 3) (tLst tNil))) (tAugS (tVar 3) (tUn (rU fun i => .int (-i)) (tC (.int 1))) (tC (.int 1)) (rIxL K) (ipI fun i j => i + j) rSetL) tNext D σ H := by
  have len : ((c.map V.int).take l).length = l := by rw [List.length_take, List.length_map]; omega
  by_cases h0 : l = 0
  · subst h0
    refine s_noN (fun H1 s Q q => ⟨_, h, Nat.zero_le _, fun b hb => ⟨c1, b, _, rfl, rfl, .of ((same_new hb) _ _ (s _ _ hc)), .of upd_same, false, rfl, q _ (same_new hb)⟩⟩) fun H1 s => k H1 H1 s (.inl rfl) ?_
    rw [s _ _ hc]
    unfold bump
    simp
  · obtain ⟨v, hv⟩ : ∃ v, c[l - 1]? = some v := ⟨_, List.getElem?_eq_getElem (by omega)⟩
    refine s_yes (fun H1 s Q q => ⟨_, h, Nat.zero_le _, fun b hb => ⟨c1, b, _, rfl, rfl, .of ((same_new hb) _ _ (s _ _ hc)), .of upd_same, true, ?_, q _ (same_new hb)⟩⟩) fun H1 s => ?_
    · rw [decide_eq_false fun z => by rw [z] at len; exact h0 len.symm]
      rfl
    · refine ⟨_, h, 1, rfl, c1, _, -1, .int v, rfl, rfl, .of (s _ _ hc), atI_last (by rw [len, List.getElem?_take_of_lt (by omega), List.getElem?_map, hv]; rfl), v, 1, rfl, rfl, c1, _, -1, l - 1, rfl, rfl, s _ _ hc, by rw [ixN_last (by omega), len], ?_⟩
      have e : ((c.map V.int).take l).set (l - 1) (.int (v + 1)) = (bump l c).map V.int := by
        unfold bump
        rw [List.getD_eq_getElem?_getD, hv, ← List.map_take, List.map_set]
        rfl
      dsimp only
      rw [e]
      exact k H1 _ s (.inr rfl) upd_same
section
variable {P : Program} {w : World} {K : PySem.W.Frag} {mg : Str → Option Value} {base : Heap}
theorem ok_rows_of (T : Env K mg) (n : Nat) : FnOk P w K mg base CX0 7 (d_rows_of.loc K) T.fd_rows_of ["text"] (spRows n) := by
  have G_row_of : FnOk P w K mg base CX0 6 _ _ _ _ := ok_row_of T
  refine T.F_rows_of.ok sc_rows_of (fun vs H Q E h => ?_) (fun cdv A outer s H vs Q E hr h => ?_)
  · obtain ⟨t, rfl, _⟩ := h
    rfl
  · have nd := sc_rows_of.nd
    have hu := hu_of hr
    obtain ⟨t, rfl, hok, hz, hn, k⟩ := h
    refine ⟨_, PSs.nox (pss_cons (ps_par3 (i := 1) (j := 2) (l := 3) (by rfl) nd rfl rfl rfl (by decide) (by decide) (by decide) rfl rfl rfl (pa_cons (pe_lst pa_nil) (pa_cons (pe_lst pa_nil) (pa_cons (pe_lst pa_nil) pa_nil))) (by rfl))
 (pss_cons (ps_for PassesOwn.never rfl (pi_enumS (by rfl) T.b_enumerate (pa_cons (pe_split (pv 0) pe_str) pa_nil) (pk_cons pe_int pk_nil)) (pg_tup rfl (pgs_cons (pg_name (i := 4) nd rfl (Or.inl rfl)) (pgs_cons (pg_name (i := 5) nd rfl (Or.inl rfl)) pgs_nil)))
  (pss_cons (ps_set (i := 6) nd rfl (Or.inl rfl) (pe_call G_row_of (hr.mono (by decide)) (by rfl) T.g_row_of T.F_row_of.kp T.bi_row_of .nil pass0 (pa_cons (pv 5) pa_nil)))
 (pss_cons (ps_if (PW.pt (pw_or (pt_cmpR op_isN (pv 6) pe_non (nomark _)) (pw_or (pt_cmpR op_gt (pe_ix (ixtK (K := K)) (pv 6) pe_int (fun _ _ => rfl)) (pe_callB call_len_seq (by rfl) T.b_len (by decide +kernel) (pa_cons (pv 2) pa_nil)) (nomark _)) (pw_or1 (pt_cmpR op_ne (pe_cmpR op_eq (pe_ix (ixtK (K := K)) (pv 6) pe_int (fun _ _ => rfl)) pe_int (nomark _)) (pe_cmpR (op_eqN hr.units) (pv 1) (pe_lst pa_nil) (nomark _)) (nomark _))))))
  (pss_one ps_dead)
  pss_nil)
 (pss_cons (ps_if (PW.pt (pw_or (pt_cmpR op_ge (pe_ix (ixtK (K := K)) (pv 6) pe_int (fun _ _ => rfl)) (C8.pe_gc (by rfl) T.c_MOST_DEPTH) (nomark _)) (pw_or1 (pt_cmpR op_gt (pv 4) (C8.pe_gc (by rfl) T.c_MOST_WHOLE) (nomark _)))))
  (pss_one ps_dead)
  pss_nil)
 (pss_cons (ps_par (i := 2) (j := 3) (by rfl) nd rfl rfl (by decide) rfl rfl (pa_cons (pe_slice sl_list (pv 2) po_none (po_some (pe_ix (ixtK (K := K)) (pv 6) pe_int (fun _ _ => rfl)))) (pa_cons (pe_slice sl_list (pv 3) po_none (po_some (pe_ix (ixtK (K := K)) (pv 6) pe_int (fun _ _ => rfl)))) pa_nil)) (by rfl))
 (pss_cons (ps_if (PW.pt (pw_and (pt_cmpR (op_neN hr.units) (pv 2) (pe_lst pa_nil) (nomark _)) (pw_and1 (PW.pt (pw_or (pt_not (pt_val (pe_ix (ixlK (K := K)) (pv 2) (pe_un un_neg pe_int) (fun _ _ => rfl)))) (pw_or1 (pt_cmpR op_eq (pe_ix (ixlK (K := K)) (pv 3) (pe_un un_neg pe_int) (fun _ _ => rfl)) (C8.pe_gc (by rfl) T.c_MOST_CHILDREN) (nomark _))))))))
  (pss_one ps_dead)
  pss_nil)
 (pss_cons (ps_if (pt_cmpR (op_neN hr.units) (pv 3) (pe_lst pa_nil) (nomark _))
  (pss_one (ps_augS (pv 3) (pe_un un_neg pe_int) pget_list pe_int ip_add set_list))
  pss_nil)
 (pss_cons (ps_par (i := 2) (j := 3) (by rfl) nd rfl rfl (by decide) rfl rfl (pa_cons (pe_op op_cat (pv 2) (pe_lst (pa_cons (pe_ix (ixtK (K := K)) (pv 6) pe_int (fun _ _ => rfl)) pa_nil))) (pa_cons (pe_op op_cat (pv 3) (pe_lst (pa_cons pe_int pa_nil))) pa_nil)) (by rfl))
 (pss_one (ps_expr (pe_bm PySem.F.plainAttrs_list PySem.F.slot_list_append PySem.F.type_list_append mt_append (pv 1) (pa_cons (pv 6) pa_nil))))))))))))
 (pss_one (ps_ret (pv 1))))), ?_⟩
    obtain ⟨it0, rest, ef, hrest⟩ := flat_ne (n := n) (t := t) (l := 0)
    obtain ⟨split, tlen⟩ := rows_text hok hz hn (by rw [ef]; simp)
    obtain ⟨sN, hruns, _⟩ := flat_runs n t 0 ([], []) hok rfl (Nat.le_refl _) (fun z => absurd z (Nat.lt_irrefl _))
    have fok := flat_ok n t 0 hok
    have flen := flat_len n t 0
    generalize Told.flat n t 0 = rows at *
    generalize htxt : Txt.join "\n" (rows.map lineI) = text at *
    have rlen : rows.length ≤ 16 := by omega
    have big : 20000 ≤ sizeLine := by decide
    -- found, way, counts = [], [], []
    refine ⟨Nat.zero_le _, fun lf hlf => ⟨Nat.zero_le _, fun lw hlw => ⟨Nat.zero_le _, fun lc hlc => ⟨_, _, _, rfl, ?_⟩⟩⟩⟩
    have s1 : Same H (upd H lf (.lst [])) := same_new hlf
    have ef1 : upd H lf (.lst []) lf = some (.lst []) := upd_same
    generalize upd H lf (.lst []) = H1 at *
    have s2 : Same H1 (upd H1 lw (.lst [])) := same_new hlw
    have ew2 : upd H1 lw (.lst []) lw = some (.lst []) := upd_same
    generalize upd H1 lw (.lst []) = H2 at *
    have s3 : Same H2 (upd H2 lc (.lst [])) := same_new hlc
    have ec3 : upd H2 lc (.lst []) lc = some (.lst []) := upd_same
    generalize upd H2 lc (.lst []) = H3 at *
    have ef3 := s3 _ _ (s2 _ _ ef1)
    have ew3 := s3 _ _ ew2
    have s123 := (s1.trans s2).trans s3
    refine ⟨_, rfl, ⟨_, rfl⟩, text, "\n", rfl, rfl, by decide, by omega, fun a ha => ?_⟩
    rw [split]
    have s4 : Same H3 (upd H3 a (.lst ((rows.map lineI).map V.str))) := same_new ha
    have ea : upd H3 a (.lst ((rows.map lineI).map V.str)) a = some (.lst ((rows.map lineI).map V.str)) := upd_same
    generalize upd H3 a (.lst ((rows.map lineI).map V.str)) = H4 at *
    have af : a ≠ lf := fun z => by rw [z, ef3] at ha; cases ha
    refine ⟨a, _, 1, rfl, rfl, .of ea, by decide, by decide, ?_⟩
    show ∃ W, _
    have llen : ((rows.map lineI).map V.str).length = rows.length := by rw [List.length_map, List.length_map]
    refine for_it (walk_enumC (K := K) (t := false) (c := 1) (a := a) (xs := (rows.map lineI).map V.str)) (fun i σ H' => ∃ (s : St2) (lw lc : Addr) (ys : List V) (a4 a5 a6 : Option V), σ = [some (.str text), some (.ref lf), some (.ref lw), some (.ref lc), a4, a5, a6] ∧ Same H H' ∧ H' a = some (.lst ((rows.map lineI).map V.str)) ∧ H' lf = some (.lst ys) ∧ Fa ((rows.take i).map RowAt) ys H' ∧ H' lw = some (.lst (s.1.map V.bl)) ∧ H' lc = some (.lst (s.2.map V.int)) ∧ Runs s (rows.drop i) sN)
      ⟨([], []), lw, lc, [], none, none, none, rfl, s123.trans s4, ea, s4 _ _ ef3, trivial, s4 _ _ ew3, s4 _ _ ec3, hruns⟩ (fun i σ H' _ q => ?_) (fun i y σ H5 H6 hi q yy => ?_) (fun σ H5 q => ?_)
    · obtain ⟨_, _, _, _, _, _, _, _, _, ha', _⟩ := q
      exact (show SqL K H' a _ from .of ha')
    · obtain ⟨s, lw, lc, ys, a4, a5, a6, rfl, s5, ea5, ef5, fa5, ew5, ec5, rn⟩ := q
      obtain ⟨t0, u, g, rfl, ht0, rfl, eu, eg⟩ := yy
      rw [llen] at hi
      obtain ⟨q, hq⟩ : ∃ q, rows[i]? = some q := ⟨_, List.getElem?_eq_getElem hi⟩
      have hqm := List.mem_of_getElem? hq
      have eg : ((rows.map lineI).map V.str)[i]? = some g := eg
      rw [List.getElem?_map, List.getElem?_map, hq] at eg
      cases eg
      have eu : some (V.int (1 + (i : Nat))) = some u := eu
      cases eu
      have hlf0 : H lf = none := hlf
      refine ⟨t0, _, rfl, .of upd_same, rfl, _, _, rfl, _, _, rfl, rfl, ?_⟩
      have st0 := same_new (o := .tup [V.int (1 + (i : Nat)), .str (lineI q)]) ht0
      generalize upd H5 t0 (.tup [V.int (1 + (i : Nat)), .str (lineI q)]) = H6 at st0 ⊢
      refine ⟨_, rfl, q, rfl, (fok q hqm).1, by have := (fok q hqm).2; omega, fun v H7 s7 hrow => ?_⟩
      have s57 := st0.trans s7
      have ef7 := s57 _ _ ef5
      have ew7 := s57 _ _ ew5
      have ec7 := s57 _ _ ec5
      have ea7 := s57 _ _ ea5
      have fa7 := rows_kpl (KpL.same s57) fa5
      obtain ⟨p, m, rfl, hp, hiv⟩ := hrow
      have hd : rows.drop i = q :: rows.drop (i + 1) := by
        have := (List.getElem?_eq_some_iff.mp hq)
        rw [← this.2]
        exact List.drop_eq_getElem_cons this.1
      rw [hd] at rn
      obtain ⟨⟨g1, g2, g3⟩, rn⟩ := rn
      have hq15 : q.1 ≤ 15 := by have := (fok q hqm).2; omega
      have hpos : q.1 = 0 ↔ i = 0 := by
        rw [ef] at hq
        cases i with
        | zero => cases hq; simp
        | succ i =>
          have := hrest q (List.mem_of_getElem? hq)
          simp
          omega
      have ylen : ys.length = i := by
        have := fa5.len
        rw [List.length_map, List.length_take] at this
        omega
      -- what stays
      let C : Hp → Prop := fun H' => Same H H' ∧ H' a = some (.lst ((rows.map lineI).map V.str)) ∧ H' lf = some (.lst ys) ∧ Fa ((rows.take i).map RowAt) ys H' ∧ H' p = some (.tup [.int q.1, .bl (Item.sup q.2), m]) ∧ IV q.2 m H'
      have cs : ∀ H1 H2, Same H1 H2 → C H1 → C H2 := fun H1 H2 s c => ⟨c.1.trans s, s _ _ c.2.1, s _ _ c.2.2.1, rows_kpl (KpL.same s) c.2.2.2.1, s _ _ c.2.2.2.2.1, iv_kpl (KpL.same s) c.2.2.2.2.2⟩
      have c7 : C H7 := ⟨s5.trans s57, ea7, ef7, fa7, hp, hiv⟩
      dsimp only
      show tSeq _ _ _ _ _
      refine s_noN (et_or0 (et_ev fun H8 s8 => (fun Q q => ⟨_, rfl, rfl, false, rfl, q⟩)) (et_or0 (et_ev fun H8 s8 => evb_cmpF (ev_ixT rfl (s8 _ _ hp) rfl) (fun Q q => ⟨_, rfl, lw, _, rfl, .inl (.of (s8 _ _ ew7)), q⟩) (decide_eq_false (by rw [List.length_map]; omega))) (fun H8 s8 Q qq => ?_))) fun H8 s8 => ?_
      · refine ⟨_, rfl, p, _, 0, _, rfl, rfl, .of (s8 _ _ hp), rfl, rfl, _, rfl, Nat.zero_le _, fun b hb => ⟨lf, b, ys, rfl, rfl, .of ((same_new hb) _ _ (s8 _ _ ef7)), .of upd_same, rfl, false, ?_, qq _ (same_new hb)⟩⟩
        have e : decide (V.int q.1 = V.int 0) = decide (ys = []) := by
          rw [decide_eq_decide, ← List.length_eq_zero_iff, ylen, ← hpos]
          constructor
          · intro z
            injection z with z
            omega
          · intro z
            rw [z]
            rfl
        rw [e]
        simp
      dsimp only
      show tSeq _ _ _ _ _
      refine s_noN (et_ev fun H9 s9 => evb_or (a := false) (evb_cmpF (ev_ixT rfl (s9 _ _ (s8 _ _ hp)) rfl) ev_c (decide_eq_false (by omega))) fun _ => evb_cmpF (ev_var rfl) ev_c (decide_eq_false (by omega))) fun H9 s9 => ?_
      have s79 := s8.trans s9
      have c9 := cs _ _ s79 c7
      have ew9 := s79 _ _ ew7
      have ec9 := s79 _ _ ec7
      clear s8 s9 s79 c7 hp hiv ef7 ew7 ec7 ea7 fa7
      -- way, counts = way[:row[0]], counts[:row[0]]
      refine ⟨_, rfl, _, rfl, p, _, 0, _, rfl, rfl, .of c9.2.2.2.2.1, rfl, _, rfl, lw, _, rfl, .of ew9, fun w1 hw1 => ?_⟩
      rw [cut_take]
      have sA := same_new (o := .lst ((s.1.map V.bl).take q.1)) hw1
      have ew1 : upd H9 w1 (.lst ((s.1.map V.bl).take q.1)) w1 = some (.lst ((s.1.map V.bl).take q.1)) := upd_same
      have cA := cs _ _ sA c9
      generalize upd H9 w1 (.lst ((s.1.map V.bl).take q.1)) = HA at *
      refine ⟨_, rfl, _, rfl, p, _, 0, _, rfl, rfl, .of cA.2.2.2.2.1, rfl, _, rfl, lc, _, rfl, .of (sA _ _ ec9), fun c1 hc1 => ?_⟩
      rw [cut_take]
      have sB := same_new (o := .lst ((s.2.map V.int).take q.1)) hc1
      have ec1 : upd HA c1 (.lst ((s.2.map V.int).take q.1)) c1 = some (.lst ((s.2.map V.int).take q.1)) := upd_same
      have cB := cs _ _ sB cA
      have hc0 : H c1 = none := Same.free cA.1 hc1
      have c1a : a ≠ c1 := fun z => by rw [← z, cA.2.1] at hc1; cases hc1
      have c1f : lf ≠ c1 := fun z => by rw [← z, cA.2.2.1] at hc1; cases hc1
      have c1w : w1 ≠ c1 := fun z => by rw [← z, ew1] at hc1; cases hc1
      have ew1B := sB _ _ ew1
      generalize upd HA c1 (.lst ((s.2.map V.int).take q.1)) = HB at *
      refine ⟨_, _, rfl, ?_⟩
      have wl1 : ((s.1.map V.bl).take q.1).length = q.1 := by rw [List.length_take, List.length_map]; omega
      have cl1 : ((s.2.map V.int).take q.1).length = q.1 := by rw [List.length_take, List.length_map]; omega
      dsimp only
      show tSeq _ _ _ _ _
      -- if way != [] and ..
      refine s_noN (fun HC sC Q qq => ⟨_, rfl, Nat.zero_le _, fun b hb => ⟨w1, b, _, rfl, rfl, .of ((same_new hb) _ _ (sC _ _ ew1B)), .of upd_same, _, rfl, ?_⟩⟩) fun HC sC => ?_
      · by_cases h0 : q.1 = 0
        · rw [show (!decide ((s.1.map V.bl).take q.1 = [])) = false by rw [decide_eq_true (List.length_eq_zero_iff.mp (wl1.trans h0))]; rfl]
          exact qq _ (same_new hb)
        · obtain ⟨gw, kc, gk, gl⟩ := g3 (by omega)
          rw [show (!decide ((s.1.map V.bl).take q.1 = [])) = true by rw [decide_eq_false fun z => by rw [z] at wl1; exact h0 wl1.symm]; rfl]
          refine ⟨_, rfl, 1, rfl, w1, _, -1, .bl true, rfl, rfl, .of ((same_new hb) _ _ (sC _ _ ew1B)), atI_last (by rw [wl1, List.getElem?_take_of_lt (by omega), List.getElem?_map, gw]; rfl), true, rfl, ?_⟩
          refine ⟨_, rfl, 1, rfl, c1, _, -1, .int kc, rfl, rfl, .of ((same_new hb) _ _ (sC _ _ ec1)), atI_last (by rw [cl1, List.getElem?_take_of_lt (by omega), List.getElem?_map, gk]; rfl), rfl, false, ?_, qq _ (same_new hb)⟩
          rw [decide_eq_false (fun z => by injection z with z; omega)]
      dsimp only
      show tSeq _ _ _ _ _
      refine st_bump (c := s.2) (l := q.1) rfl (sC _ _ ec1) (by omega) fun H1 HD sD hD ecD => ?_
      have c1' := cs _ _ (sC.trans sD) cB
      have ew1' := (sC.trans sD) _ _ ew1B
      have hDD : C HD ∧ HD w1 = some (.lst ((s.1.map V.bl).take q.1)) := by
        rcases hD with rfl | rfl
        · exact ⟨c1', ew1'⟩
        · have kp : KpL H1 (upd H1 c1 (.lst ((bump q.1 s.2).map V.int))) := KpL.lst ((sC.trans sD) _ _ ec1)
          exact ⟨⟨same_put c1'.1 hc0, by rw [upd_ne c1a]; exact c1'.2.1, by rw [upd_ne c1f]; exact c1'.2.2.1, rows_kpl kp c1'.2.2.2.1, kp _ _ c1'.2.2.2.2.1 (fun _ z => nomatch z), iv_kpl kp c1'.2.2.2.2.2⟩, by rw [upd_ne c1w]; exact ew1'⟩
      obtain ⟨cD, ewD⟩ := hDD
      clear c1' ew1' hD sD sC cB ew1B ec1
      have bl : (bump q.1 s.2).length = q.1 := by
        unfold bump
        rw [List.length_set, List.length_take]
        omega
      dsimp only
      show tSeq _ _ _ _ _
      -- way + [row[1]], counts + [0]
      refine ⟨_, rfl, _, rfl, p, _, 1, _, rfl, rfl, .of cD.2.2.2.2.1, rfl, (by decide : 1 ≤ sizeLine), fun x hx => ?_⟩
      refine ⟨w1, x, _, _, rfl, rfl, (same_new hx) _ _ ewD, upd_same, by rw [wl1]; exact Nat.le_trans (show q.1 + 1 ≤ 20000 by omega) big, fun w2 hw2 => ?_⟩
      have sE := (same_new (o := .lst [V.bl (Item.sup q.2)]) hx).trans (same_new (o := .lst ((s.1.map V.bl).take q.1 ++ [V.bl (Item.sup q.2)])) hw2)
      have ew2 : upd (upd HD x (.lst [V.bl (Item.sup q.2)])) w2 (.lst ((s.1.map V.bl).take q.1 ++ [V.bl (Item.sup q.2)])) w2 = some (.lst ((s.1.map V.bl).take q.1 ++ [V.bl (Item.sup q.2)])) := upd_same
      have w2f : w2 ≠ lf := fun z => by rw [z, (same_new hx) _ _ cD.2.2.1] at hw2; cases hw2
      generalize upd (upd HD x (.lst [V.bl (Item.sup q.2)])) w2 (.lst ((s.1.map V.bl).take q.1 ++ [V.bl (Item.sup q.2)])) = HE at *
      have cE := cs _ _ sE cD
      refine ⟨_, rfl, (by decide : 1 ≤ sizeLine), fun x2 hx2 => ?_⟩
      refine ⟨c1, x2, _, _, rfl, rfl, (same_new hx2) _ _ (sE _ _ ecD), upd_same, by rw [List.length_map, bl]; exact Nat.le_trans (show q.1 + 1 ≤ 20000 by omega) big, fun c2 hc2 => ⟨_, _, rfl, ?_⟩⟩
      have sF := (same_new (o := .lst [V.int 0]) hx2).trans (same_new (o := .lst ((bump q.1 s.2).map V.int ++ [V.int 0])) hc2)
      have ec2 : upd (upd HE x2 (.lst [V.int 0])) c2 (.lst ((bump q.1 s.2).map V.int ++ [V.int 0])) c2 = some (.lst ((bump q.1 s.2).map V.int ++ [V.int 0])) := upd_same
      have c2f : c2 ≠ lf := fun z => by rw [z, (same_new hx2) _ _ cE.2.2.1] at hc2; cases hc2
      generalize upd (upd HE x2 (.lst [V.int 0])) c2 (.lst ((bump q.1 s.2).map V.int ++ [V.int 0])) = HF at *
      have cF := cs _ _ sF cE
      have ew2F := sF _ _ ew2
      -- found.append(row)
      refine ⟨_, rfl, .inl ⟨rfl, _, .of cF.2.2.1⟩, _, rfl, lf, ys, .ref p, rfl, rfl, cF.2.2.1, Nat.lt_of_le_of_lt (show ys.length ≤ 1000 by omega) (by decide), ?_⟩
      have kp : KpL HF (upd HF lf (.lst (ys ++ [V.ref p]))) := KpL.lst cF.2.2.1
      refine ⟨stp s q, w2, c2, ys ++ [.ref p], _, _, _, rfl, same_put cF.1 hlf0, by rw [upd_ne af]; exact cF.2.1, upd_same, ?_, ?_, ?_, rn⟩
      · rw [List.take_succ, hq, List.map_append]
        exact (rows_kpl kp cF.2.2.2.1).app ⟨row_kpl kp ⟨p, m, rfl, cF.2.2.2.2.1, cF.2.2.2.2.2⟩, trivial⟩
      · rw [upd_ne w2f, ew2F]
        show _ = some (HO.lst ((s.1.take q.1 ++ [Item.sup q.2]).map V.bl))
        rw [List.map_append, List.map_take]
        rfl
      · rw [upd_ne c2f, ec2]
        show _ = some (HO.lst ((bump q.1 s.2 ++ [0]).map V.int))
        rw [List.map_append]
        rfl
    · obtain ⟨s, lw, lc, ys, a4, a5, a6, rfl, s5, ea5, ef5, fa5, ew5, ec5, rn⟩ := q
      rw [llen, List.take_length] at fa5
      exact st_ret (ev_var rfl) (k lf ys H5 s5 ef5 fa5)
end
end W48

set_option Elab.async false
set_option linter.all false
set_option maxRecDepth 100000
set_option maxHeartbeats 4000000
namespace W48
open PySem PySem.Spec PyProof.Rows L2 WXG WEv WRd WLf WEn WZs WRu WSt StX WDc
def spPlanOf (K : PySem.W.Frag) (n : Nat) : Sp := fun vs H Q _ => ∃ (l : Addr) (ys : List V) (pre post : List (Nat × Item)) (t : Told n) (lv : Nat), vs = [.ref l, .int (pre.length : Nat)] ∧ H l = some (.lst ys) ∧ Fa ((pre ++ (Told.flat n t lv ++ post)).map RowAt) ys H ∧ (∀ q r, post = q :: r → q.1 ≤ lv) ∧
  Told.Ok n t ∧ Told.size n t ≤ 16 ∧ n ≤ 15 ∧ ∀ p v H', Same H H' → H' p = some (.tup [v, .int ((pre.length + Told.size n t : Nat) : Int)]) → PAt K n t v H' → Q (.ref p) H'
theorem row_get {qs : List (Nat × Item)} {ys : List V} {H : Hp} (h : Fa (qs.map RowAt) ys H) {i : Nat} {q : Nat × Item} (hq : qs[i]? = some q) : ∃ x, ys[i]? = some x ∧ RowAt q x H := h.get (n := i) (P := RowAt q) (by rw [List.getElem?_map, hq]; rfl)
theorem flatMap_len {n : Nat} (l : Nat) (ts : List (Told n)) : (ts.flatMap fun t => Told.flat n t l).length = (ts.map (Told.size n)).sum := by
  rw [List.length_flatMap]
  congr 1
  exact List.map_congr_left fun t _ => flat_len n t l
/-- a told tuple: its own item and what is below -/
theorem told_cut {n : Nat} (t : Told (n + 1)) (lv : Nat) (hok : Told.Ok (n + 1) t) : ∃ (it : Item) (ts : List (Told n)), Told.flat (n + 1) t lv = (lv, it) :: ts.flatMap (fun t => Told.flat n t (lv + 1)) ∧ Told.size (n + 1) t = 1 + (ts.map (Told.size n)).sum ∧ ts.length ≤ 4 ∧ (∀ t ∈ ts, Told.Ok n t) ∧
    ((∃ d : WD, it = .inl d ∧ ts = [] ∧ t = Sum.inl d ∧ d.Ok) ∨ (∃ d : SD, it = .inr d ∧ t = Sum.inr (d, ts) ∧ d.Ok)) := by
  cases t with
  | inl d => exact ⟨.inl d, [], rfl, rfl, Nat.zero_le 4, (fun t h => by cases h), .inl ⟨d, rfl, rfl, rfl, hok⟩⟩
  | inr x =>
    obtain ⟨d, ts⟩ := x
    exact ⟨.inr d, ts, rfl, rfl, hok.2.1, hok.2.2, .inr ⟨d, rfl, rfl, hok.1⟩⟩
section
variable {P : Program} {w : World} {K : PySem.W.Frag} {mg : Str → Option Value} {base : Heap}
theorem ok_plan_of (T : Env K mg) : ∀ n, FnOk P w K mg base CX0 (n + 6) (d_plan_of.loc K) T.fd_plan_of ["rows", "at"] (spPlanOf K n)
  | 0 => T.F_plan_of.ok sc_plan_of (fun vs H Q E (h : spPlanOf K 0 vs H Q E) => by obtain ⟨_, _, _, _, t, _⟩ := h; cases t) (fun cdv A outer s H vs Q E hr (h : spPlanOf K 0 vs H Q E) => by obtain ⟨_, _, _, _, t, _⟩ := h; cases t)
  | n + 1 => by
    have G_plan_of : FnOk P w K mg base CX0 (n + 6) _ _ _ _ := ok_plan_of T n
    have G_worker_of : FnOk P w K mg base CX0 5 _ _ _ _ := ok_worker_of T
    have G_supervisor_of : FnOk P w K mg base CX0 5 _ _ _ _ := ok_supervisor_of T n
    refine T.F_plan_of.ok sc_plan_of (fun vs H Q E h => ?_) (fun cdv A outer s H vs Q E hr h => ?_)
    · obtain ⟨_, _, _, _, _, _, rfl, _⟩ := h
      rfl
    · have nd := sc_plan_of.nd
      have hu := hu_of hr
      obtain ⟨l, ys, pre, post, t, lv, rfl, hl, fa, hpost, hok, hz, hn, k⟩ := h
      refine ⟨_, PSs.nox (pss_cons (ps_asg (pe_ix (ixlK (K := K)) (pv 0) (pv 1) (fun _ _ => rfl)) (pg_tup rfl (pgs_cons (pg_name (i := 2) nd rfl (Or.inl rfl)) (pgs_cons (pg_name (i := 3) nd rfl (Or.inl rfl)) (pgs_cons (pg_name (i := 4) nd rfl (Or.inl rfl)) pgs_nil)))))
 (pss_cons (ps_par (i := 5) (j := 6) (by rfl) nd rfl rfl (by decide) rfl rfl (pa_cons (pe_lst pa_nil) (pa_cons (pe_op op_add (pv 1) pe_int) pa_nil)) (by rfl))
 (pss_cons (ps_while PassesOwn.never (PW.pt (pw_and (pt_cmpR op_lt (pv 6) (pe_callB call_len_seq (by rfl) T.b_len (by decide +kernel) (pa_cons (pv 0) pa_nil)) (nomark _)) (pw_and1 (pt_cmpR op_gt (pe_ix (ixtK (K := K)) (pe_ix (ixlK (K := K)) (pv 0) (pv 6) (fun _ _ => rfl)) pe_int (fun _ _ => rfl)) (pv 2) (nomark _)))))
  (pss_cons (ps_asg (pe_call G_plan_of (hr.mono (by omega)) (by rfl) T.g_plan_of T.F_plan_of.kp T.bi_plan_of .nil pass0 (pa_cons (pv 0) (pa_cons (pv 6) pa_nil))) (pg_tup rfl (pgs_cons (pg_name (i := 7) nd rfl (Or.inl rfl)) (pgs_cons (pg_name (i := 6) nd rfl (Or.inl rfl)) pgs_nil))))
 (pss_one (ps_expr (pe_bm PySem.F.plainAttrs_list PySem.F.slot_list_append PySem.F.type_list_append mt_append (pv 5) (pa_cons (pv 7) pa_nil))))))
 (pss_one (ps_ret (pe_tup (pa_cons (pe_ifExp (pt_val (pv 3)) (pe_call G_supervisor_of (hr.mono (by omega)) (by rfl) T.g_supervisor_of T.F_supervisor_of.kp T.bi_supervisor_of .nil pass0 (pa_cons (pv 4) (pa_cons (pv 5) pa_nil))) (pe_call G_worker_of (hr.mono (by omega)) (by rfl) T.g_worker_of T.F_worker_of.kp T.bi_worker_of .nil pass0 (pa_cons (pv 4) pa_nil))) (pa_cons (pv 6) pa_nil)))))))), ?_⟩
      obtain ⟨it, ts, efl, esz, hts, tok, hcase⟩ := told_cut t lv hok
      rw [efl] at fa
      rw [esz] at hz
      generalize hrows : pre ++ ((lv, it) :: ts.flatMap (fun t => Told.flat n t (lv + 1)) ++ post) = rows at *
      have rlen : rows.length = pre.length + 1 + (ts.map (Told.size n)).sum + post.length := by
        rw [← hrows, List.length_append, List.length_append, List.length_cons, flatMap_len]
        omega
      have yl : ys.length = rows.length := by
        have := fa.len
        rwa [List.length_map] at this
      have r0 : rows[pre.length]? = some (lv, it) := by
        rw [← hrows, List.getElem?_append_right (Nat.le_refl _), Nat.sub_self]
        rfl
      obtain ⟨x0, hx0, p0, m, rfl, hp0, hiv⟩ := row_get fa r0
      refine ⟨_, rfl, _, rfl, l, ys, _, _, rfl, rfl, .of hl, atI_nat hx0, ?_⟩
      refine ⟨p0, _, rfl, .of hp0, rfl, _, _, rfl, _, _, rfl, _, _, rfl, rfl, ?_⟩
      refine ⟨Nat.zero_le _, fun lc hlc => ⟨_, rfl, _, _, rfl, rfl, _, _, rfl, ?_⟩⟩
      have s1 := same_new (o := .lst []) hlc
      have ec1 : upd H lc (.lst []) lc = some (.lst []) := upd_same
      generalize upd H lc (.lst []) = H1 at s1 ec1 ⊢
      dsimp only
      show tSeq _ _ _ _ _
      refine ⟨fun mm σ H' => ∃ (i : Nat) (zs : List V) (a7 : Option V), mm = ts.length - i ∧ i ≤ ts.length ∧ σ = [some (.ref l), some (.int (pre.length : Nat)), some (.int lv), some (.bl (Item.sup it)), some m, some (.ref lc), some (.int ((pre.length + 1 + ((ts.take i).map (Told.size n)).sum : Nat) : Int)), a7] ∧ Same H H' ∧ H' lc = some (.lst zs) ∧ Fa ((ts.take i).map (PAt K n)) zs H',
        ⟨ts.length, 0, [], none, rfl, Nat.zero_le _, rfl, s1, ec1, trivial⟩, ?_⟩
      rintro mm σ H2 ⟨i, zs, a7, rfl, hi, rfl, s2, ec2, fz⟩
      have zl := pat_len fz
      rw [List.length_take, Nat.min_eq_left hi] at zl
      have sk := sum_take (Told.size n) ts i
      have len : EvB (tTest (tOp (rI0 fun i j => .bl (decide (i < j))) (tVar 6) (tCB (fun xs H Q => ∃ p ys, xs = [V.ref p] ∧ (SqL K H p ys ∨ SqT K H p ys) ∧ Q (.int ys.length) H) (tCons (tVar 0) tNil)))) [some (.ref l), some (.int (pre.length : Nat)), some (.int lv), some (.bl (Item.sup it)), some m, some (.ref lc), some (.int ((pre.length + 1 + ((ts.take i).map (Told.size n)).sum : Nat) : Int)), a7] H2 (decide ((pre.length + 1 + ((ts.take i).map (Told.size n)).sum : Nat) < rows.length)) :=
        evb_cmpF (ev_var rfl) (fun Q q => ⟨_, rfl, l, ys, rfl, .inl (.of (s2 _ _ hl)), q⟩) (by rw [yl, decide_eq_decide]; omega)
      have lev : ∀ q, rows[pre.length + 1 + ((ts.take i).map (Told.size n)).sum]? = some q → EvB (tTest (tOp (rI0 fun i j => .bl (decide (i > j))) (tOp (rIxT K) (tOp (rIxL K) (tVar 0) (tVar 6)) (tC (.int 0))) (tVar 2))) [some (.ref l), some (.int (pre.length : Nat)), some (.int lv), some (.bl (Item.sup it)), some m, some (.ref lc), some (.int ((pre.length + 1 + ((ts.take i).map (Told.size n)).sum : Nat) : Int)), a7] H2 (decide (q.1 > lv)) := by
        intro q hq
        obtain ⟨x, hx, p, mv, rfl, hp, _⟩ := row_get fa hq
        exact evb_cmpF (fun Q qq => ⟨_, rfl, _, rfl, l, ys, _, _, rfl, rfl, .of (s2 _ _ hl), atI_nat hx, p, _, 0, _, rfl, rfl, .of (s2 _ _ hp), rfl, qq⟩) (ev_var rfl) (by rw [decide_eq_decide]; omega)
      by_cases hlt : i < ts.length
      · obtain ⟨ti, hti⟩ : ∃ ti, ts[i]? = some ti := ⟨_, List.getElem?_eq_getElem hlt⟩
        have tim := List.mem_of_getElem? hti
        have e1 : ((ts.take (i + 1)).map (Told.size n)).sum = ((ts.take i).map (Told.size n)).sum + Told.size n ti := by
          rw [List.take_succ, hti, List.map_append, List.sum_append]
          simp
        have sk1 := sum_take (Told.size n) ts (i + 1)
        have sp := size_pos n ti
        obtain ⟨it', rest', ef', _⟩ := flat_ne (n := n) (t := ti) (l := lv + 1)
        have hsplit : ts = ts.take i ++ ti :: ts.drop (i + 1) := by
          have := List.getElem?_eq_some_iff.mp hti
          conv => lhs; rw [← List.take_append_drop i ts, List.drop_eq_getElem_cons this.1, this.2]
        let pre2 := pre ++ ((lv, it) :: (ts.take i).flatMap fun t => Told.flat n t (lv + 1))
        let post2 := ((ts.drop (i + 1)).flatMap fun t => Told.flat n t (lv + 1)) ++ post
        have hrows2 : pre2 ++ (Told.flat n ti (lv + 1) ++ post2) = rows := by
          rw [← hrows]
          conv => rhs; rw [hsplit]
          simp [pre2, post2, List.flatMap_append, List.flatMap_cons, List.append_assoc]
        have plen : pre2.length = pre.length + 1 + ((ts.take i).map (Told.size n)).sum := by
          show (pre ++ ((lv, it) :: (ts.take i).flatMap fun t => Told.flat n t (lv + 1))).length = _
          rw [List.length_append, List.length_cons, flatMap_len]
          omega
        have row1 : rows[pre.length + 1 + ((ts.take i).map (Told.size n)).sum]? = some (lv + 1, it') := by
          rw [← hrows2, ← plen, List.getElem?_append_right (Nat.le_refl _), Nat.sub_self, ef']
          rfl
        have hp2 : ∀ q r, post2 = q :: r → q.1 ≤ lv + 1 := by
          intro q r e
          have e : ((ts.drop (i + 1)).flatMap fun t => Told.flat n t (lv + 1)) ++ post = q :: r := e
          cases hd : ts.drop (i + 1) with
          | nil =>
            rw [hd] at e
            exact Nat.le_succ_of_le (hpost q r e)
          | cons t2 r2 =>
            rw [hd] at e
            obtain ⟨it2, rest2, ef2, _⟩ := flat_ne (n := n) (t := t2) (l := lv + 1)
            rw [List.flatMap_cons, ef2] at e
            cases e
            exact Nat.le_refl _
        refine evb_and len (fun _ => lev _ row1) _ ?_
        rw [decide_eq_true (show pre.length + 1 + ((ts.take i).map (Told.size n)).sum < rows.length by omega), decide_eq_true (show (lv + 1, it').1 > lv from Nat.lt_succ_self lv), if_pos (show (true && true) = true from rfl)]
        refine ⟨fun σ' H' => ∃ (zs : List V) (a7 : Option V), σ' = [some (.ref l), some (.int (pre.length : Nat)), some (.int lv), some (.bl (Item.sup it)), some m, some (.ref lc), some (.int ((pre.length + 1 + ((ts.take (i + 1)).map (Told.size n)).sum : Nat) : Int)), a7] ∧ Same H H' ∧ H' lc = some (.lst zs) ∧ Fa ((ts.take (i + 1)).map (PAt K n)) zs H',
          (fun σ' H' w => by
            obtain ⟨zs, a7, e1, e2, e3, e4⟩ := w
            exact ⟨ts.length - (i + 1), by omega, i + 1, zs, a7, rfl, hlt, e1, e2, e3, e4⟩), ?_⟩
        refine ⟨_, rfl, _, rfl, l, ys, pre2, post2, ti, lv + 1, by rw [plen]; rfl, s2 _ _ hl, by rw [hrows2]; exact rows_kpl (KpL.same s2) fa, hp2, tok ti tim, by omega, by omega, fun p v H3 s3 hp hpat => ?_⟩
        refine ⟨p, _, rfl, .of hp, rfl, _, _, rfl, _, _, rfl, rfl, ?_⟩
        refine ⟨_, rfl, .inl ⟨rfl, _, .of (s3 _ _ ec2)⟩, _, rfl, lc, zs, v, rfl, rfl, s3 _ _ ec2, Nat.lt_of_le_of_lt (show zs.length ≤ 1000 by omega) (by decide), ?_⟩
        have e2 : pre2.length + Told.size n ti = pre.length + 1 + ((ts.take (i + 1)).map (Told.size n)).sum := by omega
        rw [e2]
        refine ⟨zs ++ [v], _, rfl, same_put (s2.trans s3) hlc, upd_same, ?_⟩
        have kp : Kp H3 (upd H3 lc (.lst (zs ++ [v]))) := Kp.lst (s3 _ _ ec2)
        rw [List.take_succ, hti, List.map_append]
        exact (fa_kp mk_pats ((Kp.same s3).trans kp) fz).app ⟨mk_pat n ti _ _ _ kp hpat, trivial⟩
      · have ei : i = ts.length := by omega
        subst ei
        rw [List.take_length] at *
        have fin : ∀ H3, Same H2 H3 → tRet (tTup (tCons (tIf (tB (tVar 3)) (tCall (spSOf K n) [] E0 (tCons (tVar 4) (tCons (tVar 5) tNil))) (tCall (spWOf K) [] E0 (tCons (tVar 4) tNil))) (tCons (tVar 6) tNil))) { nx := fun _ H' => Q .non H', rt := Q } [some (.ref l), some (.int (pre.length : Nat)), some (.int lv), some (.bl (Item.sup it)), some m, some (.ref lc), some (.int ((pre.length + 1 + (ts.map (Told.size n)).sum : Nat) : Int)), a7] H3 := by
          intro H3 s3
          rw [Nat.add_assoc, ← esz]
          rcases hcase with ⟨d, rfl, rfl, rfl, dok⟩ | ⟨d, rfl, rfl, dok⟩
          · refine ⟨_, rfl, false, rfl, _, rfl, m, d, rfl, dok, iv_kpl (KpL.same (s2.trans s3)) hiv, fun v H4 s4 hp => ⟨_, rfl, (by decide : 2 ≤ sizeLine), fun r hr => ?_⟩⟩
            exact k r v _ (((s2.trans s3).trans s4).trans (same_new hr)) upd_same (mk_pw.mn _ _ _ (same_new hr) hp)
          · refine ⟨_, rfl, true, rfl, _, rfl, _, rfl, m, lc, d, ts, zs, rfl, dok, iv_kpl (KpL.same (s2.trans s3)) hiv, s3 _ _ ec2, mn_fa mk_pats _ _ _ s3 fz, hts, by omega, by omega, fun v H4 s4 hp => ⟨_, rfl, (by decide : 2 ≤ sizeLine), fun r hr => ?_⟩⟩
            exact k r v _ (((s2.trans s3).trans s4).trans (same_new hr)) upd_same ((mk_pat (n + 1) (Sum.inr (d, ts))).mn _ _ _ (same_new hr) hp)
        cases hpo : post with
        | nil =>
          rw [hpo] at rlen
          refine evb_and (b := false) len (fun h => absurd (of_decide_eq_true h) (by rw [rlen]; simp)) _ ?_
          rw [decide_eq_false (by rw [rlen]; simp), if_neg (by simp)]
          exact fin H2 (Same.refl _)
        | cons q r =>
          have row1 : rows[pre.length + 1 + (ts.map (Told.size n)).sum]? = some q := by
            rw [← hrows, List.getElem?_append_right (by omega), show pre.length + 1 + (ts.map (Told.size n)).sum - pre.length = (ts.map (Told.size n)).sum + 1 by omega, List.cons_append, List.getElem?_cons_succ,
              List.getElem?_append_right (by rw [flatMap_len]; exact Nat.le_refl _), flatMap_len, Nat.sub_self, hpo]
            rfl
          have hq := hpost q r hpo
          refine evb_and len (fun _ => lev _ row1) _ ?_
          rw [decide_eq_false (show ¬ (q.1 > lv) by omega), Bool.and_false, if_neg Bool.false_ne_true]
          exact fin H2 (Same.refl _)
end
end W48

set_option Elab.async false
set_option linter.all false
set_option maxRecDepth 100000
set_option maxHeartbeats 4000000
namespace W48
open PySem PySem.Spec PyProof.Rows L2 WXG WEv WRd WLf WEn WZs WRu WSt StX WDc
def spRead (K : PySem.W.Frag) (n : Nat) : Sp := fun vs H Q _ => ∃ (t : Told n), vs = [.str (Txt.join "\n" ((Told.flat n t 0).map lineI))] ∧ Told.Ok n t ∧ Told.size n t ≤ 16 ∧ n ≤ 15 ∧ ∀ v H', Same H H' → PAt K n t v H' → Q v H'
def spLPlan (K : PySem.W.Frag) (n : Nat) : Sp := fun vs H Q _ => ∃ (v : V) (t : Told n), vs = [v] ∧ Told.Ok n t ∧ Told.size n t ≤ 16 ∧ n ≤ 15 ∧ TAt n t v H ∧ ∀ v' H', Same H H' → PAt K n t v' H' → Q v' H'
theorem lines_sum {qs : List (Nat × Item)} (h : ∀ q ∈ qs, Item.Ok q.2 ∧ q.1 ≤ 15) : ((qs.map lineI).map (·.length)).sum ≤ 121 * qs.length := by
  induction qs with
  | nil => exact Nat.le_refl _
  | cons q qs ih =>
    have h1 := ih fun q hq => h q (List.mem_cons_of_mem _ hq)
    obtain ⟨h2, h3⟩ := h q List.mem_cons_self
    have h4 := line_len h2
    simp only [List.map_cons, List.sum_cons, List.length_cons]
    omega
section
variable {P : Program} {w : World} {K : PySem.W.Frag} {mg : Str → Option Value} {base : Heap}
theorem ok_read_plan (T : Env K mg) (n : Nat) : FnOk P w K mg base CX0 (n + 8) (d_read_plan.loc K) T.fd_read_plan ["text"] (spRead K n) := by
  have G_rows_of : FnOk P w K mg base CX0 7 _ _ _ _ := ok_rows_of T n
  have G_plan_of : FnOk P w K mg base CX0 (n + 6) _ _ _ _ := ok_plan_of T n
  refine T.F_read_plan.ok sc_read_plan (fun vs H Q E h => ?_) (fun cdv A outer s H vs Q E hr h => ?_)
  · obtain ⟨t, rfl, _⟩ := h
    rfl
  · have nd := sc_read_plan.nd
    have hu := hu_of hr
    obtain ⟨t, rfl, hok, hz, hn, k⟩ := h
    refine ⟨_, PSs.nox (pss_cons (ps_if (pt_not (pt_val (pe_callB (isiK (K := K)) (by rfl) T.b_isinstance (by decide +kernel) (pa_cons (pv 0) (pa_cons (pe_bltnT (n := "str") (by rfl) T.b_str (by decide +kernel)) pa_nil)))))
  (pss_one ps_dead)
  pss_nil)
 (pss_one (ps_ret (pe_ix (ixtK (K := K)) (pe_call G_plan_of (hr.mono (by omega)) (by rfl) T.g_plan_of T.F_plan_of.kp T.bi_plan_of .nil pass0 (pa_cons (pe_call G_rows_of (hr.mono (by omega)) (by rfl) T.g_rows_of T.F_rows_of.kp T.bi_rows_of .nil pass0 (pa_cons (pv 0) pa_nil)) (pa_cons pe_int pa_nil))) pe_int (fun _ _ => rfl))))), ?_⟩
    refine st_no (evb_not (b := true) (evb_B (ev_isi (ev_var rfl) ty_str kit_ss))) ?_
    refine ⟨_, rfl, t, rfl, hok, hz, hn, fun l ys H1 s1 hl fa => ?_⟩
    refine ⟨l, ys, [], [], t, 0, rfl, hl, by rw [List.nil_append, List.append_nil]; exact fa, (fun q r e => nomatch e), hok, hz, hn, fun p v H2 s2 hp hpat => ?_⟩
    exact ⟨p, _, 0, v, rfl, rfl, .of hp, rfl, k v _ (s1.trans s2) hpat⟩
theorem ok_lplan (T : Env K mg) (n : Nat) : FnOk P w K mg base CX0 (n + 9) (d_L_plan.loc K) T.fd_L_plan ["told"] (spLPlan K n) := by
  have G_read_plan : FnOk P w K mg base CX0 (n + 8) _ _ _ _ := ok_read_plan T n
  have G_L_lines : FnOk P w K mg base CX0 (n + 1) _ _ _ _ := ok_lines T n
  refine T.F_L_plan.ok sc_L_plan (fun vs H Q E h => ?_) (fun cdv A outer s H vs Q E hr h => ?_)
  · obtain ⟨v, t, rfl, _⟩ := h
    rfl
  · have nd := sc_L_plan.nd
    have hu := hu_of hr
    obtain ⟨v, t, rfl, hok, hz, hn, ht, k⟩ := h
    refine ⟨_, PSs.nox (pss_one (ps_ret (pe_call G_read_plan (hr.mono (by omega)) (by rfl) T.g_read_plan T.F_read_plan.kp T.bi_read_plan .nil pass0 (pa_cons (pe_join pe_str (pe_call G_L_lines (hr.mono (by omega)) (by rfl) T.g__law_lines T.F_L_lines.kp T.bi_L_lines .nil pass0 (pa_cons (pv 0) (pa_cons pe_int pa_nil)))) pa_nil)))), ?_⟩
    refine ⟨⟨_, rfl⟩, _, rfl, v, t, 0, rfl, hok, hz, by omega, ht, fun p H1 s1 hp => ?_⟩
    have fl := flat_len n t 0
    have sm := lines_sum (qs := Told.flat n t 0) fun q hq => by
      have := flat_ok n t 0 hok q hq
      exact ⟨this.1, by omega⟩
    refine ⟨"\n", p, (Told.flat n t 0).map lineI, rfl, rfl, .inl (.of (by rw [hp, List.map_map]; rfl)), ?_, t, rfl, hok, hz, hn, fun v' H2 s2 hpat => k v' _ (s1.trans s2) hpat⟩
    have k3 : ("\n" : Str).length = 1 := by decide
    rw [k3, List.length_map]
    omega
/-! ### for all depths at once -/
theorem fn_any {f : Addr} {fd : FuncData} {ps : List Str} {sp : Nat → Sp} {lv : Nat → Nat} {M : Nat} (N : Nat) (F : ∀ n, FnOk P w K mg base CX0 (lv n) f fd ps (sp n)) (hl : ∀ n, n ≤ N → lv n ≤ M) : FnOk P w K mg base CX0 M f fd ps (fun vs H Q E => ∃ n, n ≤ N ∧ sp n vs H Q E) :=
  ⟨fun vs H Q E ⟨n, _, h⟩ => (F n).len vs H Q E h, fun A outer s H args us vs Q E hr he hb hv ⟨n, hn, h⟩ => (F n).run A outer s H args us vs Q E (hr.mono (hl n hn)) he hb hv h⟩
def RSU (K : PySem.W.Frag) (N : Nat) (a b : Addr) (H : Hp) : Prop := ∃ n, n ≤ N ∧ RS K n a b H
theorem ok_S_eqU (T : Env K mg) (N : Nat) : FnOk P w K mg base CX0 (3 * N + 8) (d_SupervisorPlan__eq.loc K) T.fd_SupervisorPlan__eq ["self", "other"] (spEq (RSU K N)) :=
  (fn_any N (ok_S_eq T) fun n h => by omega).imp fun vs H Q E ⟨a, b, e, ⟨n, hn, h⟩, k⟩ => ⟨n, hn, a, b, e, h, k⟩
end
section
variable {K : PySem.W.Frag} {σ : L2.St} {H : Hp} {te ta tb : TE} {tr : TA} {D : Ends} {P P' : HP V} {tt tu : TT} {a b : Bool} {v : V}
/-- two ints in a list -/
def L2I (a b : Int) : HP V := fun v H => ∃ l, v = .ref l ∧ H l = some (.lst [.int a, .int b])
theorem mn_l2 {a b : Int} : Mn (L2I a b) := fun _ _ _ s ⟨l, e, h⟩ => ⟨l, e, s _ _ h⟩
theorem et_ne2 {a b : Int} (ha : G ta σ H (L2I a b)) (hb : G tb σ H (L2I a b)) : EvT (tTest (tOp (rNeD K) ta tb)) σ H false := fun H1 e _ q =>
  ha.ev H1 e _ fun x H2 s2 pa => hb.ev H2 (e.trans s2) _ fun y H3 s3 pc => by
    obtain ⟨l1, rfl, h1⟩ := ha.mn _ _ _ s3 pa
    obtain ⟨l2, rfl, h2⟩ := pc
    have hs : SeqAt.shaped (.list [.int a, .int b]) = true := by rfl
    refine ⟨.list [.int a, .int b], .list [.int a, .int b], .lst (.of h1) (.cons (.int a) (.cons (.int b) .nil)), .lst (.of h2) (.cons (.int a) (.cons (.int b) .nil)), hs, hs, ?_⟩
    rw [SeqAt.eqv_refl _ (SeqAt.canLay_of_shaped hs)]
    exact ⟨false, rfl, q _ (s2.trans s3)⟩
theorem g_l2 {a b : Int} (ha : G ta σ H (Is (.int a))) (hb : G tb σ H (Is (.int b))) : G (tLst (tCons ta (tCons tb tNil))) σ H (L2I a b) := ⟨fun H1 e Q q =>
  ha.ev H1 e _ fun x H2 s2 pa => hb.ev H2 (e.trans s2) _ fun y H3 s3 pc => by
    cases pa
    cases pc
    exact ⟨(by decide : 2 ≤ sizeLine), fun p hp => q _ _ ((s2.trans s3).trans (same_new hp)) ⟨p, rfl, upd_same⟩⟩, mn_l2⟩
end
theorem pat_eq {K : PySem.W.Frag} {N : Nat} : ∀ (n : Nat) (t : Told n) {x y : V} {H : Hp}, n ≤ N + 1 → PAt K n t x H → PAt K n t y H → DIns (CW K) (RW K) x y H ∨ DIns (CS K) (RSU K N) x y H
  | 0, t, _, _, _, _, _, _ => by cases t
  | n + 1, t, x, y, H, hn, h, h' => by
    rcases pat_ch (n + 1) t h h' with z | ⟨a, b, dx, dy, fs, gs, e1, e2, e3, e4, e5⟩
    · exact .inl z
    · exact .inr ⟨a, b, dx, dy, fs, gs, e1, e2, e3, e4, n, by omega, e5⟩
end W48

set_option Elab.async false
set_option linter.all false
set_option maxRecDepth 100000
set_option maxHeartbeats 4000000
namespace W48
open PySem PySem.Spec PyProof.Rows L2 WXG WEv WRd WLf WEn WZs WRu WSt StX WDc
/-! ### properties, names of all plans in a plan -/
/-- a plan of a kind with a name -/
def NP (K : PySem.W.Frag) (r : Bool × Str) : HP V := fun v H => ∃ (a dx q : Addr) (fs : List (Str × V)) (xs : List V), v = .ref a ∧ H a = some (.ins (if r.1 = true then CW K else CS K) dx fs) ∧ fs.lookup ("own_settings" : Str) = some (.ref q) ∧ H q = some (.tup xs) ∧ atI xs 0 = some (.str r.2)
theorem mk_np {K : PySem.W.Frag} {r : Bool × Str} : MnK (NP K r) := fun _ _ _ s ⟨a, dx, q, fs, xs, e, h1, h2, h3, h4⟩ => ⟨a, dx, q, fs, xs, e, kp_ins s h1, h2, kp_tup s h3, h4⟩
theorem mk_nps {K : PySem.W.Frag} {rs : List (Bool × Str)} : ∀ P ∈ rs.map (NP K), MnK P := fun P hP => by
  obtain ⟨r, _, rfl⟩ := List.mem_map.mp hP
  exact mk_np
def spWA (K : PySem.W.Frag) (n : Nat) : Sp := fun vs H Q _ => ∃ (v : V) (t : Told n), vs = [v] ∧ Told.Ok n t ∧ Told.size n t ≤ 16 ∧ PAt K n t v H ∧ ∀ p xs H', Same H H' → H' p = some (.lst xs) → Fa ((Told.rows n t).map (NP K)) xs H' → Q (.ref p) H'
def spNames (K : PySem.W.Frag) (n : Nat) : Sp := fun vs H Q _ => ∃ (v : V) (t : Told n), vs = [v] ∧ Told.Ok n t ∧ Told.size n t ≤ 16 ∧ PAt K n t v H ∧ ∀ p H', Same H H' → H' p = some (.tup ((Told.rows n t).map fun r => V.str r.2)) → Q (.ref p) H'
theorem fa_is_of {Ps : List (HP V)} {ys : List V} {xs : List V} {H : Hp} (h : Fa (ys.map Is) xs H) : xs = ys := h.is
theorem st_retCB {σ : L2.St} {H : Hp} {te : TE} {D : Ends} {P : HP V} {r : List V → Hp → VK → Prop} (h : G te σ H P) (k : ∀ v H1, Same H H1 → P v H1 → r [v] H1 D.rt) : tRet (tCB r (tCons te tNil)) D σ H := h.ev H (Same.refl _) _ k
/-- no attribute of this name on a plan -/
theorem lk_with {K : PySem.W.Frag} {f : Str} {n : Nat} {t : Told n} {b C dy : Addr} {gs : List (Str × V)} {H H' : Hp} (h : PAt K n t (.ref b) H) (hb : H' b = some (.ins C dy gs)) (hs : H' b = H b := by rfl) (hf : f ∉ (["own_settings", "own_count", "own_depth", "own_children"] : List Str) := by decide +kernel) : gs.lookup f = none := by
  rw [hs] at hb
  have key : ∀ (x y z u : V), ([("own_settings", x), ("own_count", y), ("own_depth", z)] : List (Str × V)).lookup f = none ∧ ([("own_settings", x), ("own_children", u), ("own_count", y), ("own_depth", z)] : List (Str × V)).lookup f = none := fun x y z u => by
    simp only [List.mem_cons, List.not_mem_nil, or_false, not_or] at hf
    obtain ⟨h1, h2, h3, h4⟩ := hf
    simp [List.lookup, beq_eq_false_iff_ne.mpr h1, beq_eq_false_iff_ne.mpr h2, beq_eq_false_iff_ne.mpr h3, beq_eq_false_iff_ne.mpr h4]
  cases n with
  | zero => exact h.elim
  | succ n =>
    cases t with
    | inl d =>
      obtain ⟨a, dx, q, s, e, h1, _⟩ := h
      cases e
      rw [h1] at hb
      cases hb
      exact (key _ _ _ .non).1
    | inr x =>
      obtain ⟨a, dx, q, c, k, ys, e, h1, _⟩ := h
      cases e
      rw [h1] at hb
      cases hb
      exact (key _ _ _ _).2
section
variable {K : PySem.W.Frag} {σ : L2.St} {H : Hp} {te : TE}
theorem g_lcG2 {wi : TI} {v : Nat} {Qs : List (HP V)} {Ps : List (HP V)} (hw : ∀ H1, Same H H1 → ∀ R : It → Hp → Prop, (∀ (J : It) (Gw : Hp → Prop) (ys : List V) (H2 : Hp), Same H1 H2 → Walk J ys.length Gw (YAt ys) → (∀ H3, Same H2 H3 → Gw H3) → Fa Qs ys H2 → R J H2) → wi σ H1 R) (mq : Mn (Fa Qs))
    (hl : Ps.length = Qs.length) (hz : Qs.length ≤ 1000) (m : ∀ P ∈ Ps, MnK P)
    (h : ∀ (i : Nat) (x : V) (P P' : HP V) (H1 : Hp), Qs[i]? = some P' → P' x H1 → Ps[i]? = some P → Same H H1 → ∀ Q : VK, (∀ y H2, Same H1 H2 → P y H2 → Q y H2) → te ((σ.set v none).set v (some x)) H1 Q) :
    G (tLc wi (gName v) tYes te [v]) σ H (LF Ps) := by
  refine ⟨fun H1 e Q q => ?_, mn_lf (mn_fa m)⟩
  refine hw H1 e _ ?_
  intro J Gw ys H0 s0 wk hg fq
  intro Dd hD
  show ∃ W, _
  have lq := fq.len
  refine lc_it wk (fun i H' => Same H0 H' ∧ ∃ acc, H' Dd = some (.lst acc) ∧ Fa (Ps.take i) acc H') ⟨same_new hD, [], upd_same, trivial⟩ (fun _ H' _ p => hg H' p.1) (fun i x H2 H3 hi p y => ?_) (fun H2 p => ?_)
  · obtain ⟨s2, acc, hd, fa⟩ := p
    obtain ⟨rfl, hx⟩ := y
    refine ⟨(List.set_set ..).trans (List.set_set ..), ?_⟩
    obtain ⟨P, hP⟩ : ∃ P, Ps[i]? = some P := ⟨_, List.getElem?_eq_getElem (by omega)⟩
    obtain ⟨P', hP'⟩ : ∃ P, Qs[i]? = some P := ⟨_, List.getElem?_eq_getElem (by omega)⟩
    obtain ⟨x', ex', px'⟩ := (mq _ _ _ s2 fq).get hP'
    rw [hx] at ex'
    cases ex'
    refine h i x P P' _ hP' px' hP ((e.trans s0).trans s2) _ fun y H4 s4 py => ?_
    have hd4 := s4 _ _ hd
    have fa4 : Fa (Ps.take i) acc H4 := fa_kp (fun Q hQ => m Q (List.mem_of_mem_take hQ)) (Kp.same s4) fa
    have la := fa.len
    rw [List.length_take] at la
    refine ⟨acc, hd4, Nat.lt_of_le_of_lt (show acc.length ≤ 1000 by omega) (by decide), same_put (s2.trans s4) hD, acc ++ [y], upd_same, ?_⟩
    exact fa_kp (fun Q hQ => m Q (List.mem_of_mem_take hQ)) (Kp.lst hd4) (fa_take fa4 hP py)
  · obtain ⟨s2, acc, hd, fa⟩ := p
    rw [lq, ← hl, List.take_length] at fa
    exact q _ _ (s0.trans s2) ⟨Dd, acc, rfl, hd, fa⟩
end
section
variable {P : Program} {w : World} {K : PySem.W.Frag} {mg : Str → Option Value} {base : Heap}
theorem ok_WP_name (T : Env K mg) : FnOk P w K mg base CX0 1 (d_WorkerPlan_name.loc K) T.fd_WorkerPlan_name ["self"] (spPr (CW K) 0) := by
  refine T.F_WorkerPlan_name.ok sc_WorkerPlan_name (fun vs H Q E h => ?_) (fun cdv A outer s H vs Q E hr h => ?_)
  · obtain ⟨a, dx, q, fs, xs, x, rfl, _⟩ := h
    rfl
  · have nd := sc_WorkerPlan_name.nd
    have hu := hu_of hr
    obtain ⟨a, dx, q, fs, xs, x, rfl, ha, hf, hq, hx, k⟩ := h
    refine ⟨_, PSs.nox (pss_one (ps_ret (pe_ix (ixtK (K := K)) (pe_fld (pv 0) rfl) pe_int (fun _ _ => rfl)))), ?_⟩
    exact ⟨_, rfl, a, _, dx, fs, _, rfl, ha, T.dc_WorkerPlan.cls, T.n_WorkerPlan_own_settings, hf, q, xs, 0, x, rfl, rfl, .of hq, hx, k⟩
theorem ok_SP_name (T : Env K mg) : FnOk P w K mg base CX0 1 (d_SupervisorPlan_name.loc K) T.fd_SupervisorPlan_name ["self"] (spPr (CS K) 0) := by
  refine T.F_SupervisorPlan_name.ok sc_SupervisorPlan_name (fun vs H Q E h => ?_) (fun cdv A outer s H vs Q E hr h => ?_)
  · obtain ⟨a, dx, q, fs, xs, x, rfl, _⟩ := h
    rfl
  · have nd := sc_SupervisorPlan_name.nd
    have hu := hu_of hr
    obtain ⟨a, dx, q, fs, xs, x, rfl, ha, hf, hq, hx, k⟩ := h
    refine ⟨_, PSs.nox (pss_one (ps_ret (pe_ix (ixtK (K := K)) (pe_fld (pv 0) rfl) pe_int (fun _ _ => rfl)))), ?_⟩
    exact ⟨_, rfl, a, _, dx, fs, _, rfl, ha, T.dc_SupervisorPlan.cls, T.n_SupervisorPlan_own_settings, hf, q, xs, 0, x, rfl, rfl, .of hq, hx, k⟩
theorem ok_SP_strategy (T : Env K mg) : FnOk P w K mg base CX0 1 (d_SupervisorPlan_strategy.loc K) T.fd_SupervisorPlan_strategy ["self"] (spPr (CS K) 2) := by
  refine T.F_SupervisorPlan_strategy.ok sc_SupervisorPlan_strategy (fun vs H Q E h => ?_) (fun cdv A outer s H vs Q E hr h => ?_)
  · obtain ⟨a, dx, q, fs, xs, x, rfl, _⟩ := h
    rfl
  · have nd := sc_SupervisorPlan_strategy.nd
    have hu := hu_of hr
    obtain ⟨a, dx, q, fs, xs, x, rfl, ha, hf, hq, hx, k⟩ := h
    refine ⟨_, PSs.nox (pss_one (ps_ret (pe_ix (ixtK (K := K)) (pe_fld (pv 0) rfl) pe_int (fun _ _ => rfl)))), ?_⟩
    exact ⟨_, rfl, a, _, dx, fs, _, rfl, ha, T.dc_SupervisorPlan.cls, T.n_SupervisorPlan_own_settings, hf, q, xs, 2, x, rfl, rfl, .of hq, hx, k⟩
theorem ok_SP_most (T : Env K mg) : FnOk P w K mg base CX0 1 (d_SupervisorPlan_most.loc K) T.fd_SupervisorPlan_most ["self"] (spPr (CS K) 3) := by
  refine T.F_SupervisorPlan_most.ok sc_SupervisorPlan_most (fun vs H Q E h => ?_) (fun cdv A outer s H vs Q E hr h => ?_)
  · obtain ⟨a, dx, q, fs, xs, x, rfl, _⟩ := h
    rfl
  · have nd := sc_SupervisorPlan_most.nd
    have hu := hu_of hr
    obtain ⟨a, dx, q, fs, xs, x, rfl, ha, hf, hq, hx, k⟩ := h
    refine ⟨_, PSs.nox (pss_one (ps_ret (pe_ix (ixtK (K := K)) (pe_fld (pv 0) rfl) pe_int (fun _ _ => rfl)))), ?_⟩
    exact ⟨_, rfl, a, _, dx, fs, _, rfl, ha, T.dc_SupervisorPlan.cls, T.n_SupervisorPlan_own_settings, hf, q, xs, 3, x, rfl, rfl, .of hq, hx, k⟩
theorem ok_SP_span (T : Env K mg) : FnOk P w K mg base CX0 1 (d_SupervisorPlan_span.loc K) T.fd_SupervisorPlan_span ["self"] (spPr (CS K) 4) := by
  refine T.F_SupervisorPlan_span.ok sc_SupervisorPlan_span (fun vs H Q E h => ?_) (fun cdv A outer s H vs Q E hr h => ?_)
  · obtain ⟨a, dx, q, fs, xs, x, rfl, _⟩ := h
    rfl
  · have nd := sc_SupervisorPlan_span.nd
    have hu := hu_of hr
    obtain ⟨a, dx, q, fs, xs, x, rfl, ha, hf, hq, hx, k⟩ := h
    refine ⟨_, PSs.nox (pss_one (ps_ret (pe_ix (ixtK (K := K)) (pe_fld (pv 0) rfl) pe_int (fun _ _ => rfl)))), ?_⟩
    exact ⟨_, rfl, a, _, dx, fs, _, rfl, ha, T.dc_SupervisorPlan.cls, T.n_SupervisorPlan_own_settings, hf, q, xs, 4, x, rfl, rfl, .of hq, hx, k⟩
theorem ok_with_all (T : Env K mg) : ∀ n, FnOk P w K mg base CX0 (n + 1) (d_Plan_with_all.loc K) T.fd_Plan_with_all ["self"] (spWA K n)
  | 0 => T.F_Plan_with_all.ok sc_Plan_with_all (fun vs H Q E (h : spWA K 0 vs H Q E) => by obtain ⟨v, t, _⟩ := h; cases t) (fun cdv A outer s H vs Q E hr (h : spWA K 0 vs H Q E) => by obtain ⟨v, t, _⟩ := h; cases t)
  | n + 1 => by
    have G_Plan_with_all : FnOk P w K mg base CX0 (n + 1) _ _ _ _ := ok_with_all T n
    have G_Plan_below : FnOk P w K mg base CX0 1 _ _ _ _ := ok_P_below T
    have G_SupervisorPlan_below : FnOk P w K mg base CX0 1 _ _ _ _ := ok_SP_below T
    refine T.F_Plan_with_all.ok sc_Plan_with_all (fun vs H Q E h => ?_) (fun cdv A outer s H vs Q E hr h => ?_)
    · obtain ⟨v, t, rfl, _⟩ := h
      rfl
    · have nd := sc_Plan_with_all.nd
      have hu := hu_of hr
      obtain ⟨v, t, rfl, hok, hz, ht, k⟩ := h
      refine ⟨_, PSs.nox (pss_cons (ps_set (i := 1) nd rfl (Or.inl rfl) (pe_lst (pa_cons (pv 0) pa_nil)))
 (pss_cons (ps_for PassesOwn.never rfl (pi_tup (pe_or (pe_meth0 (pv 0) T.dc_WorkerPlan.cls T.m_WorkerPlan_below G_Plan_below (hr.mono (by omega)) T.bi_Plan_below .nil pass0) (pe_meth0 (pv 0) T.dc_SupervisorPlan.cls T.m_SupervisorPlan_below G_SupervisorPlan_below (hr.mono (by omega)) T.bi_SupervisorPlan_below .nil pass0))) (pg_name (i := 2) nd rfl (Or.inl rfl))
  (pss_one (ps_expr (pe_bm PySem.F.plainAttrs_list PySem.F.slot_list_extend PySem.F.type_list_extend mt_extend (pv 1) (pa_cons (pe_or (pe_meth0 (pv 2) T.dc_WorkerPlan.cls T.m_WorkerPlan_with_all G_Plan_with_all (hr.mono (by omega)) T.bi_Plan_with_all .nil pass0) (pe_meth0 (pv 2) T.dc_SupervisorPlan.cls T.m_SupervisorPlan_with_all G_Plan_with_all (hr.mono (by omega)) T.bi_Plan_with_all .nil pass0)) pa_nil)))))
 (pss_one (ps_ret (pv 1))))), ?_⟩
      refine ⟨_, rfl, (by decide : 1 ≤ sizeLine), fun l hl => ?_⟩
      have s1 : Same H (upd H l (.lst [v])) := same_new hl
      have hl1 : upd H l (.lst [v]) l = some (.lst [v]) := upd_same
      generalize upd H l (.lst [v]) = H1 at s1 hl1 ⊢
      cases t with
      | inl d =>
        obtain ⟨a, dx, q, sc, rfl, h1, h2, h3⟩ := ht
        refine .inl ⟨_, rfl, a, dx, _, rfl, s1 _ _ h1, rfl, .ref a, rfl, fun p H2 s2 hp => ⟨p, rfl, ⟨_, .of hp⟩, ?_⟩⟩
        refine for_it (walk_tup (xs := [])) (fun i σ H' => H' = H2 ∧ σ = [some (.ref a), some (.ref l), none]) ⟨rfl, rfl⟩ (fun i σ H' _ p => by rw [p.1]; exact .of hp) (fun i x σ H3 H4 hi _ _ => absurd hi (Nat.not_lt_zero _)) (fun σ H3 p => ?_)
        obtain ⟨rfl, rfl⟩ := p
        exact st_ret (ev_var rfl) (k l _ _ (s1.trans s2) (s2 _ _ hl1) ⟨⟨a, dx, q, _, _, rfl, s2 _ _ (s1 _ _ h1), rfl, s2 _ _ (s1 _ _ h2), rfl⟩, trivial⟩)
      | inr x =>
        obtain ⟨d, ts⟩ := x
        obtain ⟨a, dx, q, c, kk, ys, rfl, h1, h2, h3, h4, fa⟩ := ht
        have hz' : 1 + (ts.map (Told.size n)).sum ≤ 16 := hz
        refine .inr ⟨_, rfl, a, dx, _, rfl, s1 _ _ h1, rfl, a, dx, _, .ref c, rfl, s1 _ _ h1, rfl, c, rfl, ⟨ys, .of (s1 _ _ h3)⟩, ?_⟩
        refine for_it (walk_tup (xs := ys)) (fun i σ H' => ∃ a2 xs, σ = [some (.ref a), some (.ref l), a2] ∧ Same H H' ∧ H' l = some (.lst xs) ∧ Fa (((false, d.name) :: ((ts.take i).map (Told.rows n)).flatten).map (NP K)) xs H') ⟨none, _, rfl, s1, hl1, ⟨⟨a, dx, q, _, _, rfl, s1 _ _ h1, rfl, s1 _ _ h2, rfl⟩, trivial⟩⟩ (fun i σ H' _ p => by obtain ⟨_, _, _, s, _⟩ := p; exact .of (s _ _ h3)) (fun i x σ H3 H4 hi p y => ?_) (fun σ H3 p => ?_)
        · obtain ⟨a2, xs, rfl, s3, hl3, hxs⟩ := p
          obtain ⟨rfl, hx⟩ := y
          obtain ⟨t, ht, px⟩ := pat_get fa hx
          have tm := List.mem_of_getElem? ht
          have sz : Told.size n t ≤ (ts.map (Told.size n)).sum := size_in tm
          have sk := sum_take (Told.size n) ts i
          have px3 := (mk_pat n t).mn _ _ _ s3 px
          obtain ⟨b, C, dy, gs, _, rfl, hb, hC, _⟩ := pat_cd n t px3
          refine ⟨_, rfl, .inl ⟨rfl, _, .of hl3⟩, ?_⟩
          have go : spWA K n [.ref b] H4 (fun v H5 => tNil (([some (V.ref a), some (.ref l), a2]).set 2 (some (.ref b))) H5 fun zs H6 => rExtend (.ref l) (v :: zs) H6 fun u H7 => ∃ a2 xs, ([some (V.ref a), some (.ref l), a2]).set 2 (some (.ref b)) = [some (.ref a), some (.ref l), a2] ∧ Same H H7 ∧ H7 l = some (.lst xs) ∧ Fa (((false, d.name) :: ((ts.take (i + 1)).map (Told.rows n)).flatten).map (NP K)) xs H7) E := by
            refine ⟨_, t, rfl, hok.2.2 t tm, by omega, px3, fun p6 zs H6 s6 hl6 hzs => ?_⟩
            have xlen : xs.length ≤ 16 := by
              have := hxs.len
              rw [List.length_map, List.length_cons, len_flat _ (Told.size n) _ fun t _ => rows_len n t] at this
              omega
            have zlen : zs.length ≤ 16 := by
              have := hzs.len
              rw [List.length_map, rows_len] at this
              omega
            have hl6' := s6 _ _ hl3
            refine ⟨l, p6, xs, zs, rfl, rfl, hl6', hl6, Nat.le_trans (show xs.length + zs.length ≤ 1000 by omega) (by decide), _, _, rfl, same_put (s3.trans s6) hl, upd_same, ?_⟩
            rw [List.take_succ, ht, List.map_append, List.flatten_append, ← List.cons_append, List.map_append]
            simp only [Option.toList_some, List.map_cons, List.map_nil, List.flatten_cons, List.flatten_nil, List.append_nil]
            exact (fa_kp mk_nps ((Kp.same s6).trans (Kp.lst hl6')) hxs).app (fa_kp mk_nps (Kp.lst hl6') hzs)
          rcases hC with rfl | rfl
          · exact .inl ⟨_, rfl, b, dy, gs, rfl, hb, lk_with (n := n) px3 hb, go⟩
          · exact .inr ⟨_, rfl, b, dy, gs, rfl, hb, lk_with (n := n) px3 hb, go⟩
        · obtain ⟨a2, xs, rfl, s3, hl3, hxs⟩ := p
          rw [pat_len fa, List.take_length] at hxs
          exact st_ret (ev_var rfl) (k l xs H3 s3 hl3 hxs)
theorem ok_names (T : Env K mg) (n : Nat) : FnOk P w K mg base CX0 (n + 3) (d_names.loc K) T.fd_names ["plan"] (spNames K n) := by
  have G_Plan_with_all : FnOk P w K mg base CX0 (n + 1) _ _ _ _ := ok_with_all T n
  have G_WorkerPlan_name : FnOk P w K mg base CX0 1 _ _ _ _ := ok_WP_name T
  have G_SupervisorPlan_name : FnOk P w K mg base CX0 1 _ _ _ _ := ok_SP_name T
  refine T.F_names.ok sc_names (fun vs H Q E h => ?_) (fun cdv A outer s H vs Q E hr h => ?_)
  · obtain ⟨v, t, rfl, _⟩ := h
    rfl
  · have nd := sc_names.nd
    have hu := hu_of hr
    obtain ⟨v, t, rfl, hok, hz, ht, k⟩ := h
    refine ⟨_, PSs.nox (pss_one (ps_ret (pe_callTy call_tuple_of (by rfl) T.b_tuple (by decide +kernel) (pa_cons (pe_lc (own := [("one", 1)]) (by rfl) nd (pi_list (pe_or (pe_meth0 (pv 0) T.dc_WorkerPlan.cls T.m_WorkerPlan_with_all G_Plan_with_all (hr.mono (by omega)) T.bi_Plan_with_all .nil pass0) (pe_meth0 (pv 0) T.dc_SupervisorPlan.cls T.m_SupervisorPlan_with_all G_Plan_with_all (hr.mono (by omega)) T.bi_Plan_with_all .nil pass0))) (blkOk_by (N := ["plan", "one"]) (sc := defScope s_names) (by decide +kernel)) (fun _ _ _ _ _ => (pg_name (i := 1) nd rfl (Or.inl rfl))) (fun _ _ _ _ _ => pts_nil) (fun _ _ _ _ _ => (pe_or (pe_prop (pv 1) T.dc_WorkerPlan.cls T.p_WorkerPlan_name G_WorkerPlan_name (hr.mono (by omega)) T.bi_WorkerPlan_name .nil pass0 rfl) (pe_prop (pv 1) T.dc_SupervisorPlan.cls T.p_SupervisorPlan_name G_SupervisorPlan_name (hr.mono (by omega)) T.bi_SupervisorPlan_name .nil pass0 rfl)))) pa_nil)))), ?_⟩
    obtain ⟨b, C, dy, gs, _, rfl, hb, hC, _⟩ := pat_cd n t ht
    refine st_retCB (g_lcG2 (Ps := ((Told.rows n t).map fun r : Bool × Str => V.str r.2).map Is) (Qs := (Told.rows n t).map (NP K)) (fun H1 s1 R r => ?_) (mn_fa mk_nps) (by simp) (by rw [List.length_map, rows_len]; omega) mk_iss fun i x P P' H1 hq px hp s Q q => ?_) fun x H2 s2 px => ?_
    · have go : spWA K n [.ref b] H1 (fun v H2 => ∃ l, v = .ref l ∧ (∃ ys, SqL K H2 l ys) ∧ R (Itl K l) H2) E := ⟨_, t, rfl, hok, hz, (mk_pat n t).mn _ _ _ s1 ht, fun p xs H2 s2 hp hf => ⟨p, rfl, ⟨xs, .of hp⟩, r (Itl K p) _ xs H2 s2 (walk_list (xs := xs)) (fun H3 s3 => .of (s3 _ _ hp)) hf⟩⟩
      rcases hC with rfl | rfl
      · exact .inl ⟨_, rfl, b, dy, gs, rfl, s1 _ _ hb, lk_with (n := n) ht hb, go⟩
      · exact .inr ⟨_, rfl, b, dy, gs, rfl, s1 _ _ hb, lk_with (n := n) ht hb, go⟩
    · rw [List.getElem?_map] at hq
      rw [List.getElem?_map, List.getElem?_map] at hp
      cases hr' : (Told.rows n t)[i]? with
      | none => rw [hr'] at hq; cases hq
      | some r =>
        rw [hr'] at hq hp
        cases hq
        cases hp
        obtain ⟨a, dx, q2, fs, xs, rfl, h1, h2, h3, h4⟩ := px
        cases hb1 : r.1 with
        | true =>
          rw [hb1, if_pos rfl] at h1
          exact .inl ⟨_, rfl, a, dx, fs, rfl, h1, a, dx, q2, fs, xs, _, rfl, h1, h2, h3, h4, q _ _ (Same.refl _) rfl⟩
        | false =>
          rw [hb1, if_neg Bool.false_ne_true] at h1
          exact .inr ⟨_, rfl, a, dx, fs, rfl, h1, a, dx, q2, fs, xs, _, rfl, h1, h2, h3, h4, q _ _ (Same.refl _) rfl⟩
    · obtain ⟨l, xs, rfl, hl, fa⟩ := px
      obtain rfl := fa.is
      refine ⟨l, _, rfl, .inl ⟨.of hl, fun q hq => k q _ (s2.trans (same_new hq)) upd_same⟩⟩
end
end W48

set_option Elab.async false
set_option linter.all false
set_option maxRecDepth 100000
set_option maxHeartbeats 4000000
namespace W48
open PySem PySem.Spec PyProof.Rows L2 WXG WEv WRd WLf WEn WZs WRu WSt StX WDc
/-! ### the way to a worker -/
def findL {α : Type} (f : α → Option (List Nat)) : Nat → List α → Option (List Nat)
  | _, [] => none
  | i, a :: l => match f a with
    | some sp => some (i :: sp)
    | none => findL f (i + 1) l
def Told.spot (z : Str) : (n : Nat) → Told n → Option (List Nat)
  | 0, _ => none
  | n + 1, t => match (show WD ⊕ (SD × List (Told n)) from t) with
    | .inl d => if d.name = z then some [] else none
    | .inr x => findL (Told.spot z n) 0 x.2
/-- no supervisor bears the name -/
def SupFree (z : Str) (n : Nat) (t : Told n) : Prop := ∀ r ∈ Told.rows n t, r.1 = false → r.2 ≠ z
theorem SupFree.child {z : Str} {n : Nat} {d : SD} {ts : List (Told n)} (h : SupFree z (n + 1) (Sum.inr (d, ts))) {t : Told n} (ht : t ∈ ts) : SupFree z n t := fun r hr => h r (List.mem_cons_of_mem _ (List.mem_flatten.mpr ⟨_, List.mem_map.mpr ⟨t, ht, rfl⟩, hr⟩))
theorem SupFree.own {z : Str} {n : Nat} {d : SD} {ts : List (Told n)} (h : SupFree z (n + 1) (Sum.inr (d, ts))) : d.name ≠ z := h (false, d.name) List.mem_cons_self rfl
def spotV : Option (List Nat) → V → Hp → Prop
  | none => fun v _ => v = .non
  | some sp => fun v H => ∃ p, v = .ref p ∧ H p = some (.tup (sp.map fun i => V.int ((i : Nat) : Int)))
def spSpot (K : PySem.W.Frag) (n : Nat) : Sp := fun vs H Q _ => ∃ (v : V) (t : Told n) (z : Str), vs = [v, .str z] ∧ n ≤ 15 ∧ Told.Ok n t ∧ PAt K n t v H ∧ SupFree z n t ∧ ∀ v' H', Same H H' → spotV (Told.spot z n t) v' H' → Q v' H'
theorem spot_len {z : Str} : ∀ (n : Nat) (t : Told n) {sp : List Nat}, Told.spot z n t = some sp → sp.length ≤ n
  | 0, _, _, h => nomatch h
  | n + 1, .inl d, sp, h => by
    have h : (if d.name = z then some [] else none) = some sp := h
    split at h
    · cases h; exact Nat.zero_le _
    · cases h
  | n + 1, .inr x, sp, h => by
    have key : ∀ (l : List (Told n)) (i : Nat), findL (Told.spot z n) i l = some sp → sp.length ≤ n + 1 := by
      intro l
      induction l with
      | nil => intro i h; cases h
      | cons a l ih =>
        intro i h
        unfold findL at h
        cases ha : Told.spot z n a with
        | none => rw [ha] at h; exact ih _ h
        | some s =>
          rw [ha] at h
          cases h
          exact Nat.succ_le_succ (spot_len n a ha)
    exact key _ _ h
theorem evb_notN {K : PySem.W.Frag} {σ : L2.St} {H : Hp} {ta : TE} {x : V} {b : Bool} (ha : Ev ta σ H x) (h : (!decide (x = V.non)) = b) : EvB (tTest (tOp (fun x y H Q => y = V.non ∧ Q (.bl (!decide (x = V.non))) H) ta (tC .non))) σ H b := fun Q q => ha _ ⟨rfl, _, congrArg V.bl h, q⟩
section
variable {P : Program} {w : World} {K : PySem.W.Frag} {mg : Str → Option Value} {base : Heap}
theorem ok_spot_of (T : Env K mg) : ∀ n, FnOk P w K mg base CX0 (n + 3) (d_spot_of.loc K) T.fd_spot_of ["plan", "place"] (spSpot K n)
  | 0 => T.F_spot_of.ok sc_spot_of (fun vs H Q E (h : spSpot K 0 vs H Q E) => by obtain ⟨v, t, _⟩ := h; cases t) (fun cdv A outer s H vs Q E hr (h : spSpot K 0 vs H Q E) => by obtain ⟨v, t, _⟩ := h; cases t)
  | n + 1 => by
    have G_spot_of : FnOk P w K mg base CX0 (n + 3) _ _ _ _ := ok_spot_of T n
    have G_Plan_below : FnOk P w K mg base CX0 1 _ _ _ _ := ok_P_below T
    have G_SupervisorPlan_below : FnOk P w K mg base CX0 1 _ _ _ _ := ok_SP_below T
    have G_WorkerPlan_name : FnOk P w K mg base CX0 1 _ _ _ _ := ok_WP_name T
    have G_SupervisorPlan_name : FnOk P w K mg base CX0 1 _ _ _ _ := ok_SP_name T
    refine T.F_spot_of.ok sc_spot_of (fun vs H Q E h => ?_) (fun cdv A outer s H vs Q E hr h => ?_)
    · obtain ⟨v, t, z, rfl, _⟩ := h
      rfl
    · have nd := sc_spot_of.nd
      have hu := hu_of hr
      obtain ⟨v, t, z, rfl, hn15, hok, ht, hfree, k⟩ := h
      refine ⟨_, PSs.nox (pss_cons (ps_if (PW.pt (pw_and (pt_val (pe_callB (isiK (K := K)) (by rfl) T.b_isinstance (by decide +kernel) (pa_cons (pv 1) (pa_cons (pe_bltnT (n := "str") (by rfl) T.b_str (by decide +kernel)) pa_nil)))) (pw_and1 (pt_cmpR op_eq (pe_or (pe_prop (pv 0) T.dc_WorkerPlan.cls T.p_WorkerPlan_name G_WorkerPlan_name (hr.mono (by omega)) T.bi_WorkerPlan_name .nil pass0 rfl) (pe_prop (pv 0) T.dc_SupervisorPlan.cls T.p_SupervisorPlan_name G_SupervisorPlan_name (hr.mono (by omega)) T.bi_SupervisorPlan_name .nil pass0 rfl)) (pv 1) (nomark _)))))
  (pss_one (ps_ret (pe_tup pa_nil)))
  pss_nil)
 (pss_cons (ps_for PassesOwn.never rfl (pi_enumT (by rfl) T.b_enumerate (pa_cons (pe_or (pe_meth0 (pv 0) T.dc_WorkerPlan.cls T.m_WorkerPlan_below G_Plan_below (hr.mono (by omega)) T.bi_Plan_below .nil pass0) (pe_meth0 (pv 0) T.dc_SupervisorPlan.cls T.m_SupervisorPlan_below G_SupervisorPlan_below (hr.mono (by omega)) T.bi_SupervisorPlan_below .nil pass0)) pa_nil)) (pg_tup rfl (pgs_cons (pg_name (i := 2) nd rfl (Or.inl rfl)) (pgs_cons (pg_name (i := 3) nd rfl (Or.inl rfl)) pgs_nil)))
  (pss_cons (ps_set (i := 4) nd rfl (Or.inl rfl) (pe_call G_spot_of (hr.mono (by omega)) (by rfl) T.g_spot_of T.F_spot_of.kp T.bi_spot_of .nil pass0 (pa_cons (pv 3) (pa_cons (pv 1) pa_nil))))
 (pss_one (ps_if (pt_cmpR op_notN (pv 4) pe_non (nomark _))
  (pss_one (ps_ret (pe_tup (pa_cons (pv 2) (pa_star (pv 4) pa_nil)))))
  pss_nil))))
 (pss_one (ps_ret pe_non)))), ?_⟩
      cases t with
      | inl d =>
        obtain ⟨a, dx, q, sc, rfl, h1, h2, h3⟩ := ht
        refine st_if (b := decide (d.name = z)) (evb_and (a := true) (b := decide (d.name = z)) (evb_B (ev_isi (ev_var rfl) ty_str kit_ss)) fun _ => evb_eqS (x := d.name) (y := z) (fun Q q' => .inl ⟨_, rfl, a, dx, _, rfl, h1, a, dx, q, _, _, _, rfl, h1, rfl, h2, rfl, q'⟩) (ev_var rfl) rfl) ?_
        by_cases hz : d.name = z
        · rw [if_pos (decide_eq_true hz)]
          exact ⟨Nat.zero_le _, fun p hp => k _ _ (same_new hp) (by show spotV (if d.name = z then some [] else none) _ _; rw [if_pos hz]; exact ⟨p, rfl, upd_same⟩)⟩
        · rw [if_neg (by simp [hz])]
          refine .inl ⟨_, rfl, a, dx, _, rfl, h1, rfl, .ref a, rfl, fun p H2 s2 hp => ⟨p, [], rfl, .of hp, ?_⟩⟩
          refine for_it (walk_enumC (K := K) (t := true) (c := 0) (a := p) (xs := [])) (fun i σ H' => Same H2 H') (Same.refl _) (fun i σ H' hi p' => (show SqT K H' p [] from .of (p' _ _ hp))) (fun i x σ H3 H4 hi _ _ => absurd hi (Nat.not_lt_zero _)) (fun σ H3 s3 => ?_)
          · exact k _ _ (s2.trans s3) (by show spotV (if d.name = z then some [] else none) _ _; rw [if_neg hz]; rfl)
      | inr x =>
        obtain ⟨d, ts⟩ := x
        obtain ⟨a, dx, q, c, kk, ys, rfl, h1, h2, h3, h4, fa⟩ := ht
        have yl := pat_len fa
        have hn := hfree.own
        refine st_if (b := false) (evb_and (a := true) (b := false) (evb_B (ev_isi (ev_var rfl) ty_str kit_ss)) fun _ => evb_eqS (x := d.name) (y := z) (fun Q q' => .inr ⟨_, rfl, a, dx, _, rfl, h1, a, dx, q, _, _, _, rfl, h1, rfl, h2, rfl, q'⟩) (ev_var rfl) (decide_eq_false hn)) ?_
        refine .inr ⟨_, rfl, a, dx, _, rfl, h1, rfl, a, dx, _, .ref c, rfl, h1, rfl, c, ys, rfl, .of h3, ?_⟩
        refine for_it (walk_enumC (K := K) (t := true) (c := 0) (a := c) (xs := ys)) (fun i σ H' => ∃ a2 a3 a4, σ = [some (.ref a), some (.str z), a2, a3, a4] ∧ Same H H' ∧ Told.spot z (n + 1) (Sum.inr (d, ts)) = findL (Told.spot z n) i (ts.drop i)) ⟨none, none, none, rfl, Same.refl _, rfl⟩ (fun i σ H' _ p => by obtain ⟨_, _, _, _, s, _⟩ := p; exact (show SqT K H' c ys from .of (s _ _ h3))) (fun i x σ H3 H4 hi p y => ?_) (fun σ H3 p => ?_)
        · obtain ⟨a2, a3, a4, rfl, s3, hsp⟩ := p
          obtain ⟨t0, u, g, rfl, ht0, rfl, eu, eg⟩ := y
          cases eu
          obtain ⟨t, ht, px⟩ := pat_get fa eg
          have tm := List.mem_of_getElem? ht
          refine ⟨t0, _, rfl, .of upd_same, rfl, _, _, rfl, _, _, rfl, rfl, ?_⟩
          have s4 := s3.trans (same_new (o := .tup [.int (0 + (i : Nat)), g]) ht0)
          generalize upd H3 t0 (.tup [.int (0 + (i : Nat)), g]) = H4 at s4 ⊢
          refine ⟨_, rfl, _, rfl, g, t, z, rfl, by omega, hok.2.2 t tm, (mk_pat n t).mn _ _ _ s4 px, hfree.child tm, fun v' H5 s5 hv => ?_⟩
          have hdrop : ts.drop i = t :: ts.drop (i + 1) := (List.getElem_cons_drop (h := (List.getElem?_eq_some_iff.mp ht).1)).symm.trans (by rw [(List.getElem?_eq_some_iff.mp ht).2])
          rw [hdrop] at hsp
          unfold findL at hsp
          dsimp only
          cases hs : Told.spot z n t with
          | none =>
            rw [hs] at hsp hv
            cases hv
            exact st_if (b := false) (evb_notN (K := K) (x := .non) (ev_var rfl) rfl) ⟨_, _, _, rfl, s4.trans s5, hsp⟩
          | some sp =>
            rw [hs] at hsp hv
            obtain ⟨p, rfl, hp⟩ := hv
            refine st_if (b := true) (evb_notN (K := K) (x := .ref p) (ev_var rfl) rfl) ?_
            have hsl := spot_len n t hs
            refine ⟨_, rfl, _, rfl, p, _, rfl, .inl (.of hp), Nat.le_trans (show (V.int (0 + (i : Nat)) :: (sp.map (fun i => V.int ((i : Nat) : Int)) ++ [])).length ≤ n + 1 by simp; omega) (Nat.le_trans (show n + 1 ≤ 15 from hn15) (by decide)), fun q hq => k _ _ ((s4.trans s5).trans (same_new hq)) ?_⟩
            rw [hsp]
            refine ⟨q, rfl, ?_⟩
            rw [upd_same, List.append_nil, List.map_cons, Int.zero_add]
        · obtain ⟨a2, a3, a4, rfl, s3, hsp⟩ := p
          rw [yl, List.drop_length] at hsp
          exact k _ _ s3 (by rw [hsp]; rfl)
end
end W48

set_option Elab.async false
set_option linter.all false
set_option maxRecDepth 100000
set_option maxHeartbeats 1000000
namespace W48
open PySem PySem.Spec PyProof.Rows L2 WXG WEv WRd WLf WEn WZs WRu WSt StX WDc
/-! ### attacks, by their sums -/
section
variable {n : Nat}
def stopped (d : SD) (ts : List (Told n)) (i : Nat) : List (Told n) := if d.way = "one" then [] else if d.way = "rest" then ts.drop (i + 1) else ts.take i ++ ts.drop (i + 1)
def front (d : SD) (ts : List (Told n)) (i : Nat) : List (Told n) := if d.way = "all" then ts.take i else []
def opS (ts : List (Told n)) : Int := (ts.map (Told.opening n)).sum
def stS (ts : List (Told n)) : Int := (ts.map (Told.stopping n)).sum
def maxI (a b : Int) : Int := if a < b then b else a
/-- the cycle, o the child's opening, a its attack -/
def cyc (d : SD) (ts : List (Told n)) (i : Nat) (o a : Int) : Int := maxI (stS (stopped d ts i) + opS (stopped d ts i) + o) (stS (stopped d ts i) + opS (front d ts i) + o + a)
def attA (d : SD) (ts : List (Told n)) (i : Nat) (o a : Int) : Option Int :=
  if d.most * cyc d ts i o a ≥ d.span then none else some (maxI 0 (opS (ts.take i) + o + a - opS ts) + d.most * cyc d ts i o a + stS (ts.take i ++ ts.drop (i + 1)))
abbrev AS := Option Int × List (Str × Option Int × Option Int)
def stepA (d : SD) (ts : List (Told n)) (i : Nat) (o : Int) (s : AS) : AS := match s.1 with
  | none => (none, s.2 ++ [(d.name, none, none)])
  | some a => (attA d ts i o a, s.2 ++ [(d.name, some (cyc d ts i o a), attA d ts i o a)])
end
def attS : (n : Nat) → Told n → List Nat → List AS
  | 0, _, _ => []
  | n + 1, t, [] => [(some 0, [])]
  | n + 1, t, i :: sp => match (show WD ⊕ (SD × List (Told n)) from t) with
    | .inl _ => []
    | .inr x => match x.2[i]? with
      | none => []
      | some t => match attS n t sp with
        | [] => []
        | s :: l => stepA x.1 x.2 i (Told.opening n t) s :: s :: l
/-- most + 1 of all supervisors of a way -/
def facs : (n : Nat) → Told n → List Nat → List Int
  | 0, _, _ => []
  | n + 1, _, [] => []
  | n + 1, t, i :: sp => match (show WD ⊕ (SD × List (Told n)) from t) with
    | .inl _ => []
    | .inr x => match x.2[i]? with
      | none => []
      | some t => (x.1.most + 1) :: facs n t sp
def prodI (l : List Int) : Int := l.foldl (· * ·) 1
/-- the plans of a way, in the heap -/
def SupAt (K : PySem.W.Frag) (n : Nat) (x : SD × List (Told n)) (v : V) (c : Addr) (ys : List V) (H : Hp) : Prop := ∃ (a dx q : Addr) (k : Nat), v = .ref a ∧ H a = some (SIns K dx q c (1 + (x.2.map (Told.size n)).sum : Nat) k) ∧ H q = some (.tup x.1.own) ∧ H c = some (.tup ys) ∧ k ≤ n + 1 ∧ Fa (x.2.map (PAt K n)) ys H
def TupAt (K : PySem.W.Frag) (n : Nat) (x : SD × List (Told n)) (v : V) (c : Addr) (ys : List V) (H : Hp) : Prop := ∃ p, v = .ref p ∧ H p = some (.tup (x.1.vals c)) ∧ WSl.TQ H c ys ∧ Fa (x.2.map (TAt n)) ys H
/-- a way down, by what stands for a told thing and what for a supervisor with its children -/
def Chain (A : (n : Nat) → Told n → HP V) (B : (n : Nat) → SD × List (Told n) → V → Addr → List V → Hp → Prop) : (n : Nat) → Told n → List Nat → List V → Hp → Prop
  | 0, _, _, _, _ => False
  | n + 1, t, [], vs, H => ∃ v, vs = [v] ∧ A (n + 1) t v H
  | n + 1, t, i :: sp, vs, H => match (show WD ⊕ (SD × List (Told n)) from t) with
    | .inl _ => False
    | .inr x => ∃ v c ys w ws t, vs = v :: w :: ws ∧ B n x v c ys H ∧ ys[i]? = some w ∧ x.2[i]? = some t ∧ Chain A B n t sp (w :: ws) H
section
variable {A : (n : Nat) → Told n → HP V} {B : (n : Nat) → SD × List (Told n) → V → Addr → List V → Hp → Prop} {H H' : Hp}
theorem chain_len : ∀ {n : Nat} {t : Told n} {sp : List Nat} {vs : List V}, Chain A B n t sp vs H → vs.length = sp.length + 1
  | 0, _, _, _, h => h.elim
  | n + 1, t, [], vs, ⟨v, e, _⟩ => by rw [e]; rfl
  | n + 1, .inl _, i :: sp, vs, h => h.elim
  | n + 1, .inr x, i :: sp, vs, ⟨v, c, ys, w, ws, t, e, _, _, _, h⟩ => by
    have := chain_len h
    rw [e, List.length_cons, this]
    rfl
theorem chain_mn (mA : ∀ n t, Mn (A n t)) (mB : ∀ n x v c ys, B n x v c ys H → B n x v c ys H') (s : Same H H') : ∀ {n : Nat} {t : Told n} {sp : List Nat} {vs : List V}, Chain A B n t sp vs H → Chain A B n t sp vs H'
  | 0, _, _, _, h => h.elim
  | n + 1, t, [], vs, ⟨v, e, h⟩ => ⟨v, e, mA _ _ _ _ _ s h⟩
  | n + 1, .inl _, i :: sp, vs, h => h.elim
  | n + 1, .inr x, i :: sp, vs, ⟨v, c, ys, w, ws, t, e, h1, h2, h3, h⟩ => ⟨v, c, ys, w, ws, t, e, mB _ _ _ _ _ h1, h2, h3, chain_mn mA mB s h⟩
/-- what stands at a place of the way -/
theorem chain_at : ∀ {n : Nat} {t : Told n} {sp : List Nat} {vs : List V}, Told.Ok n t → Chain A B n t sp vs H → ∀ {j i : Nat}, sp[j]? = some i →
    ∃ (k : Nat) (x : SD × List (Told k)) (t' : Told k) (v w : V) (c : Addr) (ys : List V) (s : AS), k + j + 1 = n ∧ vs[j]? = some v ∧ vs[j + 1]? = some w ∧ B k x v c ys H ∧ ys[i]? = some w ∧ x.2[i]? = some t' ∧ Told.Ok (k + 1) (Sum.inr x) ∧ (attS n t sp)[j]? = some (stepA x.1 x.2 i (Told.opening k t') s) ∧ (attS n t sp)[j + 1]? = some s ∧ (∀ r ∈ Told.rows (k + 1) (Sum.inr x), r ∈ Told.rows n t) ∧ (facs n t sp)[j]? = some (x.1.most + 1)
  | 0, _, _, _, _, h, _, _, _ => h.elim
  | n + 1, t, [], vs, _, _, _, _, h => nomatch h
  | n + 1, .inl _, i :: sp, vs, _, h, _, _, _ => h.elim
  | n + 1, .inr x, i :: sp, vs, hok, ⟨v, c, ys, w, ws, t, e, h1, h2, h3, h⟩, j, i', hj => by
    have okt : Told.Ok n t := hok.2.2 t (List.mem_of_getElem? h3)
    have ne : ∃ s l, attS n t sp = s :: l := by
      cases n with
      | zero => exact h.elim
      | succ n =>
        cases sp with
        | nil => exact ⟨_, _, rfl⟩
        | cons i2 sp =>
          cases t with
          | inl d => exact h.elim
          | inr x2 =>
            obtain ⟨s, hs⟩ : ∃ s, (attS (n + 1) (Sum.inr x2) (i2 :: sp))[0]? = some s := by
              obtain ⟨k, x, t', v, w, c, ys, s, _, _, _, _, _, _, _, q, _, _⟩ := chain_at okt h (j := 0) (i := i2) rfl
              exact ⟨_, q⟩
            cases ha : attS (n + 1) (Sum.inr x2) (i2 :: sp) with
            | nil => rw [ha] at hs; cases hs
            | cons s l => exact ⟨_, _, rfl⟩
    obtain ⟨s, l, ea⟩ := ne
    have eA : attS (n + 1) (Sum.inr x) (i :: sp) = stepA x.1 x.2 i (Told.opening n t) s :: attS n t sp := by
      show (match x.2[i]? with | none => [] | some t => match attS n t sp with | [] => [] | s :: l => stepA x.1 x.2 i (Told.opening n t) s :: s :: l) = _
      rw [h3]
      dsimp only
      rw [ea]
    have eF : facs (n + 1) (Sum.inr x) (i :: sp) = (x.1.most + 1) :: facs n t sp := by
      show (match x.2[i]? with | none => [] | some t => (x.1.most + 1) :: facs n t sp) = _
      rw [h3]
    cases j with
    | zero =>
      cases hj
      exact ⟨n, x, t, v, w, c, ys, s, rfl, by rw [e]; rfl, by rw [e]; rfl, h1, h2, h3, hok, by rw [eA]; rfl, by rw [eA, ea]; rfl, fun r hr => hr, by rw [eF]; rfl⟩
    | succ j =>
      obtain ⟨k, x', t', v', w', c', ys', s', q0, q1, q2, q3, q4, q5, q6, q7, q8, q9, q10⟩ := chain_at okt h (j := j) (i := i') hj
      refine ⟨k, x', t', v', w', c', ys', s', by omega, by rw [e]; exact q1, by rw [e]; exact q2, q3, q4, q5, q6, by rw [eA]; exact q7, by rw [eA]; exact q8, fun r hr => ?_, by rw [eF]; exact q10⟩
      exact List.mem_cons_of_mem _ (List.mem_flatten.mpr ⟨_, List.mem_map.mpr ⟨t, List.mem_of_getElem? h3, rfl⟩, q9 r hr⟩)
/-- the end of the way -/
theorem chain_end : ∀ {n : Nat} {t : Told n} {sp : List Nat} {vs : List V}, Told.Ok n t → Chain A B n t sp vs H → ∃ (k : Nat) (u : Told k) (v : V), vs[sp.length]? = some v ∧ A k u v H ∧ Told.Ok k u ∧ (attS n t sp)[sp.length]? = some (some 0, []) ∧ (facs n t sp).length = sp.length
  | 0, _, _, _, _, h => h.elim
  | n + 1, t, [], vs, hok, ⟨v, e, h⟩ => ⟨_, t, v, by rw [e]; rfl, h, hok, rfl, rfl⟩
  | n + 1, .inl _, i :: sp, vs, _, h => h.elim
  | n + 1, .inr x, i :: sp, vs, hok, ⟨v, c, ys, w, ws, t, e, h1, h2, h3, h⟩ => by
    obtain ⟨k, u, v', q1, q2, q3, q4, q5⟩ := chain_end (hok.2.2 t (List.mem_of_getElem? h3)) h
    refine ⟨k, u, v', by rw [e]; exact q1, q2, q3, ?_, by
      show (match x.2[i]? with | none => [] | some t => (x.1.most + 1) :: facs n t sp).length = _
      rw [h3]
      exact congrArg (· + 1) q5⟩
    show (match x.2[i]? with | none => [] | some t => match attS n t sp with | [] => [] | s :: l => stepA x.1 x.2 i (Told.opening n t) s :: s :: l)[sp.length + 1]? = _
    rw [h3]
    dsimp only
    cases ha : attS n t sp with
    | nil => rw [ha] at q4; cases q4
    | cons s l =>
      rw [ha] at q4
      exact q4
end
end W48

set_option Elab.async false
set_option linter.all false
set_option maxRecDepth 100000
set_option maxHeartbeats 4000000
namespace W48
open PySem PySem.Spec PyProof.Rows L2 WXG WEv WRd WLf WEn WZs WRu WSt StX WDc
abbrev ChainP (K : PySem.W.Frag) := Chain (PAt K) (SupAt K)
theorem supAt_mn {K : PySem.W.Frag} {H H' : Hp} (s : Same H H') (n : Nat) (x : SD × List (Told n)) (v : V) (c : Addr) (ys : List V) (h : SupAt K n x v c ys H) : SupAt K n x v c ys H' := by
  obtain ⟨a, dx, q, k, e, h1, h2, h3, h4, h5⟩ := h
  exact ⟨a, dx, q, k, e, s _ _ h1, s _ _ h2, s _ _ h3, h4, mn_fa mk_pats _ _ _ s h5⟩
theorem chainP_mn {K : PySem.W.Frag} {H H' : Hp} (s : Same H H') {n : Nat} {t : Told n} {sp : List Nat} {vs : List V} (h : ChainP K n t sp vs H) : ChainP K n t sp vs H' := chain_mn (fun n t => (mk_pat n t).mn) (fun n x v c ys => supAt_mn s n x v c ys) s h
/-- the way of a name that is found -/
theorem chainP_of {K : PySem.W.Frag} {z : Str} {H : Hp} : ∀ (n : Nat) (t : Told n) {sp : List Nat} {v : V}, Told.spot z n t = some sp → PAt K n t v H → ∃ vs, ChainP K n t sp (v :: vs) H
  | 0, _, _, _, h, _ => nomatch h
  | n + 1, .inl d, sp, v, h, p => by
    have h : (if d.name = z then some [] else none) = some sp := h
    split at h
    · cases h; exact ⟨[], v, rfl, p⟩
    · cases h
  | n + 1, .inr x, sp, v, h, p => by
    obtain ⟨a, dx, q, c, kk, ys, rfl, h1, h2, h3, h4, fa⟩ := p
    have key : ∀ (l : List (Told n)) (i : Nat), x.2.drop i = l → findL (Told.spot z n) i l = some sp → ∃ vs, ChainP K (n + 1) (Sum.inr x) sp (.ref a :: vs) H := by
      intro l
      induction l with
      | nil => intro i _ h; cases h
      | cons t l ih =>
        intro i hd h
        unfold findL at h
        cases ha : Told.spot z n t with
        | none =>
          rw [ha] at h
          refine ih (i + 1) ?_ h
          rw [← List.drop_drop, hd]
          rfl
        | some s =>
          rw [ha] at h
          cases h
          have ht : x.2[i]? = some t := by
            have := congrArg List.head? hd
            rwa [List.head?_drop] at this
          obtain ⟨w, hw, pw⟩ := fa.get (n := i) (P := PAt K n t) (by rw [List.getElem?_map, ht]; rfl)
          obtain ⟨ws, hc⟩ := chainP_of n t ha pw
          exact ⟨w :: ws, .ref a, c, ys, w, ws, t, rfl, ⟨a, dx, q, kk, rfl, h1, h2, h3, h4, fa⟩, hw, ht, hc⟩
    exact key x.2 0 rfl h
def spWay (K : PySem.W.Frag) (n : Nat) : Sp := fun vs H Q _ => ∃ (v : V) (t : Told n) (z : Str) (sp : List Nat) (ws : List V), vs = [v, .str z] ∧ n ≤ 15 ∧ Told.Ok n t ∧ SupFree z n t ∧ Told.spot z n t = some sp ∧ ChainP K n t sp (v :: ws) H ∧ ∀ l H', Same H H' → H' l = some (.lst (v :: ws)) → Q (.ref l) H'
theorem chain_head {K : PySem.W.Frag} {n : Nat} {t : Told n} {sp : List Nat} {v : V} {ws : List V} {H : Hp} (h : ChainP K n t sp (v :: ws) H) : PAt K n t v H := by
  cases n with
  | zero => exact h.elim
  | succ n =>
    cases sp with
    | nil =>
      obtain ⟨v', e, p⟩ := h
      cases e
      exact p
    | cons i sp =>
      cases t with
      | inl d => exact h.elim
      | inr x =>
        obtain ⟨v', c, ys, w, ws', t, e, ⟨a, dx, q, k, e2, h1, h2, h3, h4, h5⟩, _⟩ := h
        cases e
        exact ⟨a, dx, q, c, k, ys, e2, h1, h2, h3, h4, h5⟩
section
variable {P : Program} {w : World} {K : PySem.W.Frag} {mg : Str → Option Value} {base : Heap}
theorem ok_required_way (T : Env K mg) (n : Nat) : FnOk P w K mg base CX0 (n + 4) (d_required_way.loc K) T.fd_required_way ["plan", "place"] (spWay K n) := by
  have G_spot_of : FnOk P w K mg base CX0 (n + 3) _ _ _ _ := ok_spot_of T n
  have G_Plan_below : FnOk P w K mg base CX0 1 _ _ _ _ := ok_P_below T
  have G_SupervisorPlan_below : FnOk P w K mg base CX0 1 _ _ _ _ := ok_SP_below T
  refine T.F_required_way.ok sc_required_way (fun vs H Q E h => ?_) (fun cdv A outer s H vs Q E hr h => ?_)
  · obtain ⟨v, t, z, sp, ws, rfl, _⟩ := h
    rfl
  · have nd := sc_required_way.nd
    have hu := hu_of hr
    obtain ⟨v, t, z, sp, ws, rfl, hn15, hok, hfree, hsp, hch, k⟩ := h
    have hsl := spot_len n t hsp
    have hcl := chain_len hch
    refine ⟨_, PSs.nox (pss_cons (ps_set (i := 2) nd rfl (Or.inl rfl) (pe_call G_spot_of (hr.mono (by omega)) (by rfl) T.g_spot_of T.F_spot_of.kp T.bi_spot_of .nil pass0 (pa_cons (pv 0) (pa_cons (pv 1) pa_nil))))
 (pss_cons (ps_if (pt_cmpR op_isN (pv 2) pe_non (nomark _))
  (pss_one ps_dead)
  pss_nil)
 (pss_cons (ps_set (i := 3) nd rfl (Or.inl rfl) (pe_lst (pa_cons (pv 0) pa_nil)))
 (pss_cons (ps_for PassesOwn.never rfl (pi_tup (pv 2)) (pg_name (i := 4) nd rfl (Or.inl rfl))
  (pss_one (ps_expr (pe_bm PySem.F.plainAttrs_list PySem.F.slot_list_append PySem.F.type_list_append mt_append (pv 3) (pa_cons (pe_ix (ixtK (K := K)) (pe_or (pe_meth0 (pe_ix (ixlK (K := K)) (pv 3) (pe_un un_neg pe_int) (fun _ _ => rfl)) T.dc_WorkerPlan.cls T.m_WorkerPlan_below G_Plan_below (hr.mono (by omega)) T.bi_Plan_below .nil pass0) (pe_meth0 (pe_ix (ixlK (K := K)) (pv 3) (pe_un un_neg pe_int) (fun _ _ => rfl)) T.dc_SupervisorPlan.cls T.m_SupervisorPlan_below G_SupervisorPlan_below (hr.mono (by omega)) T.bi_SupervisorPlan_below .nil pass0)) (pv 4) (fun _ _ => rfl)) pa_nil)))))
 (pss_one (ps_ret (pv 3))))))), ?_⟩
    refine ⟨_, rfl, _, rfl, v, t, z, rfl, hn15, hok, chain_head hch, hfree, fun v1 H1 s1 hv1 => ?_⟩
    rw [hsp] at hv1
    obtain ⟨p, rfl, hp⟩ := hv1
    dsimp only
    show tSeq _ _ _ _ _
    refine st_no (fun Q q => ⟨_, rfl, rfl, false, rfl, q⟩) ?_
    show tSeq _ _ _ _ _
    refine ⟨_, rfl, (by decide : 1 ≤ sizeLine), fun l hl => ?_⟩
    have s2 : Same H (upd H1 l (.lst [v])) := s1.trans (same_new hl)
    have hl0 : H l = none := Same.free s1 hl
    have hp2 := (same_new (o := .lst [v]) hl) _ _ hp
    have hl2 : upd H1 l (.lst [v]) l = some (.lst [v]) := upd_same
    generalize upd H1 l (.lst [v]) = H2 at s2 hp2 hl2 ⊢
    have pl : p ≠ l := fun z => by rw [z, hl2] at hp2; cases hp2
    refine ⟨_, rfl, p, rfl, ⟨_, .of hp2⟩, ?_⟩
    refine for_it (walk_tup (xs := sp.map fun i => V.int ((i : Nat) : Int))) (fun j σ H' => ∃ a4, σ = [some v, some (.str z), some (.ref p), some (.ref l), a4] ∧ Same H H' ∧ H' p = some (.tup (sp.map fun i => V.int ((i : Nat) : Int))) ∧ H' l = some (.lst ((v :: ws).take (j + 1)))) ⟨none, rfl, s2, hp2, hl2⟩ (fun j σ H' _ q => by obtain ⟨_, _, _, q, _⟩ := q; exact .of q) (fun j x σ H3 H4 hj q y => ?_) (fun σ H3 q => ?_)
    · obtain ⟨a4, rfl, s3, hp3, hl3⟩ := q
      obtain ⟨rfl, hx⟩ := y
      rw [List.length_map] at hj
      obtain ⟨i, hi⟩ : ∃ i, sp[j]? = some i := ⟨_, List.getElem?_eq_getElem hj⟩
      obtain rfl : x = .int ((i : Nat) : Int) := by
        rw [List.getElem?_map, hi] at hx
        exact (Option.some.inj hx).symm
      obtain ⟨kk, x, t', v', w', c, ys, st, _, e1, e2, hsup, e3, e4, _, _, _, _, _⟩ := chain_at hok (chainP_mn s3 hch) (j := j) (i := i) hi
      obtain ⟨a, dx, q0, kd, rfl, h1, h2, h3, h4, h5⟩ := hsup
      have tl : ((v :: ws).take (j + 1)).length = j + 1 := by
        rw [List.length_take, hcl]
        omega
      have last : atI ((v :: ws).take (j + 1)) (-1) = some (.ref a) := by
        rw [List.take_succ, e1]
        exact L2.atI_last _ _
      refine ⟨_, rfl, .inl ⟨rfl, _, .of hl3⟩, ?_⟩
      refine .inr ⟨_, rfl, _, rfl, l, _, -1, .ref a, rfl, rfl, .of hl3, last, a, dx, _, rfl, h1, rfl, a, dx, _, .ref c, rfl, h1, rfl, ?_⟩
      refine ⟨_, rfl, c, ys, ((i : Nat) : Int), w', rfl, rfl, .of h3, atI_nat e3, l, _, w', rfl, rfl, hl3, Nat.lt_of_le_of_lt (show ((v :: ws).take (j + 1)).length ≤ 16 by rw [tl]; omega) (by decide), _, rfl, same_put s3 hl0, by rw [upd_ne pl]; exact hp3, ?_⟩
      rw [upd_same, List.take_succ (i := j + 1), e2]
      rfl
    · obtain ⟨a4, rfl, s3, hp3, hl3⟩ := q
      rw [List.length_map, List.take_of_length_le (by rw [hcl]; omega)] at hl3
      exact st_ret (ev_var rfl) (k l H3 s3 hl3)
end
end W48

set_option Elab.async false
set_option linter.all false
set_option maxRecDepth 100000
set_option maxHeartbeats 4000000
namespace W48
open PySem PySem.Spec PyProof.Rows L2 WXG WEv WRd WLf WEn WZs WRu WSt StX WDc
/-! ### a root that breaks no rule -/
def RootOk (n : Nat) (t : Told n) : Prop := Told.Ok n t ∧ ((Told.rows n t).map (·.2)).Nodup ∧ Told.size n t ≤ 16 ∧ n ≤ 6 ∧ Told.great n t ≤ 1000
def spLev (K : PySem.W.Frag) : Sp := fun vs H Q _ => ∃ (a C dx : Addr) (fs : List (Str × V)) (k : V), vs = [.ref a] ∧ H a = some (.ins C dx fs) ∧ (C = CW K ∨ C = CS K) ∧ fs.lookup ("own_depth" : Str) = some k ∧ Q k H
def spGP (K : PySem.W.Frag) (n : Nat) : Sp := fun vs H Q _ => ∃ (v : V) (t : Told n), vs = [v] ∧ Told.Ok n t ∧ PAt K n t v H ∧ ∀ H', Same H H' → Q (.int ((Told.great n t : Nat) : Int)) H'
def spRoot (K : PySem.W.Frag) (r : V) : Sp := fun vs H Q _ => ∃ (n : Nat) (v : V) (x : SD × List (Told n)), vs = [v] ∧ n ≤ 5 ∧ RootOk (n + 1) (Sum.inr x) ∧ PAt K (n + 1) (Sum.inr x) v H ∧ ∀ H', Same H H' → Q r H'
theorem st_next {D : Ends} {σ : L2.St} {H : Hp} (h : D.nx σ H) : tNext D σ H := h
theorem fold_max {ns : List Nat} {m : Int} (hm : m ∈ ([1] ++ ns).map fun (x : Nat) => ((x : Nat) : Int)) (hle : ∀ y ∈ ([1] ++ ns).map fun (x : Nat) => ((x : Nat) : Int), y ≤ m) : m = ((ns.foldr max 1 : Nat) : Int) := by
  have up : ∀ (l : List Nat), ∀ y ∈ l, y ≤ l.foldr max 1 := fun l => by
    induction l with
    | nil => intro y h; cases h
    | cons a l ih =>
      intro y h
      rw [List.foldr_cons]
      rcases List.mem_cons.mp h with rfl | h
      · exact Nat.le_max_left _ _
      · exact Nat.le_trans (ih y h) (Nat.le_max_right _ _)
  have one : ∀ (l : List Nat), 1 ≤ l.foldr max 1 := fun l => by
    induction l with
    | nil => exact Nat.le_refl _
    | cons a l ih => exact Nat.le_trans ih (Nat.le_max_right _ _)
  have isin : ∀ (l : List Nat), l.foldr max 1 ∈ [1] ++ l := fun l => by
    induction l with
    | nil => exact List.mem_cons_self
    | cons a l ih =>
      rw [List.foldr_cons, Nat.max_def]
      split
      · rcases List.mem_append.mp ih with h | h
        · exact List.mem_append_left _ h
        · exact List.mem_append_right _ (List.mem_cons_of_mem _ h)
      · exact List.mem_append_right _ List.mem_cons_self
  obtain ⟨x, hx, rfl⟩ := List.mem_map.mp hm
  have h1 := hle _ (List.mem_map.mpr ⟨_, isin ns, rfl⟩)
  have h2 : x ≤ ns.foldr max 1 := by
    rcases List.mem_append.mp hx with h | h
    · cases List.mem_singleton.mp h
      exact one ns
    · exact up ns x h
  have h3 : ns.foldr max 1 ≤ x := Int.ofNat_le.mp h1
  rw [Nat.le_antisymm h2 h3]
theorem put_len {zs : List Str} {z : Str} (h : z ∉ zs) : putK (zs.map fun z => ((Sum.inr z : Key), V.bl true)) (Sum.inr z) (.bl true) = (zs ++ [z]).map fun z => ((Sum.inr z : Key), V.bl true) := by
  unfold putK
  rw [if_neg, List.map_append]
  · rfl
  · intro q
    obtain ⟨k, hk, e⟩ := List.any_eq_true.mp q
    obtain ⟨y, hy, rfl⟩ := List.mem_map.mp hk
    have e := of_decide_eq_true e
    exact h (Sum.inr.inj e ▸ hy)
section
variable {P : Program} {w : World} {K : PySem.W.Frag} {mg : Str → Option Value} {base : Heap}
theorem ok_greatest_product (T : Env K mg) : ∀ n, FnOk P w K mg base CX0 (n + 3) (d_greatest_product.loc K) T.fd_greatest_product ["plan"] (spGP K n)
  | 0 => T.F_greatest_product.ok sc_greatest_product (fun vs H Q E (h : spGP K 0 vs H Q E) => by obtain ⟨v, t, _⟩ := h; cases t) (fun cdv A outer s H vs Q E hr (h : spGP K 0 vs H Q E) => by obtain ⟨v, t, _⟩ := h; cases t)
  | n + 1 => by
    have G_greatest_product : FnOk P w K mg base CX0 (n + 3) _ _ _ _ := ok_greatest_product T n
    have G_is_supervisor : FnOk P w K mg base CX0 1 _ _ _ _ := ok_is_supervisor T
    have G_SupervisorPlan_children : FnOk P w K mg base CX0 1 _ _ _ _ := ok_SP_children T
    have G_SupervisorPlan_most : FnOk P w K mg base CX0 1 _ _ _ _ := ok_SP_most T
    refine T.F_greatest_product.ok sc_greatest_product (fun vs H Q E h => ?_) (fun cdv A outer s H vs Q E hr h => ?_)
    · obtain ⟨v, t, rfl, _⟩ := h
      rfl
    · have nd := sc_greatest_product.nd
      have hu := hu_of hr
      obtain ⟨v, t, rfl, hok, ht, k⟩ := h
      refine ⟨_, PSs.nox (pss_cons (ps_if (pt_not (pt_val (pe_call G_is_supervisor (hr.mono (by omega)) (by rfl) T.g_is_supervisor T.F_is_supervisor.kp T.bi_is_supervisor .nil pass0 (pa_cons (pv 0) pa_nil))))
  (pss_one (ps_ret pe_int))
  pss_nil)
 (pss_one (ps_ret (pe_op op_mul (pe_op op_add (pe_prop (pv 0) T.dc_SupervisorPlan.cls T.p_SupervisorPlan_most G_SupervisorPlan_most (hr.mono (by omega)) T.bi_SupervisorPlan_most .nil pass0 rfl) pe_int) (pe_callB (cr_max rfl) (by rfl) T.b_max (by decide +kernel) (pa_cons (pe_op op_cat (pe_lst (pa_cons pe_int pa_nil)) (pe_lc (own := [("child", 1)]) (by rfl) nd (pi_tup (pe_prop (pv 0) T.dc_SupervisorPlan.cls T.p_SupervisorPlan_children G_SupervisorPlan_children (hr.mono (by omega)) T.bi_SupervisorPlan_children .nil pass0 rfl)) (blkOk_by (N := ["plan", "child"]) (sc := defScope s_greatest_product) (by decide +kernel)) (fun _ _ _ _ _ => (pg_name (i := 1) nd rfl (Or.inl rfl))) (fun _ _ _ _ _ => pts_nil) (fun _ _ _ _ _ => (pe_call G_greatest_product (hr.mono (by omega)) (by rfl) T.g_greatest_product T.F_greatest_product.kp T.bi_greatest_product .nil pass0 (pa_cons (pv 1) pa_nil))))) pa_nil)))))), ?_⟩
      cases t with
      | inl d =>
        obtain ⟨a, dx, q, sc, rfl, h1, h2, h3⟩ := ht
        exact st_if (b := true) (fun Q q => ⟨_, rfl, a, dx, _, rfl, .inl ⟨h1, false, rfl, q⟩⟩) (k _ (Same.refl _))
      | inr x =>
        obtain ⟨d, ts⟩ := x
        obtain ⟨a, dx, q, c, kk, ys, rfl, h1, h2, h3, h4, fa⟩ := ht
        have yl := pat_len fa
        have hmo : (0 : Int) ≤ d.most := hok.1.2.2.2.1
        have hmo2 : d.most ≤ 20 := hok.1.2.2.2.2.1
        refine st_no (fun Q q => ⟨_, rfl, a, dx, _, rfl, .inr ⟨h1, true, rfl, q⟩⟩) ?_
        refine ⟨_, rfl, a, dx, _, rfl, h1, a, dx, q, _, _, _, rfl, h1, rfl, h2, rfl, d.most, 1, rfl, rfl, ?_⟩
        refine (g_cat (Ps := [Is (.int 1)]) (Qs := (((ts.map (Told.great n)).map fun (x : Nat) => V.int ((x : Nat) : Int))).map Is) (g_lst (ga_cons g_c ga_nil)) (g_lcF (J := Itt K c) (ys := ys) (fun H1 s R r => ⟨_, rfl, a, dx, _, rfl, s _ _ h1, a, dx, _, .ref c, rfl, s _ _ h1, rfl, c, rfl, ⟨ys, .of (s _ _ h3)⟩, r⟩) walk_tup (fun H1 s => .of (s _ _ h3)) (by simp [yl]) (by rw [yl]; exact Nat.le_trans hok.2.1 (by decide)) mk_iss fun i x P H1 hx hP s Q q => ?_) (mn_cons mn_i mn_nil) (mn_fa mk_iss) (by simp only [List.length_map, List.length_cons, List.length_nil]; exact Nat.le_trans (Nat.add_le_add_left hok.2.1 1) (by decide))).ev H (Same.refl _) _ fun x H2 s2 px => ?_
        · obtain ⟨t, ht, px⟩ := pat_get fa hx
          obtain rfl : P = Is (.int ((Told.great n t : Nat) : Int)) := by
            rw [List.getElem?_map, List.getElem?_map, List.getElem?_map, ht] at hP
            exact (Option.some.inj hP).symm
          exact ⟨x, rfl, x, t, rfl, hok.2.2 t (List.mem_of_getElem? ht), (mk_pat n t).mn _ _ _ s px, fun H' s' => q _ _ s' rfl⟩
        · obtain ⟨l, xs, rfl, hl, fx⟩ := px
          obtain rfl : xs = ((([1] ++ ts.map (Told.great n)).map fun (x : Nat) => ((x : Nat) : Int))).map V.int := by
            obtain ⟨y, zs, rfl, e1, e2⟩ : ∃ y zs, xs = y :: zs ∧ y = .int 1 ∧ Fa (((ts.map (Told.great n)).map fun (x : Nat) => V.int ((x : Nat) : Int)).map Is) zs H2 := by
              cases xs with
              | nil => exact fx.elim
              | cons y zs => exact ⟨y, zs, rfl, fx.1, fx.2⟩
            rw [e1, e2.is]
            simp
          refine ⟨l, _, rfl, .of hl, by simp, fun m hm hle => ?_⟩
          rw [fold_max hm hle]
          refine ⟨_, _, rfl, rfl, .inl ⟨by omega, by omega⟩, ?_⟩
          have e : (d.most + 1) * (((ts.map (Told.great n)).foldr max 1 : Nat) : Int) = ((Told.great (n + 1) (Sum.inr (d, ts)) : Nat) : Int) := by
            show _ = (((d.most.toNat + 1) * (ts.map (Told.great n)).foldr max 1 : Nat) : Int)
            rw [Int.natCast_mul, Int.natCast_add, Int.toNat_of_nonneg hmo]
            rfl
          dsimp only
          rw [e]
          exact k _ s2
theorem ok_levels (T : Env K mg) : FnOk P w K mg base CX0 1 (d_levels.loc K) T.fd_levels ["plan"] (spLev K) := by
  refine T.F_levels.ok sc_levels (fun vs H Q E h => ?_) (fun cdv A outer s H vs Q E hr h => ?_)
  · obtain ⟨a, C, dx, fs, k, rfl, _⟩ := h
    rfl
  · have nd := sc_levels.nd
    have hu := hu_of hr
    obtain ⟨a, C, dx, fs, k, rfl, ha, hC, hl, q⟩ := h
    refine ⟨_, PSs.nox (pss_one (ps_ret (pe_fld (pv 0) rfl))), ?_⟩
    rcases hC with rfl | rfl
    · exact ⟨_, rfl, a, _, dx, fs, _, rfl, ha, T.dc_WorkerPlan.cls, T.n_WorkerPlan_own_depth, hl, q⟩
    · exact ⟨_, rfl, a, _, dx, fs, _, rfl, ha, T.dc_SupervisorPlan.cls, T.n_SupervisorPlan_own_depth, hl, q⟩
theorem ok_broken_rule (T : Env K mg) : FnOk P w K mg base CX0 10 (d_broken_rule.loc K) T.fd_broken_rule ["plan"] (spRoot K (.str "")) := by
  have G_is_supervisor : FnOk P w K mg base CX0 1 _ _ _ _ := ok_is_supervisor T
  have G_names : FnOk P w K mg base CX0 9 _ _ _ _ := fn_any 6 (ok_names T) (M := 9) fun n h => by omega
  have G_levels : FnOk P w K mg base CX0 1 _ _ _ _ := ok_levels T
  have G_greatest_product : FnOk P w K mg base CX0 9 _ _ _ _ := fn_any 6 (ok_greatest_product T) (M := 9) fun n h => by omega
  refine T.F_broken_rule.ok sc_broken_rule (fun vs H Q E h => ?_) (fun cdv A outer s H vs Q E hr h => ?_)
  · obtain ⟨n, v, x, rfl, _⟩ := h
    rfl
  · have nd := sc_broken_rule.nd
    have hu := hu_of hr
    obtain ⟨n, v, x, rfl, hn5, ⟨hok, hnd, hsz, hn6, hgr⟩, hp, k⟩ := h
    refine ⟨_, PSs.nox (pss_cons (ps_if (pt_not (pt_val (pe_call G_is_supervisor (hr.mono (by decide)) (by rfl) T.g_is_supervisor T.F_is_supervisor.kp T.bi_is_supervisor .nil pass0 (pa_cons (pv 0) pa_nil))))
  (pss_one (ps_ret pe_str))
  pss_nil)
 (pss_cons (ps_set (i := 1) nd rfl (Or.inl rfl) (pe_call G_names (hr.mono (by decide)) (by rfl) T.g_names T.F_names.kp T.bi_names .nil pass0 (pa_cons (pv 0) pa_nil)))
 (pss_cons (ps_if (pt_cmpR op_gt (pe_callB call_len_seq (by rfl) T.b_len (by decide +kernel) (pa_cons (pv 1) pa_nil)) (pe_callB call_lenD (by rfl) T.b_len (by decide +kernel) (pa_cons (pe_dc (own := [("name", 2)]) (by rfl) nd (pi_tup (pv 1)) (blkOk_by (N := ["plan", "some", "name"]) (sc := defScope s_broken_rule) (by decide +kernel)) (fun _ _ _ _ _ => (pg_name (i := 2) nd rfl (Or.inl rfl))) (fun _ _ _ _ _ => pts_nil) (fun _ _ _ _ _ => (pv 2)) (fun _ _ _ _ _ => pe_bl)) pa_nil)) (nomark _))
  (pss_one (ps_ret pe_str))
  pss_nil)
 (pss_cons (ps_if (pt_cmpR op_gt (pe_callB call_len_seq (by rfl) T.b_len (by decide +kernel) (pa_cons (pv 1) pa_nil)) (C8.pe_gc (by rfl) T.c_MOST_PLANS) (nomark _))
  (pss_one (ps_ret pe_str))
  pss_nil)
 (pss_cons (ps_if (pt_cmpR op_gt (pe_call G_levels (hr.mono (by decide)) (by rfl) T.g_levels T.F_levels.kp T.bi_levels .nil pass0 (pa_cons (pv 0) pa_nil)) (C8.pe_gc (by rfl) T.c_MOST_LEVELS) (nomark _))
  (pss_one (ps_ret pe_str))
  pss_nil)
 (pss_one (ps_ret (pe_ifExp (pt_cmpR op_gt (pe_call G_greatest_product (hr.mono (by decide)) (by rfl) T.g_greatest_product T.F_greatest_product.kp T.bi_greatest_product .nil pass0 (pa_cons (pv 0) pa_nil)) (C8.pe_gc (by rfl) T.c_MOST_PRODUCT) (nomark _)) pe_str pe_str)))))))), ?_⟩
    obtain ⟨a, dx, q, c, kk, ys, rfl, h1, h2, h3, h4, fa⟩ := id hp
    refine st_no (fun Q q => ⟨_, rfl, a, dx, _, rfl, .inr ⟨h1, true, rfl, q⟩⟩) ?_
    dsimp only
    show tSeq _ _ _ _ _
    refine ⟨_, rfl, n + 1, by omega, _, Sum.inr x, rfl, hok, hsz, hp, fun p H1 s1 hp1 => ?_⟩
    have rl := rows_len (n + 1) (Sum.inr x)
    generalize hrows : Told.rows (n + 1) (Sum.inr x) = rows at *
    have hmap : (rows.map fun r => V.str r.2) = (rows.map (·.2)).map V.str := by rw [List.map_map]; rfl
    rw [hmap] at hp1
    generalize hzs : rows.map (·.2) = zs at *
    have zl : zs.length ≤ 16 := by rw [← hzs, List.length_map, rl]; exact hsz
    dsimp only
    show tSeq _ _ _ _ _
    -- the names are different
    refine ⟨_, rfl, p, _, rfl, .inr (.of hp1), _, rfl, p, rfl, ⟨_, .of hp1⟩, fun D hD => ?_⟩
    refine dc_tup (K := K) (a := p) (xs := zs.map V.str) (fun i H' => Same H1 H' ∧ H' D = some (.dK ((zs.take i).map fun z => ((Sum.inr z : Key), V.bl true)))) ⟨same_new hD, upd_same⟩ (fun i H' _ q => .of (q.1 _ _ hp1)) (fun i x H' hx q => ?_) (fun H' q => ?_)
    · rw [List.getElem?_map] at hx
      obtain ⟨z, hz, rfl⟩ : ∃ z, zs[i]? = some z ∧ x = V.str z := by
        cases h : zs[i]? with
        | none => rw [h] at hx; cases hx
        | some z => rw [h] at hx; exact ⟨z, rfl, (Option.some.inj hx).symm⟩
      have et : zs.take (i + 1) = zs.take i ++ [z] := by rw [List.take_succ, hz]; rfl
      have hni : z ∉ zs.take i := fun m => by
        have nd2 : (zs.take (i + 1)).Nodup := (List.take_sublist _ _).nodup hnd
        rw [et] at nd2
        exact (List.nodup_append.mp nd2).2.2 z m z (List.mem_singleton.mpr rfl) rfl
      refine ⟨rfl, _, rfl, _, Sum.inr z, rfl, q.2, Nat.lt_of_le_of_lt ?_ (show 16 < sizeLine by decide), same_put q.1 hD, ?_⟩
      · rw [List.length_map, List.length_take]
        exact Nat.le_trans (Nat.min_le_right _ _) zl
      · rw [put_len hni, ← et]
        exact upd_same
    · obtain ⟨s2, hD2⟩ := q
      rw [List.length_map, List.take_length] at hD2
      refine ⟨D, _, rfl, hD2, _, _, rfl, rfl, false, congrArg V.bl (decide_eq_false (by simp)), ?_⟩
      have s12 := s1.trans s2
      have hp2 := s2 _ _ hp1
      have l0 : ((zs.map V.str).length : Int) ≤ 60 := by rw [List.length_map]; omega
      dsimp only
      rw [if_neg Bool.false_ne_true]
      refine st_next ?_
      dsimp only
      show tSeq _ _ _ _ _
      refine st_no (fun Q q => ⟨_, rfl, p, _, rfl, .inr (.of hp2), _, _, rfl, rfl, false, congrArg V.bl (decide_eq_false (by omega)), q⟩) ?_
      dsimp only
      show tSeq _ _ _ _ _
      refine st_no (fun Q q => ⟨_, rfl, a, _, dx, _, .int (kk : Nat), rfl, s12 _ _ h1, .inr rfl, rfl, _, _, rfl, rfl, false, congrArg V.bl (decide_eq_false (by omega)), q⟩) ?_
      dsimp only
      show tRet _ _ _ _
      refine ⟨_, rfl, n + 1, by omega, _, Sum.inr x, rfl, hok, (mk_pat _ _).mn _ _ _ s12 hp, fun H3 s3 => ?_⟩
      exact ⟨_, _, rfl, rfl, false, congrArg V.bl (decide_eq_false (by omega)), k _ (s12.trans s3)⟩
theorem ok_check_root (T : Env K mg) : FnOk P w K mg base CX0 11 (d_check_root.loc K) T.fd_check_root ["plan"] (spRoot K .non) := by
  have G_broken_rule : FnOk P w K mg base CX0 10 _ _ _ _ := ok_broken_rule T
  refine T.F_check_root.ok sc_check_root (fun vs H Q E h => ?_) (fun cdv A outer s H vs Q E hr h => ?_)
  · obtain ⟨n, v, x, rfl, _⟩ := h
    rfl
  · have nd := sc_check_root.nd
    have hu := hu_of hr
    obtain ⟨n, v, x, rfl, hn5, hR, hp, k⟩ := h
    refine ⟨_, PSs.nox (pss_cons (ps_set (i := 1) nd rfl (Or.inl rfl) (pe_call G_broken_rule (hr.mono (by decide)) (by rfl) T.g_broken_rule T.F_broken_rule.kp T.bi_broken_rule .nil pass0 (pa_cons (pv 0) pa_nil)))
 (pss_one (ps_if (pt_cmpR op_ne (pv 1) pe_str (nomark _))
  (pss_one ps_dead)
  pss_nil))), ?_⟩
    refine ⟨_, rfl, n, v, x, rfl, hn5, hR, hp, fun H1 s1 => ?_⟩
    dsimp only
    show tIfS _ _ _ _ _ _
    exact st_no (fun Q q => ⟨_, rfl, rfl, false, rfl, q⟩) (k _ s1)
def spWayW (K : PySem.W.Frag) : Sp := fun vs H Q _ => ∃ (n : Nat) (v : V) (x : SD × List (Told n)) (z : Str) (sp : List Nat) (ws : List V), vs = [v, .str z] ∧ n ≤ 5 ∧ RootOk (n + 1) (Sum.inr x) ∧ SupFree z (n + 1) (Sum.inr x) ∧ Told.spot z (n + 1) (Sum.inr x) = some sp ∧ ChainP K (n + 1) (Sum.inr x) sp (v :: ws) H ∧ ∀ l H', Same H H' → H' l = some (.lst (v :: ws)) → Q (.ref l) H'
/-- the way ends at a worker -/
theorem spot_worker {K : PySem.W.Frag} {z : Str} {H : Hp} : ∀ (n : Nat) (t : Told n) {sp : List Nat} {vs : List V}, Told.spot z n t = some sp → ChainP K n t sp vs H → ∃ d w, vs[sp.length]? = some w ∧ PW K d w H
  | 0, _, _, _, h, _ => nomatch h
  | n + 1, .inl d, sp, vs, h, c => by
    have h : (if d.name = z then some [] else none) = some sp := h
    split at h
    · cases h
      obtain ⟨v, e, p⟩ := c
      exact ⟨d, v, by rw [e]; rfl, p⟩
    · cases h
  | n + 1, .inr x, sp, vs, h, c => by
    have key : ∀ (l : List (Told n)) (i : Nat), x.2.drop i = l → findL (Told.spot z n) i l = some sp → ∃ d w, vs[sp.length]? = some w ∧ PW K d w H := by
      intro l
      induction l with
      | nil => intro i _ h; cases h
      | cons t l ih =>
        intro i hd h
        unfold findL at h
        cases ha : Told.spot z n t with
        | none =>
          rw [ha] at h
          refine ih (i + 1) ?_ h
          rw [← List.drop_drop, hd]
          rfl
        | some s =>
          rw [ha] at h
          cases h
          have ht : x.2[i]? = some t := by
            have := congrArg List.head? hd
            rwa [List.head?_drop] at this
          obtain ⟨v, c', ys, w, ws, t', e, _, _, h3, hc⟩ := c
          rw [ht] at h3
          cases h3
          obtain ⟨d, w', e', p⟩ := spot_worker n t ha hc
          exact ⟨d, w', by rw [e]; exact e', p⟩
    exact key x.2 0 rfl h
theorem ok_way_of_worker (T : Env K mg) : FnOk P w K mg base CX0 12 (d_way_of_worker.loc K) T.fd_way_of_worker ["plan", "place"] (spWayW K) := by
  have G_check_root : FnOk P w K mg base CX0 11 _ _ _ _ := ok_check_root T
  have G_required_way : FnOk P w K mg base CX0 10 _ _ _ _ := fn_any 6 (ok_required_way T) (M := 10) fun n h => by omega
  have G_is_supervisor : FnOk P w K mg base CX0 1 _ _ _ _ := ok_is_supervisor T
  refine T.F_way_of_worker.ok sc_way_of_worker (fun vs H Q E h => ?_) (fun cdv A outer s H vs Q E hr h => ?_)
  · obtain ⟨n, v, x, z, sp, ws, rfl, _⟩ := h
    rfl
  · have nd := sc_way_of_worker.nd
    have hu := hu_of hr
    obtain ⟨n, v, x, z, sp, ws, rfl, hn5, hR, hfree, hsp, hch, k⟩ := h
    refine ⟨_, PSs.nox (pss_cons (ps_expr (pe_call G_check_root (hr.mono (by decide)) (by rfl) T.g_check_root T.F_check_root.kp T.bi_check_root .nil pass0 (pa_cons (pv 0) pa_nil)))
 (pss_cons (ps_set (i := 2) nd rfl (Or.inl rfl) (pe_call G_required_way (hr.mono (by decide)) (by rfl) T.g_required_way T.F_required_way.kp T.bi_required_way .nil pass0 (pa_cons (pv 0) (pa_cons (pv 1) pa_nil))))
 (pss_cons (ps_if (pt_val (pe_call G_is_supervisor (hr.mono (by decide)) (by rfl) T.g_is_supervisor T.F_is_supervisor.kp T.bi_is_supervisor .nil pass0 (pa_cons (pe_ix (ixlK (K := K)) (pv 2) (pe_un un_neg pe_int) (fun _ _ => rfl)) pa_nil)))
  (pss_one ps_dead)
  pss_nil)
 (pss_one (ps_ret (pv 2)))))), ?_⟩
    refine ⟨_, rfl, n, v, x, rfl, hn5, hR, chain_head hch, fun H1 s1 => ?_⟩
    refine ⟨_, rfl, _, rfl, n + 1, by omega, v, Sum.inr x, z, sp, ws, rfl, by omega, hR.1, hfree, hsp, chainP_mn s1 hch, fun l H2 s2 hl => ?_⟩
    dsimp only
    show tSeq _ _ _ _ _
    obtain ⟨d, w', e', a, dx, q, sc, rfl, h1, _⟩ := spot_worker (n + 1) (Sum.inr x) hsp (chainP_mn (s1.trans s2) hch)
    have hcl := chain_len hch
    have last : atI (v :: ws) (-1) = some (.ref a) := by
      have : v :: ws = (v :: ws).take sp.length ++ [V.ref a] := by
        have := List.take_succ (l := v :: ws) (i := sp.length)
        rw [e', List.take_of_length_le (by omega)] at this
        exact this
      rw [this]
      exact L2.atI_last _ _
    refine st_no (fun Q q => ⟨_, rfl, _, rfl, l, _, -1, .ref a, rfl, rfl, .of hl, last, a, dx, _, rfl, .inl ⟨h1, false, rfl, q⟩⟩) ?_
    exact st_ret (ev_var rfl) (k l H2 (s1.trans s2) hl)
end
end W48

set_option Elab.async false
set_option linter.all false
set_option maxRecDepth 100000
set_option maxHeartbeats 4000000
namespace W48
open PySem PySem.Spec PyProof.Rows L2 WXG WEv WRd WLf WEn WZs WRu WSt StX WDc
theorem hu66 {k : Nat} {A : Around} (r : Room k A) : A.units + 66 < cLine := by have := r.un; omega
abbrev LI (ns : List Int) : HP V := LF ((ns.map V.int).map Is)
section
variable {K : PySem.W.Frag} {σ : L2.St} {H : Hp} {te ta tb : TE} {tt : TT} {D : Ends} {v : V}
theorem g_i0 {f : Int → Int → V} {i j : Int} (ha : G ta σ H (Is (.int i))) (hb : G tb σ H (Is (.int j))) : G (tOp (rI0 f) ta tb) σ H (Is (f i j)) := ⟨fun H1 e Q q => ha.ev H1 e _ fun x H2 s2 px => hb.ev H2 (e.trans s2) _ fun y H3 s3 py => by
  cases px
  cases py
  exact ⟨i, j, rfl, rfl, q _ _ (s2.trans s3) rfl⟩, mn_i⟩
/-- [e for v in range(lo, hi) if ..], of ints -/
theorem g_lcRg {wi : TI} {v lo n : Nat} {p : Nat → Bool} {f : Nat → Int} (hw : ∀ H1, Same H H1 → ∀ R : It → Hp → Prop, R (Itr (lo : Nat) n) H1 → wi σ H1 R) (hz : n ≤ 1000)
    (ht : ∀ (j : Nat) (H1 : Hp), j < n → Same H H1 → EvB tt ((σ.set v none).set v (some (.int (((lo + j : Nat)) : Int)))) H1 (p (lo + j)))
    (h : ∀ (j : Nat) (H1 : Hp), j < n → p (lo + j) = true → Same H H1 → ∀ Q : VK, (∀ H2, Same H1 H2 → Q (.int (f (lo + j))) H2) → te ((σ.set v none).set v (some (.int (((lo + j : Nat)) : Int)))) H1 Q) :
    G (tLc wi (gName v) tt te [v]) σ H (LI ((((List.range n).map (lo + ·)).filter p).map f)) := by
  refine ⟨fun H1 e Q q => hw H1 e _ ?_, mn_lf mn_is⟩
  intro Dd hD
  show ∃ W, _
  refine lc_it (walk_range (lo := ((lo : Nat) : Int)) (n := n)) (fun i H' => Same H1 H' ∧ H' Dd = some (.lst (((((List.range i).map (lo + ·)).filter p).map f).map V.int))) ⟨same_new hD, upd_same⟩ (fun _ _ _ _ => trivial) (fun i x H2 H3 hi q y => ?_) (fun H2 q' => ?_)
  · obtain ⟨s2, hd⟩ := q
    obtain ⟨rfl, rfl⟩ := y
    refine ⟨(List.set_set ..).trans (List.set_set ..), ?_⟩
    have ec : ((lo : Nat) : Int) + ((i : Nat) : Int) = ((lo + i : Nat) : Int) := (Int.natCast_add lo i).symm
    have et : ((List.range (i + 1)).map (lo + ·)).filter p = ((List.range i).map (lo + ·)).filter p ++ [lo + i].filter p := by rw [List.range_succ, List.map_append, List.filter_append]; rfl
    show tt ((σ.set v none).set v (some (.int (((lo : Nat) : Int) + ((i : Nat) : Int))))) H3 _
    rw [ec]
    refine ht i _ hi (e.trans s2) _ ?_
    cases hp : p (lo + i) with
    | true =>
      rw [if_pos rfl]
      refine h i _ hi hp (e.trans s2) _ fun H4 s4 => ?_
      refine ⟨_, s4 _ _ hd, Nat.lt_of_le_of_lt ?_ (show 1000 < sizeLine by decide), same_put (s2.trans s4) hD, ?_⟩
      · rw [List.length_map, List.length_map]
        refine Nat.le_trans (List.length_filter_le _ _) ?_
        rw [List.length_map, List.length_range]
        omega
      · rw [upd_same, et, List.filter_cons, hp]
        simp
    | false =>
      rw [if_neg Bool.false_ne_true]
      refine ⟨s2, ?_⟩
      rw [hd, et, List.filter_cons, hp]
      simp
  · exact q _ _ q'.1 ⟨Dd, _, rfl, q'.2, by
      have : ∀ ys : List V, Fa (ys.map Is) ys H2 := fun ys => by
        induction ys with
        | nil => trivial
        | cons y ys ih => exact ⟨rfl, ih⟩
      exact this _⟩
theorem cut_nat {xs : List V} {lo hi : Nat} (h1 : lo ≤ xs.length) (h2 : hi ≤ xs.length) : cutV xs (some ((lo : Nat) : Int)) (some ((hi : Nat) : Int)) = (xs.drop lo).take (hi - lo) := by
  unfold cutV
  rw [HT.sIx_nat, HT.sIx_nat, Nat.min_eq_left h1, Nat.min_eq_left h2]
theorem g_sl {i lo hi : Nat} {ns : List Int} (h : σ[i]? = some (some v)) (p : LI ns v H) (ha : ∀ H1, Same H H1 → Ev ta σ H1 (.int (lo : Nat))) (hb : ∀ H1, Same H H1 → Ev tb σ H1 (.int (hi : Nat))) (h1 : lo ≤ ns.length) (h2 : hi ≤ ns.length) :
    G (tSl (rSlL K) (tVar i) (tPart ta) (tPart tb)) σ H (LI ((ns.drop lo).take (hi - lo))) := ⟨fun H1 e Q q => by
  obtain ⟨l, xs, rfl, hl, fa⟩ := p
  obtain rfl := fa.is
  refine ⟨_, h, ha H1 e _ ⟨_, rfl, hb H1 e _ ⟨_, rfl, l, _, rfl, .of (e _ _ hl), fun p hp => q _ _ (same_new hp) ⟨p, _, rfl, upd_same, ?_⟩⟩⟩⟩
  rw [cut_nat (by rw [List.length_map]; exact h1) (by rw [List.length_map]; exact h2), ← List.map_drop, ← List.map_take]
  exact (mn_is (ys := _)) _ _ _ (Same.refl _) (by
    have : ∀ ys : List V, Fa (ys.map Is) ys (upd H1 p (.lst (((ns.drop lo).take (hi - lo)).map V.int))) := fun ys => by
      induction ys with
      | nil => trivial
      | cons y ys ih => exact ⟨rfl, ih⟩
    exact this _), mn_lf mn_is⟩
end
/-! sums -/
theorem sum_split {F : Nat → Int} {i : Nat} : ∀ {l : List Nat}, l.Nodup → i ∈ l → (l.map F).sum = ((l.filter fun j => decide (j ≠ i)).map F).sum + F i
  | [], _, h => nomatch h
  | a :: l, hn, h => by
    obtain ⟨hna, hn2⟩ := List.nodup_cons.mp hn
    by_cases ha : a = i
    · subst ha
      have : l.filter (fun j => decide (j ≠ a)) = l := List.filter_eq_self.mpr fun x hx => decide_eq_true fun e => hna (e ▸ hx)
      rw [List.filter_cons, if_neg (by simp), this, List.map_cons, List.sum_cons, Int.add_comm]
    · rcases List.mem_cons.mp h with rfl | h
      · exact absurd rfl ha
      · rw [List.filter_cons, if_pos (decide_eq_true ha), List.map_cons, List.map_cons, List.sum_cons, List.sum_cons, sum_split hn2 h, Int.add_assoc]
theorem map_range {L : List Int} {lo n : Nat} (h : lo + n ≤ L.length) : ((List.range n).map (lo + ·)).map (fun j => L.getD j 0) = (L.drop lo).take n := by
  apply List.ext_getElem
  · simp
    omega
  · intro j h1 h2
    simp at h1
    simp [List.getD, List.getElem?_eq_getElem (show lo + j < L.length by omega)]
theorem nodup_rng (lo n : Nat) : ((List.range n).map (lo + ·)).Nodup := by
  have : (List.range n).Nodup := List.nodup_range
  exact List.Pairwise.map (lo + ·) (fun a b (h : a ≠ b) (e : lo + a = lo + b) => h (by omega)) this
theorem sum_take_drop (L : List Int) (i : Nat) : L.sum = (L.take i).sum + (L.drop i).sum := by
  have := congrArg List.sum (List.take_append_drop i L)
  rw [List.sum_append] at this
  exact this.symm
theorem sum_drop {L : List Int} {i : Nat} {a : Int} (h : L[i]? = some a) : (L.drop i).sum = a + (L.drop (i + 1)).sum := by
  have hi := (List.getElem?_eq_some_iff.mp h)
  rw [← List.getElem_cons_drop (h := hi.1), List.sum_cons, hi.2]
end W48

set_option Elab.async false
set_option linter.all false
set_option maxRecDepth 100000
set_option maxHeartbeats 4000000
namespace W48
open PySem PySem.Spec PyProof.Rows L2 WXG WEv WRd WLf WEn WZs WRu WSt StX WDc
def spProd (K : PySem.W.Frag) : Sp := fun vs H Q _ => ∃ (n : Nat) (t : Told n) (sp : List Nat) (ws : List V) (l : Addr), vs = [.ref l] ∧ H l = some (.lst ws) ∧ Told.Ok n t ∧ ChainP K n t sp ws H ∧ (∃ d w, ws[sp.length]? = some w ∧ PW K d w H) ∧ sp.length ≤ 100 ∧ Q (.int (prodI (facs n t sp))) H
/-- (M, o) of a supervisor for the i-th child -/
def mendOf {n : Nat} (d : SD) (ts : List (Told n)) (i : Nat) (o : Int) : Int := stS (stopped d ts i) + opS (stopped d ts i) + o
def offOf {n : Nat} (d : SD) (ts : List (Told n)) (i : Nat) (o : Int) : Int := stS (stopped d ts i) + opS (front d ts i) + o
theorem cyc_eq {n : Nat} (d : SD) (ts : List (Told n)) (i : Nat) (o a : Int) : cyc d ts i o a = maxI (mendOf d ts i o) (offOf d ts i o + a) := rfl
def spMend (K : PySem.W.Frag) (n : Nat) : Sp := fun vs H Q _ => ∃ (v : V) (i : Nat) (x : SD × List (Told n)) (c : Addr) (ys : List V) (t : Told n), vs = [v, .int ((i : Nat) : Int)] ∧ Told.Ok (n + 1) (Sum.inr x) ∧ SupAt K n x v c ys H ∧ x.2[i]? = some t ∧
  ∀ p H', Same H H' → H' p = some (.tup [.int (mendOf x.1 x.2 i (Told.opening n t)), .int (offOf x.1 x.2 i (Told.opening n t))]) → Q (.ref p) H'
theorem prod_take {l : List Int} {j : Nat} {a : Int} (h : l[j]? = some a) : prodI (l.take (j + 1)) = prodI (l.take j) * a := by
  unfold prodI
  rw [List.take_succ, h, List.foldl_append]
  rfl
section
variable {P : Program} {w : World} {K : PySem.W.Frag} {mg : Str → Option Value} {base : Heap}
theorem ok_product_of (T : Env K mg) : FnOk P w K mg base CX0 3 (d_product_of.loc K) T.fd_product_of ["way"] (spProd K) := by
  have G_is_supervisor : FnOk P w K mg base CX0 1 _ _ _ _ := ok_is_supervisor T
  have G_SupervisorPlan_most : FnOk P w K mg base CX0 1 _ _ _ _ := ok_SP_most T
  refine T.F_product_of.ok sc_product_of (fun vs H Q E h => ?_) (fun cdv A outer s H vs Q E hr h => ?_)
  · obtain ⟨n, t, sp, ws, l, rfl, _⟩ := h
    rfl
  · have nd := sc_product_of.nd
    have hu := hu_of hr
    obtain ⟨n, t, sp, ws, l, rfl, hl, hok, hch, ⟨dw, w, hw, hpw⟩, hz, k⟩ := h
    have hcl := chain_len hch
    obtain ⟨_, _, _, _, _, _, _, hfl⟩ := chain_end hok hch
    refine ⟨_, PSs.nox (pss_cons (ps_set (i := 1) nd rfl (Or.inl rfl) pe_int)
 (pss_cons (ps_for PassesOwn.never rfl (pi_list (pv 0)) (pg_name (i := 2) nd rfl (Or.inl rfl))
  (pss_one (ps_aug (i := 1) nd rfl (.inl rfl) (pe_ifExp (pt_val (pe_call G_is_supervisor (hr.mono (by decide)) (by rfl) T.g_is_supervisor T.F_is_supervisor.kp T.bi_is_supervisor .nil pass0 (pa_cons (pv 2) pa_nil))) (pe_op op_add (pe_prop (pv 2) T.dc_SupervisorPlan.cls T.p_SupervisorPlan_most G_SupervisorPlan_most (hr.mono (by decide)) T.bi_SupervisorPlan_most .nil pass0 rfl) pe_int) pe_int) WSl.ip_mul)))
 (pss_one (ps_ret (pv 1))))), ?_⟩
    refine ⟨_, rfl, l, rfl, ⟨_, .of hl⟩, ?_⟩
    refine for_it (walk_list (xs := ws)) (fun j σ H' => H' = H ∧ ∃ a2, σ = [some (.ref l), some (.int (prodI ((facs n t sp).take j))), a2]) ⟨rfl, none, rfl⟩ (fun j σ H' _ q => by rw [q.1]; exact .of hl) (fun j x σ H3 H4 hj q y => ?_) (fun σ H3 q => ?_)
    · obtain ⟨rfl, a2, rfl⟩ := q
      obtain ⟨rfl, hx⟩ := y
      by_cases hjl : j < sp.length
      · obtain ⟨i, hi⟩ : ∃ i, sp[j]? = some i := ⟨_, List.getElem?_eq_getElem hjl⟩
        obtain ⟨kk, x2, t', v', w', c, ys, st, _, e1, e2, hsup, e3, e4, hok2, _, _, _, e5⟩ := chain_at hok hch (j := j) (i := i) hi
        rw [hx] at e1
        cases e1
        obtain ⟨a, dx, q0, kd, rfl, h1, h2, h3, h4, h5⟩ := hsup
        have m0 := hok2.1.2.2.2.1
        have m1 := hok2.1.2.2.2.2.1
        refine ⟨_, rfl, _, rfl, a, dx, _, rfl, .inr ⟨h1, true, rfl, ?_⟩⟩
        dsimp only
        rw [if_pos rfl]
        refine ⟨_, rfl, a, dx, _, rfl, h1, a, dx, q0, _, _, _, rfl, h1, rfl, h2, rfl, x2.1.most, 1, rfl, rfl, prodI ((facs n t sp).take j), x2.1.most + 1, rfl, rfl, .inr ⟨by omega, by omega⟩, rfl, some (.ref a), ?_⟩
        rw [prod_take e5]
        rfl
      · have hje : j = sp.length := by
          have := (List.getElem?_eq_some_iff.mp hx).1
          omega
        subst hje
        rw [hx] at hw
        cases hw
        obtain ⟨a, dx, q, sc, rfl, h1, _⟩ := hpw
        refine ⟨_, rfl, _, rfl, a, dx, _, rfl, .inl ⟨h1, false, rfl, ?_⟩⟩
        dsimp only
        rw [if_neg Bool.false_ne_true]
        refine ⟨_, _, rfl, rfl, .inr ⟨by decide, by decide⟩, rfl, some (.ref a), ?_⟩
        rw [List.take_of_length_le (l := facs n t sp) (i := sp.length + 1) (by omega), List.take_of_length_le (l := facs n t sp) (i := sp.length) (by omega)]
        dsimp only
        rw [Int.mul_one]
        rfl
    · obtain ⟨rfl, a2, rfl⟩ := q
      rw [List.take_of_length_le (by omega)]
      exact st_ret (ev_var rfl) k
end
end W48

set_option Elab.async false
set_option linter.all false
set_option maxRecDepth 100000
set_option maxHeartbeats 4000000
namespace W48
open PySem PySem.Spec PyProof.Rows L2 WXG WEv WRd WLf WEn WZs WRu WSt StX WDc
theorem take_one {L : List Int} {i : Nat} {a : Int} (h : L[i]? = some a) : ((L.drop i).take 1).sum = a := by
  have hi := (List.getElem?_eq_some_iff.mp h)
  rw [← List.getElem_cons_drop (h := hi.1), hi.2]
  simp
theorem sum_take1 {L : List Int} {i : Nat} {a : Int} (h : L[i]? = some a) : (L.take (i + 1)).sum = (L.take i).sum + a := by
  rw [List.take_succ, h, List.sum_append]
  simp
theorem sum_mid {L : List Int} {i : Nat} {a : Int} (h : L[i]? = some a) : (L.take i).sum + (L.drop (i + 1)).sum + a = L.sum := by
  rw [sum_take_drop L i, sum_drop h]
  omega
theorem mend_pure {n : Nat} {d : SD} {ts : List (Told n)} {i : Nat} {t : Told n} (hw : WayOk d.way) (ht : ts[i]? = some t) : ∃ fst lst : Nat,
    valV ([(Sum.inr "one", .int ((i : Nat) : Int)), (Sum.inr "rest", .int ((i : Nat) : Int)), (Sum.inr "all", .int 0)] : List (Key × V)) (Sum.inr d.way) = some (.int ((fst : Nat) : Int)) ∧
    (if d.way = "one" then ((i : Nat) : Int) else (ts.length : Int) - 1) = ((lst : Nat) : Int) ∧ fst ≤ i ∧ i ≤ lst ∧ lst < ts.length ∧
    stS (stopped d ts i) + Told.stopping n t = (((ts.map (Told.stopping n)).drop fst).take (lst + 1 - fst)).sum ∧
    opS (stopped d ts i) + Told.opening n t = (((ts.map (Told.opening n)).drop fst).take (lst + 1 - fst)).sum ∧
    opS (front d ts i) + Told.opening n t = (((ts.map (Told.opening n)).drop fst).take (i + 1 - fst)).sum := by
  have hi := (List.getElem?_eq_some_iff.mp ht).1
  have hs : (ts.map (Told.stopping n))[i]? = some (Told.stopping n t) := by rw [List.getElem?_map, ht]; rfl
  have ho : (ts.map (Told.opening n))[i]? = some (Told.opening n t) := by rw [List.getElem?_map, ht]; rfl
  unfold stopped front stS opS
  have e1 : ("rest" : Str) ≠ "one" := by decide +kernel
  have e2 : ("all" : Str) ≠ "one" := by decide +kernel
  have e3 : ("all" : Str) ≠ "rest" := by decide +kernel
  have e4 : ("one" : Str) ≠ "all" := by decide +kernel
  have e5 : ("rest" : Str) ≠ "all" := by decide +kernel
  rcases hw with h | h | h <;> rw [h]
  · refine ⟨i, i, rfl, if_pos rfl, Nat.le_refl _, Nat.le_refl _, hi, ?_, ?_, ?_⟩
    · rw [if_pos rfl, show i + 1 - i = 1 by omega, take_one hs]; simp
    · rw [if_pos rfl, show i + 1 - i = 1 by omega, take_one ho]; simp
    · rw [if_neg e4, show i + 1 - i = 1 by omega, take_one ho]; simp
  · refine ⟨i, ts.length - 1, rfl, by rw [if_neg e1]; omega, Nat.le_refl _, by omega, by omega, ?_, ?_, ?_⟩
    · rw [if_neg e1, if_pos rfl, List.take_of_length_le (by rw [List.length_drop, List.length_map]; omega), sum_drop hs, List.map_drop, Int.add_comm]
    · rw [if_neg e1, if_pos rfl, List.take_of_length_le (by rw [List.length_drop, List.length_map]; omega), sum_drop ho, List.map_drop, Int.add_comm]
    · rw [if_neg e5, show i + 1 - i = 1 by omega, take_one ho]; simp
  · refine ⟨0, ts.length - 1, rfl, by rw [if_neg e2]; omega, Nat.zero_le _, by omega, by omega, ?_, ?_, ?_⟩
    · rw [if_neg e2, if_neg e3, List.drop_zero, List.take_of_length_le (i := ts.length - 1 + 1 - 0) (by rw [List.length_map]; omega), List.map_append, List.sum_append, List.map_take, List.map_drop, sum_mid hs]
    · rw [if_neg e2, if_neg e3, List.drop_zero, List.take_of_length_le (i := ts.length - 1 + 1 - 0) (by rw [List.length_map]; omega), List.map_append, List.sum_append, List.map_take, List.map_drop, sum_mid ho]
    · rw [if_pos rfl, List.drop_zero, show i + 1 - 0 = i + 1 by omega, sum_take1 ho, List.map_take]
theorem st_nxx {D : Ends} {σ : L2.St} {H : Hp} {te : TE} {i : Nat} {v : V} (h : Ev te σ H v) (k : D.nx (σ.set i (some v)) H) : tAsg te (gName i) D σ H := h _ k
/-- a tuple of given items -/
def TX (ys : List V) : HP V := fun v H => ∃ p, v = .ref p ∧ H p = some (.tup ys)
theorem mn_tx {ys : List V} : Mn (TX ys) := fun _ _ _ s ⟨p, e, h⟩ => ⟨p, e, s _ _ h⟩
theorem g_tupX {σ : L2.St} {H : Hp} {tr : TA} {ys : List V} (h : GA tr σ H (ys.map Is)) (hz : ys.length ≤ 1000) : G (tTup tr) σ H (TX ys) := ⟨fun H1 e Q q => h.ev H1 e _ fun xs H2 s2 fa => by
  obtain rfl := fa.is
  exact ⟨Nat.le_trans hz (by decide), fun p hp => q _ _ (s2.trans (same_new hp)) ⟨p, rfl, upd_same⟩⟩, mn_tx⟩
theorem st_dispW {σ : L2.St} {H : Hp} {D : Ends} {tw : TE} {i f : Int} {w : Str} (h1 : σ[1]? = some (some (.int i))) (hs : ∀ H1, Same H H1 → Ev tw σ H1 (.str w)) (hv : valV ([(Sum.inr "one", .int i), (Sum.inr "rest", .int i), (Sum.inr "all", .int 0)] : List (Key × V)) (Sum.inr w) = some (.int f)) (k : ∀ H1, Same H H1 → D.nx (σ.set 5 (some (.int f))) H1) :
    tAsg (tDGet (tDisp [(tC (.str "one"), tVar 1), (tC (.str "rest"), tVar 1), (tC (.str "all"), tC (.int 0))]) tw) (gName 5) D σ H := by
  intro p hp
  refine ⟨_, h1, _, h1, upd_same, [(Sum.inr "one", .int i), (Sum.inr "rest", .int i), (Sum.inr "all", .int 0)], rfl, (by decide : 3 ≤ 15), ?_⟩
  have s2 : Same H (upd (upd H p (.dK [])) p (.dK [(Sum.inr "one", .int i), (Sum.inr "rest", .int i), (Sum.inr "all", .int 0)])) := same_put (same_new hp) hp
  exact hs _ s2 _ ⟨p, _, rfl, .inl ⟨_, Sum.inr w, .inl upd_same, rfl, hv.symm⟩, k _ s2⟩
section
variable {P : Program} {w : World} {K : PySem.W.Frag} {mg : Str → Option Value} {base : Heap}
theorem ok_mend_times (T : Env K mg) (n : Nat) : FnOk P w K mg base CX0 (n + 4) (d_mend_times.loc K) T.fd_mend_times ["plan", "at"] (spMend K n) := by
  have G_opening_time : FnOk P w K mg base CX0 (n + 3) _ _ _ _ := ok_opening_time T n
  have G_stopping_time : FnOk P w K mg base CX0 (n + 3) _ _ _ _ := ok_stopping_time T n
  have G_SupervisorPlan_children : FnOk P w K mg base CX0 1 _ _ _ _ := ok_SP_children T
  have G_SupervisorPlan_strategy : FnOk P w K mg base CX0 1 _ _ _ _ := ok_SP_strategy T
  refine T.F_mend_times.ok sc_mend_times (fun vs H Q E h => ?_) (fun cdv A outer s H vs Q E hr h => ?_)
  · obtain ⟨v, i, x, c, ys, t, rfl, _⟩ := h
    rfl
  · have nd := sc_mend_times.nd
    have hu := hu_of hr
    obtain ⟨v, i, ⟨d, ts⟩, c, ys, t, rfl, hok, ⟨a, dx, q, kd, rfl, h1, h2, h3, h4, fa⟩, ht, k⟩ := h
    have yl : ys.length = ts.length := pat_len fa
    have ht : ts[i]? = some t := ht
    have tl4 : ts.length ≤ 4 := hok.2.1
    obtain ⟨fst, lst, p1, p2, p3, p4, p5, p6, p7, p8⟩ := mend_pure (d := d) (ts := ts) hok.1.2.2.1 ht
    refine ⟨_, PSs.nox (pss_cons (ps_set (i := 2) nd rfl (Or.inr rfl) (pe_prop (pv 0) T.dc_SupervisorPlan.cls T.p_SupervisorPlan_children G_SupervisorPlan_children (hr.mono (by omega)) T.bi_SupervisorPlan_children .nil pass0 rfl))
 (pss_cons (ps_setLc (i := 3) (own := [("child", 4)]) (by rfl) nd rfl rfl (sw_true rfl rfl rfl (by decide +kernel)) (pi_tup (pv 2)) (blkOk_by (N := ["plan", "at", "children", "openings", "child", "first", "last", "stops", "index"]) (sc := defScope s_mend_times) (by decide +kernel)) (fun _ _ _ _ _ => (pg_name (i := 4) nd rfl (Or.inl rfl))) (fun _ _ _ _ _ => pts_nil) (fun _ _ _ _ _ => (pe_call G_opening_time (hr.mono (by omega)) (by rfl) T.g_opening_time T.F_opening_time.kp T.bi_opening_time .nil pass0 (pa_cons (pv 4) pa_nil))))
 (pss_cons (ps_set (i := 5) nd rfl (Or.inl rfl) (pe_dget hu (pe_disp (pps_cons pe_str (pv 1) (pps_cons pe_str (pv 1) (pps_cons pe_str pe_int pps_nil))) (by rfl) (by rfl) (fun z => by cases z) (by decide)) (pe_prop (pv 0) T.dc_SupervisorPlan.cls T.p_SupervisorPlan_strategy G_SupervisorPlan_strategy (hr.mono (by omega)) T.bi_SupervisorPlan_strategy .nil pass0 rfl) (fun _ _ => rfl)))
 (pss_cons (ps_set (i := 6) nd rfl (Or.inl rfl) (pe_ifExp (pt_cmpR op_eq (pe_prop (pv 0) T.dc_SupervisorPlan.cls T.p_SupervisorPlan_strategy G_SupervisorPlan_strategy (hr.mono (by omega)) T.bi_SupervisorPlan_strategy .nil pass0 rfl) pe_str (nomark _)) (pv 1) (pe_op op_sub (pe_callB call_len_seq (by rfl) T.b_len (by decide +kernel) (pa_cons (pv 2) pa_nil)) pe_int)))
 (pss_cons (ps_setLc (i := 7) (own := [("index", 8)]) (by rfl) nd rfl rfl (sw_true rfl rfl rfl (by decide +kernel)) (pi_range2 (by rfl) T.b_range (pa_cons (pv 5) (pa_cons (pe_op op_add (pv 6) pe_int) pa_nil))) (blkOk_by (N := ["plan", "at", "children", "openings", "child", "first", "last", "stops", "index"]) (sc := defScope s_mend_times) (by decide +kernel)) (fun _ _ _ _ _ => (pg_name (i := 8) nd rfl (Or.inl rfl))) (fun _ _ _ _ _ => (pts_one (pt_cmpR op_ne (pv 8) (pv 1) (nomark _)))) (fun _ _ _ _ _ => (pe_call G_stopping_time (hr.mono (by omega)) (by rfl) T.g_stopping_time T.F_stopping_time.kp T.bi_stopping_time .nil pass0 (pa_cons (pe_ix (ixtK (K := K)) (pv 2) (pv 8) (fun _ _ => rfl)) pa_nil))))
 (pss_one (ps_ret (pe_tup (pa_cons (pe_op op_add (pe_callB (cr_sum rfl) (by rfl) T.b_sum (by decide +kernel) (pa_cons (pv 7) pa_nil)) (pe_callB (cr_sum rfl) (by rfl) T.b_sum (by decide +kernel) (pa_cons (pe_slice sl_list (pv 3) (po_some (pv 5)) (po_some (pe_op op_add (pv 6) pe_int))) pa_nil))) (pa_cons (pe_op op_add (pe_callB (cr_sum rfl) (by rfl) T.b_sum (by decide +kernel) (pa_cons (pv 7) pa_nil)) (pe_callB (cr_sum rfl) (by rfl) T.b_sum (by decide +kernel) (pa_cons (pe_slice sl_list (pv 3) (po_some (pv 5)) (po_some (pe_op op_add (pv 1) pe_int))) pa_nil))) pa_nil)))))))))), ?_⟩
    -- children
    refine ⟨_, rfl, a, dx, _, rfl, h1, a, dx, _, .ref c, rfl, h1, rfl, ?_⟩
    dsimp only
    show tSeq _ _ _ _ _
    -- openings
    refine g_asg (P := LI (ts.map (Told.opening n))) (g_lcF (J := Itt K c) (ys := ys) (fun H1 s R r => ⟨_, rfl, c, rfl, ⟨ys, .of (s _ _ h3)⟩, r⟩) walk_tup (fun H1 s => .of (s _ _ h3)) (by simp [yl]) (by rw [yl]; exact Nat.le_trans tl4 (by decide)) mk_iss fun j x P H1 hx hP s Q q => ?_) fun v3 H1 s1 p31 => ?_
    · obtain ⟨t, ht, px⟩ := pat_get fa hx
      rw [ints_get hP ht] at q
      exact ⟨x, rfl, x, t, rfl, hok.2.2 t (List.mem_of_getElem? ht), (mk_pat n t).mn _ _ _ s px, fun H' s' => q _ _ s' rfl⟩
    dsimp only
    show tSeq _ _ _ _ _
    -- first
    have way : ∀ {σ : L2.St} {H2 : Hp} {E : XK}, σ[0]? = some (some (.ref a)) → Same H H2 → Ev (tProp (He.ga K "SupervisorPlan") (spPr (CS K) 2) [] E (tVar 0)) σ H2 (.str d.way) := fun {σ H2 E} h0 s Q q' => ⟨_, h0, a, dx, _, rfl, s _ _ h1, a, dx, q, _, _, _, rfl, s _ _ h1, rfl, s _ _ h2, rfl, q'⟩
    refine st_dispW rfl (fun H2 s2 => way rfl (s1.trans s2)) p1 fun H2 s2 => ?_
    have p32 := (mn_lf mn_is) _ _ _ s2 p31
    have s12 := s1.trans s2
    dsimp only
    show tSeq _ _ _ _ _
    -- last
    refine st_nxx (v := .int ((lst : Nat) : Int)) ?_ ?_
    · rw [← p2]
      refine ev_if (b := decide (d.way = "one")) (evb_eqS (x := d.way) (y := "one") (way rfl s12) ev_c rfl) ?_
      by_cases h : d.way = "one"
      · rw [if_pos (decide_eq_true h), if_pos h]
        exact ev_var rfl
      · rw [if_neg (by simp [h]), if_neg h]
        exact fun Q q' => ⟨_, rfl, c, ys, rfl, .inr (.of (s12 _ _ h3)), _, _, rfl, rfl, by rw [yl]; exact q'⟩
    dsimp only
    show tSeq _ _ _ _ _
    -- stops
    refine g_asg (P := LI (((((List.range (lst + 1 - fst)).map (fst + ·)).filter fun j => decide (j ≠ i)).map fun j => (ts.map (Told.stopping n)).getD j 0))) (g_lcRg (lo := fst) (n := lst + 1 - fst) (fun H3 s3 R r => ⟨_, rfl, _, rfl, _, _, rfl, rfl, ((fst : Nat) : Int), ((lst : Nat) : Int) + 1, rfl, ⟨by omega, by omega, by omega, by omega⟩, by rw [show (((lst : Nat) : Int) + 1 - ((fst : Nat) : Int)).toNat = lst + 1 - fst by omega]; exact r⟩) (by omega) (fun j H3 hj s3 Q q' => ⟨_, rfl, _, rfl, rfl, _, rfl, ?_⟩) fun j H3 hj hp s3 Q q' => ?_) fun v7 H3 s3 p73 => ?_
    · have e : (!decide (V.int ((fst + j : Nat) : Int) = V.int ((i : Nat) : Int))) = decide (fst + j ≠ i) := by
        rw [Bool.eq_iff_iff]
        simp
        omega
      rw [e]
      exact q'
    · obtain ⟨t', ht'⟩ : ∃ t', ts[fst + j]? = some t' := ⟨_, List.getElem?_eq_getElem (by omega)⟩
      obtain ⟨y, hy, py⟩ := fa.get (n := fst + j) (P := PAt K n t') (by rw [List.getElem?_map, ht']; rfl)
      have ef : (ts.map (Told.stopping n)).getD (fst + j) 0 = Told.stopping n t' := by rw [List.getD, List.getElem?_map, ht']; rfl
      rw [ef] at q'
      exact ⟨_, rfl, _, rfl, c, ys, _, y, rfl, rfl, .of ((s12.trans s3) _ _ h3), atI_nat hy, y, t', rfl, hok.2.2 t' (List.mem_of_getElem? ht'), (mk_pat n t').mn _ _ _ (s12.trans s3) py, fun H' s' => q' _ s'⟩
    have p33 := (mn_lf mn_is) _ _ _ s3 p32
    have s13 := s12.trans s3
    dsimp only
    show tRet _ _ _ _
    have fi : ((ts.map (Told.stopping n)).getD i 0) = Told.stopping n t := by rw [List.getD, List.getElem?_map, ht]; rfl
    have eS : (((((List.range (lst + 1 - fst)).map (fst + ·)).filter fun j => decide (j ≠ i)).map fun j => (ts.map (Told.stopping n)).getD j 0)).sum = stS (stopped d ts i) := by
      have := sum_split (F := fun j => (ts.map (Told.stopping n)).getD j 0) (i := i) (nodup_rng fst (lst + 1 - fst)) (List.mem_map.mpr ⟨i - fst, List.mem_range.mpr (by omega), by omega⟩)
      rw [map_range (by rw [List.length_map]; omega), ← p6, fi] at this
      omega
    have gS : ∀ {σ : L2.St} {H4 : Hp}, σ[7]? = some (some v7) → Same H3 H4 → G (tCB (rSum K) (tCons (tVar 7) tNil)) σ H4 (Is (.int (stS (stopped d ts i)))) := fun {σ H4} h7 s => by
      rw [← eS]
      exact g_sum (g_varP h7 ((mn_lf mn_is) _ _ _ s p73) (mn_lf mn_is))
    have ol : (ts.map (Told.opening n)).length = ts.length := List.length_map _
    refine g_ret (P := TX [.int (mendOf d ts i (Told.opening n t)), .int (offOf d ts i (Told.opening n t))]) (g_tupX (ga_cons ?_ (ga_cons ?_ ga_nil)) (Nat.le_of_ble_eq_true rfl)) fun v H4 s4 pv => ?_
    · have e : mendOf d ts i (Told.opening n t) = stS (stopped d ts i) + (((ts.map (Told.opening n)).drop fst).take (lst + 1 - fst)).sum := by
        rw [← p7]
        unfold mendOf
        omega
      rw [e]
      exact g_i0 (gS rfl (Same.refl _)) (g_sum (g_sl (lo := fst) (hi := lst + 1) rfl p33 (fun H4 s4 => ev_var rfl) (fun H4 s4 Q q' => ⟨_, rfl, _, _, rfl, rfl, q'⟩) (by omega) (by omega)))
    · have e : offOf d ts i (Told.opening n t) = stS (stopped d ts i) + (((ts.map (Told.opening n)).drop fst).take (i + 1 - fst)).sum := by
        rw [← p8]
        unfold offOf
        omega
      rw [e]
      exact g_i0 (gS rfl (Same.refl _)) (g_sum (g_sl (lo := fst) (hi := i + 1) rfl p33 (fun H4 s4 => ev_var rfl) (fun H4 s4 Q q' => ⟨_, rfl, _, _, rfl, rfl, q'⟩) (by omega) (by omega)))
    · obtain ⟨p, rfl, hp⟩ := pv
      exact k p H4 (s13.trans s4) hp
end
end W48

set_option Elab.async false
set_option linter.all false
set_option maxRecDepth 100000
set_option maxHeartbeats 4000000
namespace W48
open PySem PySem.Spec PyProof.Rows L2 WXG WEv WRd WLf WEn WZs WRu WSt StX WDc
theorem fa_takeN : ∀ {Ps : List (HP V)} {xs : List V} {H : Hp} {n : Nat}, Fa Ps xs H → Fa (Ps.take n) (xs.take n) H
  | [], [], _, _, _ => by simp [Fa]
  | P :: Ps, x :: xs, H, 0, _ => trivial
  | P :: Ps, x :: xs, H, n + 1, h => ⟨h.1, fa_takeN h.2⟩
  | [], _ :: _, _, _, h => h.elim
  | _ :: _, [], _, _, h => h.elim
def optV : Option Int → V
  | none => .non
  | some i => .int i
def spARow (K : PySem.W.Frag) : Sp := fun vs H Q _ => ∃ (n : Nat) (v : V) (i : Nat) (a : Int) (x : SD × List (Told n)) (c : Addr) (ys : List V) (t : Told n), vs = [v, .int ((i : Nat) : Int), .int a] ∧ n ≤ 5 ∧ Told.Ok (n + 1) (Sum.inr x) ∧ SupAt K n x v c ys H ∧ x.2[i]? = some t ∧
  ∀ p H', Same H H' → H' p = some (.tup [.int (cyc x.1 x.2 i (Told.opening n t) a), optV (attA x.1 x.2 i (Told.opening n t) a)]) → Q (.ref p) H'
theorem supAt_pat {K : PySem.W.Frag} {n : Nat} {x : SD × List (Told n)} {v : V} {c : Addr} {ys : List V} {H : Hp} (h : SupAt K n x v c ys H) : PAt K (n + 1) (Sum.inr x) v H := by
  obtain ⟨a, dx, q, k, e2, h1, h2, h3, h4, h5⟩ := h
  exact ⟨a, dx, q, c, k, ys, e2, h1, h2, h3, h4, h5⟩
theorem cut_to {xs : List V} {hi : Nat} (h2 : hi ≤ xs.length) : cutV xs none (some ((hi : Nat) : Int)) = xs.take hi := by
  unfold cutV
  rw [HT.sIx_none, HT.sIx_nat, Nat.min_eq_left h2, List.drop_zero, Nat.sub_zero]
section
variable {P : Program} {w : World} {K : PySem.W.Frag} {mg : Str → Option Value} {base : Heap}
theorem ok_attack_row (T : Env K mg) : FnOk P w K mg base CX0 11 (d_attack_row.loc K) T.fd_attack_row ["plan", "at", "attack"] (spARow K) := by
  have G_opening_time : FnOk P w K mg base CX0 9 _ _ _ _ := fn_any 6 (ok_opening_time T) (M := 9) fun n h => by omega
  have G_stopping_time : FnOk P w K mg base CX0 9 _ _ _ _ := fn_any 6 (ok_stopping_time T) (M := 9) fun n h => by omega
  have G_mend_times : FnOk P w K mg base CX0 10 _ _ _ _ := fn_any 6 (ok_mend_times T) (M := 10) fun n h => by omega
  have G_SupervisorPlan_children : FnOk P w K mg base CX0 1 _ _ _ _ := ok_SP_children T
  have G_SupervisorPlan_most : FnOk P w K mg base CX0 1 _ _ _ _ := ok_SP_most T
  have G_SupervisorPlan_span : FnOk P w K mg base CX0 1 _ _ _ _ := ok_SP_span T
  refine T.F_attack_row.ok sc_attack_row (fun vs H Q E h => ?_) (fun cdv A outer s H vs Q E hr h => ?_)
  · obtain ⟨n, v, i, a, x, c, ys, t, rfl, _⟩ := h
    rfl
  · have nd := sc_attack_row.nd
    have hu := hu_of hr
    obtain ⟨n, v, i, at0, ⟨d, ts⟩, c, ys, t, rfl, hn5, hok, hsup, ht, k⟩ := h
    have ht : ts[i]? = some t := ht
    have hi := (List.getElem?_eq_some_iff.mp ht).1
    have tl4 : ts.length ≤ 4 := hok.2.1
    have mo0 : 0 ≤ d.most := hok.1.2.2.2.1
    have mo1 : d.most ≤ 20 := hok.1.2.2.2.2.1
    refine ⟨_, PSs.nox (pss_cons (ps_asg (pe_call G_mend_times (hr.mono (by decide)) (by rfl) T.g_mend_times T.F_mend_times.kp T.bi_mend_times .nil pass0 (pa_cons (pv 0) (pa_cons (pv 1) pa_nil))) (pg_tup rfl (pgs_cons (pg_name (i := 3) nd rfl (Or.inl rfl)) (pgs_cons (pg_name (i := 4) nd rfl (Or.inl rfl)) pgs_nil))))
 (pss_cons (ps_set (i := 5) nd rfl (Or.inl rfl) (pe_callB (call_max2 rfl) (by rfl) T.b_max (by decide +kernel) (pa_cons (pv 3) (pa_cons (pe_op op_add (pv 4) (pv 2)) pa_nil))))
 (pss_cons (ps_set (i := 6) nd rfl (Or.inl rfl) (pe_callB (cr_sum rfl) (by rfl) T.b_sum (by decide +kernel) (pa_cons (pe_lc (own := [("one", 7)]) (by rfl) nd (pi_tup (pe_slice sl_tupA (pe_prop (pv 0) T.dc_SupervisorPlan.cls T.p_SupervisorPlan_children G_SupervisorPlan_children (hr.mono (by decide)) T.bi_SupervisorPlan_children .nil pass0 rfl) po_none (po_some (pe_op op_add (pv 1) pe_int)))) (blkOk_by (N := ["plan", "at", "attack", "mend", "offset", "cycle", "ahead", "one", "first", "others", "index"]) (sc := defScope s_attack_row) (by decide +kernel)) (fun _ _ _ _ _ => (pg_name (i := 7) nd rfl (Or.inl rfl))) (fun _ _ _ _ _ => pts_nil) (fun _ _ _ _ _ => (pe_call G_opening_time (hr.mono (by decide)) (by rfl) T.g_opening_time T.F_opening_time.kp T.bi_opening_time .nil pass0 (pa_cons (pv 7) pa_nil)))) pa_nil)))
 (pss_cons (ps_set (i := 8) nd rfl (Or.inl rfl) (pe_callB (call_max2 rfl) (by rfl) T.b_max (by decide +kernel) (pa_cons pe_int (pa_cons (pe_op op_sub (pe_op op_add (pv 6) (pv 2)) (pe_call G_opening_time (hr.mono (by decide)) (by rfl) T.g_opening_time T.F_opening_time.kp T.bi_opening_time .nil pass0 (pa_cons (pv 0) pa_nil))) pa_nil))))
 (pss_cons (ps_if (pt_cmpR op_ge (pe_op op_mul (pe_prop (pv 0) T.dc_SupervisorPlan.cls T.p_SupervisorPlan_most G_SupervisorPlan_most (hr.mono (by decide)) T.bi_SupervisorPlan_most .nil pass0 rfl) (pv 5)) (pe_prop (pv 0) T.dc_SupervisorPlan.cls T.p_SupervisorPlan_span G_SupervisorPlan_span (hr.mono (by decide)) T.bi_SupervisorPlan_span .nil pass0 rfl) (nomark _))
  (pss_one (ps_ret (pe_tup (pa_cons (pv 5) (pa_cons pe_non pa_nil)))))
  pss_nil)
 (pss_cons (ps_set (i := 9) nd rfl (Or.inl rfl) (pe_callB (cr_sum rfl) (by rfl) T.b_sum (by decide +kernel) (pa_cons (pe_lc (own := [("index", 10), ("one", 7)]) (by rfl) nd (pi_enumT (by rfl) T.b_enumerate (pa_cons (pe_prop (pv 0) T.dc_SupervisorPlan.cls T.p_SupervisorPlan_children G_SupervisorPlan_children (hr.mono (by decide)) T.bi_SupervisorPlan_children .nil pass0 rfl) pa_nil)) (blkOk_by (N := ["plan", "at", "attack", "mend", "offset", "cycle", "ahead", "one", "first", "others", "index"]) (sc := defScope s_attack_row) (by decide +kernel)) (fun _ _ _ _ _ => (WSl.pg_tupK (K := K) (n := 2) rfl (pgs_cons (pg_name (i := 10) nd rfl (Or.inl rfl) (Or.inr rfl)) (pgs_cons (pg_name (i := 7) nd rfl (Or.inl rfl) (Or.inr rfl)) pgs_nil)))) (fun _ _ _ _ _ => (pts_one (pt_cmpR op_ne (pv 10) (pv 1) (nomark _)))) (fun _ _ _ _ _ => (pe_call G_stopping_time (hr.mono (by decide)) (by rfl) T.g_stopping_time T.F_stopping_time.kp T.bi_stopping_time .nil pass0 (pa_cons (pv 7) pa_nil)))) pa_nil)))
 (pss_one (ps_ret (pe_tup (pa_cons (pv 5) (pa_cons (pe_op op_add (pe_op op_add (pv 8) (pe_op op_mul (pe_prop (pv 0) T.dc_SupervisorPlan.cls T.p_SupervisorPlan_most G_SupervisorPlan_most (hr.mono (by decide)) T.bi_SupervisorPlan_most .nil pass0 rfl) (pv 5))) (pv 9)) pa_nil))))))))))), ?_⟩
    -- mend, offset = ..
    refine ⟨_, rfl, _, rfl, n, by omega, v, i, (d, ts), c, ys, t, rfl, hok, hsup, ht, fun p H1 s1 hp => ⟨p, _, rfl, .of hp, rfl, _, _, rfl, _, _, rfl, rfl, ?_⟩⟩
    have hsup1 := supAt_mn s1 _ _ _ _ _ hsup
    obtain ⟨a, dx, q, kd, rfl, h1, h2, h3, h4, fa⟩ := id hsup1
    have yl : ys.length = ts.length := pat_len fa
    dsimp only
    show tSeq _ _ _ _ _
    -- cycle
    refine st_nxx (v := .int (cyc d ts i (Told.opening n t) at0)) (fun Q q' => ⟨_, rfl, _, rfl, _, rfl, _, _, rfl, rfl, _, _, rfl, q'⟩) ?_
    generalize hcy : cyc d ts i (Told.opening n t) at0 = cy at *
    dsimp only
    show tSeq _ _ _ _ _
    -- ahead
    refine g_asg (P := Is (.int (opS (ts.take i) + Told.opening n t))) ?_ fun v6 H2 s2 e6 => ?_
    · have e : opS (ts.take i) + Told.opening n t = ((ts.take (i + 1)).map (Told.opening n)).sum := by
        unfold opS
        rw [List.take_succ, ht, List.map_append, List.sum_append]
        simp
      rw [e]
      have fa1 : Fa ((ts.take (i + 1)).map (PAt K n)) (ys.take (i + 1)) H1 := by
        rw [List.map_take]
        exact fa_takeN fa
      refine g_sum (g_lcG (ys := ys.take (i + 1)) (fun H2 s2 R r => ?_) (by simp [yl]) (by rw [List.length_take, yl]; omega) mk_iss fun j x P H2 hx hP s2 Q q' => ?_)
      · refine ⟨_, rfl, a, dx, _, rfl, s2 _ _ h1, a, dx, _, .ref c, rfl, s2 _ _ h1, rfl, ⟨_, rfl, _, _, rfl, rfl, _, rfl, c, ys, rfl, .of (s2 _ _ h3), fun hw => ?_, fun hw p hp => ?_⟩⟩
        · have : ys.take (i + 1) = ys := by
            have h2 := hw.2
            have : HT.sIx ys.length ys.length (some (((i + 1 : Nat)) : Int)) = ys.length := h2
            rw [HT.sIx_nat] at this
            exact List.take_of_length_le (by omega)
          refine ⟨c, rfl, ⟨ys, .of (s2 _ _ h3)⟩, r (Itt K c) (fun H' => SqT K H' c (ys.take (i + 1))) H2 (Same.refl _) walk_tup fun H3 s3 => ?_⟩
          rw [this]
          exact .of (s3 _ _ (s2 _ _ h3))
        · refine ⟨p, rfl, ⟨_, .of upd_same⟩, r (Itt K p) (fun H' => SqT K H' p (ys.take (i + 1))) _ (same_new hp) walk_tup fun H3 s3 => ?_⟩
          have e : cutV ys none (some ((i : Int) + 1)) = ys.take (i + 1) := cut_to (hi := i + 1) (by omega)
          have := s3 _ _ upd_same
          rw [← e]
          exact .of this
      · obtain ⟨t2, ht2, px⟩ := pat_get fa1 hx
        rw [ints_get hP ht2] at q'
        exact ⟨x, rfl, n, by omega, x, t2, rfl, hok.2.2 t2 (List.mem_of_mem_take (List.mem_of_getElem? ht2)), (mk_pat n t2).mn _ _ _ s2 px, fun H' s' => q' _ _ s' rfl⟩
    cases e6
    have hsup2 := supAt_mn s2 _ _ _ _ _ hsup1
    dsimp only
    show tSeq _ _ _ _ _
    -- first
    refine g_asg (P := Is (.int (maxI 0 (opS (ts.take i) + Told.opening n t + at0 - opS ts)))) ⟨fun H3 e Q q' => ⟨_, rfl, _, rfl, _, _, rfl, rfl, _, rfl, n + 1, by omega, .ref a, Sum.inr (d, ts), rfl, hok, (mk_pat _ _).mn _ _ _ e (supAt_pat hsup2), fun H' s' => ⟨_, _, rfl, rfl, _, _, rfl, q' _ H' s' rfl⟩⟩, mn_i⟩ fun v8 H3 s3 e8 => ?_
    cases e8
    have s23 := s2.trans s3
    dsimp only
    show tSeq _ _ _ _ _
    have most : ∀ {σ : L2.St} {H4 : Hp} {E : XK}, σ[0]? = some (some (.ref a)) → Same H1 H4 → Ev (tProp (He.ga K "SupervisorPlan") (spPr (CS K) 3) [] E (tVar 0)) σ H4 (.int d.most) := fun {σ H4 E} h0 s Q q' => ⟨_, h0, a, dx, _, rfl, s _ _ h1, a, dx, q, _, _, _, rfl, s _ _ h1, rfl, s _ _ h2, rfl, q'⟩
    have span : ∀ {σ : L2.St} {H4 : Hp} {E : XK}, σ[0]? = some (some (.ref a)) → Same H1 H4 → Ev (tProp (He.ga K "SupervisorPlan") (spPr (CS K) 4) [] E (tVar 0)) σ H4 (.int d.span) := fun {σ H4 E} h0 s Q q' => ⟨_, h0, a, dx, _, rfl, s _ _ h1, a, dx, q, _, _, _, rfl, s _ _ h1, rfl, s _ _ h2, rfl, q'⟩
    refine st_if (b := decide (d.most * cy ≥ d.span)) (fun Q q' => most rfl s23 _ ⟨_, rfl, _, _, rfl, rfl, .inl ⟨by omega, by omega⟩, span rfl s23 _ ⟨_, _, rfl, rfl, _, rfl, q'⟩⟩) ?_
    have eA : attA d ts i (Told.opening n t) at0 = if d.most * cy ≥ d.span then none else some (maxI 0 (opS (ts.take i) + Told.opening n t + at0 - opS ts) + d.most * cy + stS (ts.take i ++ ts.drop (i + 1))) := by
      unfold attA
      rw [hcy]
    by_cases hge : d.most * cy ≥ d.span
    · rw [if_pos (decide_eq_true hge)]
      rw [if_pos hge] at eA
      refine ⟨_, rfl, (by decide : 2 ≤ sizeLine), fun p hp => k p _ ((s1.trans s23).trans (same_new hp)) ?_⟩
      rw [upd_same]
      show some (HO.tup [V.int cy, .non]) = some (HO.tup [V.int cy, optV (attA d ts i (Told.opening n t) at0)])
      rw [eA]
      rfl
    · rw [if_neg (by rw [decide_eq_false hge]; exact Bool.false_ne_true)]
      rw [if_neg hge] at eA
      refine st_next ?_
      dsimp only
      show tSeq _ _ _ _ _
      -- others
      have hc3 := s23 _ _ h3
      refine g_asg (P := Is (.int (stS (ts.take i ++ ts.drop (i + 1))))) ?_ fun v9 H4 s4 e9 => ?_
      · have hs : (ts.map (Told.stopping n))[i]? = some (Told.stopping n t) := by rw [List.getElem?_map, ht]; rfl
        have fi : ((ts.map (Told.stopping n)).getD i 0) = Told.stopping n t := by rw [List.getD, List.getElem?_map, ht]; rfl
        have eS : (((((List.range ts.length).map (0 + ·)).filter fun j => decide (j ≠ i)).map fun j => (ts.map (Told.stopping n)).getD j 0)).sum = stS (ts.take i ++ ts.drop (i + 1)) := by
          have := sum_split (F := fun j => (ts.map (Told.stopping n)).getD j 0) (i := i) (nodup_rng 0 ts.length) (List.mem_map.mpr ⟨i, List.mem_range.mpr (by omega), by omega⟩)
          rw [map_range (by rw [List.length_map]; omega), fi, List.drop_zero, List.take_of_length_le (by rw [List.length_map]; omega), ← sum_mid hs] at this
          unfold stS
          rw [List.map_append, List.sum_append, List.map_take, List.map_drop]
          omega
        rw [← eS]
        refine g_sum ⟨fun H4 e Q q' => ?_, mn_lf mn_is⟩
        refine ⟨_, rfl, a, dx, _, rfl, e _ _ (s23 _ _ h1), a, dx, _, .ref c, rfl, e _ _ (s23 _ _ h1), rfl, c, ys, rfl, .of (e _ _ hc3), ?_⟩
        intro Dd hD
        show ∃ W, _
        refine lc_it (walk_enumC (K := K) (t := true) (c := 0) (a := c) (xs := ys)) (fun j H' => Same H4 H' ∧ H' Dd = some (.lst ((((((List.range j).map (0 + ·)).filter fun j => decide (j ≠ i)).map fun j => (ts.map (Told.stopping n)).getD j 0)).map V.int))) ⟨same_new hD, upd_same⟩ (fun j H' _ p => (show SqT K H' c ys from .of (p.1 _ _ (e _ _ hc3)))) (fun j x H5 H6 hj p y => ?_) (fun H5 p => ?_)
        · obtain ⟨s5, hd⟩ := p
          obtain ⟨t0, u, g, rfl, ht0, rfl, eu, eg⟩ := y
          cases eu
          have s6 := s5.trans (same_new (o := .tup [.int (0 + (j : Nat)), g]) ht0)
          refine ⟨t0, _, rfl, .of upd_same, rfl, _, _, rfl, _, _, rfl, rfl, ?_⟩
          have hd6 := (same_new (o := .tup [.int (0 + (j : Nat)), g]) ht0) _ _ hd
          generalize upd H5 t0 (.tup [.int (0 + (j : Nat)), g]) = H6 at s6 hd6 ⊢
          refine ⟨rfl, _, rfl, _, rfl, rfl, decide (j ≠ i), congrArg V.bl (by rw [Bool.eq_iff_iff]; simp; omega), ?_⟩
          obtain ⟨t', ht', px⟩ := pat_get fa eg
          have ef : (ts.map (Told.stopping n)).getD j 0 = Told.stopping n t' := by rw [List.getD, List.getElem?_map, ht']; rfl
          have et : ((List.range (j + 1)).map (0 + ·)).filter (fun j => decide (j ≠ i)) = ((List.range j).map (0 + ·)).filter (fun j => decide (j ≠ i)) ++ [j].filter (fun j => decide (j ≠ i)) := by
            rw [List.range_succ, List.map_append, List.filter_append]
            simp
          by_cases hji : j ≠ i
          · rw [if_pos (decide_eq_true hji)]
            refine ⟨_, rfl, n, by omega, g, t', rfl, hok.2.2 t' (List.mem_of_getElem? ht'), (mk_pat n t').mn _ _ _ (((s23.trans e).trans s6)) px, fun H7 s7 => ?_⟩
            refine ⟨_, s7 _ _ hd6, Nat.lt_of_le_of_lt ?_ (show 1000 < sizeLine by decide), same_put (s6.trans s7) hD, ?_⟩
            · rw [List.length_map, List.length_map]
              refine Nat.le_trans (List.length_filter_le _ _) ?_
              rw [List.length_map, List.length_range]
              omega
            · rw [upd_same, et, List.filter_cons, if_pos (decide_eq_true hji), List.map_append, List.map_append, List.map_cons, ef]
              rfl
          · rw [if_neg (by rw [decide_eq_false hji]; exact Bool.false_ne_true)]
            refine ⟨s6, ?_⟩
            rw [hd6, et, List.filter_cons, if_neg (by rw [decide_eq_false hji]; exact Bool.false_ne_true)]
            simp
        · obtain ⟨s5, hd⟩ := p
          rw [yl] at hd
          exact q' _ _ s5 ⟨Dd, _, rfl, hd, by
            have : ∀ ys : List V, Fa (ys.map Is) ys H5 := fun ys => by
              induction ys with
              | nil => trivial
              | cons y ys ih => exact ⟨rfl, ih⟩
            exact this _⟩
      cases e9
      have s24 := s23.trans s4
      dsimp only
      show tRet _ _ _ _
      refine ⟨_, rfl, _, rfl, ?_⟩
      refine most rfl s24 _ ⟨_, rfl, _, _, rfl, rfl, .inl ⟨by omega, by omega⟩, _, _, rfl, rfl, _, rfl, _, _, rfl, rfl, (by decide : 2 ≤ sizeLine), fun p hp => k p _ ((s1.trans s24).trans (same_new hp)) ?_⟩
      rw [upd_same]
      show some (HO.tup [V.int cy, _]) = some (HO.tup [V.int cy, optV (attA d ts i (Told.opening n t) at0)])
      rw [eA]
      rfl
end
end W48

set_option Elab.async false
set_option linter.all false
set_option maxRecDepth 100000
set_option maxHeartbeats 4000000
namespace W48
open PySem PySem.Spec PyProof.Rows L2 WXG WEv WRd WLf WEn WZs WRu WSt StX WDc
abbrev Row3 := Str × Option Int × Option Int
def RowT (r : Row3) : HP V := fun v H => ∃ p, v = .ref p ∧ H p = some (.tup [.str r.1, optV r.2.1, optV r.2.2])
theorem mk_rowT {r : Row3} : MnK (RowT r) := fun _ _ _ s ⟨p, e, h⟩ => ⟨p, e, s _ _ h (fun _ z => nomatch z) (fun _ z => nomatch z)⟩
theorem mk_rowTs {rs : List Row3} : ∀ P ∈ rs.map RowT, MnK P := fun P hP => by
  obtain ⟨r, _, rfl⟩ := List.mem_map.mp hP
  exact mk_rowT
def headS (n : Nat) (t : Told n) (sp : List Nat) : AS := ((attS n t sp)[0]?).getD (none, [])
def spAtt (K : PySem.W.Frag) : Sp := fun vs H Q _ => ∃ (n : Nat) (v : V) (x : SD × List (Told n)) (z : Str) (sp : List Nat) (ws : List V), vs = [v, .str z] ∧ n ≤ 5 ∧ RootOk (n + 1) (Sum.inr x) ∧ SupFree z (n + 1) (Sum.inr x) ∧ Told.spot z (n + 1) (Sum.inr x) = some sp ∧ ChainP K (n + 1) (Sum.inr x) sp (v :: ws) H ∧
  ∀ p xs H', Same H H' → H' p = some (.tup xs) → Fa ((headS (n + 1) (Sum.inr x) sp).2.map RowT) xs H' → Q (.ref p) H'
section
variable {P : Program} {w : World} {K : PySem.W.Frag} {mg : Str → Option Value} {base : Heap}
theorem ok_attacks (T : Env K mg) : FnOk P w K mg base CX0 13 (d_attacks.loc K) T.fd_attacks ["plan", "place"] (spAtt K) := by
  have G_way_of_worker : FnOk P w K mg base CX0 12 _ _ _ _ := ok_way_of_worker T
  have G_spot_of : FnOk P w K mg base CX0 9 _ _ _ _ := fn_any 6 (ok_spot_of T) (M := 9) fun n h => by omega
  have G_attack_row : FnOk P w K mg base CX0 11 _ _ _ _ := ok_attack_row T
  have G_WorkerPlan_name : FnOk P w K mg base CX0 1 _ _ _ _ := ok_WP_name T
  have G_SupervisorPlan_name : FnOk P w K mg base CX0 1 _ _ _ _ := ok_SP_name T
  refine T.F_attacks.ok sc_attacks (fun vs H Q E h => ?_) (fun cdv A outer s H vs Q E hr h => ?_)
  · obtain ⟨n, v, x, z, sp, ws, rfl, _⟩ := h
    rfl
  · have nd := sc_attacks.nd
    have hu := hu_of hr
    obtain ⟨n, v, x, z, sp, ws, rfl, hn5, hR, hfree, hsp, hch, k⟩ := h
    have hsl := spot_len (n + 1) _ hsp
    have hcl := chain_len hch
    refine ⟨_, PSs.nox (pss_cons (ps_asg (pe_tup (pa_cons (pe_call G_way_of_worker (hr.mono (by decide)) (by rfl) T.g_way_of_worker T.F_way_of_worker.kp T.bi_way_of_worker .nil pass0 (pa_cons (pv 0) (pa_cons (pv 1) pa_nil))) (pa_cons (pe_call G_spot_of (hr.mono (by decide)) (by rfl) T.g_spot_of T.F_spot_of.kp T.bi_spot_of .nil pass0 (pa_cons (pv 0) (pa_cons (pv 1) pa_nil))) (pa_cons (pe_lst pa_nil) (pa_cons pe_int pa_nil))))) (pg_tup rfl (pgs_cons (pg_name (i := 2) nd rfl (Or.inl rfl)) (pgs_cons (pg_name (i := 3) nd rfl (Or.inl rfl)) (pgs_cons (pg_name (i := 4) nd rfl (Or.inl rfl)) (pgs_cons (pg_name (i := 5) nd rfl (Or.inl rfl)) pgs_nil))))))
 (pss_cons (ps_for PassesOwn.never rfl (pi_range3 (by rfl) T.b_range (pa_cons (pe_op op_sub (pe_callB call_len_seq (by rfl) T.b_len (by decide +kernel) (pa_cons (pv 2) pa_nil)) pe_int) (pa_cons (pe_un un_neg pe_int) (pa_cons (pe_un un_neg pe_int) pa_nil)))) (pg_name (i := 6) nd rfl (Or.inl rfl))
  (pss_cons (ps_set (i := 7) nd rfl (Or.inl rfl) pe_non)
 (pss_cons (ps_if (pt_cmpR op_notN (pv 5) pe_non (nomark _))
  (pss_one (ps_asg (pe_call G_attack_row (hr.mono (by decide)) (by rfl) T.g_attack_row T.F_attack_row.kp T.bi_attack_row .nil pass0 (pa_cons (pe_ix (ixlK (K := K)) (pv 2) (pv 6) (fun _ _ => rfl)) (pa_cons (pe_ix (ixtK (K := K)) (pv 3) (pv 6) (fun _ _ => rfl)) (pa_cons (pv 5) pa_nil)))) (pg_tup rfl (pgs_cons (pg_name (i := 7) nd rfl (Or.inl rfl)) (pgs_cons (pg_name (i := 5) nd rfl (Or.inl rfl)) pgs_nil)))))
  pss_nil)
 (pss_one (ps_expr (pe_bm PySem.F.plainAttrs_list PySem.F.slot_list_append PySem.F.type_list_append mt_append (pv 4) (pa_cons (pe_tup (pa_cons (pe_or (pe_prop (pe_ix (ixlK (K := K)) (pv 2) (pv 6) (fun _ _ => rfl)) T.dc_WorkerPlan.cls T.p_WorkerPlan_name G_WorkerPlan_name (hr.mono (by decide)) T.bi_WorkerPlan_name .nil pass0 rfl) (pe_prop (pe_ix (ixlK (K := K)) (pv 2) (pv 6) (fun _ _ => rfl)) T.dc_SupervisorPlan.cls T.p_SupervisorPlan_name G_SupervisorPlan_name (hr.mono (by decide)) T.bi_SupervisorPlan_name .nil pass0 rfl)) (pa_cons (pv 7) (pa_cons (pv 5) pa_nil)))) pa_nil)))))))
 (pss_one (ps_ret (pe_callTy call_tuple_of (by rfl) T.b_tuple (by decide +kernel) (pa_cons (pv 4) pa_nil)))))), ?_⟩
    refine ⟨_, rfl, _, rfl, n, v, x, z, sp, ws, rfl, hn5, hR, hfree, hsp, hch, fun lw H1 s1 hlw => ?_⟩
    refine ⟨_, rfl, _, rfl, n + 1, by omega, v, Sum.inr x, z, rfl, by omega, hR.1, (mk_pat _ _).mn _ _ _ s1 (chain_head hch), hfree, fun v2 H2 s2 hv2 => ?_⟩
    rw [hsp] at hv2
    obtain ⟨ps, rfl, hps⟩ := hv2
    refine ⟨Nat.zero_le _, fun lf hlf => ?_⟩
    have hl0 : H lf = none := Same.free (s1.trans s2) hlf
    refine ⟨(by decide : 4 ≤ sizeLine), fun p0 hp0 => ⟨p0, _, rfl, .of upd_same, rfl, _, _, rfl, _, _, rfl, _, _, rfl, _, _, rfl, rfl, ?_⟩⟩
    have s3 := ((s1.trans s2).trans (same_new (o := .lst []) hlf)).trans (same_new (o := .tup [.ref lw, .ref ps, .ref lf, .int 0]) hp0)
    have hlw3 := (same_new (o := .tup [.ref lw, .ref ps, .ref lf, .int 0]) hp0) _ _ ((same_new (o := .lst []) hlf) _ _ (s2 _ _ hlw))
    have hps3 := (same_new (o := .tup [.ref lw, .ref ps, .ref lf, .int 0]) hp0) _ _ ((same_new (o := .lst []) hlf) _ _ hps)
    have hlf3 := (same_new (o := .tup [.ref lw, .ref ps, .ref lf, .int 0]) hp0) _ _ (upd_same (H := H2) (a := lf) (o := .lst []))
    generalize upd (upd H2 lf (.lst [])) p0 (.tup [.ref lw, .ref ps, .ref lf, .int 0]) = H3 at s3 hlw3 hps3 hlf3 ⊢
    have nlw : lw ≠ lf := fun e => by
      have := s2 _ _ hlw
      rw [e, hlf] at this
      cases this
    have nps : ps ≠ lf := fun e => by
      rw [e, hlf] at hps
      cases hps
    dsimp only
    show tSeq _ _ _ _ _
    obtain ⟨_, _, _, _, _, _, hend, _⟩ := chain_end hR.1 hch
    refine ⟨_, rfl, lw, _, rfl, .inl (.of hlw3), _, _, rfl, rfl, _, rfl, _, rfl, _, _, _, sp.length, rfl, ?_, ?_⟩
    · have := RgC.neg (i := (((v :: ws).length : Nat) : Int) - 2) (j := -1) (by omega) (by omega) (by decide) (by decide)
      rw [show ((((v :: ws).length : Nat) : Int) - 2 - -1).toNat = sp.length by omega] at this
      exact this
    refine for_rangeC (fun i σ H' => ∃ s a6 a7 xs, (attS (n + 1) (Sum.inr x) sp)[sp.length - i]? = some s ∧ σ = [some v, some (.str z), some (.ref lw), some (.ref ps), some (.ref lf), some (optV s.1), a6, a7] ∧ Same H H' ∧ H' lf = some (.lst xs) ∧ Fa (s.2.map RowT) xs H' ∧ H' lw = some (.lst (v :: ws)) ∧ H' ps = some (.tup (sp.map fun i => V.int ((i : Nat) : Int))) ∧ xs.length ≤ i)
      ⟨_, none, none, [], hend, rfl, s3, hlf3, trivial, hlw3, hps3, Nat.le_refl _⟩ (fun i σ H4 hi q => ?_) (fun σ H4 q => ?_)
    · obtain ⟨s, a6, a7, xs, hs, rfl, s4, hlf4, fx, hlw4, hps4, xl⟩ := q
      have ej : (((v :: ws).length : Nat) : Int) - 2 + ((i : Nat) : Int) * -1 = ((sp.length - 1 - i : Nat) : Int) := by omega
      have ej1 : sp.length - 1 - i + 1 = sp.length - i := by omega
      have ej2 : sp.length - (i + 1) = sp.length - 1 - i := by omega
      generalize hj : sp.length - 1 - i = j at ej ej1 ej2
      obtain ⟨idx, hidx⟩ : ∃ idx, sp[j]? = some idx := ⟨_, List.getElem?_eq_getElem (by omega)⟩
      obtain ⟨kk, x2, t', v', w', c, ys, st, ek, e1, e2, hsup, e3, e4, hok2, q7, q8, _, _⟩ := chain_at hR.1 (chainP_mn s4 hch) hidx
      rw [ej1, hs] at q8
      cases q8
      obtain ⟨a0, dx, q0, kd, rfl, h1, h2, h3, h4, h5⟩ := id hsup
      have hsi : atI (sp.map fun i => V.int ((i : Nat) : Int)) ((j : Nat) : Int) = some (.int ((idx : Nat) : Int)) := atI_nat (by rw [List.getElem?_map, hidx]; rfl)
      show gName 6 (.int ((((v :: ws).length : Nat) : Int) - 2 + ((i : Nat) : Int) * -1)) _ H4 _
      rw [ej]
      dsimp only
      show tSeq _ _ _ _ _
      refine st_nxx ev_c ?_
      dsimp only
      show tSeq _ _ _ _ _
      have nls : ∀ {b : Addr} {o : HO}, H4 b = some o → (∀ ys, o ≠ .lst ys) → b ≠ lf := fun {b o} h hn e => by
        rw [e, hlf4] at h
        cases h
        exact hn _ rfl
      cases hs1 : s.1 with
      | none =>
        have eq : stepA x2.1 x2.2 idx (Told.opening kk t') s = (none, s.2 ++ [(x2.1.name, none, none)]) := by
          unfold stepA
          rw [hs1]
        rw [eq] at q7
        refine st_no (fun Q q' => ⟨_, rfl, rfl, false, rfl, q'⟩) ?_
        refine ⟨_, rfl, .inl ⟨rfl, _, .of hlf4⟩, .inr ⟨_, rfl, _, rfl, lw, _, ((j : Nat) : Int), _, rfl, rfl, .of hlw4, atI_nat e1, a0, dx, _, rfl, h1, a0, dx, q0, _, _, _, rfl, h1, rfl, h2, rfl, _, rfl, _, rfl, (by decide : 3 ≤ sizeLine), fun p hp => ?_⟩⟩
        have hlf5 := (same_new (o := .tup [.str x2.1.name, .non, .non]) hp) _ _ hlf4
        refine ⟨lf, xs, .ref p, rfl, rfl, hlf5, Nat.lt_of_le_of_lt (show xs.length ≤ 6 by omega) (by decide), _, some (.int ((j : Nat) : Int)), some .non, xs ++ [.ref p], by rw [ej2]; exact q7, rfl, same_put (s4.trans (same_new hp)) hl0, upd_same, ?_, by rw [upd_ne nlw]; exact (same_new hp) _ _ hlw4, by rw [upd_ne nps]; exact (same_new hp) _ _ hps4, by rw [List.length_append]; exact Nat.succ_le_succ xl⟩
        rw [List.map_append]
        exact (fa_kp mk_rowTs ((Kp.same (same_new hp)).trans (Kp.lst hlf5)) fx).app ⟨⟨p, rfl, by rw [upd_ne (fun e => by rw [e, hlf4] at hp; cases hp)]; exact upd_same⟩, trivial⟩
      | some a1 =>
        have eq : stepA x2.1 x2.2 idx (Told.opening kk t') s = (attA x2.1 x2.2 idx (Told.opening kk t') a1, s.2 ++ [(x2.1.name, some (cyc x2.1 x2.2 idx (Told.opening kk t') a1), attA x2.1 x2.2 idx (Told.opening kk t') a1)]) := by
          unfold stepA
          rw [hs1]
        rw [eq] at q7
        refine st_if (b := true) (fun Q q' => ⟨_, rfl, rfl, true, rfl, q'⟩) ?_
        refine ⟨_, rfl, _, rfl, lw, _, ((j : Nat) : Int), _, rfl, rfl, .of hlw4, atI_nat e1, _, rfl, _, rfl, ps, _, ((j : Nat) : Int), _, rfl, rfl, .of hps4, hsi, _, rfl, kk, .ref a0, idx, a1, x2, c, ys, t', rfl, by omega, hok2, hsup, e4, fun p1 H5 s5 hp1 => ⟨p1, _, rfl, .of hp1, rfl, _, _, rfl, _, _, rfl, rfl, ?_⟩⟩
        have hlf5 := s5 _ _ hlf4
        dsimp only
        refine ⟨_, rfl, .inl ⟨rfl, _, .of hlf5⟩, .inr ⟨_, rfl, _, rfl, lw, _, ((j : Nat) : Int), _, rfl, rfl, .of (s5 _ _ hlw4), atI_nat e1, a0, dx, _, rfl, s5 _ _ h1, a0, dx, q0, _, _, _, rfl, s5 _ _ h1, rfl, s5 _ _ h2, rfl, _, rfl, _, rfl, (by decide : 3 ≤ sizeLine), fun p hp => ?_⟩⟩
        have s6 := s5.trans (same_new (o := .tup [.str x2.1.name, .int (cyc x2.1 x2.2 idx (Told.opening kk t') a1), optV (attA x2.1 x2.2 idx (Told.opening kk t') a1)]) hp)
        have hlf6 := s6 _ _ hlf4
        refine ⟨lf, xs, .ref p, rfl, rfl, hlf6, Nat.lt_of_le_of_lt (show xs.length ≤ 6 by omega) (by decide), _, some (.int ((j : Nat) : Int)), some (.int (cyc x2.1 x2.2 idx (Told.opening kk t') a1)), xs ++ [.ref p], by rw [ej2]; exact q7, rfl, same_put (s4.trans s6) hl0, upd_same, ?_, by rw [upd_ne nlw]; exact s6 _ _ hlw4, by rw [upd_ne nps]; exact s6 _ _ hps4, by rw [List.length_append]; exact Nat.succ_le_succ xl⟩
        rw [List.map_append]
        exact (fa_kp mk_rowTs ((Kp.same s6).trans (Kp.lst hlf6)) fx).app ⟨⟨p, rfl, by rw [upd_ne (fun e => by rw [e, hlf5] at hp; cases hp)]; exact upd_same⟩, trivial⟩
    · obtain ⟨s, a6, a7, xs, hs, rfl, s4, hlf4, fx, _, _, _⟩ := q
      rw [Nat.sub_self] at hs
      have eh : headS (n + 1) (Sum.inr x) sp = s := by
        unfold headS
        rw [hs]
        rfl
      rw [eh] at k
      exact ⟨_, rfl, lf, xs, rfl, .inl ⟨.of hlf4, fun p hp => k p xs _ (s4.trans (same_new hp)) upd_same (mn_fa mk_rowTs _ _ _ (same_new hp) fx)⟩⟩
end
end W48

set_option Elab.async false
set_option linter.all false
set_option maxRecDepth 100000
set_option maxHeartbeats 4000000
namespace W48
open PySem PySem.Spec PyProof.Rows L2 WXG WEv WRd WLf WEn WZs WRu WSt StX WDc
theorem spot_ne {z : Str} {n : Nat} {x : SD × List (Told n)} {sp : List Nat} (h : Told.spot z (n + 1) (Sum.inr x) = some sp) : ∃ i s, sp = i :: s := by
  have key : ∀ (l : List (Told n)) (i : Nat), findL (Told.spot z n) i l = some sp → ∃ i s, sp = i :: s := by
    intro l
    induction l with
    | nil => intro i h; cases h
    | cons t l ih =>
      intro i h
      unfold findL at h
      cases ha : Told.spot z n t with
      | none => rw [ha] at h; exact ih _ h
      | some s => rw [ha] at h; cases h; exact ⟨_, _, rfl⟩
  exact key x.2 0 h
theorem head_step {A : (n : Nat) → Told n → HP V} {B : (n : Nat) → SD × List (Told n) → V → Addr → List V → Hp → Prop} {n : Nat} {t : Told n} {i : Nat} {sp : List Nat} {vs : List V} {H : Hp} (hok : Told.Ok n t) (hc : Chain A B n t (i :: sp) vs H) :
    (∃ l nm c, (headS n t (i :: sp)).2 = l ++ [(nm, c, (headS n t (i :: sp)).1)]) ∧ (attS n t (i :: sp))[0]? = some (headS n t (i :: sp)) := by
  obtain ⟨k, x, t', v, w, c, ys, s, _, _, _, _, _, _, _, q7, _, _, _⟩ := chain_at hok hc (j := 0) (i := i) rfl
  have e : headS n t (i :: sp) = stepA x.1 x.2 i (Told.opening k t') s := by
    unfold headS
    rw [q7]
    rfl
  refine ⟨?_, by rw [e]; exact q7⟩
  rw [e]
  unfold stepA
  cases hs : s.1 with
  | none => exact ⟨_, _, _, rfl⟩
  | some a => exact ⟨_, _, _, rfl⟩
def FallV (p : Int) (o : Int) : Option Int → V → Hp → Prop
  | none => fun v _ => v = .non
  | some a => fun v H => ∃ q, v = .ref q ∧ H q = some (.tup [.int p, .int (o + a)])
def spFall (K : PySem.W.Frag) : Sp := fun vs H Q _ => ∃ (n : Nat) (v : V) (x : SD × List (Told n)) (z : Str) (sp : List Nat) (ws : List V), vs = [v, .str z] ∧ n ≤ 5 ∧ RootOk (n + 1) (Sum.inr x) ∧ SupFree z (n + 1) (Sum.inr x) ∧ Told.spot z (n + 1) (Sum.inr x) = some sp ∧ ChainP K (n + 1) (Sum.inr x) sp (v :: ws) H ∧
  ∀ v' H', Same H H' → FallV (prodI (facs (n + 1) (Sum.inr x) sp)) (opS x.2) (headS (n + 1) (Sum.inr x) sp).1 v' H' → Q v' H'
/-- the names of the workers -/
def wNames (n : Nat) (t : Told n) : List Str := ((Told.rows n t).filter (·.1)).map (·.2)
def wProds (n : Nat) (t : Told n) : List Int := (wNames n t).map fun z => prodI (facs n t ((Told.spot z n t).getD []))
def spFew (K : PySem.W.Frag) : Sp := fun vs H Q _ => ∃ (n : Nat) (v : V) (x : SD × List (Told n)), vs = [v] ∧ n ≤ 5 ∧ RootOk (n + 1) (Sum.inr x) ∧ PAt K (n + 1) (Sum.inr x) v H ∧
  (wNames (n + 1) (Sum.inr x) = [] → ∀ H', Same H H' → Q .non H') ∧ (wNames (n + 1) (Sum.inr x) ≠ [] → ∀ m H', m ∈ wProds (n + 1) (Sum.inr x) → (∀ y ∈ wProds (n + 1) (Sum.inr x), m ≤ y) → Same H H' → Q (.int m) H')
theorem spot_some {z : Str} : ∀ (n : Nat) (t : Told n), (true, z) ∈ Told.rows n t → ∃ sp, Told.spot z n t = some sp
  | 0, t, _ => t.elim
  | n + 1, .inl d, h => by
    have h : (true, z) ∈ [(true, d.name)] := h
    cases List.mem_singleton.mp h
    exact ⟨[], if_pos rfl⟩
  | n + 1, .inr x, h => by
    have h : (true, z) ∈ (false, x.1.name) :: (x.2.map (Told.rows n)).flatten := h
    rcases List.mem_cons.mp h with h | h
    · cases h
    · obtain ⟨l, hl, hz⟩ := List.mem_flatten.mp h
      obtain ⟨t, ht, rfl⟩ := List.mem_map.mp hl
      obtain ⟨sp, hsp⟩ := spot_some n t hz
      have key : ∀ (l : List (Told n)) (i : Nat), t ∈ l → ∃ sp, findL (Told.spot z n) i l = some sp := by
        intro l
        induction l with
        | nil => intro i h; cases h
        | cons a l ih =>
          intro i h
          unfold findL
          cases ha : Told.spot z n a with
          | some s => exact ⟨_, rfl⟩
          | none =>
            rcases List.mem_cons.mp h with rfl | h
            · rw [hsp] at ha
              cases ha
            · exact ih _ h
      exact key x.2 0 ht
theorem snd_inj : ∀ {l : List (Bool × Str)}, (l.map (·.2)).Nodup → ∀ {a b : Bool} {z : Str}, (a, z) ∈ l → (b, z) ∈ l → a = b
  | [], _, _, _, _, h, _ => nomatch h
  | r :: l, hn, a, b, z, h1, h2 => by
    obtain ⟨hr, hn⟩ := List.nodup_cons.mp hn
    rcases List.mem_cons.mp h1 with e1 | g1
    · rcases List.mem_cons.mp h2 with e2 | g2
      · rw [← e2] at e1
        cases e1
        rfl
      · exact absurd (List.mem_map.mpr ⟨(b, z), g2, by rw [← e1]⟩) hr
    · rcases List.mem_cons.mp h2 with e2 | g2
      · exact absurd (List.mem_map.mpr ⟨(a, z), g1, by rw [← e2]⟩) hr
      · exact snd_inj hn g1 g2
theorem wName_facts {n : Nat} {t : Told n} {z : Str} (hn : ((Told.rows n t).map (·.2)).Nodup) (h : z ∈ wNames n t) : (∃ sp, Told.spot z n t = some sp) ∧ SupFree z n t := by
  obtain ⟨r, hr, rfl⟩ := List.mem_map.mp h
  obtain ⟨hm, hb⟩ := List.mem_filter.mp hr
  obtain ⟨b, z⟩ := r
  have hb : b = true := hb
  subst hb
  refine ⟨spot_some n t hm, fun q hq hf e => ?_⟩
  obtain ⟨b, y⟩ := q
  have e : y = z := e
  subst e
  have hf : b = false := hf
  subst hf
  cases snd_inj hn hm hq
theorem te_cb1 {σ : L2.St} {H : Hp} {te : TE} {P : HP V} {Q : VK} {r : List V → Hp → VK → Prop} (h : G te σ H P) (k : ∀ v H1, Same H H1 → P v H1 → r [v] H1 Q) : tCB r (tCons te tNil) σ H Q := h.ev H (Same.refl _) _ k
/-- [e for v in a sequence if ..] -/
theorem g_lcGf {σ : L2.St} {H : Hp} {te : TE} {tt : TT} {α : Type} {wi : TI} {v : Nat} {Pa : α → HP V} {rs : List α} {p : α → Bool} {f : α → V} (hw : ∀ H1, Same H H1 → ∀ R : It → Hp → Prop, (∀ (J : It) (Gw : Hp → Prop) (ys : List V) (H2 : Hp), Same H1 H2 → Walk J ys.length Gw (YAt ys) → (∀ H3, Same H2 H3 → Gw H3) → Fa (rs.map Pa) ys H2 → R J H2) → wi σ H1 R)
    (mq : Mn (Fa (rs.map Pa))) (hz : rs.length ≤ 1000)
    (ht : ∀ (r : α) (x : V) (H1 : Hp), r ∈ rs → Pa r x H1 → Same H H1 → EvB tt ((σ.set v none).set v (some x)) H1 (p r))
    (he : ∀ (r : α) (x : V) (H1 : Hp), r ∈ rs → p r = true → Pa r x H1 → Same H H1 → ∀ Q : VK, (∀ H2, Same H1 H2 → Q (f r) H2) → te ((σ.set v none).set v (some x)) H1 Q) :
    G (tLc wi (gName v) tt te [v]) σ H (LF (((rs.filter p).map f).map Is)) := by
  refine ⟨fun H1 e Q q => ?_, mn_lf mn_is⟩
  refine hw H1 e _ ?_
  intro J Gw ys H0 s0 wk hg fq
  intro Dd hD
  show ∃ W, _
  have lq := fq.len
  rw [List.length_map] at lq
  refine lc_it wk (fun i H' => Same H0 H' ∧ H' Dd = some (.lst (((rs.take i).filter p).map f))) ⟨same_new hD, upd_same⟩ (fun _ H' _ p => hg H' p.1) (fun i x H2 H3 hi q y => ?_) (fun H2 q' => ?_)
  · obtain ⟨s2, hd⟩ := q
    obtain ⟨rfl, hx⟩ := y
    refine ⟨(List.set_set ..).trans (List.set_set ..), ?_⟩
    obtain ⟨r, hr⟩ : ∃ r, rs[i]? = some r := ⟨_, List.getElem?_eq_getElem (by omega)⟩
    obtain ⟨x', ex', px'⟩ := (mq _ _ _ s2 fq).get (n := i) (P := Pa r) (by rw [List.getElem?_map, hr]; rfl)
    rw [hx] at ex'
    cases ex'
    have rm := List.mem_of_getElem? hr
    have et : (rs.take (i + 1)).filter p = (rs.take i).filter p ++ [r].filter p := by rw [List.take_succ, hr, List.filter_append]; rfl
    refine ht r x _ rm px' ((e.trans s0).trans s2) _ ?_
    cases hp : p r with
    | true =>
      rw [if_pos rfl]
      refine he r x _ rm hp px' ((e.trans s0).trans s2) _ fun H4 s4 => ?_
      refine ⟨_, s4 _ _ hd, Nat.lt_of_le_of_lt ?_ (show 1000 < sizeLine by decide), same_put (s2.trans s4) hD, ?_⟩
      · rw [List.length_map]
        refine Nat.le_trans (List.length_filter_le _ _) ?_
        rw [List.length_take]
        exact Nat.le_trans (Nat.min_le_right _ _) hz
      · rw [upd_same, et, List.filter_cons, hp]
        simp
    | false =>
      rw [if_neg Bool.false_ne_true]
      refine ⟨s2, ?_⟩
      rw [hd, et, List.filter_cons, hp]
      simp
  · obtain ⟨s2, hd⟩ := q'
    rw [lq, List.take_length] at hd
    exact q _ _ (s0.trans s2) ⟨Dd, _, rfl, hd, by
      have : ∀ ys : List V, Fa (ys.map Is) ys H2 := fun ys => by
        induction ys with
        | nil => trivial
        | cons y ys ih => exact ⟨rfl, ih⟩
      exact this _⟩
section
variable {P : Program} {w : World} {K : PySem.W.Frag} {mg : Str → Option Value} {base : Heap}
theorem ok_fall (T : Env K mg) : FnOk P w K mg base CX0 14 (d_fall.loc K) T.fd_fall ["plan", "place"] (spFall K) := by
  have G_attacks : FnOk P w K mg base CX0 13 _ _ _ _ := ok_attacks T
  have G_way_of_worker : FnOk P w K mg base CX0 12 _ _ _ _ := ok_way_of_worker T
  have G_product_of : FnOk P w K mg base CX0 3 _ _ _ _ := ok_product_of T
  have G_opening_time : FnOk P w K mg base CX0 9 _ _ _ _ := fn_any 6 (ok_opening_time T) (M := 9) fun n h => by omega
  refine T.F_fall.ok sc_fall (fun vs H Q E h => ?_) (fun cdv A outer s H vs Q E hr h => ?_)
  · obtain ⟨n, v, x, z, sp, ws, rfl, _⟩ := h
    rfl
  · have nd := sc_fall.nd
    have hu := hu_of hr
    obtain ⟨n, v, x, z, sp, ws, rfl, hn5, hR, hfree, hsp, hch, k⟩ := h
    have hsl := spot_len (n + 1) _ hsp
    refine ⟨_, PSs.nox (pss_cons (ps_set (i := 2) nd rfl (Or.inl rfl) (pe_ix (ixtK (K := K)) (pe_ix (ixtK (K := K)) (pe_call G_attacks (hr.mono (by decide)) (by rfl) T.g_attacks T.F_attacks.kp T.bi_attacks .nil pass0 (pa_cons (pv 0) (pa_cons (pv 1) pa_nil))) (pe_un un_neg pe_int) (fun _ _ => rfl)) pe_int (fun _ _ => rfl)))
 (pss_one (ps_ret (pe_ifExp (pt_cmpR op_isN (pv 2) pe_non (nomark _)) pe_non (pe_tup (pa_cons (pe_call G_product_of (hr.mono (by decide)) (by rfl) T.g_product_of T.F_product_of.kp T.bi_product_of .nil pass0 (pa_cons (pe_call G_way_of_worker (hr.mono (by decide)) (by rfl) T.g_way_of_worker T.F_way_of_worker.kp T.bi_way_of_worker .nil pass0 (pa_cons (pv 0) (pa_cons (pv 1) pa_nil))) pa_nil)) (pa_cons (pe_op op_add (pe_call G_opening_time (hr.mono (by decide)) (by rfl) T.g_opening_time T.F_opening_time.kp T.bi_opening_time .nil pass0 (pa_cons (pv 0) pa_nil)) (pv 2)) pa_nil))))))), ?_⟩
    obtain ⟨i0, sp0, rfl⟩ := spot_ne hsp
    obtain ⟨⟨l0, nm, c0, hrows⟩, _⟩ := head_step hR.1 hch
    refine ⟨_, rfl, _, rfl, n, v, x, z, _, ws, rfl, hn5, hR, hfree, hsp, hch, fun p xs H1 s1 hp fx => ?_⟩
    rw [hrows, List.map_append] at fx
    have hxl := fx.len
    obtain ⟨y, hy, py⟩ := fx.get (n := l0.length) (P := RowT (nm, c0, (headS (n + 1) (Sum.inr x) (i0 :: sp0)).1)) (by rw [List.getElem?_append_right (by simp)]; simp)
    obtain ⟨p1, rfl, hp1⟩ := py
    have last : atI xs (-1) = some (.ref p1) := by
      rw [List.length_append, List.length_map] at hxl
      have : xs = xs.take l0.length ++ [V.ref p1] := by
        have h1 := List.take_succ (l := xs) (i := l0.length)
        rw [hy, List.take_of_length_le (by rw [hxl]; exact Nat.le_refl _)] at h1
        exact h1
      rw [this]
      exact L2.atI_last _ _
    refine ⟨_, rfl, p, xs, -1, .ref p1, rfl, rfl, .of hp, last, p1, _, 2, _, rfl, rfl, .of hp1, rfl, ?_⟩
    dsimp only
    show tRet _ _ _ _
    generalize hh : (headS (n + 1) (Sum.inr x) (i0 :: sp0)).1 = a at k ⊢
    cases a with
    | none => exact st_retIf1 (fun Q q => ⟨_, rfl, rfl, true, rfl, q⟩) (k _ _ s1 rfl)
    | some a =>
      refine st_retIf0 (fun Q q => ⟨_, rfl, rfl, false, rfl, q⟩) ?_
      have hch1 := chainP_mn s1 hch
      refine ⟨_, rfl, _, rfl, n, v, x, z, _, ws, rfl, hn5, hR, hfree, hsp, hch1, fun lw H2 s2 hlw => ?_⟩
      have hch2 := chainP_mn s2 hch1
      obtain ⟨dw, w', hw', hpw⟩ := spot_worker (n + 1) (Sum.inr x) hsp hch2
      refine ⟨n + 1, Sum.inr x, i0 :: sp0, v :: ws, lw, rfl, hlw, hR.1, hch2, ⟨dw, w', hw', hpw⟩, by omega, ?_⟩
      refine ⟨_, rfl, n + 1, by omega, v, Sum.inr x, rfl, hR.1, chain_head hch2, fun H3 s3 => ⟨_, rfl, _, _, rfl, rfl, (by decide : 2 ≤ sizeLine), fun q hq => k _ _ (((s1.trans s2).trans s3).trans (same_new hq)) ⟨q, rfl, upd_same⟩⟩⟩
theorem ok_fewest (T : Env K mg) : FnOk P w K mg base CX0 13 (d_fewest.loc K) T.fd_fewest ["plan"] (spFew K) := by
  have G_check_root : FnOk P w K mg base CX0 11 _ _ _ _ := ok_check_root T
  have G_Plan_with_all : FnOk P w K mg base CX0 7 _ _ _ _ := fn_any 6 (ok_with_all T) (M := 7) fun n h => by omega
  have G_is_supervisor : FnOk P w K mg base CX0 1 _ _ _ _ := ok_is_supervisor T
  have G_WorkerPlan_name : FnOk P w K mg base CX0 1 _ _ _ _ := ok_WP_name T
  have G_SupervisorPlan_name : FnOk P w K mg base CX0 1 _ _ _ _ := ok_SP_name T
  have G_product_of : FnOk P w K mg base CX0 3 _ _ _ _ := ok_product_of T
  have G_required_way : FnOk P w K mg base CX0 10 _ _ _ _ := fn_any 6 (ok_required_way T) (M := 10) fun n h => by omega
  refine T.F_fewest.ok sc_fewest (fun vs H Q E h => ?_) (fun cdv A outer s H vs Q E hr h => ?_)
  · obtain ⟨n, v, x, rfl, _⟩ := h
    rfl
  · have nd := sc_fewest.nd
    have hu := hu_of hr
    obtain ⟨n, v, x, rfl, hn5, hR, hp, k0, k1⟩ := h
    refine ⟨_, PSs.nox (pss_cons (ps_expr (pe_call G_check_root (hr.mono (by decide)) (by rfl) T.g_check_root T.F_check_root.kp T.bi_check_root .nil pass0 (pa_cons (pv 0) pa_nil)))
 (pss_cons (ps_setLc (i := 1) (own := [("one", 2)]) (by rfl) nd rfl rfl (sw_true rfl rfl rfl (by decide +kernel)) (pi_list (pe_or (pe_meth0 (pv 0) T.dc_WorkerPlan.cls T.m_WorkerPlan_with_all G_Plan_with_all (hr.mono (by decide)) T.bi_Plan_with_all .nil pass0) (pe_meth0 (pv 0) T.dc_SupervisorPlan.cls T.m_SupervisorPlan_with_all G_Plan_with_all (hr.mono (by decide)) T.bi_Plan_with_all .nil pass0))) (blkOk_by (N := ["plan", "workers", "one", "name"]) (sc := defScope s_fewest) (by decide +kernel)) (fun _ _ _ _ _ => (pg_name (i := 2) nd rfl (Or.inl rfl))) (fun _ _ _ _ _ => (pts_one (pt_not (pt_val (pe_call G_is_supervisor (hr.mono (by decide)) (by rfl) T.g_is_supervisor T.F_is_supervisor.kp T.bi_is_supervisor .nil pass0 (pa_cons (pv 2) pa_nil)))))) (fun _ _ _ _ _ => (pe_or (pe_prop (pv 2) T.dc_WorkerPlan.cls T.p_WorkerPlan_name G_WorkerPlan_name (hr.mono (by decide)) T.bi_WorkerPlan_name .nil pass0 rfl) (pe_prop (pv 2) T.dc_SupervisorPlan.cls T.p_SupervisorPlan_name G_SupervisorPlan_name (hr.mono (by decide)) T.bi_SupervisorPlan_name .nil pass0 rfl))))
 (pss_one (ps_ret (pe_ifExp (pt_cmpR (op_neN hr.units) (pv 1) (pe_lst pa_nil) (nomark _)) (pe_callB (cr_min rfl) (by rfl) T.b_min (by decide +kernel) (pa_cons (pe_lc (own := [("name", 3)]) (by rfl) nd (pi_list (pv 1)) (blkOk_by (N := ["plan", "workers", "one", "name"]) (sc := defScope s_fewest) (by decide +kernel)) (fun _ _ _ _ _ => (pg_name (i := 3) nd rfl (Or.inl rfl))) (fun _ _ _ _ _ => pts_nil) (fun _ _ _ _ _ => (pe_call G_product_of (hr.mono (by decide)) (by rfl) T.g_product_of T.F_product_of.kp T.bi_product_of .nil pass0 (pa_cons (pe_call G_required_way (hr.mono (by decide)) (by rfl) T.g_required_way T.F_required_way.kp T.bi_required_way .nil pass0 (pa_cons (pv 0) (pa_cons (pv 3) pa_nil))) pa_nil)))) pa_nil)) pe_non))))), ?_⟩
    refine ⟨_, rfl, n, v, x, rfl, hn5, hR, hp, fun H1 s1 => ?_⟩
    dsimp only
    show tSeq _ _ _ _ _
    have hp1 := (mk_pat _ _).mn _ _ _ s1 hp
    obtain ⟨b, C, dy, gs, _, rfl, hb, hC, _⟩ := pat_cd _ _ hp1
    -- workers
    obtain ⟨rows, hrows⟩ : ∃ rows, rows = Told.rows (n + 1) (Sum.inr x) := ⟨_, rfl⟩
    have rl : rows.length ≤ 16 := by
      rw [hrows]
      have := rows_len (n + 1) (Sum.inr x)
      have h16 := hR.2.2.1
      omega
    have ew : wNames (n + 1) (Sum.inr x) = (rows.filter (·.1)).map (·.2) := by rw [hrows]; rfl
    refine g_asg (g_lcGf (Pa := NP K) (rs := rows) (p := (·.1)) (f := fun r : Bool × Str => V.str r.2) (fun H2 s2 R r => ?_) (mn_fa mk_nps) (by omega) (fun r y H2 hr' py s2 => ?_) fun r y H2 hr' hb1 py s2 Q q => ?_) fun v1 H2 s2 p12 => ?_
    · have go : spWA K (n + 1) [.ref b] H2 (fun v H3 => ∃ l, v = .ref l ∧ (∃ ys, SqL K H3 l ys) ∧ R (Itl K l) H3) E0 := ⟨_, Sum.inr x, rfl, hR.1, hR.2.2.1, (mk_pat _ _).mn _ _ _ s2 hp1, fun p xs H3 s3 hl hf => ⟨p, rfl, ⟨xs, .of hl⟩, r (Itl K p) _ xs H3 s3 (walk_list (xs := xs)) (fun H4 s4 => .of (s4 _ _ hl)) (by rw [hrows]; exact hf)⟩⟩
      rcases hC with rfl | rfl
      · exact .inl ⟨_, rfl, b, dy, gs, rfl, s2 _ _ hb, lk_with (n := n + 1) hp1 hb, n + 1, by omega, go⟩
      · exact .inr ⟨_, rfl, b, dy, gs, rfl, s2 _ _ hb, lk_with (n := n + 1) hp1 hb, n + 1, by omega, go⟩
    · obtain ⟨a, dx, q2, fs, zs, rfl, g1, g2, g3, g4⟩ := py
      intro Q q
      cases hb1 : r.1 with
      | true =>
        rw [hb1, if_pos rfl] at g1
        rw [hb1] at q
        exact ⟨_, rfl, a, dx, fs, rfl, .inl ⟨g1, false, rfl, q⟩⟩
      | false =>
        rw [hb1, if_neg Bool.false_ne_true] at g1
        rw [hb1] at q
        exact ⟨_, rfl, a, dx, fs, rfl, .inr ⟨g1, true, rfl, q⟩⟩
    · obtain ⟨a, dx, q2, fs, zs, rfl, g1, g2, g3, g4⟩ := py
      rw [hb1, if_pos rfl] at g1
      exact .inl ⟨_, rfl, a, dx, fs, rfl, g1, a, dx, q2, fs, zs, _, rfl, g1, g2, g3, g4, q _ (Same.refl _)⟩
    · obtain ⟨l, xs, rfl, hl, fx⟩ := p12
      obtain rfl := fx.is
      have em : ((rows.filter (·.1)).map fun r : Bool × Str => V.str r.2) = (wNames (n + 1) (Sum.inr x)).map V.str := by rw [ew, List.map_map]; rfl
      rw [em] at hl
      dsimp only
      show tRet _ _ _ _
      refine ⟨_, rfl, Nat.zero_le _, fun e he => ⟨l, e, _, rfl, rfl, .inl (.of ((same_new he) _ _ hl)), .inl (.of upd_same), _, rfl, ?_⟩⟩
      have s3 := s2.trans (same_new (o := .lst []) he)
      have hl3 := (same_new (o := .lst []) he) _ _ hl
      generalize upd H2 e (.lst []) = H3 at s3 hl3 ⊢
      dsimp only
      by_cases hw0 : wNames (n + 1) (Sum.inr x) = []
      · rw [if_neg (by rw [hw0]; exact Bool.false_ne_true)]
        exact k0 hw0 _ (s1.trans s3)
      · rw [if_pos (by simp [hw0])]
        have hp3 := (mk_pat _ _).mn _ _ _ s3 hp1
        have wl : (wNames (n + 1) (Sum.inr x)).length ≤ 16 := by
          rw [ew, List.length_map]
          exact Nat.le_trans (List.length_filter_le _ _) rl
        refine te_cb1 (g_lcG2 (Ps := ((wProds (n + 1) (Sum.inr x)).map V.int).map Is) (Qs := ((wNames (n + 1) (Sum.inr x)).map V.str).map Is) (fun H4 s4 R r => ⟨_, rfl, l, rfl, ⟨_, .of (s4 _ _ hl3)⟩, r (Itl K l) _ _ H4 (Same.refl _) (walk_list (xs := (wNames (n + 1) (Sum.inr x)).map V.str)) (fun H5 s5 => .of ((s4.trans s5) _ _ hl3)) ?_⟩) mn_is (by unfold wProds; simp) (by rw [List.length_map, List.length_map]; omega) mk_iss fun i y P P' H4 hq px hP s4 Q q => ?_) fun y H4 s4 py => ?_
        · have : ∀ ys : List V, Fa (ys.map Is) ys H4 := fun ys => by
            induction ys with
            | nil => trivial
            | cons y ys ih => exact ⟨rfl, ih⟩
          exact this _
        · rw [List.getElem?_map, List.getElem?_map] at hq
          obtain ⟨z, hz⟩ : ∃ z, (wNames (n + 1) (Sum.inr x))[i]? = some z := by
            cases h : (wNames (n + 1) (Sum.inr x))[i]? with
            | none => rw [h] at hq; cases hq
            | some z => exact ⟨z, rfl⟩
          rw [hz] at hq
          cases hq
          cases px
          obtain ⟨⟨sp, hsp⟩, hfree⟩ := wName_facts hR.2.1 (List.mem_of_getElem? hz)
          unfold wProds at hP
          rw [List.getElem?_map, List.getElem?_map, List.getElem?_map, hz] at hP
          cases hP
          have eP : prodI (facs (n + 1) (Sum.inr x) ((Told.spot z (n + 1) (Sum.inr x)).getD [])) = prodI (facs (n + 1) (Sum.inr x) sp) := congrArg (fun o : Option (List Nat) => prodI (facs (n + 1) (Sum.inr x) (o.getD []))) hsp
          have hp4 := (mk_pat _ _).mn _ _ _ s4 hp3
          obtain ⟨ws, hch⟩ := chainP_of (n + 1) (Sum.inr x) hsp hp4
          have hsl := spot_len (n + 1) _ hsp
          refine ⟨_, rfl, _, rfl, n + 1, by omega, _, Sum.inr x, z, sp, ws, rfl, by omega, hR.1, hfree, hsp, hch, fun lw H5 s5 hlw => ?_⟩
          have hch5 := chainP_mn s5 hch
          obtain ⟨dw, w', hw', hpw⟩ := spot_worker (n + 1) (Sum.inr x) hsp hch5
          exact ⟨n + 1, Sum.inr x, sp, _, lw, rfl, hlw, hR.1, hch5, ⟨dw, w', hw', hpw⟩, by omega, q _ _ s5 (congrArg V.int eP.symm)⟩
        · obtain ⟨l2, ys, rfl, hl2, fy⟩ := py
          obtain rfl := fy.is
          refine ⟨l2, _, rfl, .of hl2, ?_, fun m hm hle => k1 hw0 m _ hm hle ((s1.trans s3).trans s4)⟩
          unfold wProds
          rw [List.length_map]
          exact List.length_pos_iff.mpr hw0
end
end W48

set_option Elab.async false
set_option linter.all false
set_option maxRecDepth 100000
set_option maxHeartbeats 4000000
namespace W48
open PySem PySem.Spec PyProof.Rows L2 WXG WEv WRd WLf WEn WZs WRu WSt StX WDc
/-- in blocks: a reading that names the fragment itself -/
theorem op_neDK {X : Cx} {K : PySem.W.Frag} (hu : X.A.units + 64 < cLine) (h : X.K = K := by rfl) : OpR X (compareOp .NotEq) (rNeD K) := h ▸ op_neD hu
theorem op_neNK {X : Cx} {K : PySem.W.Frag} (hu : X.A.units + 64 < cLine) (h : X.K = K := by rfl) : OpR X (compareOp .NotEq) (rNeN K) := h ▸ op_neN hu
/-! ### the law's tuples as data -/
def optD : Option Int → PyData
  | none => .none
  | some i => .int i
def WD.data (d : WD) : PyData := .tuple [.str "worker", .str d.name, .str d.word, .int d.b, .int d.e, optD d.lim, .int d.r]
def SD.data (d : SD) (ds : List PyData) : PyData := .tuple [.str "supervisor", .str d.name, .str d.word, .str d.way, .int d.most, .int d.span, optD d.lim, .tuple ds]
def Told.data : (n : Nat) → Told n → PyData
  | 0, _ => .none
  | n + 1, t => match (show WD ⊕ (SD × List (Told n)) from t) with
    | .inl d => d.data
    | .inr x => x.1.data (x.2.map (Told.data n))
def Told.nm : (n : Nat) → Told n → Str
  | 0, _ => ""
  | n + 1, t => match (show WD ⊕ (SD × List (Told n)) from t) with
    | .inl d => d.name
    | .inr x => x.1.name
theorem dp_lim {K : PySem.W.Frag} {H : Hp} {l : Option Int} : Dp K H (limV l) (optD l) := by
  cases l with
  | none => exact .non
  | some i => exact .int i
theorem dps_of {K : PySem.W.Frag} {n : Nat} {H : Hp} : ∀ {ts : List (Told n)} {ys : List V}, (∀ t ∈ ts, ∀ v, TAt n t v H → Dp K H v (Told.data n t)) → Fa (ts.map (TAt n)) ys H → DpAll K H ys (ts.map (Told.data n))
  | [], [], _, _ => .nil
  | t :: ts, y :: ys, h, f => .cons (h t List.mem_cons_self y f.1) (dps_of (fun t ht => h t (List.mem_cons_of_mem _ ht)) f.2)
  | [], _ :: _, _, f => f.elim
  | _ :: _, [], _, f => f.elim
theorem dp_tat {K : PySem.W.Frag} : ∀ (n : Nat) (t : Told n) {v : V} {H : Hp}, TAt n t v H → Dp K H v (Told.data n t)
  | 0, _, _, _, h => h.elim
  | n + 1, .inl d, v, H, h => by
    obtain ⟨p, rfl, hp⟩ := h
    exact .tup (.of hp) (.cons (.str _) (.cons (.str _) (.cons (.str _) (.cons (.int _) (.cons (.int _) (.cons dp_lim (.cons (.int _) .nil)))))))
  | n + 1, .inr (d, ts), v, H, h => by
    obtain ⟨p, q, ys, rfl, hp, hq, fa⟩ := h
    exact .tup (.of hp) (.cons (.str _) (.cons (.str _) (.cons (.str _) (.cons (.str _) (.cons (.int _) (.cons (.int _) (.cons dp_lim (.cons (.tup hq.sq (dps_of (fun t ht v hv => dp_tat n t hv) fa)) .nil))))))))
theorem lim_lay {l : Option Int} : (optD l).canLay0 = true := by
  cases l <;> simp [optD, PyData.canLay0]
theorem lim_dep {l : Option Int} : (optD l).depth = 0 := by
  cases l <;> simp [optD, PyData.depth]
theorem lays_of {n : Nat} : ∀ {ts : List (Told n)}, (∀ t ∈ ts, (Told.data n t).canLay0 = true) → PyData.canLayAll0 (ts.map (Told.data n)) = true
  | [], _ => by simp [PyData.canLayAll0]
  | t :: ts, h => by
    rw [List.map_cons, PyData.canLayAll0, h t List.mem_cons_self, lays_of fun t ht => h t (List.mem_cons_of_mem _ ht)]
    rfl
theorem so_name {z : Str} (h : NameOk z) : PyData.strOk z = true := by
  obtain ⟨cs, rfl, _, _, h⟩ := h
  unfold PyData.strOk
  rw [← Array.all_toList, List.all_eq_true]
  intro c hc
  have := h c (by simpa using hc)
  exact decide_eq_true (by omega)
theorem so_word {z : Str} (h : WordOk z) : PyData.strOk z = true := by
  rcases h with rfl | rfl | rfl <;> decide +kernel
theorem so_way {z : Str} (h : WayOk z) : PyData.strOk z = true := by
  rcases h with rfl | rfl | rfl <;> decide +kernel
theorem so_w : PyData.strOk "worker" = true := by decide +kernel
theorem so_s : PyData.strOk "supervisor" = true := by decide +kernel
theorem data_lay : ∀ (n : Nat) (t : Told n), Told.Ok n t → (Told.data n t).canLay0 = true
  | 0, t, _ => t.elim
  | n + 1, .inl d, h => by
    show d.data.canLay0 = true
    simp only [WD.data, PyData.canLay0, PyData.canLayAll0, lim_lay, so_w, so_name h.1, so_word h.2.1]
    rfl
  | n + 1, .inr (d, ts), h => by
    show (d.data (ts.map (Told.data n))).canLay0 = true
    have := lays_of (ts := ts) fun t ht => data_lay n t (h.2.2 t ht)
    simp only [SD.data, PyData.canLay0, PyData.canLayAll0, lim_lay, so_s, so_name h.1.1, so_word h.1.2.1, so_way h.1.2.2.1, this]
    rfl
theorem deps_of {n k : Nat} : ∀ {ts : List (Told n)}, (∀ t ∈ ts, (Told.data n t).depth ≤ k) → PyData.depthAll (ts.map (Told.data n)) ≤ k
  | [], _ => by simp [PyData.depthAll]
  | t :: ts, h => by
    rw [List.map_cons, PyData.depthAll]
    exact Nat.max_le.mpr ⟨h t List.mem_cons_self, deps_of fun t ht => h t (List.mem_cons_of_mem _ ht)⟩
theorem data_dep : ∀ (n : Nat) (t : Told n), (Told.data n t).depth ≤ 2 * n
  | 0, t => t.elim
  | n + 1, .inl d => by
    show d.data.depth ≤ _
    simp [WD.data, PyData.depth, PyData.depthAll, lim_dep]
    omega
  | n + 1, .inr (d, ts) => by
    show (d.data (ts.map (Told.data n))).depth ≤ _
    have := deps_of (ts := ts) (k := 2 * n) fun t _ => data_dep n t
    simp [SD.data, PyData.depth, PyData.depthAll, lim_dep]
    omega
theorem data_shaped {n : Nat} (t : Told n) (ok : Told.Ok n t) (h : n ≤ 30) : SeqAt.shaped (Told.data n t) = true := by
  have := data_dep n t
  unfold SeqAt.shaped
  rw [data_lay n t ok, decide_eq_true (show (Told.data n t).depth ≤ 64 by omega)]
  rfl
theorem eqv_nm {a b : PyData} {x y : Str} {l l' : List PyData} (h : x ≠ y) : PyData.eqv (.tuple (a :: .str x :: l)) (.tuple (b :: .str y :: l')) = false := by
  simp only [PyData.eqv, PyData.eqvAll, beq_eq_false_iff_ne.mpr h, Bool.false_and, Bool.and_false]
theorem data_ne : ∀ {n : Nat} {t t' : Told n}, Told.nm n t ≠ Told.nm n t' → PyData.eqv (Told.data n t) (Told.data n t') = false
  | 0, t, _, _ => t.elim
  | n + 1, .inl d, .inl d', h => eqv_nm h
  | n + 1, .inl d, .inr x, h => eqv_nm h
  | n + 1, .inr x, .inl d, h => eqv_nm h
  | n + 1, .inr x, .inr y, h => eqv_nm h
theorem data_same {n : Nat} (t : Told n) (ok : Told.Ok n t) : PyData.eqv (Told.data n t) (Told.data n t) = true := SeqAt.eqv_refl _ (data_lay n t ok)
/-- siblings with different names -/
def Sib {n : Nat} (ts : List (Told n)) : Prop := (ts.map (Told.nm n)).Nodup
theorem nm_in : ∀ (n : Nat) (t : Told n), Told.nm n t ∈ (Told.rows n t).map (·.2)
  | 0, t => t.elim
  | n + 1, .inl d => List.mem_cons_self
  | n + 1, .inr x => List.mem_cons_self
theorem sib_of {n : Nat} : ∀ {ts : List (Told n)}, (((ts.map (Told.rows n)).flatten).map (·.2)).Nodup → Sib ts
  | [], _ => List.nodup_nil
  | t :: ts, h => by
    rw [List.map_cons, List.flatten_cons, List.map_append] at h
    obtain ⟨_, h2, h3⟩ := List.nodup_append.mp h
    refine List.nodup_cons.mpr ⟨fun hm => ?_, sib_of h2⟩
    obtain ⟨t', ht', e⟩ := List.mem_map.mp hm
    have : Told.nm n t' ∈ ((ts.map (Told.rows n)).flatten).map (·.2) := by
      obtain ⟨r, hr, er⟩ := List.mem_map.mp (nm_in n t')
      exact List.mem_map.mpr ⟨r, List.mem_flatten.mpr ⟨_, List.mem_map.mpr ⟨t', ht', rfl⟩, hr⟩, er⟩
    exact h3 _ (nm_in n t) _ this e.symm
theorem sib_sup {n : Nat} {x : SD × List (Told n)} (h : ((Told.rows (n + 1) (Sum.inr x)).map (·.2)).Nodup) : Sib x.2 := sib_of (List.nodup_cons.mp h).2
theorem sib_ne {n : Nat} {ts : List (Told n)} (h : Sib ts) {i j : Nat} {t u : Told n} (hi : ts[i]? = some t) (hj : ts[j]? = some u) (ne : j ≠ i) : Told.nm n u ≠ Told.nm n t := fun e => by
  have h1 : (ts.map (Told.nm n))[i]? = some (Told.nm n t) := by rw [List.getElem?_map, hi]; rfl
  have h2 : (ts.map (Told.nm n))[j]? = some (Told.nm n t) := by rw [List.getElem?_map, hj, ← e]; rfl
  exact ne ((List.getElem?_inj (List.getElem?_eq_some_iff.mp h2).1 h).mp (h2.trans h1.symm))
theorem idx_sib {n : Nat} {t : Told n} (ok : Told.Ok n t) : ∀ {ts : List (Told n)} {i : Nat}, ts[i]? = some t → (∀ j u, ts[j]? = some u → j ≠ i → Told.nm n u ≠ Told.nm n t) → ((ts.map (Told.data n)).map fun e => PyData.eqv e (Told.data n t)).idxOf true = i
  | [], i, h, _ => nomatch h
  | u :: ts, 0, h, _ => by
    cases h
    rw [List.map_cons, List.map_cons, data_same _ ok]
    exact List.idxOf_cons_self
  | u :: ts, i + 1, h, k => by
    have e := data_ne (k 0 u rfl (fun z => nomatch z))
    rw [List.map_cons, List.map_cons, e, List.idxOf_cons]
    have := idx_sib ok (ts := ts) (i := i) h fun j v hv ne => k (j + 1) v hv (by omega)
    rw [this]
    rfl
theorem true_in {n : Nat} {t : Told n} (ok : Told.Ok n t) {ts : List (Told n)} {i : Nat} (h : ts[i]? = some t) : true ∈ (ts.map (Told.data n)).map fun e => PyData.eqv e (Told.data n t) :=
  List.mem_map.mpr ⟨_, List.mem_map.mpr ⟨t, List.mem_of_getElem? h, rfl⟩, data_same t ok⟩
/-! ### the way down, over tuples -/
abbrev ChainT (K : PySem.W.Frag) := Chain TAt (TupAt K)
theorem tupAt_mn {K : PySem.W.Frag} {H H' : Hp} (s : Same H H') (n : Nat) (x : SD × List (Told n)) (v : V) (c : Addr) (ys : List V) (h : TupAt K n x v c ys H) : TupAt K n x v c ys H' := by
  obtain ⟨p, e, h1, h2, h3⟩ := h
  exact ⟨p, e, s _ _ h1, h2.mn s, mn_fa mk_tats _ _ _ s h3⟩
theorem chainT_mn {K : PySem.W.Frag} {H H' : Hp} (s : Same H H') {n : Nat} {t : Told n} {sp : List Nat} {vs : List V} (h : ChainT K n t sp vs H) : ChainT K n t sp vs H' := chain_mn (fun n t => (mk_tat n t).mn) (fun n x v c ys => tupAt_mn s n x v c ys) s h
theorem chain_kp {A : (n : Nat) → Told n → HP V} {B : (n : Nat) → SD × List (Told n) → V → Addr → List V → Hp → Prop} {H H' : Hp} (mA : ∀ n t, MnK (A n t)) (mB : ∀ n x v c ys, B n x v c ys H → B n x v c ys H') (s : Kp H H') : ∀ {n : Nat} {t : Told n} {sp : List Nat} {vs : List V}, Chain A B n t sp vs H → Chain A B n t sp vs H'
  | 0, _, _, _, h => h.elim
  | n + 1, t, [], vs, ⟨v, e, h⟩ => ⟨v, e, mA _ _ _ _ _ s h⟩
  | n + 1, .inl _, i :: sp, vs, h => h.elim
  | n + 1, .inr x, i :: sp, vs, ⟨v, c, ys, w, ws, t, e, h1, h2, h3, h⟩ => ⟨v, c, ys, w, ws, t, e, mB _ _ _ _ _ h1, h2, h3, chain_kp mA mB s h⟩
theorem tupAt_kp {K : PySem.W.Frag} {H H' : Hp} (s : Kp H H') (n : Nat) (x : SD × List (Told n)) (v : V) (c : Addr) (ys : List V) (h : TupAt K n x v c ys H) : TupAt K n x v c ys H' := by
  obtain ⟨p, e, h1, h2, h3⟩ := h
  exact ⟨p, e, kp_tup s h1, kp_tq s h2, fa_kp mk_tats s h3⟩
theorem chainT_kp {K : PySem.W.Frag} {H H' : Hp} (s : Kp H H') {n : Nat} {t : Told n} {sp : List Nat} {vs : List V} (h : ChainT K n t sp vs H) : ChainT K n t sp vs H' := chain_kp mk_tat (tupAt_kp s) s h
theorem tupAt_tat {K : PySem.W.Frag} {n : Nat} {x : SD × List (Told n)} {v : V} {c : Addr} {ys : List V} {H : Hp} (h : TupAt K n x v c ys H) : TAt (n + 1) (Sum.inr x) v H := by
  obtain ⟨p, e, h1, h2, h3⟩ := h
  exact ⟨p, c, ys, e, h1, h2, h3⟩
/-- the openings of all told things of a way -/
def opens : (n : Nat) → Told n → List Nat → List Int
  | 0, _, _ => []
  | n + 1, t, [] => [Told.opening (n + 1) t]
  | n + 1, t, i :: sp => match (show WD ⊕ (SD × List (Told n)) from t) with
    | .inl _ => []
    | .inr x => match x.2[i]? with
      | none => []
      | some u => Told.opening (n + 1) t :: opens n u sp
theorem opens_head {A : (n : Nat) → Told n → HP V} {B : (n : Nat) → SD × List (Told n) → V → Addr → List V → Hp → Prop} {H : Hp} : ∀ {n : Nat} {t : Told n} {sp : List Nat} {vs : List V}, Chain A B n t sp vs H → (opens n t sp)[0]? = some (Told.opening n t)
  | 0, _, _, _, h => h.elim
  | n + 1, t, [], _, _ => rfl
  | n + 1, .inl _, i :: sp, vs, h => h.elim
  | n + 1, .inr x, i :: sp, vs, ⟨v, c, ys, w, ws, t, e, h1, h2, h3, h⟩ => by
    show (match x.2[i]? with | none => [] | some u => Told.opening (n + 1) (Sum.inr x) :: opens n u sp)[0]? = _
    rw [h3]
    rfl
section
variable {A : (n : Nat) → Told n → HP V} {B : (n : Nat) → SD × List (Told n) → V → Addr → List V → Hp → Prop} {H H' : Hp}
/-- what stands at a place of the way, with what else is known of it -/
theorem chain_atS : ∀ {n : Nat} {t : Told n} {sp : List Nat} {vs : List V}, Told.Ok n t → Chain A B n t sp vs H → ∀ {j i : Nat}, sp[j]? = some i →
    ∃ (k : Nat) (x : SD × List (Told k)) (t' : Told k) (v w : V) (c : Addr) (ys : List V) (s : AS), k + j + 1 = n ∧ vs[j]? = some v ∧ vs[j + 1]? = some w ∧ B k x v c ys H ∧ ys[i]? = some w ∧ x.2[i]? = some t' ∧ Told.Ok (k + 1) (Sum.inr x) ∧ (attS n t sp)[j]? = some (stepA x.1 x.2 i (Told.opening k t') s) ∧ (attS n t sp)[j + 1]? = some s ∧
      (Told.rows (k + 1) (Sum.inr x)).Sublist (Told.rows n t) ∧ (facs n t sp)[j]? = some (x.1.most + 1) ∧ (opens n t sp)[j]? = some (Told.opening (k + 1) (Sum.inr x)) ∧ (opens n t sp)[j + 1]? = some (Told.opening k t')
  | 0, _, _, _, _, h, _, _, _ => h.elim
  | n + 1, t, [], vs, _, _, _, _, h => nomatch h
  | n + 1, .inl _, i :: sp, vs, _, h, _, _, _ => h.elim
  | n + 1, .inr x, i :: sp, vs, hok, ⟨v, c, ys, w, ws, t, e, h1, h2, h3, h⟩, j, i', hj => by
    have okt : Told.Ok n t := hok.2.2 t (List.mem_of_getElem? h3)
    have eO : opens (n + 1) (Sum.inr x) (i :: sp) = Told.opening (n + 1) (Sum.inr x) :: opens n t sp := by
      show (match x.2[i]? with | none => [] | some u => Told.opening (n + 1) (Sum.inr x) :: opens n u sp) = _
      rw [h3]
    have oh := opens_head h
    obtain ⟨k, x', t', v', w', c', ys', s', q0, q1, q2, q3, q4, q5, q6, q7, q8, q9, q10⟩ := chain_at hok (show Chain A B (n + 1) (Sum.inr x) (i :: sp) vs H from ⟨v, c, ys, w, ws, t, e, h1, h2, h3, h⟩) (j := j) (i := i') hj
    cases j with
    | zero =>
      have q0 : k = n := by omega
      subst q0
      cases hj
      obtain ⟨s, l, ea⟩ : ∃ s l, attS k t sp = s :: l := by
        obtain ⟨_, _, _, _, _, _, g, _⟩ := chain_end okt h
        cases ha : attS k t sp with
        | nil => rw [ha] at g; cases g
        | cons s l => exact ⟨_, _, rfl⟩
      have eA : attS (k + 1) (Sum.inr x) (i :: sp) = stepA x.1 x.2 i (Told.opening k t) s :: attS k t sp := by
        show (match x.2[i]? with | none => [] | some t => match attS k t sp with | [] => [] | s :: l => stepA x.1 x.2 i (Told.opening k t) s :: s :: l) = _
        rw [h3]
        dsimp only
        rw [ea]
      have eF : facs (k + 1) (Sum.inr x) (i :: sp) = (x.1.most + 1) :: facs k t sp := by
        show (match x.2[i]? with | none => [] | some t => (x.1.most + 1) :: facs k t sp) = _
        rw [h3]
      exact ⟨k, x, t, v, w, c, ys, s, rfl, by rw [e]; rfl, by rw [e]; rfl, h1, h2, h3, hok, by rw [eA]; rfl, by rw [eA, ea]; rfl, List.Sublist.refl _, by rw [eF]; rfl, by rw [eO]; rfl, by rw [eO]; exact oh⟩
    | succ j =>
      have eA : (∃ s, attS (n + 1) (Sum.inr x) (i :: sp) = s :: attS n t sp) := by
        show ∃ s, (match x.2[i]? with | none => [] | some t => match attS n t sp with | [] => [] | s :: l => stepA x.1 x.2 i (Told.opening n t) s :: s :: l) = _
        rw [h3]
        dsimp only
        obtain ⟨_, _, _, _, _, _, g, _⟩ := chain_end okt h
        cases ha : attS n t sp with
        | nil => rw [ha] at g; cases g
        | cons s l => exact ⟨_, rfl⟩
      obtain ⟨s0, eA⟩ := eA
      have eF : facs (n + 1) (Sum.inr x) (i :: sp) = (x.1.most + 1) :: facs n t sp := by
        show (match x.2[i]? with | none => [] | some t => (x.1.most + 1) :: facs n t sp) = _
        rw [h3]
      clear q0 q1 q2 q3 q4 q5 q6 q7 q8 q9 q10
      obtain ⟨k, x', t', v', w', c', ys', s', q0, q1, q2, q3, q4, q5, q6, q7, q8, q9, q10, q11, q12⟩ := chain_atS okt h (j := j) (i := i') hj
      refine ⟨k, x', t', v', w', c', ys', s', by omega, by rw [e]; exact q1, by rw [e]; exact q2, q3, q4, q5, q6, by rw [eA]; exact q7, by rw [eA]; exact q8, ?_, by rw [eF]; exact q10, by rw [eO]; exact q11, by rw [eO]; exact q12⟩
      refine List.Sublist.trans q9 ?_
      refine List.Sublist.cons _ ?_
      exact List.sublist_flatten_of_mem (List.mem_map.mpr ⟨t, List.mem_of_getElem? h3, rfl⟩)
end
/-- the way ends at a worker -/
theorem spot_leaf {K : PySem.W.Frag} {z : Str} {H : Hp} : ∀ (n : Nat) (t : Told n) {sp : List Nat} {vs : List V}, Told.spot z n t = some sp → ChainT K n t sp vs H → ∃ d w, vs[sp.length]? = some w ∧ TW d w H ∧ (opens n t sp)[sp.length]? = some d.b ∧ (attS n t sp)[sp.length]? = some (some 0, [])
  | 0, _, _, _, h, _ => nomatch h
  | n + 1, .inl d, sp, vs, h, c => by
    have h : (if d.name = z then some [] else none) = some sp := h
    split at h
    · cases h
      obtain ⟨v, e, p⟩ := c
      exact ⟨d, v, by rw [e]; rfl, p, rfl, rfl⟩
    · cases h
  | n + 1, .inr x, sp, vs, h, c => by
    have key : ∀ (l : List (Told n)) (i : Nat), x.2.drop i = l → findL (Told.spot z n) i l = some sp → ∃ i' s t, sp = i' :: s ∧ x.2[i']? = some t ∧ Told.spot z n t = some s := by
      intro l
      induction l with
      | nil => intro i _ h; cases h
      | cons t l ih =>
        intro i hd h
        unfold findL at h
        cases ha : Told.spot z n t with
        | none =>
          rw [ha] at h
          refine ih (i + 1) ?_ h
          rw [← List.drop_drop, hd]
          rfl
        | some s =>
          rw [ha] at h
          cases h
          have ht : x.2[i]? = some t := by
            have := congrArg List.head? hd
            rwa [List.head?_drop] at this
          exact ⟨i, s, t, rfl, ht, ha⟩
    obtain ⟨i, s, t, rfl, ht, hs⟩ := key x.2 0 rfl h
    obtain ⟨v, c, ys, w, ws, t', e, h1, h2, h3, hc⟩ := c
    rw [ht] at h3
    cases h3
    obtain ⟨d, w', q1, q2, q3, q4⟩ := spot_leaf n t hs hc
    have eO : opens (n + 1) (Sum.inr x) (i :: s) = Told.opening (n + 1) (Sum.inr x) :: opens n t s := by
      show (match x.2[i]? with | none => [] | some u => Told.opening (n + 1) (Sum.inr x) :: opens n u s) = _
      rw [ht]
    refine ⟨d, w', by rw [e]; exact q1, q2, by rw [eO]; exact q3, ?_⟩
    show (match x.2[i]? with | none => [] | some t => match attS n t s with | [] => [] | s :: l => stepA x.1 x.2 i (Told.opening n t) s :: s :: l)[s.length + 1]? = _
    rw [ht]
    dsimp only
    cases ha : attS n t s with
    | nil => rw [ha] at q4; cases q4
    | cons s0 l =>
      rw [ha] at q4
      exact q4
end W48

set_option Elab.async false
set_option linter.all false
set_option maxRecDepth 100000
set_option maxHeartbeats 4000000
namespace W48
open PySem PySem.Spec PyProof.Rows L2 WXG WEv WRd WLf WEn WZs WRu WSt StX WDc
def WayV (K : PySem.W.Frag) (n : Nat) (t : Told n) (v : V) (xs : List V) (H : Hp) : Option (List Nat) → Prop
  | none => xs = []
  | some sp => (∃ ws, xs = v :: ws) ∧ ChainT K n t sp xs H
def spLWay (K : PySem.W.Frag) (n : Nat) : Sp := fun vs H Q _ => ∃ (v : V) (t : Told n) (z : Str), vs = [v, .str z] ∧ n ≤ 15 ∧ TAt n t v H ∧ ∀ p xs H', Same H H' → H' p = some (.lst xs) → WayV K n t v xs H' (Told.spot z n t) → Q (.ref p) H'
def spLCyc (K : PySem.W.Frag) : Sp := fun vs H Q _ => ∃ (n : Nat) (v w : V) (x : SD × List (Told n)) (c : Addr) (ys : List V) (i : Nat) (t : Told n) (a : Int), vs = [v, w, .int (Told.opening n t + a)] ∧ n ≤ 5 ∧ Told.Ok (n + 1) (Sum.inr x) ∧ Sib x.2 ∧ TupAt K n x v c ys H ∧ ys[i]? = some w ∧ x.2[i]? = some t ∧
  ∀ H', Same H H' → Q (.int (cyc x.1 x.2 i (Told.opening n t) a)) H'
def endV (o : Int) : Option Int → V
  | none => .non
  | some a => .int (o + a)
def spLLast (K : PySem.W.Frag) : Sp := fun vs H Q _ => ∃ (n : Nat) (v w : V) (x : SD × List (Told n)) (c : Addr) (ys : List V) (i : Nat) (t : Told n) (a : Int), vs = [v, w, .int (Told.opening n t + a)] ∧ n ≤ 5 ∧ Told.Ok (n + 1) (Sum.inr x) ∧ Sib x.2 ∧ TupAt K n x v c ys H ∧ ys[i]? = some w ∧ x.2[i]? = some t ∧
  ∀ H', Same H H' → Q (endV (Told.opening (n + 1) (Sum.inr x)) (attA x.1 x.2 i (Told.opening n t) a)) H'
theorem eqv_at {n : Nat} {ts : List (Told n)} (ok : ∀ t ∈ ts, Told.Ok n t) (h : Sib ts) {i j : Nat} {t u : Told n} (hi : ts[i]? = some t) (hj : ts[j]? = some u) : PyData.eqv (Told.data n u) (Told.data n t) = decide (j = i) := by
  by_cases e : j = i
  · subst e
    rw [hi] at hj
    cases hj
    rw [data_same _ (ok _ (List.mem_of_getElem? hi)), decide_eq_true rfl]
  · rw [data_ne (sib_ne h hi hj e), decide_eq_false e]
section
variable {K : PySem.W.Frag} {σ : L2.St} {H : Hp}
/-- told[7].index(child) -/
theorem ev_index {n : Nat} {v w : V} {x : SD × List (Told n)} {c : Addr} {ys : List V} {i k l : Nat} {t : Told n} (hk : σ[k]? = some (some v)) (hl : σ[l]? = some (some w)) (hn : n ≤ 5) (ok : ∀ t ∈ x.2, Told.Ok n t) (hs : Sib x.2) (ht : TupAt K n x v c ys H) (hw : ys[i]? = some w) (hx : x.2[i]? = some t) :
    Ev (WSl.tBMF (WSl.rIdxD K) (tOp (rIxT K) (tVar k) (tC (.int 7))) (tCons (tVar l) tNil)) σ H (.int ((i : Nat) : Int)) := by
  intro Q q
  obtain ⟨p, rfl, h1, h2, h3⟩ := ht
  obtain ⟨t', ht', pw⟩ := sup_get h3 hw
  rw [hx] at ht'
  cases ht'
  refine ⟨_, hk, p, _, 7, .ref c, rfl, rfl, .of h1, rfl, ⟨c, ys, rfl, h2⟩, _, hl, ?_⟩
  · refine ⟨c, ys, x.2.map (Told.data n), w, Told.data n t, rfl, rfl, h2.sq, dps_of (fun t _ v hv => dp_tat n t hv) h3, dp_tat n t pw, fun e he => ?_, data_shaped t (ok t (List.mem_of_getElem? hx)) (by omega), true_in (ok t (List.mem_of_getElem? hx)) hx, ?_⟩
    · obtain ⟨u, hu, rfl⟩ := List.mem_map.mp he
      exact data_shaped u (ok u hu) (by omega)
    · rw [idx_sib (ok t (List.mem_of_getElem? hx)) hx fun j u hj ne => sib_ne hs hx hj ne]
      exact q
end
section
variable {P : Program} {w : World} {K : PySem.W.Frag} {mg : Str → Option Value} {base : Heap}
theorem ok_lway (T : Env K mg) : ∀ n, FnOk P w K mg base CX0 (n + 1) (d_L_way.loc K) T.fd_L_way ["told", "name"] (spLWay K n)
  | 0 => T.F_L_way.ok sc_L_way (fun vs H Q E (h : spLWay K 0 vs H Q E) => by obtain ⟨v, t, _⟩ := h; cases t) (fun cdv A outer s H vs Q E hr (h : spLWay K 0 vs H Q E) => by obtain ⟨v, t, _⟩ := h; cases t)
  | n + 1 => by
    have G_L_way : FnOk P w K mg base CX0 (n + 1) _ _ _ _ := ok_lway T n
    refine T.F_L_way.ok sc_L_way (fun vs H Q E h => ?_) (fun cdv A outer s H vs Q E hr h => ?_)
    · obtain ⟨v, t, z, rfl, _⟩ := h
      rfl
    · have nd := sc_L_way.nd
      have hu := hu_of hr
      obtain ⟨v, t, z, rfl, hn, ht, k⟩ := h
      refine ⟨_, PSs.nox (pss_cons (ps_if (pt_cmpR op_eq (pe_ix (ixtK (K := K)) (pv 0) pe_int (fun _ _ => rfl)) pe_str (nomark _))
  (pss_one (ps_ret (pe_ifExp (pt_cmpR op_eq (pe_ix (ixtK (K := K)) (pv 0) pe_int (fun _ _ => rfl)) (pv 1) (nomark _)) (pe_lst (pa_cons (pv 0) pa_nil)) (pe_lst pa_nil))))
  pss_nil)
 (pss_cons (ps_for PassesOwn.never rfl (pi_tup (pe_ix (ixtK (K := K)) (pv 0) pe_int (fun _ _ => rfl))) (pg_name (i := 2) nd rfl (Or.inl rfl))
  (pss_one (ps_if (pt_cmpR (op_neN hr.units) (pe_call G_L_way (hr.mono (by omega)) (by rfl) T.g__law_way T.F_L_way.kp T.bi_L_way .nil pass0 (pa_cons (pv 2) (pa_cons (pv 1) pa_nil))) (pe_lst pa_nil) (nomark _))
  (pss_one (ps_ret (pe_op op_cat (pe_lst (pa_cons (pv 0) pa_nil)) (pe_call G_L_way (hr.mono (by omega)) (by rfl) T.g__law_way T.F_L_way.kp T.bi_L_way .nil pass0 (pa_cons (pv 2) (pa_cons (pv 1) pa_nil))))))
  pss_nil)))
 (pss_one (ps_ret (pe_lst pa_nil))))), ?_⟩
      cases t with
      | inl d =>
        obtain ⟨p, rfl, hp⟩ := ht
        refine st_if (b := true) (evb_eqS (ev_ixT rfl hp rfl) ev_c rfl) ?_
        have e : Told.spot z (n + 1) (Sum.inl d) = if d.name = z then some [] else none := rfl
        by_cases hz : d.name = z
        · rw [e, if_pos hz] at k
          refine st_retIf1 (evb_eqS (ev_ixT rfl hp rfl) (ev_var rfl) (decide_eq_true hz)) ?_
          exact ⟨_, rfl, (by decide : 1 ≤ sizeLine), fun l hl => k l _ _ (same_new hl) upd_same ⟨⟨[], rfl⟩, .ref p, rfl, p, rfl, (same_new hl) _ _ hp⟩⟩
        · rw [e, if_neg hz] at k
          refine st_retIf0 (evb_eqS (ev_ixT rfl hp rfl) (ev_var rfl) (decide_eq_false hz)) ?_
          exact ⟨Nat.zero_le _, fun l hl => k l _ _ (same_new hl) upd_same rfl⟩
      | inr x =>
        obtain ⟨d, ts⟩ := x
        obtain ⟨p, q, ys, rfl, hp, hq, fa⟩ := ht
        have yl := sup_len fa
        refine st_no (evb_eqS (ev_ixT rfl hp rfl) ev_c rfl) ?_
        refine f_tup (fun i σ H' => ∃ a2, σ = [some (.ref p), some (.str z), a2] ∧ Same H H' ∧ Told.spot z (n + 1) (Sum.inr (d, ts)) = findL (Told.spot z n) i (ts.drop i)) rfl hp rfl hq ⟨none, rfl, Same.refl _, rfl⟩ (fun i σ H' q => q.elim fun _ q => q.2.1) (fun i x σ H1 hx q => ?_) (fun σ H1 q => ?_)
        · obtain ⟨a2, rfl, s1, hsp⟩ := q
          obtain ⟨t, ht, px⟩ := sup_get fa hx
          have hdrop : ts.drop i = t :: ts.drop (i + 1) := (List.getElem_cons_drop (h := (List.getElem?_eq_some_iff.mp ht).1)).symm.trans (by rw [(List.getElem?_eq_some_iff.mp ht).2])
          rw [hdrop] at hsp
          unfold findL at hsp
          refine ⟨_, rfl, _, rfl, x, t, z, rfl, by omega, (mk_tat n t).mn _ _ _ s1 px, fun l zs H2 s2 hl2 hw => ⟨Nat.zero_le _, fun e he => ⟨l, e, zs, rfl, rfl, .inl (.of ((same_new he) _ _ hl2)), .inl (.of upd_same), _, rfl, ?_⟩⟩⟩
          have s3 := (s1.trans s2).trans (same_new (o := .lst []) he)
          dsimp only
          cases hs : Told.spot z n t with
          | none =>
            rw [hs] at hsp hw
            have hw : zs = [] := hw
            subst hw
            exact ⟨_, rfl, s3, hsp⟩
          | some sp =>
            rw [hs] at hsp hw
            obtain ⟨⟨ws, rfl⟩, hc⟩ := hw
            rw [if_pos (by simp)]
            show tRet _ _ _ _
            refine ⟨_, rfl, (by decide : 1 ≤ sizeLine), fun a ha => ⟨_, rfl, _, rfl, x, t, z, rfl, by omega, (mk_tat n t).mn _ _ _ (s3.trans (same_new ha)) px, fun l2 zs2 H4 s4 hl4 hw2 => ?_⟩⟩
            rw [hs] at hw2
            obtain ⟨⟨ws2, rfl⟩, hc2⟩ := hw2
            have hlen := chain_len hc2
            have hsl := spot_len n t hs
            refine ⟨a, l2, [.ref p], x :: ws2, rfl, rfl, s4 _ _ upd_same, hl4, Nat.le_trans (show [V.ref p].length + (x :: ws2).length ≤ 20 by rw [hlen]; simp; omega) (by decide), fun r hr => ?_⟩
            have s5 := ((s3.trans (same_new (o := .lst [.ref p]) ha)).trans s4).trans (same_new (o := .lst ([.ref p] ++ x :: ws2)) hr)
            rw [hsp] at k
            refine k r _ _ s5 upd_same ⟨⟨_, rfl⟩, .ref p, q, ys, x, ws2, t, rfl, ⟨p, rfl, s5 _ _ hp, hq.mn s5, mn_fa mk_tats _ _ _ s5 fa⟩, hx, ht, chainT_mn (same_new hr) hc2⟩
        · obtain ⟨a2, rfl, s1, hsp⟩ := q
          rw [yl, List.drop_length] at hsp
          rw [hsp] at k
          exact ⟨Nat.zero_le _, fun l hl => k l _ _ (s1.trans (same_new hl)) upd_same rfl⟩
end
end W48

set_option Elab.async false
set_option linter.all false
set_option maxRecDepth 100000
set_option maxHeartbeats 4000000
namespace W48
open PySem PySem.Spec PyProof.Rows L2 WXG WEv WRd WLf WEn WZs WRu WSt StX WDc
def LX (ys : List V) : HP V := fun v H => ∃ l, v = .ref l ∧ H l = some (.lst ys)
theorem mn_lx {ys : List V} : Mn (LX ys) := fun _ _ _ s ⟨l, e, h⟩ => ⟨l, e, s _ _ h⟩
theorem cut_whole {xs : List V} {lo hi : Option Int} (h : HT.sIx xs.length 0 lo = 0 ∧ HT.sIx xs.length xs.length hi = xs.length) : cutV xs lo hi = xs := by
  unfold cutV
  rw [h.1, h.2, List.drop_zero, Nat.sub_zero, List.take_length]
theorem cut_from {xs : List V} {lo : Nat} (h : lo ≤ xs.length) : cutV xs (some ((lo : Nat) : Int)) none = xs.drop lo := by
  unfold cutV
  rw [HT.sIx_none, HT.sIx_nat, Nat.min_eq_left h, List.take_of_length_le (by rw [List.length_drop]; exact Nat.le_refl _)]
/-- what a mend stops, what opens ahead of its child -/
def stopL {α : Type} (way : Str) (l : List α) (i : Nat) : List α := if way = "one" then [] else if way = "rest" then l.drop (i + 1) else l.take i ++ l.drop (i + 1)
def frontL {α : Type} (way : Str) (l : List α) (i : Nat) : List α := if way = "all" then l.take i else []
theorem fa_dropN : ∀ {Ps : List (HP V)} {xs : List V} {H : Hp} {n : Nat}, Fa Ps xs H → Fa (Ps.drop n) (xs.drop n) H
  | [], [], _, _, _ => by simp [Fa]
  | P :: Ps, x :: xs, H, 0, h => h
  | P :: Ps, x :: xs, H, n + 1, h => (fa_dropN h.2 : Fa (Ps.drop n) (xs.drop n) H)
  | [], _ :: _, _, _, h => h.elim
  | _ :: _, [], _, _, h => h.elim
theorem fa_stop {n : Nat} {ts : List (Told n)} {ys : List V} {H : Hp} (way : Str) (i : Nat) (h : Fa (ts.map (TAt n)) ys H) : Fa ((stopL way ts i).map (TAt n)) (stopL way ys i) H := by
  unfold stopL
  split
  · trivial
  · split
    · rw [List.map_drop]
      exact fa_dropN h
    · rw [List.map_append, List.map_drop, List.map_take]
      exact (fa_takeN h).app (fa_dropN h)
theorem fa_front {n : Nat} {ts : List (Told n)} {ys : List V} {H : Hp} (way : Str) (i : Nat) (h : Fa (ts.map (TAt n)) ys H) : Fa ((frontL way ts i).map (TAt n)) (frontL way ys i) H := by
  unfold frontL
  split
  · rw [List.map_take]
    exact fa_takeN h
  · trivial
theorem stop_in {α : Type} {way : Str} {l : List α} {i : Nat} {x : α} (h : x ∈ stopL way l i) : x ∈ l := by
  unfold stopL at h
  split at h
  · cases h
  · split at h
    · exact List.mem_of_mem_drop h
    · rcases List.mem_append.mp h with h | h
      · exact List.mem_of_mem_take h
      · exact List.mem_of_mem_drop h
theorem front_in {α : Type} {way : Str} {l : List α} {i : Nat} {x : α} (h : x ∈ frontL way l i) : x ∈ l := by
  unfold frontL at h
  split at h
  · exact List.mem_of_mem_take h
  · cases h
theorem stop_len {α : Type} {way : Str} {l : List α} {i : Nat} : (stopL way l i).length ≤ l.length + l.length := by
  unfold stopL
  split
  · exact Nat.zero_le _
  · split
    · rw [List.length_drop]; omega
    · rw [List.length_append, List.length_drop, List.length_take]; omega
theorem front_len {α : Type} {way : Str} {l : List α} {i : Nat} : (frontL way l i).length ≤ l.length := by
  unfold frontL
  split
  · rw [List.length_take]; omega
  · exact Nat.zero_le _
section
variable {K : PySem.W.Frag} {σ : L2.St} {H : Hp} {D : Ends}
/-- list(told[7][lo:hi]) -/
theorem g_listSl {k : Nat} {p c : Addr} {vals ys zs : List V} {tl th : TO} {lo hi : Option Int} (hk : σ[k]? = some (some (.ref p))) (hp : H p = some (.tup vals)) (e7 : atI vals 7 = some (.ref c)) (hc : WSl.TQ H c ys)
    (hl : ∀ (H1 : Hp) (Q : Option Int → Hp → Prop), Q lo H1 → tl σ H1 Q) (hh : ∀ (H1 : Hp) (Q : Option Int → Hp → Prop), Q hi H1 → th σ H1 Q) (hz : cutV ys lo hi = zs) :
    G (tCB (fun xs H Q => ∃ p ys, xs = [.ref p] ∧ (SqL K H p ys ∨ SqT K H p ys) ∧ ∀ l, H l = none → Q (.ref l) (upd H l (.lst ys))) (tCons (tSl (rSlA K) (tOp (rIxT K) (tVar k) (tC (.int 7))) tl th) tNil)) σ H (LX zs) :=
  ⟨fun H1 e Q q => ⟨_, hk, p, vals, 7, _, rfl, rfl, .of (e _ _ hp), e7, hl _ _ (hh _ _ ⟨c, ys, rfl, (hc.mn e).sq, fun w => ⟨c, ys, rfl, .inr (hc.mn e).sq, fun l hn => q _ _ (same_new hn) ⟨l, rfl, by rw [← hz, cut_whole w]; exact upd_same⟩⟩, fun _ p hp => ⟨p, _, rfl, .inr (.of upd_same), fun l hn => q _ _ ((same_new hp).trans (same_new hn)) ⟨l, rfl, by rw [← hz]; exact upd_same⟩⟩⟩)⟩, mn_lx⟩
/-- {"one": [], "rest": behind, "all": ahead + behind}[told[3]] -/
theorem st_dispS {p l4 l5 : Addr} {vals y4 y5 : List V} {way : Str} (h0 : σ[0]? = some (some (.ref p))) (h4 : σ[4]? = some (some (.ref l4))) (h5 : σ[5]? = some (some (.ref l5))) (hp : H p = some (.tup vals)) (e3 : atI vals 3 = some (.str way)) (hw : WayOk way)
    (hl4 : H l4 = some (.lst y4)) (hl5 : H l5 = some (.lst y5)) (hz : y4.length + y5.length ≤ 1000)
    (k : ∀ l H1, Same H H1 → H1 l = some (.lst (if way = "one" then [] else if way = "rest" then y5 else y4 ++ y5)) → D.nx (σ.set 6 (some (.ref l))) H1) :
    tAsg (tDGet (tDisp [(tC (.str "one"), tLst tNil), (tC (.str "rest"), tVar 5), (tC (.str "all"), tOp rCat (tVar 4) (tVar 5))]) (tOp (rIxT K) (tVar 0) (tC (.int 3)))) (gName 6) D σ H := by
  intro p0 hp0
  refine ⟨Nat.zero_le _, fun l1 hl1 => ⟨_, h5, _, h4, _, h5, ?_⟩⟩
  have s1 : Same H (upd (upd H p0 (.dK [])) l1 (.lst [])) := (same_new hp0).trans (same_new hl1)
  refine ⟨l4, l5, y4, y5, rfl, rfl, s1 _ _ hl4, s1 _ _ hl5, Nat.le_trans hz (by decide), fun l6 hl6 => ?_⟩
  have s2 := s1.trans (same_new (o := .lst (y4 ++ y5)) hl6)
  have k0 : upd (upd (upd H p0 (.dK [])) l1 (.lst [])) l6 (.lst (y4 ++ y5)) p0 = some (.dK []) := (same_new hl6) _ _ ((same_new hl1) _ _ upd_same)
  have k1 : upd (upd (upd H p0 (.dK [])) l1 (.lst [])) l6 (.lst (y4 ++ y5)) l1 = some (.lst []) := (same_new hl6) _ _ upd_same
  have k6 : upd (upd (upd H p0 (.dK [])) l1 (.lst [])) l6 (.lst (y4 ++ y5)) l6 = some (.lst (y4 ++ y5)) := upd_same
  generalize upd (upd (upd H p0 (.dK [])) l1 (.lst [])) l6 (.lst (y4 ++ y5)) = H2 at s2 k0 k1 k6 ⊢
  refine ⟨k0, [(Sum.inr "one", .ref l1), (Sum.inr "rest", .ref l5), (Sum.inr "all", .ref l6)], rfl, (by decide : 3 ≤ 15), ?_⟩
  have put : ∀ (b : Addr) (xs : List V) (o : HO), H2 b = some (.lst xs) → upd H2 p0 o b = some (.lst xs) := fun b xs o h => by
    rw [upd_ne (fun z => by rw [z, k0] at h; cases h)]
    exact h
  have s3 : Same H (upd H2 p0 (.dK [(Sum.inr "one", .ref l1), (Sum.inr "rest", .ref l5), (Sum.inr "all", .ref l6)])) := same_put s2 hp0
  refine ⟨_, h0, p, vals, 3, _, rfl, rfl, .of (s3 _ _ hp), e3, p0, ?_⟩
  have e1 : ("rest" : Str) ≠ "one" := by decide +kernel
  have e2 : ("all" : Str) ≠ "one" := by decide +kernel
  have e4 : ("all" : Str) ≠ "rest" := by decide +kernel
  rcases hw with rfl | rfl | rfl
  · rw [if_pos rfl] at k
    exact ⟨.ref l1, rfl, .inl ⟨_, Sum.inr "one", .inl upd_same, rfl, rfl⟩, k _ _ s3 (put _ _ _ k1)⟩
  · rw [if_neg e1, if_pos rfl] at k
    exact ⟨.ref l5, rfl, .inl ⟨_, Sum.inr "rest", .inl upd_same, rfl, rfl⟩, k _ _ s3 (put _ _ _ (s2 _ _ hl5))⟩
  · rw [if_neg e2, if_neg e4] at k
    exact ⟨.ref l6, rfl, .inl ⟨_, Sum.inr "all", .inl upd_same, rfl, rfl⟩, k _ _ s3 (put _ _ _ k6)⟩
/-- sum([f(one) for one in l]) -/
theorem g_sumOf {te : TE} {i v n : Nat} {l : Addr} {ys : List V} {us : List (Told n)} {f : Told n → Int} (hi : σ[i]? = some (some (.ref l))) (hl : H l = some (.lst ys)) (fa : Fa (us.map (TAt n)) ys H) (hz : ys.length ≤ 1000)
    (h : ∀ (x : V) (t : Told n) (H1 : Hp), t ∈ us → TAt n t x H1 → Same H H1 → ∀ Q : VK, (∀ H2, Same H1 H2 → Q (.int (f t)) H2) → te ((σ.set v none).set v (some x)) H1 Q) :
    G (tCB (rSum K) (tCons (tLc (iList K (tVar i)) (gName v) tYes te [v]) tNil)) σ H (Is (.int (us.map f).sum)) :=
  g_sum (g_lcL hi hl (by simp [sup_len fa]) hz mk_iss fun j x P H1 hx hP s Q q => by
    obtain ⟨t, ht, px⟩ := sup_get fa hx
    rw [ints_get hP ht] at q
    exact h x t H1 (List.mem_of_getElem? ht) ((mk_tat n t).mn _ _ _ s px) s Q fun H2 s2 => q _ _ s2 rfl)
end
section
variable {P : Program} {w : World} {K : PySem.W.Frag} {mg : Str → Option Value} {base : Heap}
theorem ok_lcycle (T : Env K mg) : FnOk P w K mg base CX0 8 (d_L_cycle.loc K) T.fd_L_cycle ["told", "child", "ticks"] (spLCyc K) := by
  have G_L_opening : FnOk P w K mg base CX0 7 _ _ _ _ := fn_any 6 (ok_opening T) (M := 7) fun n h => by omega
  have G_L_stopping : FnOk P w K mg base CX0 7 _ _ _ _ := fn_any 6 (ok_stopping T) (M := 7) fun n h => by omega
  refine T.F_L_cycle.ok sc_L_cycle (fun vs H Q E h => ?_) (fun cdv A outer s H vs Q E hr h => ?_)
  · obtain ⟨n, v, w, x, c, ys, i, t, a, rfl, _⟩ := h
    rfl
  · have nd := sc_L_cycle.nd
    have hu := hu_of hr
    obtain ⟨n, v, w, ⟨d, ts⟩, c, ys, i, t, a0, rfl, hn, hok, hsib, htup, hw, ht, k⟩ := h
    refine ⟨_, PSs.nox (pss_cons (ps_set (i := 3) nd rfl (Or.inl rfl) (WSl.pe_bmF PySem.F.plainAttrs_tuple PySem.F.slot_tuple_index PySem.F.type_tuple_index (WSl.mt_tupIndexD (hu66 hr)) (pe_ix (ixtK (K := K)) (pv 0) pe_int (fun _ _ => rfl)) (pa_cons (pv 1) pa_nil)))
 (pss_cons (ps_par (i := 4) (j := 5) (by rfl) nd rfl rfl (by decide) rfl rfl (pa_cons (pe_callTy call_list_of (by rfl) T.b_list (by decide +kernel) (pa_cons (pe_slice sl_tupA (pe_ix (ixtK (K := K)) (pv 0) pe_int (fun _ _ => rfl)) po_none (po_some (pv 3))) pa_nil)) (pa_cons (pe_callTy call_list_of (by rfl) T.b_list (by decide +kernel) (pa_cons (pe_slice sl_tupA (pe_ix (ixtK (K := K)) (pv 0) pe_int (fun _ _ => rfl)) (po_some (pe_op op_add (pv 3) pe_int)) po_none) pa_nil)) pa_nil)) (by rfl))
 (pss_cons (ps_set (i := 6) nd rfl (Or.inl rfl) (pe_dget hu (pe_disp (pps_cons pe_str (pe_lst pa_nil) (pps_cons pe_str (pv 5) (pps_cons pe_str (pe_op op_cat (pv 4) (pv 5)) pps_nil))) (by rfl) (by rfl) (fun z => by cases z) (by decide)) (pe_ix (ixtK (K := K)) (pv 0) pe_int (fun _ _ => rfl)) (fun _ _ => rfl)))
 (pss_cons (ps_set (i := 7) nd rfl (Or.inl rfl) (pe_ifExp (pt_cmpR op_eq (pe_ix (ixtK (K := K)) (pv 0) pe_int (fun _ _ => rfl)) pe_str (nomark _)) (pv 4) (pe_lst pa_nil)))
 (pss_cons (ps_set (i := 8) nd rfl (Or.inl rfl) (pe_callB (cr_sum rfl) (by rfl) T.b_sum (by decide +kernel) (pa_cons (pe_lc (own := [("one", 9)]) (by rfl) nd (pi_list (pv 6)) (blkOk_by (N := ["told", "child", "ticks", "spot", "ahead", "behind", "stopped", "front", "stops", "one", "mend"]) (sc := defScope s_L_cycle) (by decide +kernel)) (fun _ _ _ _ _ => (pg_name (i := 9) nd rfl (Or.inl rfl))) (fun _ _ _ _ _ => pts_nil) (fun _ _ _ _ _ => (pe_call G_L_stopping (hr.mono (by decide)) (by rfl) T.g__law_stopping T.F_L_stopping.kp T.bi_L_stopping .nil pass0 (pa_cons (pv 9) pa_nil)))) pa_nil)))
 (pss_cons (ps_set (i := 10) nd rfl (Or.inl rfl) (pe_op op_add (pe_op op_add (pv 8) (pe_callB (cr_sum rfl) (by rfl) T.b_sum (by decide +kernel) (pa_cons (pe_lc (own := [("one", 9)]) (by rfl) nd (pi_list (pv 6)) (blkOk_by (N := ["told", "child", "ticks", "spot", "ahead", "behind", "stopped", "front", "stops", "one", "mend"]) (sc := defScope s_L_cycle) (by decide +kernel)) (fun _ _ _ _ _ => (pg_name (i := 9) nd rfl (Or.inl rfl))) (fun _ _ _ _ _ => pts_nil) (fun _ _ _ _ _ => (pe_call G_L_opening (hr.mono (by decide)) (by rfl) T.g__law_opening T.F_L_opening.kp T.bi_L_opening .nil pass0 (pa_cons (pv 9) pa_nil)))) pa_nil))) (pe_call G_L_opening (hr.mono (by decide)) (by rfl) T.g__law_opening T.F_L_opening.kp T.bi_L_opening .nil pass0 (pa_cons (pv 1) pa_nil))))
 (pss_one (ps_ret (pe_callB (call_max2 rfl) (by rfl) T.b_max (by decide +kernel) (pa_cons (pv 10) (pa_cons (pe_op op_add (pe_op op_add (pv 8) (pe_callB (cr_sum rfl) (by rfl) T.b_sum (by decide +kernel) (pa_cons (pe_lc (own := [("one", 9)]) (by rfl) nd (pi_list (pv 7)) (blkOk_by (N := ["told", "child", "ticks", "spot", "ahead", "behind", "stopped", "front", "stops", "one", "mend"]) (sc := defScope s_L_cycle) (by decide +kernel)) (fun _ _ _ _ _ => (pg_name (i := 9) nd rfl (Or.inl rfl))) (fun _ _ _ _ _ => pts_nil) (fun _ _ _ _ _ => (pe_call G_L_opening (hr.mono (by decide)) (by rfl) T.g__law_opening T.F_L_opening.kp T.bi_L_opening .nil pass0 (pa_cons (pv 9) pa_nil)))) pa_nil))) (pv 2)) pa_nil))))))))))), ?_⟩
    refine st_nxx (ev_index rfl rfl hn hok.2.2 hsib htup hw ht) ?_
    obtain ⟨p, rfl, hp, hc, fa⟩ := id htup
    have yl : ys.length = ts.length := sup_len fa
    have tl4 : ts.length ≤ 4 := hok.2.1
    have ht : ts[i]? = some t := ht
    have hi := (List.getElem?_eq_some_iff.mp ht).1
    have okt : Told.Ok n t := hok.2.2 t (List.mem_of_getElem? ht)
    obtain ⟨t', ht', pw⟩ := sup_get fa hw
    rw [ht] at ht'
    cases ht'
    dsimp only
    show tSeq _ _ _ _ _
    -- ahead, behind
    refine g_par (g_listSl rfl hp rfl hc (lo := none) (hi := some ((i : Nat) : Int)) (zs := ys.take i) (fun H1 Q q => q) (fun H1 Q q => ⟨_, rfl, _, rfl, q⟩) (cut_to (by omega))) (g_listSl rfl hp rfl hc (lo := some ((i + 1 : Nat) : Int)) (hi := none) (zs := ys.drop (i + 1)) (fun H1 Q q => ⟨_, rfl, _, _, rfl, rfl, _, rfl, q⟩) (fun H1 Q q => q) (cut_from (by omega))) fun v4 v5 H1 s1 p4 p5 => ?_
    obtain ⟨l4, rfl, hl4⟩ := p4
    obtain ⟨l5, rfl, hl5⟩ := p5
    dsimp only
    show tSeq _ _ _ _ _
    -- stopped
    refine st_dispS (way := d.way) rfl rfl rfl (s1 _ _ hp) rfl hok.1.2.2.1 hl4 hl5 (by rw [List.length_take, List.length_drop]; omega) fun l6 H2 s2 hl6 => ?_
    have s12 := s1.trans s2
    have hl6 : H2 l6 = some (.lst (stopL d.way ys i)) := hl6
    have fa2 := mn_fa mk_tats _ _ _ s12 fa
    dsimp only
    show tSeq _ _ _ _ _
    -- front
    refine g_asg (P := LX (frontL d.way ys i)) ?_ fun v7 H3 s3 p7 => ?_
    · have test : ∀ {σ : L2.St} {H3 : Hp}, σ[0]? = some (some (.ref p)) → Same H2 H3 → EvB (tTest (tOp rEq (tOp (rIxT K) (tVar 0) (tC (.int 3))) (tC (.str "all")))) σ H3 (decide (d.way = "all")) := fun {σ H3} h0 s3 => evb_eqS (ev_ixT h0 ((s12.trans s3) _ _ hp) rfl) ev_c rfl
      refine ⟨fun H3 e Q q => test rfl e _ ?_, mn_lx⟩
      unfold frontL at q
      by_cases hwy : d.way = "all"
      · rw [if_pos hwy] at q
        rw [if_pos (decide_eq_true hwy)]
        exact ⟨_, rfl, q _ _ (Same.refl _) ⟨l4, rfl, e _ _ (s2 _ _ hl4)⟩⟩
      · rw [if_neg hwy] at q
        rw [if_neg (by rw [decide_eq_false hwy]; exact Bool.false_ne_true)]
        exact ⟨Nat.zero_le _, fun l hl => q _ _ (same_new hl) ⟨l, rfl, upd_same⟩⟩
    obtain ⟨l7, rfl, hl7⟩ := p7
    have s13 := s12.trans s3
    have sl8 := stop_len (way := d.way) (l := ys) (i := i)
    have fl8 := front_len (way := d.way) (l := ys) (i := i)
    have stopC : ∀ {σ : L2.St} {H4 : Hp} {x : V} {u : Told n} {E : XK} {Q : VK}, σ[9]? = some (some x) → u ∈ ts → TAt n u x H4 → (∀ H5, Same H4 H5 → Q (.int (Told.stopping n u)) H5) → tCall (fun vs H Q E => ∃ n, n ≤ 6 ∧ spStop n vs H Q E) [] E (tCons (tVar 9) tNil) σ H4 Q := fun {σ H4 x u E Q} h9 hu px q => ⟨_, h9, n, by omega, x, u, rfl, hok.2.2 u hu, px, q⟩
    have openC : ∀ {σ : L2.St} {H4 : Hp} {x : V} {u : Told n} {E : XK} {Q : VK}, σ[9]? = some (some x) → u ∈ ts → TAt n u x H4 → (∀ H5, Same H4 H5 → Q (.int (Told.opening n u)) H5) → tCall (fun vs H Q E => ∃ n, n ≤ 6 ∧ spOpen n vs H Q E) [] E (tCons (tVar 9) tNil) σ H4 Q := fun {σ H4 x u E Q} h9 hu px q => ⟨_, h9, n, by omega, x, u, rfl, hok.2.2 u hu, px, q⟩
    dsimp only
    show tSeq _ _ _ _ _
    -- stops
    refine g_asg (g_sumOf (us := stopL d.way ts i) (f := Told.stopping n) rfl (s3 _ _ hl6) (fa_stop d.way i (mn_fa mk_tats _ _ _ s13 fa)) (by omega) fun x u H4 hu px s4 Q q => stopC rfl (stop_in hu) px q) fun v8 H4 s4 p8 => ?_
    cases p8
    have s14 := s13.trans s4
    dsimp only
    show tSeq _ _ _ _ _
    -- mend
    refine g_asg (P := Is (.int (stS (stopped d ts i) + opS (stopped d ts i) + Told.opening n t))) (g_i0 (i := stS (stopped d ts i) + opS (stopped d ts i)) (j := Told.opening n t) (g_i0 (i := stS (stopped d ts i)) (j := opS (stopped d ts i)) (g_var rfl) (g_sumOf (us := stopL d.way ts i) (f := Told.opening n) rfl (s4 _ _ (s3 _ _ hl6)) (fa_stop d.way i (mn_fa mk_tats _ _ _ s14 fa)) (by omega) fun x u H5 hu px s5 Q q => openC rfl (stop_in hu) px q))
      ⟨fun H5 e Q q => ⟨_, rfl, n, by omega, w, t, rfl, okt, (mk_tat n t).mn _ _ _ (s14.trans e) pw, fun H6 s6 => q _ _ s6 rfl⟩, mn_i⟩) fun v10 H5 s5 p10 => ?_
    cases p10
    have s15 := s14.trans s5
    dsimp only
    show tRet _ _ _ _
    refine ⟨_, rfl, _, rfl, ?_⟩
    refine (g_sumOf (us := frontL d.way ts i) (f := Told.opening n) rfl (s5 _ _ (s4 _ _ hl7)) (fa_front d.way i (mn_fa mk_tats _ _ _ s15 fa)) (by omega) fun x u H6 hu px s6 Q q => openC rfl (front_in hu) px q).ev _ (Same.refl _) _ fun vf H6 s6 pf => ?_
    cases pf
    refine ⟨_, _, rfl, rfl, _, rfl, _, _, rfl, rfl, _, _, rfl, ?_⟩
    have := k H6 (s15.trans s6)
    have e : stS (stopped d ts i) + ((frontL d.way ts i).map (Told.opening n)).sum + (Told.opening n t + a0) = stS (stopped d ts i) + opS (front d ts i) + Told.opening n t + a0 := by
      show stS (stopped d ts i) + opS (front d ts i) + (Told.opening n t + a0) = _
      omega
    have e2 : ((stopL d.way ts i).map (Told.stopping n)).sum = stS (stopped d ts i) := rfl
    rw [e2, e]
    exact this
end
end W48

set_option Elab.async false
set_option linter.all false
set_option maxRecDepth 100000
set_option maxHeartbeats 4000000
namespace W48
open PySem PySem.Spec PyProof.Rows L2 WXG WEv WRd WLf WEn WZs WRu WSt StX WDc
theorem inj_nm {n : Nat} {ts : List (Told n)} (h : Sib ts) {t u : Told n} (ht : t ∈ ts) (hu : u ∈ ts) (e : Told.nm n u = Told.nm n t) : u = t := by
  obtain ⟨i, hi⟩ := List.getElem?_of_mem ht
  obtain ⟨j, hj⟩ := List.getElem?_of_mem hu
  by_cases ne : j = i
  · subst ne
    rw [hi] at hj
    exact (Option.some.inj hj).symm
  · exact absurd e (sib_ne h hi hj ne)
theorem eqv_nmD {n : Nat} {ts : List (Told n)} (ok : ∀ t ∈ ts, Told.Ok n t) (h : Sib ts) {t u : Told n} (ht : t ∈ ts) (hu : u ∈ ts) : PyData.eqv (Told.data n u) (Told.data n t) = decide (Told.nm n u = Told.nm n t) := by
  by_cases e : Told.nm n u = Told.nm n t
  · rw [inj_nm h ht hu e, data_same _ (ok t ht), decide_eq_true rfl]
  · rw [data_ne e, decide_eq_false e]
theorem filter_sib {n : Nat} : ∀ {ts : List (Told n)} {i : Nat} {t : Told n}, Sib ts → ts[i]? = some t → ts.filter (fun u => !decide (Told.nm n u = Told.nm n t)) = ts.take i ++ ts.drop (i + 1)
  | [], i, t, _, h => nomatch h
  | u :: ts, 0, t, hs, h => by
    cases h
    obtain ⟨h1, h2⟩ := List.nodup_cons.mp hs
    rw [List.filter_cons, if_neg (by simp)]
    exact List.filter_eq_self.mpr fun x hx => by
      have : Told.nm n x ≠ Told.nm n u := fun e => h1 (e ▸ List.mem_map.mpr ⟨x, hx, rfl⟩)
      rw [decide_eq_false this]
      rfl
  | u :: ts, i + 1, t, hs, h => by
    obtain ⟨h1, h2⟩ := List.nodup_cons.mp hs
    have h : ts[i]? = some t := h
    have ne : Told.nm n u ≠ Told.nm n t := fun e => h1 (e ▸ List.mem_map.mpr ⟨t, List.mem_of_getElem? h, rfl⟩)
    rw [List.filter_cons, if_pos (by rw [decide_eq_false ne]; rfl), filter_sib h2 h]
    rfl
section
variable {K : PySem.W.Frag} {σ : L2.St} {H : Hp} {D : Ends}
/-- sum([f(one) for one in told[7][:hi]]) -/
theorem g_sumSl {te : TE} {k v n hi : Nat} {p c : Addr} {vals ys : List V} {ts : List (Told n)} {f : Told n → Int} {th : TO} (hk : σ[k]? = some (some (.ref p))) (hp : H p = some (.tup vals)) (e7 : atI vals 7 = some (.ref c)) (hc : WSl.TQ H c ys) (fa : Fa (ts.map (TAt n)) ys H) (hz : ys.length ≤ 1000)
    (hh : ∀ (H1 : Hp) (Q : Option Int → Hp → Prop), Q (some ((hi : Nat) : Int)) H1 → th σ H1 Q) (hle : hi ≤ ys.length)
    (h : ∀ (x : V) (t : Told n) (H1 : Hp), t ∈ ts → TAt n t x H1 → Same H H1 → ∀ Q : VK, (∀ H2, Same H1 H2 → Q (.int (f t)) H2) → te ((σ.set v none).set v (some x)) H1 Q) :
    G (tCB (rSum K) (tCons (tLc (iTup K (tSl (rSlA K) (tOp (rIxT K) (tVar k) (tC (.int 7))) tNoPart th)) (gName v) tYes te [v]) tNil)) σ H (Is (.int ((ts.take hi).map f).sum)) := by
  have fa1 : Fa ((ts.take hi).map (TAt n)) (ys.take hi) H := by
    rw [List.map_take]
    exact fa_takeN fa
  refine g_sum (g_lcG (ys := ys.take hi) (fun H2 s2 R r => ?_) (by simp [sup_len fa]) (by rw [List.length_take]; omega) mk_iss fun j x P H2 hx hP s2 Q q' => ?_)
  · refine ⟨_, hk, p, vals, 7, _, rfl, rfl, .of (s2 _ _ hp), e7, hh _ _ ⟨c, ys, rfl, (hc.mn s2).sq, fun hw => ?_, fun hw q hq => ?_⟩⟩
    · have : ys.take hi = ys := by
        have := cut_whole hw
        rwa [cut_to hle] at this
      refine ⟨c, rfl, ⟨ys, (hc.mn s2).sq⟩, r (Itt K c) (fun H' => SqT K H' c (ys.take hi)) H2 (Same.refl _) walk_tup fun H3 s3 => ?_⟩
      rw [this]
      exact (hc.mn (s2.trans s3)).sq
    · refine ⟨q, rfl, ⟨_, .of upd_same⟩, r (Itt K q) (fun H' => SqT K H' q (ys.take hi)) _ (same_new hq) walk_tup fun H3 s3 => ?_⟩
      have := s3 _ _ upd_same
      rw [cut_to hle] at this
      exact .of this
  · obtain ⟨t2, ht2, px⟩ := sup_get fa1 hx
    rw [ints_get hP ht2] at q'
    exact h x t2 H2 (List.mem_of_mem_take (List.mem_of_getElem? ht2)) ((mk_tat n t2).mn _ _ _ s2 px) s2 Q fun H3 s3 => q' _ _ s3 rfl
end
def spLRows (K : PySem.W.Frag) : Sp := fun vs H Q _ => ∃ (n : Nat) (v : V) (t : Told n) (z : Str) (sp : List Nat), vs = [v, .str z] ∧ n ≤ 6 ∧ Told.Ok n t ∧ ((Told.rows n t).map (·.2)).Nodup ∧ TAt n t v H ∧ Told.spot z n t = some sp ∧
  ∀ p l xs H', Same H H' → H' p = some (.tup [.ref l, endV (Told.opening n t) (headS n t sp).1]) → H' l = some (.lst xs) → Fa ((headS n t sp).2.map RowT) xs H' → Q (.ref p) H'
def spLProd (K : PySem.W.Frag) : Sp := fun vs H Q _ => ∃ (n : Nat) (v : V) (t : Told n) (z : Str) (sp : List Nat), vs = [v, .str z] ∧ n ≤ 6 ∧ Told.Ok n t ∧ TAt n t v H ∧ Told.spot z n t = some sp ∧ ∀ H', Same H H' → Q (.int (prodI (facs n t sp))) H'
section
variable {P : Program} {w : World} {K : PySem.W.Frag} {mg : Str → Option Value} {base : Heap}
theorem ok_llasting (T : Env K mg) : FnOk P w K mg base CX0 9 (d_L_lasting.loc K) T.fd_L_lasting ["told", "child", "ticks"] (spLLast K) := by
  have G_L_opening : FnOk P w K mg base CX0 7 _ _ _ _ := fn_any 6 (ok_opening T) (M := 7) fun n h => by omega
  have G_L_stopping : FnOk P w K mg base CX0 7 _ _ _ _ := fn_any 6 (ok_stopping T) (M := 7) fun n h => by omega
  have G_L_cycle : FnOk P w K mg base CX0 8 _ _ _ _ := ok_lcycle T
  refine T.F_L_lasting.ok sc_L_lasting (fun vs H Q E h => ?_) (fun cdv A outer s H vs Q E hr h => ?_)
  · obtain ⟨n, v, w, x, c, ys, i, t, a, rfl, _⟩ := h
    rfl
  · have nd := sc_L_lasting.nd
    have hu := hu_of hr
    obtain ⟨n, v, w, ⟨d, ts⟩, c, ys, i, t, a0, rfl, hn, hok, hsib, htup, hw, ht, k⟩ := h
    refine ⟨_, PSs.nox (pss_cons (ps_par (i := 3) (j := 4) (by rfl) nd rfl rfl (by decide) rfl rfl (pa_cons (pe_call G_L_cycle (hr.mono (by decide)) (by rfl) T.g__law_cycle T.F_L_cycle.kp T.bi_L_cycle .nil pass0 (pa_cons (pv 0) (pa_cons (pv 1) (pa_cons (pv 2) pa_nil)))) (pa_cons (WSl.pe_bmF PySem.F.plainAttrs_tuple PySem.F.slot_tuple_index PySem.F.type_tuple_index (WSl.mt_tupIndexD (hu66 hr)) (pe_ix (ixtK (K := K)) (pv 0) pe_int (fun _ _ => rfl)) (pa_cons (pv 1) pa_nil)) pa_nil)) (by rfl))
 (pss_cons (ps_if (pt_cmpR op_ge (pe_op op_mul (pe_ix (ixtK (K := K)) (pv 0) pe_int (fun _ _ => rfl)) (pv 3)) (pe_ix (ixtK (K := K)) (pv 0) pe_int (fun _ _ => rfl)) (nomark _))
  (pss_one (ps_ret pe_non))
  pss_nil)
 (pss_cons (ps_set (i := 5) nd rfl (Or.inl rfl) (pe_callB (call_max2 rfl) (by rfl) T.b_max (by decide +kernel) (pa_cons (pe_call G_L_opening (hr.mono (by decide)) (by rfl) T.g__law_opening T.F_L_opening.kp T.bi_L_opening .nil pass0 (pa_cons (pv 0) pa_nil)) (pa_cons (pe_op op_add (pe_callB (cr_sum rfl) (by rfl) T.b_sum (by decide +kernel) (pa_cons (pe_lc (own := [("one", 6)]) (by rfl) nd (pi_tup (pe_slice sl_tupA (pe_ix (ixtK (K := K)) (pv 0) pe_int (fun _ _ => rfl)) po_none (po_some (pv 4)))) (blkOk_by (N := ["told", "child", "ticks", "cycle", "spot", "first", "one"]) (sc := defScope s_L_lasting) (by decide +kernel)) (fun _ _ _ _ _ => (pg_name (i := 6) nd rfl (Or.inl rfl))) (fun _ _ _ _ _ => pts_nil) (fun _ _ _ _ _ => (pe_call G_L_opening (hr.mono (by decide)) (by rfl) T.g__law_opening T.F_L_opening.kp T.bi_L_opening .nil pass0 (pa_cons (pv 6) pa_nil)))) pa_nil)) (pv 2)) pa_nil))))
 (pss_one (ps_ret (pe_op op_add (pe_op op_add (pv 5) (pe_op op_mul (pe_ix (ixtK (K := K)) (pv 0) pe_int (fun _ _ => rfl)) (pv 3))) (pe_callB (cr_sum rfl) (by rfl) T.b_sum (by decide +kernel) (pa_cons (pe_lc (own := [("one", 6)]) (by rfl) nd (pi_tup (pe_ix (ixtK (K := K)) (pv 0) pe_int (fun _ _ => rfl))) (blkOk_by (N := ["told", "child", "ticks", "cycle", "spot", "first", "one"]) (sc := defScope s_L_lasting) (by decide +kernel)) (fun _ _ _ _ _ => (pg_name (i := 6) nd rfl (Or.inl rfl))) (fun _ _ _ _ _ => (pts_one (pt_cmpR (op_neDK (K := K) hr.units) (pv 6) (pv 1) (nomark _)))) (fun _ _ _ _ _ => (pe_call G_L_stopping (hr.mono (by decide)) (by rfl) T.g__law_stopping T.F_L_stopping.kp T.bi_L_stopping .nil pass0 (pa_cons (pv 6) pa_nil)))) pa_nil)))))))), ?_⟩
    refine g_par (⟨fun H1 e Q q => ⟨_, rfl, _, rfl, _, rfl, n, v, w, (d, ts), c, ys, i, t, a0, rfl, hn, hok, hsib, tupAt_mn e _ _ _ _ _ htup, hw, ht, fun H2 s2 => q (.int (cyc d ts i (Told.opening n t) a0)) _ s2 rfl⟩, mn_i⟩ : G _ _ _ (Is (.int (cyc d ts i (Told.opening n t) a0)))) (ev_g fun H1 s1 => ev_index rfl rfl hn hok.2.2 hsib (tupAt_mn s1 _ _ _ _ _ htup) hw ht) fun v3 v4 H1 s1 p3 p4 => ?_
    cases p3
    cases p4
    obtain ⟨p, rfl, hp, hc, fa⟩ := tupAt_mn s1 _ _ _ _ _ htup
    have hp : H1 p = some (.tup (d.vals c)) := hp
    have fa : Fa (ts.map (TAt n)) ys H1 := fa
    have yl : ys.length = ts.length := sup_len fa
    have tl4 : ts.length ≤ 4 := hok.2.1
    have ht : ts[i]? = some t := ht
    have tm := List.mem_of_getElem? ht
    have hi := (List.getElem?_eq_some_iff.mp ht).1
    have okt : Told.Ok n t := hok.2.2 t tm
    obtain ⟨t', ht', pw⟩ := sup_get fa hw
    rw [ht] at ht'
    cases ht'
    have mo0 : 0 ≤ d.most := hok.1.2.2.2.1
    have mo1 : d.most ≤ 20 := hok.1.2.2.2.2.1
    generalize hcy : cyc d ts i (Told.opening n t) a0 = cy at *
    have eA : attA d ts i (Told.opening n t) a0 = if d.most * cy ≥ d.span then none else some (maxI 0 (opS (ts.take i) + Told.opening n t + a0 - opS ts) + d.most * cy + stS (ts.take i ++ ts.drop (i + 1))) := by
      unfold attA
      rw [hcy]
    dsimp only
    show tSeq _ _ _ _ _
    refine st_if (b := decide (d.most * cy ≥ d.span)) (fun Q q' => ⟨_, rfl, p, _, 4, _, rfl, rfl, .of hp, rfl, _, rfl, _, _, rfl, rfl, .inl ⟨by omega, by omega⟩, _, rfl, p, _, 5, _, rfl, rfl, .of hp, rfl, _, _, rfl, rfl, _, rfl, q'⟩) ?_
    by_cases hge : d.most * cy ≥ d.span
    · rw [if_pos (decide_eq_true hge)]
      rw [if_pos hge] at eA
      have := k _ s1
      rw [eA] at this
      exact this
    · rw [if_neg (by rw [decide_eq_false hge]; exact Bool.false_ne_true)]
      rw [if_neg hge] at eA
      refine st_next ?_
      dsimp only
      show tSeq _ _ _ _ _
      have openC : ∀ {σ : L2.St} {H4 : Hp} {x : V} {u : Told n} {E : XK} {Q : VK}, σ[6]? = some (some x) → u ∈ ts → TAt n u x H4 → (∀ H5, Same H4 H5 → Q (.int (Told.opening n u)) H5) → tCall (fun vs H Q E => ∃ n, n ≤ 6 ∧ spOpen n vs H Q E) [] E (tCons (tVar 6) tNil) σ H4 Q := fun {σ H4 x u E Q} h9 hu px q => ⟨_, h9, n, by omega, x, u, rfl, hok.2.2 u hu, px, q⟩
      -- first
      refine g_asg (P := Is (.int (maxI (opS ts) (opS (ts.take i) + (Told.opening n t + a0))))) ⟨fun H2 e Q q => ⟨_, rfl, n + 1, by omega, .ref p, Sum.inr (d, ts), rfl, hok, ⟨p, c, ys, rfl, e _ _ hp, hc.mn e, mn_fa mk_tats _ _ _ e fa⟩, fun H3 s3 => ?_⟩, mn_i⟩ fun v5 H2 s2 p5 => ?_
      · have s13 := e.trans s3
        refine (g_sumSl (hi := i) (f := Told.opening n) (ts := ts) rfl (s13 _ _ hp) rfl (hc.mn s13) (mn_fa mk_tats _ _ _ s13 fa) (by omega) (fun H1 Q q => ⟨_, rfl, _, rfl, q⟩) (by omega) fun x u H4 hu px s4 Q q => openC rfl hu px q).ev _ (Same.refl _) _ fun vf H4 s4 pf => ?_
        cases pf
        exact ⟨_, rfl, _, _, rfl, rfl, _, _, rfl, q _ _ (s3.trans s4) rfl⟩
      cases p5
      dsimp only
      show tRet _ _ _ _
      refine ⟨_, rfl, _, rfl, p, _, 4, _, rfl, rfl, .of (s2 _ _ hp), rfl, _, rfl, _, _, rfl, rfl, .inl ⟨by omega, by omega⟩, _, _, rfl, rfl, ?_⟩
      have fa2 := mn_fa mk_tats _ _ _ s2 fa
      have eF : (((ts.filter fun u => !decide (Told.nm n u = Told.nm n t)).map fun u => V.int (Told.stopping n u))) = ((ts.take i ++ ts.drop (i + 1)).map (Told.stopping n)).map V.int := by rw [filter_sib hsib ht, List.map_map]; rfl
      refine (g_sum (ns := (ts.take i ++ ts.drop (i + 1)).map (Told.stopping n)) ?_).ev _ (Same.refl _) _ fun vf H4 s4 pf => ?_
      · rw [← eF]
        refine g_lcGf (Pa := TAt n) (rs := ts) (p := fun u => !decide (Told.nm n u = Told.nm n t)) (f := fun u => V.int (Told.stopping n u)) (fun H3 s3 R r => ?_) (mn_fa mk_tats) (by omega) (fun u x H3 hu px s3 => ?_) (fun u x H3 hu hpu px s3 Q q => ?_)
        · exact ⟨_, rfl, p, _, 7, .ref c, rfl, rfl, .of (s3 _ _ (s2 _ _ hp)), rfl, c, rfl, ⟨ys, (hc.mn (s2.trans s3)).sq⟩, r (Itt K c) _ ys H3 (Same.refl _) walk_tup (fun H4 s4 => (hc.mn ((s2.trans s3).trans s4)).sq) (mn_fa mk_tats _ _ _ s3 fa2)⟩
        · intro Q q
          refine ⟨_, rfl, _, rfl, _, _, dp_tat n u px, dp_tat n t ((mk_tat n t).mn _ _ _ (s2.trans s3) pw), data_shaped u (hok.2.2 u hu) (by omega), data_shaped t okt (by omega), _, rfl, ?_⟩
          rw [eqv_nmD hok.2.2 hsib tm hu]
          exact q
        · exact ⟨_, rfl, n, by omega, x, u, rfl, hok.2.2 u hu, px, q⟩
      · cases pf
        refine ⟨_, _, rfl, rfl, ?_⟩
        have := k _ ((s1.trans s2).trans s4)
        rw [eA] at this
        have e2 : Told.opening (n + 1) (Sum.inr (d, ts)) = opS ts := rfl
        rw [e2] at this
        have e3 : ((ts.take i ++ ts.drop (i + 1)).map (Told.stopping n)).sum = stS (ts.take i ++ ts.drop (i + 1)) := rfl
        rw [e3]
        have e4 : maxI (opS ts) (opS (ts.take i) + (Told.opening n t + a0)) + d.most * cy + stS (ts.take i ++ ts.drop (i + 1)) = opS ts + (maxI 0 (opS (ts.take i) + Told.opening n t + a0 - opS ts) + d.most * cy + stS (ts.take i ++ ts.drop (i + 1))) := by
          unfold maxI
          generalize d.most * cy = mc
          split <;> split <;> omega
        show Q (.int (maxI (opS ts) (opS (ts.take i) + (Told.opening n t + a0)) + d.most * cy + stS (ts.take i ++ ts.drop (i + 1)))) H4
        rw [e4]
        exact this
end
end W48

set_option Elab.async false
set_option linter.all false
set_option maxRecDepth 100000
set_option maxHeartbeats 4000000
namespace W48
open PySem PySem.Spec PyProof.Rows L2 WXG WEv WRd WLf WEn WZs WRu WSt StX WDc
theorem cut_last {xs : List V} : cutV xs none (some (-1)) = xs.take (xs.length - 1) := by
  unfold cutV
  rw [HT.sIx_none]
  have : HT.sIx xs.length xs.length (some (-1)) = xs.length - 1 := by
    show (if (-1 : Int) < 0 then ((-1 : Int) + (xs.length : Int)).toNat else min (-1 : Int).toNat xs.length) = _
    rw [if_pos (by decide)]
    omega
  rw [this, List.drop_zero, Nat.sub_zero]
theorem rev_get {xs : List V} {i m : Nat} (h : xs.length = m + 1) (hi : i ≤ m) : xs.reverse[i]? = xs[m - i]? := by
  rw [List.getElem?_reverse (by omega), h, Nat.add_sub_cancel]
theorem rev_get1 {xs : List V} {i m : Nat} (h : xs.length = m + 1) (hi : i < m) : (xs.take (xs.length - 1)).reverse[i]? = xs[m - 1 - i]? := by
  have hl : (xs.take (xs.length - 1)).length = m := by rw [List.length_take, h]; omega
  rw [List.getElem?_reverse (by omega), hl, List.getElem?_take, if_pos (by omega)]
def LRInv (K : PySem.W.Frag) {n : Nat} (t : Told n) (sp : List Nat) (v : V) (ws : List V) (z : Str) (lw lf la lb : Addr) (H : Hp) (i : Nat) (σ : L2.St) (H' : Hp) : Prop := ∃ s o a5 a6 a7 xs, (attS n t sp)[sp.length - i]? = some s ∧ (opens n t sp)[sp.length - i]? = some o ∧ σ = [some v, some (.str z), some (.ref lw), some (.ref lf), some (endV o s.1), a5, a6, a7] ∧ Same H H' ∧ H' lf = some (.lst xs) ∧ Fa (s.2.map RowT) xs H' ∧ H' la = some (.lst ((v :: ws).take ((v :: ws).length - 1)).reverse) ∧ H' lb = some (.lst (v :: ws).reverse) ∧ ChainT K n t sp (v :: ws) H' ∧ xs.length ≤ i
section
variable {P : Program} {w : World} {K : PySem.W.Frag} {mg : Str → Option Value} {base : Heap}
theorem ok_lrows (T : Env K mg) : FnOk P w K mg base CX0 10 (d_L_rows.loc K) T.fd_L_rows ["told", "name"] (spLRows K) := by
  have G_L_opening : FnOk P w K mg base CX0 7 _ _ _ _ := fn_any 6 (ok_opening T) (M := 7) fun n h => by omega
  have G_L_way : FnOk P w K mg base CX0 7 _ _ _ _ := fn_any 6 (ok_lway T) (M := 7) fun n h => by omega
  have G_L_cycle : FnOk P w K mg base CX0 8 _ _ _ _ := ok_lcycle T
  have G_L_lasting : FnOk P w K mg base CX0 9 _ _ _ _ := ok_llasting T
  refine T.F_L_rows.ok sc_L_rows (fun vs H Q E h => ?_) (fun cdv A outer s H vs Q E hr h => ?_)
  · obtain ⟨n, v, t, z, sp, rfl, _⟩ := h
    rfl
  · have nd := sc_L_rows.nd
    have hu := hu_of hr
    obtain ⟨n, v, t, z, sp, rfl, hn, hok, hnd, ht, hsp, k⟩ := h
    have hsl := spot_len n t hsp
    refine ⟨_, PSs.nox (pss_cons (ps_set (i := 2) nd rfl (Or.inl rfl) (pe_call G_L_way (hr.mono (by decide)) (by rfl) T.g__law_way T.F_L_way.kp T.bi_L_way .nil pass0 (pa_cons (pv 0) (pa_cons (pv 1) pa_nil))))
 (pss_cons (ps_par (i := 3) (j := 4) (by rfl) nd rfl rfl (by decide) rfl rfl (pa_cons (pe_lst pa_nil) (pa_cons (pe_ix (ixtK (K := K)) (pe_ix (ixlK (K := K)) (pv 2) (pe_un un_neg pe_int) (fun _ _ => rfl)) pe_int (fun _ _ => rfl)) pa_nil)) (by rfl))
 (pss_cons (ps_for PassesOwn.never rfl (pi_zip (by rfl) T.b_zip (pa_cons (WSl.pe_sliceR (pv 2) (po_some (pe_un un_neg pe_int)) (po_some (pe_un un_neg pe_int))) (pa_cons (WSl.pe_sliceR (pv 2) po_none (po_some (pe_un un_neg pe_int))) pa_nil))) (pg_tup rfl (pgs_cons (pg_name (i := 5) nd rfl (Or.inl rfl)) (pgs_cons (pg_name (i := 6) nd rfl (Or.inl rfl)) pgs_nil)))
  (pss_cons (ps_set (i := 7) nd rfl (Or.inl rfl) (pe_ifExp (pt_cmpR op_isN (pv 4) pe_non (nomark _)) pe_non (pe_call G_L_cycle (hr.mono (by decide)) (by rfl) T.g__law_cycle T.F_L_cycle.kp T.bi_L_cycle .nil pass0 (pa_cons (pv 5) (pa_cons (pv 6) (pa_cons (pv 4) pa_nil))))))
 (pss_cons (ps_set (i := 4) nd rfl (Or.inl rfl) (pe_ifExp (pt_cmpR op_isN (pv 4) pe_non (nomark _)) pe_non (pe_call G_L_lasting (hr.mono (by decide)) (by rfl) T.g__law_lasting T.F_L_lasting.kp T.bi_L_lasting .nil pass0 (pa_cons (pv 5) (pa_cons (pv 6) (pa_cons (pv 4) pa_nil))))))
 (pss_one (ps_expr (pe_bm PySem.F.plainAttrs_list PySem.F.slot_list_append PySem.F.type_list_append mt_append (pv 3) (pa_cons (pe_tup (pa_cons (pe_ix (ixtK (K := K)) (pv 5) pe_int (fun _ _ => rfl)) (pa_cons (pv 7) (pa_cons (pe_ifExp (pt_cmpR op_isN (pv 4) pe_non (nomark _)) pe_non (pe_op op_sub (pv 4) (pe_call G_L_opening (hr.mono (by decide)) (by rfl) T.g__law_opening T.F_L_opening.kp T.bi_L_opening .nil pass0 (pa_cons (pv 5) pa_nil)))) pa_nil)))) pa_nil)))))))
 (pss_one (ps_ret (pe_tup (pa_cons (pv 3) (pa_cons (pv 4) pa_nil)))))))), ?_⟩
    -- way
    refine ⟨_, rfl, _, rfl, n, hn, v, t, z, rfl, by omega, ht, fun lw xs H1 s1 hlw hw => ?_⟩
    rw [hsp] at hw
    obtain ⟨⟨ws, rfl⟩, hch⟩ := hw
    have hcl := chain_len hch
    obtain ⟨dw, w0, hw0, ⟨p0, rfl, hp0⟩, ho0, hs0⟩ := spot_leaf n t hsp hch
    have last : atI (v :: ws) (-1) = some (.ref p0) := by
      have e : v :: ws = (v :: ws).take sp.length ++ [.ref p0] := by
        have h1 := List.take_append_drop sp.length (v :: ws)
        have h2 : (v :: ws).drop sp.length = [.ref p0] := by
          rw [← List.getElem_cons_drop (h := (List.getElem?_eq_some_iff.mp hw0).1), (List.getElem?_eq_some_iff.mp hw0).2, List.drop_eq_nil_of_le (by omega)]
        rw [h2] at h1
        exact h1.symm
      rw [e]
      exact L2.atI_last _ _
    dsimp only
    show tSeq _ _ _ _ _
    -- found, ticks
    refine ⟨Nat.zero_le _, fun lf hlf => ?_⟩
    have hl0 : H lf = none := Same.free s1 hlf
    have s2 := s1.trans (same_new (o := .lst []) hlf)
    have hlw2 := (same_new (o := .lst []) hlf) _ _ hlw
    have hlf2 : upd H1 lf (.lst []) lf = some (.lst []) := upd_same
    have hch2 := chainT_mn (same_new (o := .lst []) hlf) hch
    have hp2 := (same_new (o := .lst []) hlf) _ _ hp0
    generalize upd H1 lf (.lst []) = H2 at s2 hlw2 hlf2 hch2 hp2
    refine ⟨_, rfl, _, rfl, lw, _, -1, _, rfl, rfl, .of hlw2, last, p0, _, 3, .int dw.b, rfl, rfl, .of hp2, rfl, _, _, rfl, ?_⟩
    dsimp only
    show tSeq _ _ _ _ _
    -- zip
    have r1 : WSl.revV (v :: ws) (some (-2)) = some ((v :: ws).take ((v :: ws).length - 1)).reverse := by
      show (if ((-2 : Int) = -2) then some ((v :: ws).take ((v :: ws).length - 1)).reverse else none) = _
      rw [if_pos rfl]
    refine ⟨_, rfl, _, rfl, _, rfl, _, rfl, _, rfl, rfl, lw, v :: ws, _, rfl, .of hlw2, r1, fun la hla => ?_⟩
    have s3 := s2.trans (same_new (o := .lst ((v :: ws).take ((v :: ws).length - 1)).reverse) hla)
    have hlw3 := (same_new (o := .lst ((v :: ws).take ((v :: ws).length - 1)).reverse) hla) _ _ hlw2
    have hlf3 := (same_new (o := .lst ((v :: ws).take ((v :: ws).length - 1)).reverse) hla) _ _ hlf2
    have hla3 : upd H2 la (.lst ((v :: ws).take ((v :: ws).length - 1)).reverse) la = some (.lst ((v :: ws).take ((v :: ws).length - 1)).reverse) := upd_same
    have hch3 := chainT_mn (same_new (o := .lst ((v :: ws).take ((v :: ws).length - 1)).reverse) hla) hch2
    have naf : la ≠ lf := fun e => by rw [e, hlf2] at hla; cases hla
    generalize upd H2 la (.lst ((v :: ws).take ((v :: ws).length - 1)).reverse) = H3 at s3 hlw3 hlf3 hla3 hch3
    refine ⟨_, rfl, _, rfl, _, rfl, rfl, lw, v :: ws, (v :: ws).reverse, rfl, .of hlw3, rfl, fun lb hlb => ?_⟩
    have s4 := s3.trans (same_new (o := .lst (v :: ws).reverse) hlb)
    have hlf4 := (same_new (o := .lst (v :: ws).reverse) hlb) _ _ hlf3
    have hla4 := (same_new (o := .lst (v :: ws).reverse) hlb) _ _ hla3
    have hlb4 : upd H3 lb (.lst (v :: ws).reverse) lb = some (.lst (v :: ws).reverse) := upd_same
    have hch4 := chainT_mn (same_new (o := .lst (v :: ws).reverse) hlb) hch3
    have nbf : lb ≠ lf := fun e => by rw [e, hlf3] at hlb; cases hlb
    generalize upd H3 lb (.lst (v :: ws).reverse) = H4 at s4 hlf4 hla4 hlb4 hch4
    refine ⟨la, lb, _, _, rfl, .of hla4, .of hlb4, ?_⟩
    have xl : ((v :: ws).take ((v :: ws).length - 1)).reverse.length = sp.length := by rw [List.length_reverse, List.length_take, hcl]; omega
    refine WSl.for_zipLe (xs := ((v :: ws).take ((v :: ws).length - 1)).reverse) (ys := (v :: ws).reverse) (by rw [xl, List.length_reverse, hcl]; omega) (LRInv K t sp v ws z lw lf la lb H)
      ⟨_, dw.b, none, none, none, [], hs0, ho0, by rw [show endV dw.b (some 0, ([] : List (Str × Option Int × Option Int))).1 = .int dw.b from congrArg V.int (Int.add_zero _)]; rfl, s4, hlf4, trivial, hla4, hlb4, hch4, Nat.le_refl _⟩ (fun i σ H' q => by
        obtain ⟨s, o, a5, a6, a7, xs, _, _, _, _, _, _, qa, qb, _⟩ := q
        exact ⟨.of qa, .of qb⟩) (fun i x y t0 σ H5 hx hy q ht0 => ?_) (fun σ H5 q => ?_)
    · obtain ⟨s, o, a5, a6, a7, xs, hs, ho, rfl, s5, hlf5, fx, hla5, hlb5, hch5, xl5⟩ := q
      have hi : i < sp.length := by
        have := (List.getElem?_eq_some_iff.mp hx).1
        rw [xl] at this
        exact this
      rw [rev_get1 hcl hi] at hx
      rw [rev_get hcl (by omega)] at hy
      refine ⟨t0, _, rfl, .of upd_same, rfl, _, _, rfl, _, _, rfl, rfl, ?_⟩
      have s6 := s5.trans (same_new (o := .tup [x, y]) ht0)
      have hlf6 := (same_new (o := .tup [x, y]) ht0) _ _ hlf5
      have hla6 := (same_new (o := .tup [x, y]) ht0) _ _ hla5
      have hlb6 := (same_new (o := .tup [x, y]) ht0) _ _ hlb5
      have fx6 := (mn_fa mk_rowTs) _ _ _ (same_new (o := .tup [x, y]) ht0) fx
      have hch6 := chainT_mn (same_new (o := .tup [x, y]) ht0) hch5
      generalize upd H5 t0 (.tup [x, y]) = H6 at s6 hlf6 hla6 hlb6 fx6 hch6 ⊢
      obtain ⟨idx, hidx⟩ : ∃ idx, sp[sp.length - 1 - i]? = some idx := ⟨_, List.getElem?_eq_getElem (by omega)⟩
      obtain ⟨kk, x2, t', v', w', c, ys, st, ek, e1, e2, htup, e3, e4, hok2, q7, q8, hsub, _, q11, q12⟩ := chain_atS hok hch6 hidx
      have ej1 : sp.length - 1 - i + 1 = sp.length - i := by omega
      have ej2 : sp.length - (i + 1) = sp.length - 1 - i := by omega
      rw [ej1] at q8 q12 e2
      rw [hs] at q8
      rw [ho] at q12
      rw [hx] at e1
      rw [hy] at e2
      cases q8
      cases q12
      cases e1
      cases e2
      have hsib : Sib x2.2 := sib_sup (hnd.sublist (hsub.map _))
      obtain ⟨pv, rfl, h1, h2, fa⟩ := id htup
      dsimp only
      show tSeq _ _ _ _ _
      cases hs1 : s.1 with
      | none =>
        have eq : stepA x2.1 x2.2 idx (Told.opening kk t') s = (none, s.2 ++ [(x2.1.name, none, none)]) := by
          unfold stepA
          rw [hs1]
        rw [eq] at q7
        refine st_asgIf1 (fun Q q => ⟨_, rfl, rfl, true, rfl, q⟩) (st_nxx ev_c ?_)
        dsimp only
        show tSeq _ _ _ _ _
        refine st_asgIf1 (fun Q q => ⟨_, rfl, rfl, true, rfl, q⟩) (st_nxx ev_c ?_)
        dsimp only
        refine ⟨_, rfl, .inl ⟨rfl, _, .of hlf6⟩, _, rfl, pv, _, 1, _, rfl, rfl, .of h1, rfl, _, rfl, _, rfl, rfl, true, rfl, ?_⟩
        dsimp only
        rw [if_pos rfl]
        refine ⟨(by decide : 3 ≤ sizeLine), fun p hp => ?_⟩
        have hlf7 := (same_new (o := .tup [.str x2.1.name, .non, .non]) hp) _ _ hlf6
        refine ⟨lf, xs, .ref p, rfl, rfl, hlf7, Nat.lt_of_le_of_lt (show xs.length ≤ 6 by omega) (by decide), _, Told.opening (kk + 1) (Sum.inr x2), some (.ref pv), some y, some .non, xs ++ [.ref p], by rw [ej2]; exact q7, by rw [ej2]; exact q11, rfl, same_put (s6.trans (same_new hp)) hl0, upd_same, ?_, ?_, ?_, ?_, by rw [List.length_append]; exact Nat.succ_le_succ xl5⟩
        · rw [List.map_append]
          exact (fa_kp mk_rowTs ((Kp.same (same_new hp)).trans (Kp.lst hlf7)) fx6).app ⟨⟨p, rfl, by rw [upd_ne (fun e => by rw [e, hlf6] at hp; cases hp)]; exact upd_same⟩, trivial⟩
        · rw [upd_ne naf]
          exact (same_new hp) _ _ hla6
        · rw [upd_ne nbf]
          exact (same_new hp) _ _ hlb6
        · exact chainT_kp ((Kp.same (same_new hp)).trans (Kp.lst hlf7)) hch6
      | some a1 =>
        have eq : stepA x2.1 x2.2 idx (Told.opening kk t') s = (attA x2.1 x2.2 idx (Told.opening kk t') a1, s.2 ++ [(x2.1.name, some (cyc x2.1 x2.2 idx (Told.opening kk t') a1), attA x2.1 x2.2 idx (Told.opening kk t') a1)]) := by
          unfold stepA
          rw [hs1]
        rw [eq] at q7
        refine st_asgIf0 (fun Q q => ⟨_, rfl, rfl, false, rfl, q⟩) ?_
        refine ⟨_, rfl, _, rfl, _, rfl, kk, .ref pv, y, x2, c, ys, idx, t', a1, rfl, by omega, hok2, hsib, htup, e3, e4, fun H7 s7 => ?_⟩
        dsimp only
        show tSeq _ _ _ _ _
        refine st_asgIf0 (fun Q q => ⟨_, rfl, rfl, false, rfl, q⟩) ?_
        refine ⟨_, rfl, _, rfl, _, rfl, kk, .ref pv, y, x2, c, ys, idx, t', a1, rfl, by omega, hok2, hsib, tupAt_mn s7 _ _ _ _ _ htup, e3, e4, fun H8 s8 => ?_⟩
        have s78 := s7.trans s8
        dsimp only
        refine ⟨_, rfl, .inl ⟨rfl, _, .of (s78 _ _ hlf6)⟩, _, rfl, pv, _, 1, _, rfl, rfl, .of (s78 _ _ h1), rfl, _, rfl, ?_⟩
        have fin : ∀ (H9 : Hp), Same H8 H9 → ∀ p, H9 p = none →
            rAppend (.ref lf) [.ref p] (upd H9 p (.tup [.str x2.1.name, .int (cyc x2.1 x2.2 idx (Told.opening kk t') a1), optV (attA x2.1 x2.2 idx (Told.opening kk t') a1)])) fun _ H' => LRInv K t sp v ws z lw lf la lb H (i + 1) [some v, some (.str z), some (.ref lw), some (.ref lf), some (endV (Told.opening (kk + 1) (Sum.inr x2)) (attA x2.1 x2.2 idx (Told.opening kk t') a1)), some (.ref pv), some y, some (.int (cyc x2.1 x2.2 idx (Told.opening kk t') a1))] H' := by
          intro H9 s9 p hp
          have s79 := s78.trans s9
          have hlf7 := (same_new (o := .tup [.str x2.1.name, .int (cyc x2.1 x2.2 idx (Told.opening kk t') a1), optV (attA x2.1 x2.2 idx (Told.opening kk t') a1)]) hp) _ _ (s79 _ _ hlf6)
          refine ⟨lf, xs, .ref p, rfl, rfl, hlf7, Nat.lt_of_le_of_lt (show xs.length ≤ 6 by omega) (by decide), _, Told.opening (kk + 1) (Sum.inr x2), some (.ref pv), some y, some _, xs ++ [.ref p], by rw [ej2]; exact q7, by rw [ej2]; exact q11, rfl, same_put ((s6.trans s79).trans (same_new hp)) hl0, upd_same, ?_, ?_, ?_, ?_, by rw [List.length_append]; exact Nat.succ_le_succ xl5⟩
          · rw [List.map_append]
            exact (fa_kp mk_rowTs (((Kp.same s79).trans (Kp.same (same_new hp))).trans (Kp.lst hlf7)) fx6).app ⟨⟨p, rfl, by rw [upd_ne (fun e => by rw [e, s79 _ _ hlf6] at hp; cases hp)]; exact upd_same⟩, trivial⟩
          · rw [upd_ne naf]
            exact (same_new hp) _ _ (s79 _ _ hla6)
          · rw [upd_ne nbf]
            exact (same_new hp) _ _ (s79 _ _ hlb6)
          · exact chainT_kp (((Kp.same s79).trans (Kp.same (same_new hp))).trans (Kp.lst hlf7)) hch6
        cases hA : attA x2.1 x2.2 idx (Told.opening kk t') a1 with
        | none =>
          rw [hA] at fin
          refine ⟨_, rfl, rfl, true, rfl, ?_⟩
          dsimp only
          rw [if_pos rfl]
          exact ⟨(by decide : 3 ≤ sizeLine), fun p hp => fin H8 (Same.refl _) p hp⟩
        | some b =>
          rw [hA] at fin
          refine ⟨_, rfl, rfl, false, rfl, ?_⟩
          dsimp only
          rw [if_neg Bool.false_ne_true]
          refine ⟨_, rfl, _, rfl, kk + 1, by omega, .ref pv, Sum.inr x2, rfl, hok2, tupAt_tat (tupAt_mn s78 _ _ _ _ _ htup), fun H9 s9 => ⟨_, _, rfl, rfl, (by decide : 3 ≤ sizeLine), fun p hp => ?_⟩⟩
          dsimp only
          have eb : Told.opening (kk + 1) (Sum.inr x2) + b - Told.opening (kk + 1) (Sum.inr x2) = b := by omega
          rw [eb]
          exact fin H9 s9 p hp
    · obtain ⟨s, o, a5, a6, a7, xs, hs, ho, rfl, s5, hlf5, fx, _, _, _, _⟩ := q
      rw [xl, Nat.sub_self] at hs ho
      have oh := opens_head hch
      rw [ho] at oh
      cases oh
      have eh : headS n t sp = s := by
        unfold headS
        rw [hs]
        rfl
      rw [eh] at k
      exact ⟨_, rfl, _, rfl, (by decide : 2 ≤ sizeLine), fun p hp => k p lf xs _ (s5.trans (same_new hp)) upd_same ((same_new hp) _ _ hlf5) (mn_fa mk_rowTs _ _ _ (same_new hp) fx)⟩
theorem ok_lproduct (T : Env K mg) : FnOk P w K mg base CX0 8 (d_L_product.loc K) T.fd_L_product ["told", "name"] (spLProd K) := by
  have G_L_way : FnOk P w K mg base CX0 7 _ _ _ _ := fn_any 6 (ok_lway T) (M := 7) fun n h => by omega
  refine T.F_L_product.ok sc_L_product (fun vs H Q E h => ?_) (fun cdv A outer s H vs Q E hr h => ?_)
  · obtain ⟨n, v, t, z, sp, rfl, _⟩ := h
    rfl
  · have nd := sc_L_product.nd
    have hu := hu_of hr
    obtain ⟨n, v, t, z, sp, rfl, hn, hok, ht, hsp, k⟩ := h
    refine ⟨_, PSs.nox (pss_cons (ps_set (i := 2) nd rfl (Or.inl rfl) pe_int)
 (pss_cons (ps_for PassesOwn.never rfl (pi_list (pe_slice sl_list (pe_call G_L_way (hr.mono (by decide)) (by rfl) T.g__law_way T.F_L_way.kp T.bi_L_way .nil pass0 (pa_cons (pv 0) (pa_cons (pv 1) pa_nil))) po_none (po_some (pe_un un_neg pe_int)))) (pg_name (i := 3) nd rfl (Or.inl rfl))
  (pss_one (ps_set (i := 2) nd rfl (Or.inl rfl) (pe_op op_mul (pv 2) (pe_op op_add (pe_ix (ixtK (K := K)) (pv 3) pe_int (fun _ _ => rfl)) pe_int)))))
 (pss_one (ps_ret (pv 2))))), ?_⟩
    dsimp only
    show tSeq _ _ _ _ _
    refine st_nxx ev_c ?_
    dsimp only
    show tSeq _ _ _ _ _
    refine ⟨_, rfl, _, rfl, n, hn, v, t, z, rfl, by omega, ht, fun lw xs H1 s1 hlw hw => ?_⟩
    rw [hsp] at hw
    obtain ⟨⟨ws, rfl⟩, hch⟩ := hw
    have hcl := chain_len hch
    obtain ⟨_, _, _, _, _, _, _, hfl⟩ := chain_end hok hch
    refine ⟨_, rfl, _, rfl, lw, _, rfl, .of hlw, fun l hl => ?_⟩
    rw [cut_last]
    have s2 := s1.trans (same_new (o := .lst ((v :: ws).take ((v :: ws).length - 1))) hl)
    have hl2 : upd H1 l (.lst ((v :: ws).take ((v :: ws).length - 1))) l = some (.lst ((v :: ws).take ((v :: ws).length - 1))) := upd_same
    have hch2 := chainT_mn (same_new (o := .lst ((v :: ws).take ((v :: ws).length - 1))) hl) hch
    generalize upd H1 l (.lst ((v :: ws).take ((v :: ws).length - 1))) = H2 at s2 hl2 hch2 ⊢
    have xl : ((v :: ws).take ((v :: ws).length - 1)).length = sp.length := by rw [List.length_take, hcl]; omega
    refine ⟨l, rfl, ⟨_, .of hl2⟩, ?_⟩
    refine for_it (walk_list (xs := (v :: ws).take ((v :: ws).length - 1))) (fun j σ H' => H' = H2 ∧ ∃ a3, σ = [some v, some (.str z), some (.int (prodI ((facs n t sp).take j))), a3]) ⟨rfl, none, rfl⟩ (fun j σ H' _ q => by rw [q.1]; exact .of hl2) (fun j x σ H3 H4 hj q y => ?_) (fun σ H3 q => ?_)
    · obtain ⟨rfl, a3, rfl⟩ := q
      obtain ⟨rfl, hx⟩ := y
      rw [xl] at hj
      obtain ⟨i, hi⟩ : ∃ i, sp[j]? = some i := ⟨_, List.getElem?_eq_getElem hj⟩
      obtain ⟨kk, x2, t', v', w', c, ys, st, _, e1, e2, htup, e3, e4, hok2, _, _, _, e5⟩ := chain_at hok hch2 (j := j) (i := i) hi
      rw [List.getElem?_take, if_pos (by omega), e1] at hx
      cases hx
      obtain ⟨p, rfl, h1, h2, fa⟩ := htup
      have m0 := hok2.1.2.2.2.1
      have m1 := hok2.1.2.2.2.2.1
      refine ⟨_, rfl, _, rfl, p, _, 4, _, rfl, rfl, .of h1, rfl, _, _, rfl, rfl, _, _, rfl, rfl, .inr ⟨by omega, by omega⟩, rfl, some (.ref p), ?_⟩
      rw [prod_take e5]
      rfl
    · obtain ⟨rfl, a3, rfl⟩ := q
      rw [xl, ← hfl, List.take_length]
      exact st_ret (ev_var rfl) (k _ s2)
end
end W48

set_option Elab.async false
set_option linter.all false
set_option maxRecDepth 100000
set_option maxHeartbeats 4000000
namespace W48
open PySem PySem.Spec PyProof.Rows L2 WXG WEv WRd WLf WEn WZs WRu WSt StX WDc
section
variable {K : PySem.W.Frag} {S : Addr × List Int × Int} {m : Addr} {σ : L2.St} {H : Hp}
/-- [e for v in xs], e draws; what it tells depends on the place -/
theorem lcDi {te : TE} {wi : TI} {v n a c d : Nat} {φ : Nat → V → Prop} {P : Nat → HP V} {Q : VK}
    (hw : ∀ R : It → Hp → Prop, (∀ (J : It) (Gw : Hp → Prop) (Y : Nat → Hp → V → Hp → Prop) (H2 : Hp), Same H H2 → Walk J n Gw Y → (∀ H3, But m H2 H3 → Gw H3) → (∀ i H x H', Y i H x H' → H' = H ∧ φ i x) → R J H2) → wi σ H R)
    (hS : SrcAt K S H m a c) (mP : ∀ i, MnK (P i)) (hn : n ≤ 1000) (hb : a + d * n ≤ 90000)
    (h : ∀ i x a' H1, i < n → φ i x → But m H H1 → SrcAt K S H1 m a' c → a' + d ≤ 90000 → ∀ Q : VK, (∀ y H2, But m H1 H2 → SrcAt K S H2 m (a' + d) c → P i y H2 → Q y H2) → te ((σ.set v none).set v (some x)) H1 Q)
    (k : ∀ l acc H1, H1 l = some (.lst acc) → acc.length = n → (∀ i y, acc[i]? = some y → P i y H1) → But m H H1 → SrcAt K S H1 m (a + d * n) c → Q (.ref l) H1) : tLc wi (gName v) tYes te [v] σ H Q := by
  refine hw _ fun J Gw Y H2 s2 wk hg hφ => ?_
  intro Dd hD
  show ∃ W, _
  have hS2 := hS.same s2
  have far : Far K Dd S := hS2.far hD
  have ne := hS2.ne hD
  refine lc_it wk (fun i H' => But m H2 H' ∧ SrcAt K S H' m (a + d * i) c ∧ ∃ acc, H' Dd = some (.lst acc) ∧ acc.length = i ∧ ∀ j y, acc[j]? = some y → P j y H') ⟨But.refl.new hD, hS2.new hD, [], upd_same, rfl, by simp⟩ (fun _ H' _ p => hg H' p.1) (fun i x H3 H4 hi p y => ?_) (fun H3 p => ?_)
  · obtain ⟨b3, s3, acc, hd, la, pa⟩ := p
    obtain ⟨rfl, hx⟩ := hφ _ _ _ _ y
    refine ⟨(List.set_set ..).trans (List.set_set ..), ?_⟩
    have le : d * (i + 1) ≤ d * n := Nat.mul_le_mul_left d hi
    rw [Nat.mul_add, Nat.mul_one] at le
    refine h i x _ _ hi hx ((But.same s2).trans b3) s3 (by omega) _ fun y H5 b5 s5 py => ?_
    have hd5 := b5 _ _ hd ne
    refine ⟨acc, hd5, Nat.lt_of_le_of_lt (show acc.length ≤ 1000 by omega) (by decide), fun b o e n => ?_, (s5.mono (by rw [Nat.mul_add, Nat.mul_one]; omega)).putl hd5 far, acc ++ [y], upd_same, by rw [List.length_append, la]; rfl, fun j x hx => ?_⟩
    · rw [upd_ne (fun z => by rw [z, hD] at e; cases e)]
      exact b5 _ _ (b3 _ _ e n) n
    · by_cases hj : j < acc.length
      · rw [List.getElem?_append_left hj] at hx
        exact mP _ _ _ _ ((b5.kp s3).trans (Kp.lst hd5)) (pa j x hx)
      · have hj' : j = acc.length := by
          have := (List.getElem?_eq_some_iff.mp hx).1
          rw [List.length_append] at this
          have : j < acc.length + 1 := this
          omega
        subst hj'
        rw [List.getElem?_append_right (Nat.le_refl _), Nat.sub_self] at hx
        cases hx
        rw [la]
        exact mP _ _ _ _ (Kp.lst hd5) py
  · obtain ⟨b3, s3, acc, hd, la, pa⟩ := p
    exact k Dd acc H3 hd la pa ((But.same s2).trans b3) s3
/-- [e for v in a sequence if ..], the test adds objects -/
theorem g_lcGt {te : TE} {tt : TT} {α : Type} {wi : TI} {v : Nat} {Pa : α → HP V} {rs : List α} {p : α → Bool} {f : α → V} (hw : ∀ H1, Same H H1 → ∀ R : It → Hp → Prop, (∀ (J : It) (Gw : Hp → Prop) (ys : List V) (H2 : Hp), Same H1 H2 → Walk J ys.length Gw (YAt ys) → (∀ H3, Same H2 H3 → Gw H3) → Fa (rs.map Pa) ys H2 → R J H2) → wi σ H1 R)
    (mq : Mn (Fa (rs.map Pa))) (hz : rs.length ≤ 1000)
    (ht : ∀ (r : α) (x : V) (H1 : Hp), r ∈ rs → Pa r x H1 → Same H H1 → ∀ Q : Bool → Hp → Prop, (∀ H2, Same H1 H2 → Q (p r) H2) → tt ((σ.set v none).set v (some x)) H1 Q)
    (he : ∀ (r : α) (x : V) (H1 : Hp), r ∈ rs → p r = true → Pa r x H1 → Same H H1 → ∀ Q : VK, (∀ H2, Same H1 H2 → Q (f r) H2) → te ((σ.set v none).set v (some x)) H1 Q)
    (mP : ∀ r, Mn (Pa r)) :
    G (tLc wi (gName v) tt te [v]) σ H (LF (((rs.filter p).map f).map Is)) := by
  refine ⟨fun H1 e Q q => ?_, mn_lf mn_is⟩
  refine hw H1 e _ ?_
  intro J Gw ys H0 s0 wk hg fq
  intro Dd hD
  show ∃ W, _
  have lq := fq.len
  rw [List.length_map] at lq
  refine lc_it wk (fun i H' => Same H0 H' ∧ H' Dd = some (.lst (((rs.take i).filter p).map f))) ⟨same_new hD, upd_same⟩ (fun _ H' _ p => hg H' p.1) (fun i x H2 H3 hi q y => ?_) (fun H2 q' => ?_)
  · obtain ⟨s2, hd⟩ := q
    obtain ⟨rfl, hx⟩ := y
    refine ⟨(List.set_set ..).trans (List.set_set ..), ?_⟩
    obtain ⟨r, hr⟩ : ∃ r, rs[i]? = some r := ⟨_, List.getElem?_eq_getElem (by omega)⟩
    obtain ⟨x', ex', px'⟩ := (mq _ _ _ s2 fq).get (n := i) (P := Pa r) (by rw [List.getElem?_map, hr]; rfl)
    rw [hx] at ex'
    cases ex'
    have rm := List.mem_of_getElem? hr
    have et : (rs.take (i + 1)).filter p = (rs.take i).filter p ++ [r].filter p := by rw [List.take_succ, hr, List.filter_append]; rfl
    refine ht r x _ rm px' ((e.trans s0).trans s2) _ fun H5 s5 => ?_
    cases hp : p r with
    | true =>
      rw [if_pos rfl]
      refine he r x _ rm hp (mP r _ _ _ s5 px') (((e.trans s0).trans s2).trans s5) _ fun H4 s4 => ?_
      refine ⟨_, s4 _ _ (s5 _ _ hd), Nat.lt_of_le_of_lt ?_ (show 1000 < sizeLine by decide), same_put ((s2.trans s5).trans s4) hD, ?_⟩
      · rw [List.length_map]
        refine Nat.le_trans (List.length_filter_le _ _) ?_
        rw [List.length_take]
        exact Nat.le_trans (Nat.min_le_right _ _) hz
      · rw [upd_same, et, List.filter_cons, hp]
        simp
    | false =>
      rw [if_neg Bool.false_ne_true]
      refine ⟨s2.trans s5, ?_⟩
      rw [s5 _ _ hd, et, List.filter_cons, hp]
      simp
  · obtain ⟨s2, hd⟩ := q'
    rw [lq, List.take_length] at hd
    exact q _ _ (s0.trans s2) ⟨Dd, _, rfl, hd, by
      have : ∀ ys : List V, Fa (ys.map Is) ys H2 := fun ys => by
        induction ys with
        | nil => trivial
        | cons y ys ih => exact ⟨rfl, ih⟩
      exact this _⟩
end
/-- the same but for spans -/
def SpanOk (n : Nat) (t t' : Told n) : Prop := Told.rows n t' = Told.rows n t ∧ Told.great n t' = Told.great n t ∧ Told.Ok n t' ∧ ∀ k, MostLe k n t → MostLe k n t'
theorem span_sup {n : Nat} {d d' : SD} {ts us : List (Told n)} (hl : us.length = ts.length) (h : ∀ (j : Nat) (t u : Told n), ts[j]? = some t → us[j]? = some u → SpanOk n t u) (e1 : d'.name = d.name) (e2 : d'.most = d.most) (e3 : d'.lim = d.lim) (hd : d'.Ok) (l4 : ts.length ≤ 4) :
    SpanOk (n + 1) (Sum.inr (d, ts)) (Sum.inr (d', us)) := by
  have er : us.map (Told.rows n) = ts.map (Told.rows n) := List.ext_getElem? fun j => by
    rw [List.getElem?_map, List.getElem?_map]
    by_cases hj : j < ts.length
    · have h1 := List.getElem?_eq_getElem hj
      have h2 := List.getElem?_eq_getElem (l := us) (i := j) (by omega)
      rw [h1, h2]
      exact congrArg some (h j _ _ h1 h2).1
    · rw [List.getElem?_eq_none (by omega), List.getElem?_eq_none (by omega)]
  have eg : us.map (Told.great n) = ts.map (Told.great n) := List.ext_getElem? fun j => by
    rw [List.getElem?_map, List.getElem?_map]
    by_cases hj : j < ts.length
    · have h1 := List.getElem?_eq_getElem hj
      have h2 := List.getElem?_eq_getElem (l := us) (i := j) (by omega)
      rw [h1, h2]
      exact congrArg some (h j _ _ h1 h2).2.1
    · rw [List.getElem?_eq_none (by omega), List.getElem?_eq_none (by omega)]
  refine ⟨?_, ?_, ⟨hd, by show us.length ≤ 4; omega, fun u hu => ?_⟩, fun k hk => ⟨by show d'.most ≤ k; rw [e2]; exact hk.1, by show LowL d'.lim; rw [e3]; exact hk.2.1, fun u hu => ?_⟩⟩
  · show (false, d'.name) :: (us.map (Told.rows n)).flatten = (false, d.name) :: (ts.map (Told.rows n)).flatten
    rw [er, e1]
  · show (d'.most.toNat + 1) * (us.map (Told.great n)).foldr max 1 = (d.most.toNat + 1) * (ts.map (Told.great n)).foldr max 1
    rw [eg, e2]
  · obtain ⟨j, hj⟩ := List.getElem?_of_mem hu
    have hjl : j < us.length := (List.getElem?_eq_some_iff.mp hj).1
    exact (h j _ u (List.getElem?_eq_getElem (by omega)) hj).2.2.1
  · obtain ⟨j, hj⟩ := List.getElem?_of_mem hu
    have hjl : j < us.length := (List.getElem?_eq_some_iff.mp hj).1
    have h1 := List.getElem?_eq_getElem (l := ts) (i := j) (by omega)
    exact (h j _ u h1 hj).2.2.2 k (hk.2.2 _ (List.mem_of_getElem? h1))
theorem spot_mem {z : Str} : ∀ (n : Nat) (t : Told n) {sp : List Nat}, Told.spot z n t = some sp → (true, z) ∈ Told.rows n t
  | 0, t, _, _ => t.elim
  | n + 1, .inl d, sp, h => by
    have h : (if d.name = z then some [] else none) = some sp := h
    split at h
    · rename_i e
      show (true, z) ∈ [(true, d.name)]
      rw [e]
      exact List.mem_cons_self
    · cases h
  | n + 1, .inr x, sp, h => by
    have key : ∀ (l : List (Told n)) (i : Nat), findL (Told.spot z n) i l = some sp → ∃ t ∈ l, (true, z) ∈ Told.rows n t := by
      intro l
      induction l with
      | nil => intro i h; cases h
      | cons t l ih =>
        intro i h
        unfold findL at h
        cases ha : Told.spot z n t with
        | none =>
          rw [ha] at h
          obtain ⟨u, hu, hz⟩ := ih _ h
          exact ⟨u, List.mem_cons_of_mem _ hu, hz⟩
        | some s => exact ⟨t, List.mem_cons_self, spot_mem n t ha⟩
    obtain ⟨t, ht, hz⟩ := key x.2 0 h
    exact List.mem_cons_of_mem _ (List.mem_flatten.mpr ⟨_, List.mem_map.mpr ⟨t, ht, rfl⟩, hz⟩)
theorem spot_child {z : Str} {n : Nat} {x : SD × List (Told n)} {sp : List Nat} (h : Told.spot z (n + 1) (Sum.inr x) = some sp) : ∃ (j : Nat) (t : Told n), x.2[j]? = some t ∧ (true, z) ∈ Told.rows n t := by
  have h := spot_mem (n + 1) _ h
  have h : (true, z) ∈ (false, x.1.name) :: (x.2.map (Told.rows n)).flatten := h
  rcases List.mem_cons.mp h with h | h
  · cases h
  · obtain ⟨l, hl, hz⟩ := List.mem_flatten.mp h
    obtain ⟨t, ht, rfl⟩ := List.mem_map.mp hl
    obtain ⟨j, hj⟩ := List.getElem?_of_mem ht
    exact ⟨j, t, hj, hz⟩
theorem head_leaf {n : Nat} {d : WD} {z : Str} {sp : List Nat} (h : Told.spot z (n + 1) (Sum.inl d) = some sp) : endV (Told.opening (n + 1) (Sum.inl d)) (headS (n + 1) (Sum.inl d) sp).1 = .int d.b := by
  have h : (if d.name = z then some [] else none) = some sp := h
  split at h
  · cases h
    exact congrArg V.int (Int.add_zero d.b)
  · cases h
/-- the children of a drawn tuple, chosen -/
theorem pick_us {n : Nat} {ts : List (Told n)} : ∀ {acc : List V} {H : Hp}, acc.length = ts.length → (∀ (i : Nat) (y : V), acc[i]? = some y → ∃ t u : Told n, ts[i]? = some t ∧ SpanOk n t u ∧ TAt n u y H) → ∃ us : List (Told n), us.length = ts.length ∧ (∀ (j : Nat) (t u : Told n), ts[j]? = some t → us[j]? = some u → SpanOk n t u) ∧ Fa (us.map (TAt n)) acc H := by
  induction ts with
  | nil =>
    intro acc H hl h
    cases acc with
    | nil => exact ⟨[], rfl, (fun _ _ _ z => nomatch z), trivial⟩
    | cons y acc => cases hl
  | cons t ts ih =>
    intro acc H hl h
    cases acc with
    | nil => cases hl
    | cons y acc =>
      obtain ⟨t0, u, e, h1, h2⟩ := h 0 y rfl
      cases e
      obtain ⟨us, g1, g2, g3⟩ := ih (acc := acc) (H := H) (Nat.succ.inj hl) fun i y hy => h (i + 1) y hy
      refine ⟨u :: us, congrArg (· + 1) g1, fun j t' u' h3 h4 => ?_, h2, g3⟩
      cases j with
      | zero =>
        cases h3
        cases h4
        exact h1
      | succ j => exact g2 j t' u' h3 h4
def spLSpan (K : PySem.W.Frag) (S : Addr × List Int × Int) (n : Nat) : Sp := fun vs H Q _ => ∃ (m : Addr) (v : V) (t : Told n) (z : Str) (a c : Nat), vs = [.ref m, v, .str z] ∧ n ≤ 6 ∧ Told.Ok n t ∧ ((Told.rows n t).map (·.2)).Nodup ∧ TAt n t v H ∧ SrcAt K S H m a c ∧ a + 3 * 5 ^ n ≤ 90000 ∧ c ≤ 1000 ∧
  ∀ v' t' H', SpanOk n t t' → TAt n t' v' H' → But m H H' → SrcAt K S H' m (a + 3 * 5 ^ n) c → Q v' H'
end W48

set_option Elab.async false
set_option linter.all false
set_option maxRecDepth 100000
set_option maxHeartbeats 4000000
namespace W48
open PySem PySem.Spec PyProof.Rows L2 WXG WEv WRd WLf WEn WZs WRu WSt StX WDc
/-- a drawn tuple in the heap of a later point -/
theorem tq_kp {H H' : Hp} {q : Addr} {ys : List V} (s : Kp H H') (h : WSl.TQ H q ys) : WSl.TQ H' q ys := kp_tq s h
theorem mem_zip {α β : Type} : ∀ {xs : List α} {ys : List β} {x : α} {y : β}, (x, y) ∈ xs.zip ys → ∃ j : Nat, xs[j]? = some x ∧ ys[j]? = some y
  | [], ys, x, y, h => by simp at h
  | a :: xs, [], x, y, h => by simp at h
  | a :: xs, b :: ys, x, y, h => by
    rw [List.zip_cons_cons] at h
    rcases List.mem_cons.mp h with e | h
    · cases e
      exact ⟨0, rfl, rfl⟩
    · obtain ⟨j, h1, h2⟩ := mem_zip h
      exact ⟨j + 1, h1, h2⟩
theorem fa_zip {n : Nat} {H : Hp} : ∀ {us : List (Told n)} {ys : List V}, Fa (us.map (TAt n)) ys H → Fa ((ys.zip us).map fun r : V × Told n => fun v H => v = r.1 ∧ TAt n r.2 v H) ys H
  | [], [], _ => trivial
  | u :: us, y :: ys, h => ⟨⟨rfl, h.1⟩, fa_zip h.2⟩
  | [], _ :: _, h => h.elim
  | _ :: _, [], h => h.elim
theorem te_cbR {te : TE} {r : List V → Hp → VK → Prop} {σ : L2.St} {H : Hp} {Q : VK} (h : te σ H fun x H1 => r [x] H1 Q) : tCB r (tCons te tNil) σ H Q := h
section
variable {P : Program} {w : World} {K : PySem.W.Frag} {S : Addr × List Int × Int} {mg : Str → Option Value} {base : Heap}
theorem ok_lspanned (T : Env K mg) : ∀ n, FnOk P w K mg base CX0 (n + 11) (d_L_spanned.loc K) T.fd_L_spanned ["m", "told", "name"] (spLSpan K S n)
  | 0 => T.F_L_spanned.ok sc_L_spanned (fun vs H Q E (h : spLSpan K S 0 vs H Q E) => by obtain ⟨m, v, t, _⟩ := h; cases t) (fun cdv A outer s H vs Q E hr (h : spLSpan K S 0 vs H Q E) => by obtain ⟨m, v, t, _⟩ := h; cases t)
  | n + 1 => by
    have G_L_spanned : FnOk P w K mg base CX0 (n + 11) _ _ _ _ := ok_lspanned T n
    have G_L_way : FnOk P w K mg base CX0 7 _ _ _ _ := fn_any 6 (ok_lway T) (M := 7) fun n h => by omega
    have G_L_cycle : FnOk P w K mg base CX0 8 _ _ _ _ := ok_lcycle T
    have G_L_rows : FnOk P w K mg base CX0 10 _ _ _ _ := ok_lrows T
    have G_L_next : FnOk P w K mg base CX0 1 _ _ _ _ := ok_next (S := S) T
    have G_L_of : FnOk P w K mg base CX0 2 _ _ _ _ := ok_of (S := S) T
    refine T.F_L_spanned.ok sc_L_spanned (fun vs H Q E h => ?_) (fun cdv A outer s H vs Q E hr h => ?_)
    · obtain ⟨m, v, t, z, a, c, rfl, _⟩ := h
      rfl
    · have nd := sc_L_spanned.nd
      have hu := hu_of hr
      obtain ⟨m, v, t, z, a, c, rfl, hn, hok, hnd, ht, hS, ha, hc, k⟩ := h
      refine ⟨_, PSs.nox (pss_cons (ps_if (PW.pt (pw_or (pt_cmpR op_eq (pe_ix (ixtK (K := K)) (pv 1) pe_int (fun _ _ => rfl)) pe_str (nomark _)) (pw_or1 (pt_cmpR (op_eqN hr.units) (pe_call G_L_way (hr.mono (by omega)) (by rfl) T.g__law_way T.F_L_way.kp T.bi_L_way .nil pass0 (pa_cons (pv 1) (pa_cons (pv 2) pa_nil))) (pe_lst pa_nil) (nomark _)))))
  (pss_one (ps_ret (pv 1)))
  pss_nil)
 (pss_cons (ps_set (i := 3) nd rfl (Or.inl rfl) (pe_callTy WSl.call_tuple_ofF (by rfl) T.b_tuple (by decide +kernel) (pa_cons (pe_lc (own := [("one", 4)]) (by rfl) nd (pi_tup (pe_ix (ixtK (K := K)) (pv 1) pe_int (fun _ _ => rfl))) (blkOk_by (N := ["m", "told", "name", "below", "one", "child", "ticks", "border", "span"]) (sc := defScope s_L_spanned) (by decide +kernel)) (fun _ _ _ _ _ => (pg_name (i := 4) nd rfl (Or.inl rfl))) (fun _ _ _ _ _ => pts_nil) (fun _ _ _ _ _ => (pe_call G_L_spanned (hr.mono (by omega)) (by rfl) T.g__law_spanned T.F_L_spanned.kp T.bi_L_spanned .nil pass0 (pa_cons (pv 0) (pa_cons (pv 4) (pa_cons (pv 2) pa_nil)))))) pa_nil)))
 (pss_cons (ps_set (i := 5) nd rfl (Or.inl rfl) (pe_ix (ixlK (K := K)) (pe_lc (own := [("one", 4)]) (by rfl) nd (pi_tup (pv 3)) (blkOk_by (N := ["m", "told", "name", "below", "one", "child", "ticks", "border", "span"]) (sc := defScope s_L_spanned) (by decide +kernel)) (fun _ _ _ _ _ => (pg_name (i := 4) nd rfl (Or.inl rfl))) (fun _ _ _ _ _ => (pts_one (pt_cmpR (op_neNK (K := K) hr.units) (pe_call G_L_way (hr.mono (by omega)) (by rfl) T.g__law_way T.F_L_way.kp T.bi_L_way .nil pass0 (pa_cons (pv 4) (pa_cons (pv 2) pa_nil))) (pe_lst pa_nil) (nomark _)))) (fun _ _ _ _ _ => (pv 4))) pe_int (fun _ _ => rfl)))
 (pss_cons (ps_set (i := 6) nd rfl (Or.inl rfl) (pe_ifExp (pt_cmpR op_eq (pe_ix (ixtK (K := K)) (pv 5) pe_int (fun _ _ => rfl)) pe_str (nomark _)) (pe_ix (ixtK (K := K)) (pv 5) pe_int (fun _ _ => rfl)) (pe_ix (ixtK (K := K)) (pe_call G_L_rows (hr.mono (by omega)) (by rfl) T.g__law_rows T.F_L_rows.kp T.bi_L_rows .nil pass0 (pa_cons (pv 5) (pa_cons (pv 2) pa_nil))) pe_int (fun _ _ => rfl))))
 (pss_cons (ps_if (pt_cmpR op_isN (pv 6) pe_non (nomark _))
  (pss_one (ps_ret (pe_op op_catT (pe_slice sl_tup (pv 1) po_none (po_some pe_int)) (pe_tup (pa_cons (pv 3) pa_nil)))))
  pss_nil)
 (pss_cons (ps_set (i := 7) nd rfl (Or.inl rfl) (pe_op op_mul (pe_ix (ixtK (K := K)) (pv 1) pe_int (fun _ _ => rfl)) (pe_call G_L_cycle (hr.mono (by omega)) (by rfl) T.g__law_cycle T.F_L_cycle.kp T.bi_L_cycle .nil pass0 (pa_cons (pe_op op_catT (pe_slice sl_tup (pv 1) po_none (po_some pe_int)) (pe_tup (pa_cons (pv 3) pa_nil))) (pa_cons (pv 5) (pa_cons (pv 6) pa_nil))))))
 (pss_cons (ps_set (i := 8) nd rfl (Or.inl rfl) (pe_op op_add (pv 7) (pe_call G_L_of (hr.mono (by omega)) (by rfl) T.g__law_of T.F_L_of.kp T.bi_L_of .nil pass0 (pa_cons (pv 0) (pa_cons (pe_lst (pa_cons pe_int (pa_cons pe_int (pa_cons pe_int (pa_cons pe_int (pa_cons pe_int (pa_cons (pe_op op_add pe_int (pe_call G_L_next (hr.mono (by omega)) (by rfl) T.g__law_next T.F_L_next.kp T.bi_L_next .nil pass0 (pa_cons (pv 0) (pa_cons pe_int pa_nil)))) (pa_cons (pe_op op_sub pe_int (pe_call G_L_next (hr.mono (by omega)) (by rfl) T.g__law_next T.F_L_next.kp T.bi_L_next .nil pass0 (pa_cons (pv 0) (pa_cons pe_int pa_nil)))) pa_nil)))))))) pa_nil)))))
 (pss_one (ps_ret (pe_op op_catT (pe_slice sl_tup (pv 1) po_none (po_some pe_int)) (pe_tup (pa_cons (pe_callB (call_max2 rfl) (by rfl) T.b_max (by decide +kernel) (pa_cons pe_int (pa_cons (pe_callB (call_min2 rfl) (by rfl) T.b_min (by decide +kernel) (pa_cons (pe_op op_pow pe_int pe_int) (pa_cons (pv 8) pa_nil))) pa_nil))) (pa_cons (pe_ix (ixtK (K := K)) (pv 1) pe_int (fun _ _ => rfl)) (pa_cons (pv 3) pa_nil)))))))))))))), ?_⟩
      have keep : ∀ H', But m H H' → SrcAt K S H' m a c → TAt (n + 1) t v H' → Q v H' := fun H' b s h => k v t H' ⟨rfl, rfl, hok, fun _ h => h⟩ h b (s.mono (by omega))
      cases t with
      | inl d =>
        obtain ⟨p, rfl, hp⟩ := ht
        refine st_if (b := true) (fun Q q => ⟨_, rfl, p, _, 0, _, rfl, rfl, .of hp, rfl, rfl, true, rfl, q⟩) ?_
        rw [if_pos rfl]
        exact ⟨_, rfl, keep H But.refl hS ⟨p, rfl, hp⟩⟩
      | inr x =>
        obtain ⟨d, ts⟩ := x
        obtain ⟨p, q, ys, rfl, hp, hq, fa⟩ := id ht
        have yl := sup_len fa
        have tl4 : ts.length ≤ 4 := hok.2.1
        have sd : d.Ok := hok.1
        refine ⟨_, rfl, p, _, 0, .str "supervisor", rfl, rfl, .of hp, rfl, rfl, false, rfl, ?_⟩
        refine ⟨_, rfl, _, rfl, n + 1, hn, .ref p, Sum.inr (d, ts), z, rfl, by omega, ht, fun lw xs H1 s1 hlw hw => ⟨Nat.zero_le _, fun e he => ⟨lw, e, xs, rfl, rfl, .inl (.of ((same_new he) _ _ hlw)), .inl (.of upd_same), _, rfl, ?_⟩⟩⟩
        have s2 := s1.trans (same_new (o := .lst []) he)
        generalize upd H1 e (.lst []) = H2 at s2
        have b2 : But m H H2 := But.same s2
        have S2 := hS.same s2
        have ht2 := (mk_tat _ _).mn _ _ _ s2 ht
        dsimp only
        cases hsp : Told.spot z (n + 1) (Sum.inr (d, ts)) with
        | none =>
          rw [hsp] at hw
          have hw : xs = [] := hw
          subst hw
          rw [if_pos (by simp)]
          exact ⟨_, rfl, keep H2 b2 S2 ht2⟩
        | some sp =>
          rw [hsp] at hw
          obtain ⟨⟨ws, rfl⟩, _⟩ := hw
          rw [if_neg (by simp)]
          refine st_next ?_
          dsimp only
          show tSeq _ _ _ _ _
          have hp2 := s2 _ _ hp
          have hq2 := hq.mn s2
          have fa2 := mn_fa mk_tats _ _ _ s2 fa
          have p5 : 1 ≤ 5 ^ n := Nat.pow_pos (by decide)
          have e5 : 5 ^ (n + 1) = 5 * 5 ^ n := by rw [Nat.pow_succ, Nat.mul_comm]
          generalize hD : 5 ^ n = D at p5 e5
          have le4 : 3 * D * ts.length ≤ 3 * D * 4 := Nat.mul_le_mul_left _ tl4
          -- below
          refine st_any (R := fun v' H' => ∃ (q' : Addr) (us : List (Told n)) (ys' : List V), v' = .ref q' ∧ WSl.TQ H' q' ys' ∧ us.length = ts.length ∧ (∀ (j : Nat) (t u : Told n), ts[j]? = some t → us[j]? = some u → SpanOk n t u) ∧ Fa (us.map (TAt n)) ys' H' ∧ But m H2 H' ∧ SrcAt K S H' m (a + 3 * D * ts.length) c) (fun Q' q' => ?_) (fun v' H3 ⟨q3, us, ys3, e3, hq3, ul, hus, fa3, b3, S3⟩ => ?_)
          · refine te_cbR ?_
            refine lcDi (m := m) (n := ts.length) (d := 3 * D) (φ := fun i x => ys[i]? = some x) (P := fun i y H => ∃ t u : Told n, ts[i]? = some t ∧ SpanOk n t u ∧ TAt n u y H) (fun R r => ?_) S2 (fun i y H H' s h => ?_) (by omega) (by omega) (fun i x a' H3 hi hx b3 s3 ha' Q2 q2 => ?_) (fun l acc H3 hl la pa b3 s3 => ?_)
            · exact ⟨_, rfl, p, _, 7, .ref q, rfl, rfl, .of hp2, rfl, q, rfl, ⟨ys, hq2.sq⟩, r (Itt K q) _ _ H2 (Same.refl _) (show Walk (Itt K q) ts.length (fun H' => SqT K H' q ys) (YAt ys) by rw [← yl]; exact walk_tup) (fun H3 b => (tq_kp (b.kp S2) hq2).sq) fun i H x H' y => ⟨y.1, y.2⟩⟩
            · obtain ⟨t, u, h1, h2, h3⟩ := h
              exact ⟨t, u, h1, h2, mk_tat n u _ _ _ s h3⟩
            · obtain ⟨t, ht, px⟩ := sup_get fa2 hx
              have tm := List.mem_of_getElem? ht
              have hnd2 : ((Told.rows n t).map (·.2)).Nodup := (List.nodup_cons.mp hnd).2.sublist ((List.sublist_flatten_of_mem (List.mem_map.mpr ⟨t, tm, rfl⟩)).map _)
              refine ⟨_, rfl, _, rfl, _, rfl, m, x, t, z, a', c, rfl, by omega, hok.2.2 t tm, hnd2, mk_tat n t _ _ _ (b3.kp S2) px, s3, by rw [hD]; exact ha', hc, fun v' t' H4 h1 h2 b4 s4 => q2 v' H4 b4 (by rw [hD] at s4; exact s4) ⟨t, t', ht, h1, h2⟩⟩
            · obtain ⟨us, g1, g2, g3⟩ := pick_us la pa
              refine ⟨l, acc, rfl, .of hl, fun l2 ob h2 hob => q' _ _ ⟨l2, us, acc, rfl, ⟨ob, upd_same, hob⟩, g1, g2, mn_fa mk_tats _ _ _ (same_new h2) g3, b3.new h2, s3.new h2⟩⟩
          subst e3
          have k3 : Kp H2 H3 := b3.kp S2
          have hp3 : H3 p = some (.tup (d.vals q)) := kp_tup k3 hp2
          have ul3 : ys3.length = us.length := sup_len fa3
          have fz := fa_zip fa3
          have oku : ∀ u ∈ us, Told.Ok n u := fun u hu => by
            obtain ⟨j, hj⟩ := List.getElem?_of_mem hu
            have hjl : j < us.length := (List.getElem?_eq_some_iff.mp hj).1
            exact (hus j _ u (List.getElem?_eq_getElem (by omega)) hj).2.2.1
          have B3 : But m H H3 := b2.trans b3
          clear b3 S2 hlw he hq2 fa2
          dsimp only
          show tSeq _ _ _ _ _
          -- child
          refine st_any (R := fun v' H' => ∃ (j : Nat) (u : Told n) (s : List Nat), us[j]? = some u ∧ ys3[j]? = some v' ∧ Told.spot z n u = some s ∧ Same H3 H') (fun Q' q' => ?_) (fun v' H4 ⟨j, u, s0, hj, hy, hs0, s4⟩ => ?_)
          · refine (g_lcGt (Pa := fun (r : V × Told n) v H => v = r.1 ∧ TAt n r.2 v H) (rs := ys3.zip us) (p := fun r : V × Told n => (Told.spot z n r.2).isSome) (f := fun r : V × Told n => r.1) (fun H4 s4 R r => ?_) (mn_fa fun P hP => ?_) (by rw [List.length_zip]; omega) (fun r x H4 hr' px s4 Q2 q2 => ?_) (fun r x H4 hr' hpr px s4 Q2 q2 => ?_) fun r x H H' s h => ⟨h.1, (mk_tat _ _).mn _ _ _ s h.2⟩).ev H3 (Same.refl _) _ fun vl H4 s4 pl => ?_
            · exact ⟨_, rfl, q3, rfl, ⟨ys3, (hq3.mn s4).sq⟩, r (Itt K q3) _ ys3 H4 (Same.refl _) walk_tup (fun H5 s5 => (hq3.mn (s4.trans s5)).sq) ((mn_fa fun P hP => by
                obtain ⟨r, _, rfl⟩ := List.mem_map.mp hP
                exact fun x H H' s h => ⟨h.1, mk_tat _ _ _ _ _ s h.2⟩) _ _ _ s4 fz)⟩
            · obtain ⟨r, _, rfl⟩ := List.mem_map.mp hP
              exact fun x H H' s h => ⟨h.1, mk_tat _ _ _ _ _ s h.2⟩
            · refine ⟨_, rfl, _, rfl, n, by omega, x, r.2, z, rfl, by omega, px.2, fun lw xs H5 s5 hlw hw => ⟨Nat.zero_le _, fun e he => ⟨lw, e, xs, rfl, rfl, .inl (.of ((same_new he) _ _ hlw)), .inl (.of upd_same), _, rfl, ?_⟩⟩⟩
              have := q2 _ (s5.trans (same_new (o := .lst []) he))
              cases hs : Told.spot z n r.2 with
              | none =>
                rw [hs] at hw this
                have hw : xs = [] := hw
                subst hw
                exact this
              | some s0 =>
                rw [hs] at hw this
                obtain ⟨⟨ws, rfl⟩, _⟩ := hw
                exact this
            · obtain ⟨rfl, _⟩ := px
              exact ⟨_, rfl, q2 _ (Same.refl _)⟩
            · obtain ⟨l, xs, rfl, hl, fx⟩ := pl
              obtain rfl := fx.is
              obtain ⟨j0, t0, hj0, hz0⟩ := spot_child hsp
              have hj0 : ts[j0]? = some t0 := hj0
              have hjl := (List.getElem?_eq_some_iff.mp hj0).1
              obtain ⟨u0, hu0⟩ : ∃ u, us[j0]? = some u := ⟨_, List.getElem?_eq_getElem (by omega)⟩
              obtain ⟨y0, hy0⟩ : ∃ y, ys3[j0]? = some y := ⟨_, List.getElem?_eq_getElem (by omega)⟩
              obtain ⟨s0, hs0⟩ := spot_some n u0 (by rw [(hus j0 t0 u0 hj0 hu0).1]; exact hz0)
              have zm : (y0, u0) ∈ (ys3.zip us).filter fun r : V × Told n => (Told.spot z n r.2).isSome := by
                refine List.mem_filter.mpr ⟨List.mem_of_getElem? (i := j0) ?_, by show (Told.spot z n u0).isSome = true; rw [hs0]; rfl⟩
                rw [List.getElem?_zip_eq_some]
                exact ⟨hy0, hu0⟩
              obtain ⟨r1, l1, e1⟩ : ∃ r1 l1, ((ys3.zip us).filter fun r : V × Told n => (Told.spot z n r.2).isSome) = r1 :: l1 := by
                cases hf : ((ys3.zip us).filter fun r : V × Told n => (Told.spot z n r.2).isSome) with
                | nil => rw [hf] at zm; cases zm
                | cons r1 l1 => exact ⟨r1, l1, rfl⟩
              have r1m : r1 ∈ (ys3.zip us).filter fun r : V × Told n => (Told.spot z n r.2).isSome := by rw [e1]; exact List.mem_cons_self
              obtain ⟨r1z, r1p⟩ := List.mem_filter.mp r1m
              obtain ⟨y1, u1⟩ := r1
              obtain ⟨j1, h1, h2⟩ := mem_zip r1z
              have r1p : (Told.spot z n u1).isSome = true := r1p
              obtain ⟨s1', hs1⟩ := Option.isSome_iff_exists.mp r1p
              refine ⟨l, _, 0, y1, rfl, rfl, .inl (.of hl), ?_, q' _ _ ⟨j1, u1, s1', h2, h1, hs1, s4⟩⟩
              have := atI_nat (xs := (((ys3.zip us).filter fun r : V × Told n => (Told.spot z n r.2).isSome).map fun r : V × Told n => r.1)) (j := 0) (v := y1) (by rw [e1]; rfl)
              exact this
          have um := List.mem_of_getElem? hj
          have oku1 := oku u um
          obtain ⟨t1, ht1⟩ : ∃ t, ts[j]? = some t := ⟨_, List.getElem?_eq_getElem (by have : j < us.length := (List.getElem?_eq_some_iff.mp hj).1; omega)⟩
          have hnd1 : ((Told.rows n u).map (·.2)).Nodup := by
            rw [(hus j t1 u ht1 hj).1]
            exact (List.nodup_cons.mp hnd).2.sublist ((List.sublist_flatten_of_mem (List.mem_map.mpr ⟨t1, List.mem_of_getElem? ht1, rfl⟩)).map _)
          have hx1 : TAt n u v' H3 := by
            obtain ⟨u', hu', px⟩ := sup_get fa3 hy
            rw [hj] at hu'
            cases hu'
            exact px
          have hx4 := (mk_tat n u).mn _ _ _ s4 hx1
          dsimp only
          show tSeq _ _ _ _ _
          -- ticks
          refine st_any (R := fun v6 H' => v6 = endV (Told.opening n u) (headS n u s0).1 ∧ Same H4 H') (fun Q' q' => ?_) (fun v6 H5 ⟨e6, s5⟩ => ?_)
          · cases n with
            | zero => exact u.elim
            | succ n =>
              cases u with
              | inl du =>
                obtain ⟨pc, rfl, hpc⟩ := hx4
                refine ⟨_, rfl, pc, _, 0, _, rfl, rfl, .of hpc, rfl, rfl, true, rfl, ?_⟩
                dsimp only
                rw [if_pos rfl]
                exact ⟨_, rfl, pc, _, 3, .int du.b, rfl, rfl, .of hpc, rfl, q' _ _ ⟨(head_leaf hs0).symm, Same.refl _⟩⟩
              | inr xu =>
                obtain ⟨pc, qc, yc, rfl, hpc, _⟩ := id hx4
                refine ⟨_, rfl, pc, _, 0, .str "supervisor", rfl, rfl, .of hpc, rfl, rfl, false, rfl, ?_⟩
                dsimp only
                rw [if_neg Bool.false_ne_true]
                exact ⟨_, rfl, _, rfl, n + 1, .ref pc, Sum.inr xu, z, s0, rfl, by omega, oku1, hnd1, hx4, hs0, fun p9 l9 xs9 H9 s9 h9 _ _ => ⟨p9, _, 1, _, rfl, rfl, .of h9, rfl, q' _ _ ⟨rfl, s9⟩⟩⟩
          subst e6
          have s35 := s4.trans s5
          have B5 := B3.trans (But.same s35)
          have S5 := S3.same s35
          have hp5 := s35 _ _ hp3
          have hq5 := hq3.mn s35
          have fa5 := mn_fa mk_tats _ _ _ s35 fa3
          clear B3 S3 s4 s5 fz hx4
          have cut7 : cutV (d.vals q) none (some 7) = [.str "supervisor", .str d.name, .str d.word, .str d.way, .int d.most, .int d.span, limV d.lim] := rfl
          have cut5 : cutV (d.vals q) none (some 5) = [.str "supervisor", .str d.name, .str d.word, .str d.way, .int d.most] := rfl
          have nw : ∀ i : Int, (i = 7 ∨ i = 5) → ¬ (HT.sIx (d.vals q).length 0 none = 0 ∧ HT.sIx (d.vals q).length (d.vals q).length (some i) = (d.vals q).length) := by
            rintro i (rfl | rfl) ⟨_, h⟩ <;> cases h
          -- told[:7] + (below,)
          have catT : ∀ {σ : L2.St} {H6 : Hp} {Q' : VK}, σ[1]? = some (some (.ref p)) → σ[3]? = some (some (.ref q3)) → Same H5 H6 → (∀ p' H7, Same H6 H7 → H7 p' = some (.tup (d.vals q3)) → Q' (.ref p') H7) →
              tOp (rCatT K) (tSl (rSlT K) (tVar 1) tNoPart (tPart (tC (.int 7)))) (tTup (tCons (tVar 3) tNil)) σ H6 Q' := fun {σ H6 Q'} h1 h3 s6 qq =>
            ⟨_, h1, _, rfl, p, d.vals q, rfl, .of (s6 _ _ hp5), nw 7 (.inl rfl), fun r hr' => ⟨_, h3, (by decide : 1 ≤ sizeLine), fun r2 hr2 => ⟨r, r2, _, _, rfl, rfl, .of ((same_new hr2) _ _ upd_same), .of upd_same, by rw [cut7]; exact fun z => (nomatch z), by rw [cut7]; exact (by decide : 8 ≤ sizeLine), fun z => (nomatch z), fun _ p' hp' => qq p' _ (((same_new hr').trans (same_new hr2)).trans (same_new hp')) (by rw [cut7]; exact upd_same)⟩⟩⟩
          have spanT : ∀ (d' : SD) (p' : Addr) (H6 : Hp), d'.name = d.name → d'.most = d.most → d'.lim = d.lim → d'.Ok → But m H H6 → SrcAt K S H6 m (a + 3 * 5 ^ (n + 1)) c → H6 p' = some (.tup (d'.vals q3)) → WSl.TQ H6 q3 ys3 → Fa (us.map (TAt n)) ys3 H6 → Q (.ref p') H6 := fun d' p' H6 e1 e2 e3 hd b6 s6 h1 h2 h3 =>
            k _ (Sum.inr (d', us)) H6 (span_sup ul hus e1 e2 e3 hd tl4) ⟨p', q3, ys3, rfl, h1, h2, h3⟩ b6 s6
          dsimp only
          show tSeq _ _ _ _ _
          cases hh : (headS n u s0).1 with
          | none =>
            refine st_if (b := true) (fun Q q' => ⟨_, rfl, rfl, true, rfl, q'⟩) ?_
            rw [if_pos rfl]
            show tRet _ _ _ _
            exact catT rfl rfl (Same.refl _) fun p' H6 s6 hp6 => spanT d p' H6 rfl rfl rfl sd (B5.trans (But.same s6)) ((S5.same s6).mono (by rw [e5]; omega)) hp6 (hq5.mn s6) (mn_fa mk_tats _ _ _ s6 fa5)
          | some at0 =>
            refine st_no (fun Q q' => ⟨_, rfl, rfl, false, rfl, q'⟩) ?_
            dsimp only
            show tSeq _ _ _ _ _
            have hsib : Sib us := sib_sup (x := (d, us)) (by
              have : Told.rows (n + 1) (Sum.inr (d, us)) = Told.rows (n + 1) (Sum.inr (d, ts)) := (span_sup ul hus rfl rfl rfl sd tl4).1
              rw [this]
              exact hnd)
            -- border
            refine ⟨_, rfl, p, _, 4, .int d.most, rfl, rfl, .of hp5, rfl, ?_⟩
            refine catT rfl rfl (Same.refl _) fun p' H6 s6 hp6 => ⟨_, rfl, _, rfl, n, .ref p', v', (d, us), q3, ys3, j, u, at0, rfl, by omega, (span_sup ul hus rfl rfl rfl sd tl4).2.2.1, hsib, ⟨p', rfl, hp6, hq5.mn s6, mn_fa mk_tats _ _ _ s6 fa5⟩, hy, hj, fun H7 s7 => ⟨_, _, rfl, rfl, .inl ⟨by have := sd.2.2.2.1; omega, by have := sd.2.2.2.2.1; omega⟩, ?_⟩⟩
            have s57 := s6.trans s7
            have B7 := B5.trans (But.same s57)
            have S7 := S5.same s57
            have hp7 := s57 _ _ hp5
            have hq7 := hq5.mn s57
            have fa7 := mn_fa mk_tats _ _ _ s57 fa5
            clear B5 S5
            dsimp only
            show tSeq _ _ _ _ _
            -- span
            refine ⟨_, rfl, .ref m, rfl, .ref m, rfl, m, 60, _, _, rfl, by decide, by decide, S7, by omega, fun r1 H8 r10 r11 b8 S8 => ?_⟩
            refine ⟨1, r1, rfl, rfl, .ref m, rfl, m, 9, _, _, rfl, by decide, by decide, S8, by omega, fun r2 H9 r20 r21 b9 S9 => ⟨0, r2, rfl, rfl, (by decide : 7 ≤ sizeLine), fun p0 hp0 => ?_⟩⟩
            refine ⟨m, p0, _, _, _, rfl, upd_same, by simp, by simp, S9.new hp0, by omega, S9.ne hp0, fun mv H10 hmv b10 S10 => ?_⟩
            obtain ⟨sv, rfl⟩ : ∃ i : Int, mv = .int i := by
              simp only [List.mem_cons, List.not_mem_nil, or_false] at hmv
              rcases hmv with rfl | rfl | rfl | rfl | rfl | rfl | rfl <;> exact ⟨_, rfl⟩
            have b710 : But m H7 H10 := ((b8.trans b9).new hp0).trans b10
            have k10 : Kp H7 H10 := b710.kp S7
            have B10 := B7.trans b710
            have hp10 : H10 p = some (.tup (d.vals q)) := kp_tup k10 hp7
            have hq10 := tq_kp k10 hq7
            have fa10 := fa_kp mk_tats k10 fa7
            clear B7 S7 S8 S9 b8 b9 b10 hp0
            refine ⟨_, sv, rfl, rfl, ?_⟩
            generalize hX : d.most * cyc d us j (Told.opening n u) at0 + sv = spn
            dsimp only
            show tRet _ _ _ _
            refine ⟨_, rfl, _, rfl, p, d.vals q, rfl, .of hp10, nw 5 (.inr rfl), fun r hr' => ?_⟩
            have s11 := same_new (o := .tup (cutV (d.vals q) none (some 5))) hr'
            have hr11 : upd H10 r (.tup (cutV (d.vals q) none (some 5))) r = some (.tup (cutV (d.vals q) none (some 5))) := upd_same
            generalize upd H10 r (.tup (cutV (d.vals q) none (some 5))) = H11 at s11 hr11
            refine ⟨_, _, rfl, rfl, ⟨by decide, by decide, by decide⟩, _, rfl, _, _, rfl, _, _, rfl, ?_⟩
            dsimp only
            rw [hX]
            generalize h9 : (if (if spn < (10 : Int) ^ Int.toNat 9 then spn else (10 : Int) ^ Int.toNat 9) > 1 then (if spn < (10 : Int) ^ Int.toNat 9 then spn else (10 : Int) ^ Int.toNat 9) else 1) = sp9
            have e9 : (10 : Int) ^ Int.toNat 9 = 1000000000 := by decide
            rw [e9] at h9
            have lo9 : 1 ≤ sp9 := by rw [← h9]; split <;> omega
            have hi9 : sp9 ≤ 1000000000 := by rw [← h9]; split <;> (try split) <;> omega
            refine ⟨_, rfl, p, _, 6, limV d.lim, rfl, rfl, .of (s11 _ _ hp10), rfl, _, rfl, (by decide : 3 ≤ sizeLine), fun r3 hr3 => ?_⟩
            refine ⟨r, r3, _, _, rfl, rfl, .of ((same_new hr3) _ _ hr11), .of upd_same, by rw [cut5]; exact fun z => (nomatch z), by rw [cut5]; exact (by decide : 8 ≤ sizeLine), fun z => (nomatch z), fun _ p9 hp9 => ?_⟩
            have s12 := (s11.trans (same_new (o := .tup [.int sp9, limV d.lim, .ref q3]) hr3)).trans (same_new (o := .tup (cutV (d.vals q) none (some 5) ++ [.int sp9, limV d.lim, .ref q3])) hp9)
            refine spanT { d with span := sp9 } p9 _ rfl rfl rfl ⟨sd.1, sd.2.1, sd.2.2.1, sd.2.2.2.1, sd.2.2.2.2.1, lo9, hi9, sd.2.2.2.2.2.2.2⟩ (B10.trans (But.same s12)) ((S10.same s12).mono (by rw [e5]; omega)) ?_ (hq10.mn s12) (mn_fa mk_tats _ _ _ s12 fa10)
            rw [upd_same, cut5]
            rfl
end
end W48

set_option Elab.async false
set_option linter.all false
set_option maxRecDepth 100000
set_option maxHeartbeats 4000000
namespace W48
open PySem PySem.Spec PyProof.Rows L2 WXG WEv WRd WLf WEn WZs WRu WSt StX WDc
/-! ### how great the numbers are -/
def Sm (i : Int) : Prop := 0 ≤ i ∧ i < 1267650600228229401496703205376
def SmO (o : Option Int) : Prop := ∀ i, o = some i → Sm i
theorem sm_log {i : Int} (h : Sm i) : i.natAbs.log2 < 100 := by
  have hb : i.natAbs < 2 ^ 100 := by
    have e : (2 : Nat) ^ 100 = 1267650600228229401496703205376 := by decide
    have := h.1
    have := h.2
    omega
  by_cases hz : i.natAbs = 0
  · rw [hz]
    decide
  · exact (Nat.log2_lt hz).mpr hb
theorem sum_in {B : Int} : ∀ {l : List Int}, (∀ x ∈ l, 0 ≤ x ∧ x ≤ B) → 0 ≤ l.sum ∧ l.sum ≤ l.length * B
  | [], _ => ⟨Int.le_refl _, by simp⟩
  | x :: l, h => by
    have h1 := h x List.mem_cons_self
    have h2 := sum_in (l := l) fun y hy => h y (List.mem_cons_of_mem _ hy)
    rw [List.sum_cons, List.length_cons, Int.natCast_add, Int.add_mul]
    omega
theorem sums_in {α : Type} {f : α → Int} {g : α → Nat} {B : Int} : ∀ {l : List α}, (∀ x ∈ l, 0 ≤ f x ∧ f x ≤ B * (g x : Nat)) → 0 ≤ (l.map f).sum ∧ (l.map f).sum ≤ B * ((l.map g).sum : Nat)
  | [], _ => ⟨Int.le_refl _, by simp⟩
  | x :: l, h => by
    have h1 := h x List.mem_cons_self
    have h2 := sums_in (l := l) fun y hy => h y (List.mem_cons_of_mem _ hy)
    rw [List.map_cons, List.map_cons, List.sum_cons, List.sum_cons, Int.natCast_add, Int.mul_add]
    omega
theorem open_in : ∀ (n : Nat) (t : Told n), Told.Ok n t → 0 ≤ Told.opening n t ∧ Told.opening n t ≤ 1000000000 * (Told.size n t : Nat)
  | 0, t, _ => t.elim
  | n + 1, .inl d, h => by
    have := h.2.2.1
    exact ⟨this.1, by show d.b ≤ 1000000000 * ((1 : Nat) : Int); have := this.2; omega⟩
  | n + 1, .inr x, h => by
    have := sums_in (f := Told.opening n) (g := Told.size n) (B := 1000000000) (l := x.2) fun t ht => open_in n t (h.2.2 t ht)
    refine ⟨this.1, ?_⟩
    show (x.2.map (Told.opening n)).sum ≤ 1000000000 * ((1 + (x.2.map (Told.size n)).sum : Nat) : Int)
    have := this.2
    rw [Int.natCast_add, Int.mul_add]
    omega
theorem cut_in {f : Int} {l : Option Int} {B : Int} (h : 0 ≤ f ∧ f ≤ B) (hl : LimOk l) : 0 ≤ cutI f l ∧ cutI f l ≤ B := by
  cases l with
  | none => exact h
  | some i =>
    have := (hl i rfl).1
    show 0 ≤ (if f ≤ i then f else i) ∧ (if f ≤ i then f else i) ≤ B
    split <;> omega
theorem stop_inB : ∀ (n : Nat) (t : Told n), Told.Ok n t → 0 ≤ Told.stopping n t ∧ Told.stopping n t ≤ 1000000000 * (Told.size n t : Nat)
  | 0, t, _ => t.elim
  | n + 1, .inl d, h => by
    have := h.2.2.2.1
    exact cut_in ⟨this.1, by show d.e ≤ 1000000000 * ((1 : Nat) : Int); have := this.2; omega⟩ h.2.2.2.2.1
  | n + 1, .inr x, h => by
    have := sums_in (f := Told.stopping n) (g := Told.size n) (B := 1000000000) (l := x.2) fun t ht => stop_inB n t (h.2.2 t ht)
    refine cut_in ⟨this.1, ?_⟩ h.1.2.2.2.2.2.2.2
    show (x.2.map (Told.stopping n)).sum ≤ 1000000000 * ((1 + (x.2.map (Told.size n)).sum : Nat) : Int)
    have := this.2
    rw [Int.natCast_add, Int.mul_add]
    omega
/-- all of a list of children with at most 16 plans in all -/
theorem list_in {n : Nat} {f : Told n → Int} {ts us : List (Told n)} (hf : ∀ t, Told.Ok n t → 0 ≤ f t ∧ f t ≤ 1000000000 * (Told.size n t : Nat)) (ok : ∀ t ∈ ts, Told.Ok n t) (hz : ∀ t ∈ ts, Told.size n t ≤ 16) (hu : ∀ u ∈ us, u ∈ ts) (hl : us.length ≤ 8) : 0 ≤ (us.map f).sum ∧ (us.map f).sum ≤ 128000000000 := by
  have := sum_in (B := 16000000000) (l := us.map f) fun x hx => by
    obtain ⟨u, hu', rfl⟩ := List.mem_map.mp hx
    have h1 := hf u (ok u (hu u hu'))
    have h2 := hz u (hu u hu')
    omega
  rw [List.length_map] at this
  omega
def HB (n : Nat) (s : AS) : Prop := (∀ a, s.1 = some a → 0 ≤ a ∧ a ≤ 1000000000000 * (n : Nat)) ∧ (∀ r ∈ s.2, NameOk r.1 ∧ SmO r.2.1 ∧ SmO r.2.2) ∧ s.2.length ≤ n
theorem max_in {a b B : Int} (ha : a ≤ B) (hb : b ≤ B) : maxI a b ≤ B ∧ a ≤ maxI a b ∧ b ≤ maxI a b := by
  unfold maxI
  split <;> omega
theorem step_in {n : Nat} {x : SD × List (Told n)} {i : Nat} {t : Told n} {s : AS} (hok : Told.Ok (n + 1) (Sum.inr x)) (hz : Told.size (n + 1) (Sum.inr x) ≤ 16) (ht : x.2[i]? = some t) (hs : HB n s) (hn : n ≤ 6) : HB (n + 1) (stepA x.1 x.2 i (Told.opening n t) s) := by
  obtain ⟨h1, h2, h3⟩ := hs
  have tm := List.mem_of_getElem? ht
  have hz' : 1 + (x.2.map (Told.size n)).sum ≤ 16 := hz
  have sz : ∀ u ∈ x.2, Told.size n u ≤ 16 := fun u hu => by have := size_in hu; omega
  have l4 := hok.2.1
  have ino : ∀ {us : List (Told n)}, (∀ u ∈ us, u ∈ x.2) → us.length ≤ 8 → 0 ≤ opS us ∧ opS us ≤ 128000000000 := fun hu hl => list_in (open_in n) hok.2.2 sz hu hl
  have ins : ∀ {us : List (Told n)}, (∀ u ∈ us, u ∈ x.2) → us.length ≤ 8 → 0 ≤ stS us ∧ stS us ≤ 128000000000 := fun hu hl => list_in (stop_inB n) hok.2.2 sz hu hl
  have o1 := open_in n t (hok.2.2 t tm)
  have o2 := sz t tm
  have hname : NameOk x.1.name := hok.1.1
  unfold stepA
  cases hs1 : s.1 with
  | none =>
    refine ⟨fun a e => (nomatch e), fun r hr => ?_, by rw [List.length_append]; exact Nat.succ_le_succ h3⟩
    rcases List.mem_append.mp hr with hr | hr
    · exact h2 r hr
    · cases List.mem_singleton.mp hr
      exact ⟨hname, fun i e => (nomatch e), fun i e => nomatch e⟩
  | some a =>
    have ha := h1 a hs1
    have slen := stop_len (way := x.1.way) (l := x.2) (i := i)
    have flen := front_len (way := x.1.way) (l := x.2) (i := i)
    have a1 := ins (us := stopped x.1 x.2 i) (fun u hu => stop_in hu) (by show (stopL x.1.way x.2 i).length ≤ 8; omega)
    have a2 := ino (us := stopped x.1 x.2 i) (fun u hu => stop_in hu) (by show (stopL x.1.way x.2 i).length ≤ 8; omega)
    have a3 := ino (us := front x.1 x.2 i) (fun u hu => front_in hu) (by show (frontL x.1.way x.2 i).length ≤ 8; omega)
    have a4 := ins (us := x.2.take i ++ x.2.drop (i + 1)) (fun u hu => (List.mem_append.mp hu).elim List.mem_of_mem_take List.mem_of_mem_drop) (by rw [List.length_append, List.length_take, List.length_drop]; omega)
    have a5 := ino (us := x.2) (fun u hu => hu) (by omega)
    have a6 := ino (us := x.2.take i) (fun u hu => List.mem_of_mem_take hu) (by rw [List.length_take]; omega)
    have hn' : (n : Int) ≤ 6 := by omega
    have cb := max_in (a := stS (stopped x.1 x.2 i) + opS (stopped x.1 x.2 i) + Told.opening n t) (b := stS (stopped x.1 x.2 i) + opS (front x.1 x.2 i) + Told.opening n t + a) (B := 10000000000000) (by omega) (by omega)
    have c1 : Sm (cyc x.1 x.2 i (Told.opening n t) a) := by
      unfold cyc Sm
      omega
    have c2 : ∀ b, attA x.1 x.2 i (Told.opening n t) a = some b → 0 ≤ b ∧ b ≤ 1000000000000 * ((n + 1 : Nat) : Int) := by
      intro b e
      unfold attA at e
      split at e
      · cases e
      · rename_i hlt
        have mo0 : 0 ≤ x.1.most := hok.1.2.2.2.1
        have spb : x.1.span ≤ 1000000000 := hok.1.2.2.2.2.2.2.1
        have c0 : 0 ≤ cyc x.1 x.2 i (Told.opening n t) a := c1.1
        have mc0 : 0 ≤ x.1.most * cyc x.1 x.2 i (Told.opening n t) a := Int.mul_nonneg mo0 c0
        cases e
        generalize x.1.most * cyc x.1 x.2 i (Told.opening n t) a = mc at *
        have mb := max_in (a := 0) (b := opS (x.2.take i) + Told.opening n t + a - opS x.2) (B := 200000000000 + a) (by omega) (by omega)
        omega
    refine ⟨c2, fun r hr => ?_, by rw [List.length_append]; exact Nat.succ_le_succ h3⟩
    rcases List.mem_append.mp hr with hr | hr
    · exact h2 r hr
    · cases List.mem_singleton.mp hr
      refine ⟨hname, fun i e => ?_, fun b e => ?_⟩
      · cases e
        exact c1
      · have := c2 b e
        unfold Sm
        omega
theorem head_in : ∀ (n : Nat) (t : Told n) (sp : List Nat), Told.Ok n t → Told.size n t ≤ 16 → n ≤ 6 → HB n (headS n t sp)
  | 0, t, _, _, _, _ => t.elim
  | n + 1, t, [], _, _, _ => ⟨fun a e => by cases e; exact ⟨Int.le_refl _, by omega⟩, fun r hr => (nomatch hr), Nat.zero_le _⟩
  | n + 1, .inl d, i :: sp, _, _, _ => ⟨fun a e => (nomatch e), fun r hr => (nomatch hr), Nat.zero_le _⟩
  | n + 1, .inr x, i :: sp, hok, hz, hn => by
    have e : headS (n + 1) (Sum.inr x) (i :: sp) = (((match x.2[i]? with | none => [] | some t => match attS n t sp with | [] => [] | s :: l => stepA x.1 x.2 i (Told.opening n t) s :: s :: l) : List AS)[0]?).getD (none, []) := rfl
    rw [e]
    cases ht : x.2[i]? with
    | none => exact ⟨fun a e => (nomatch e), fun r hr => (nomatch hr), Nat.zero_le _⟩
    | some t =>
      have tm := List.mem_of_getElem? ht
      have hz' : 1 + (x.2.map (Told.size n)).sum ≤ 16 := hz
      have := size_in tm
      have ih := head_in n t sp (hok.2.2 t tm) (by omega) (by omega)
      dsimp only
      cases ha : attS n t sp with
      | nil => exact ⟨fun a e => (nomatch e), fun r hr => (nomatch hr), Nat.zero_le _⟩
      | cons s l =>
        have : headS n t sp = s := by
          unfold headS
          rw [ha]
          rfl
        rw [this] at ih
        exact step_in hok hz ht ih (by omega)
theorem prod_in : ∀ (l : List Int) (p : Int), 0 ≤ p → (∀ x ∈ l, 0 ≤ x ∧ x ≤ 21) → 0 ≤ l.foldl (· * ·) p ∧ l.foldl (· * ·) p ≤ p * 21 ^ l.length
  | [], p, h, _ => ⟨h, by simp⟩
  | x :: l, p, h, hx => by
    have h1 := hx x List.mem_cons_self
    have := prod_in l (p * x) (Int.mul_nonneg h h1.1) fun y hy => hx y (List.mem_cons_of_mem _ hy)
    refine ⟨this.1, Int.le_trans this.2 ?_⟩
    rw [List.length_cons, Int.pow_succ, Int.mul_comm (21 ^ l.length) 21, ← Int.mul_assoc]
    exact Int.mul_le_mul_of_nonneg_right (Int.mul_le_mul_of_nonneg_left h1.2 h) (Int.pow_nonneg (by decide))
theorem facs_in : ∀ (n : Nat) (t : Told n) (sp : List Nat), Told.Ok n t → (∀ x ∈ facs n t sp, 0 ≤ x ∧ x ≤ 21) ∧ (facs n t sp).length ≤ n
  | 0, t, _, _ => t.elim
  | n + 1, t, [], _ => ⟨fun x hx => (nomatch hx), Nat.zero_le _⟩
  | n + 1, .inl d, i :: sp, _ => ⟨fun x hx => (nomatch hx), Nat.zero_le _⟩
  | n + 1, .inr x, i :: sp, hok => by
    show (∀ y ∈ (match x.2[i]? with | none => [] | some t => (x.1.most + 1) :: facs n t sp : List Int), _) ∧ (match x.2[i]? with | none => [] | some t => (x.1.most + 1) :: facs n t sp : List Int).length ≤ _
    cases ht : x.2[i]? with
    | none => exact ⟨fun x hx => (nomatch hx), Nat.zero_le _⟩
    | some t =>
      have ih := facs_in n t sp (hok.2.2 t (List.mem_of_getElem? ht))
      have m0 : 0 ≤ x.1.most := hok.1.2.2.2.1
      have m1 : x.1.most ≤ 20 := hok.1.2.2.2.2.1
      refine ⟨fun y hy => ?_, Nat.succ_le_succ ih.2⟩
      rcases List.mem_cons.mp hy with rfl | hy
      · omega
      · exact ih.1 y hy
theorem prod_sm {n : Nat} {t : Told n} {sp : List Nat} (hok : Told.Ok n t) (hn : n ≤ 6) : Sm (prodI (facs n t sp)) := by
  obtain ⟨h1, h2⟩ := facs_in n t sp hok
  have := prod_in _ 1 (by decide) h1
  have hl : (facs n t sp).length ≤ 6 := by omega
  have hp : (21 : Int) ^ (facs n t sp).length ≤ 21 ^ 6 := by
    have : ∀ k, k ≤ 6 → (21 : Int) ^ k ≤ 21 ^ 6 := by decide
    exact this _ hl
  have e6 : (21 : Int) ^ 6 = 85766121 := by decide
  unfold prodI Sm
  omega
/-! ### repr -/
def rowD (r : Row3) : PyData := .tuple [.str r.1, optD r.2.1, optD r.2.2]
def rowsD (rs : List Row3) : PyData := .tuple (rs.map rowD)
theorem int_leaf {i : Int} (h : Sm i) : (PyData.int i).leavesShort 101 = true ∧ (PyData.int i).showable = true ∧ (PyData.int i).weight ≤ 101 := by
  have hl := sm_log h
  refine ⟨?_, ?_, ?_⟩
  · have : (Str.ofString (toString i)).length ≤ 101 := by
      have := int_text_length_le (a := i) (k := 100) (by decide) hl
      rw [PySem.ofString_length]
      exact this
    simp only [PyData.leavesShort, PyData.shown]
    exact decide_eq_true this
  · simp only [PyData.showable]
    exact decide_eq_true (by omega)
  · simp only [PyData.weight]
    split <;> omega
theorem opt_leaf {o : Option Int} (h : SmO o) : (optD o).leavesShort 101 = true ∧ (optD o).showable = true ∧ (optD o).weight ≤ 101 := by
  cases o with
  | none => exact ⟨by simp [optD, PyData.leavesShort], by simp [optD, PyData.showable], by simp [optD, PyData.weight]⟩
  | some i => exact int_leaf (h i rfl)
theorem name_leaf {z : Str} (h : NameOk z) : (PyData.str z).leavesShort 101 = true ∧ (PyData.str z).showable = true ∧ (PyData.str z).weight ≤ 2 := by
  obtain ⟨cs, rfl, h1, h2, h3⟩ := h
  refine ⟨?_, by simp only [PyData.showable], ?_⟩
  · simp only [PyData.leavesShort]
    rw [List.all_eq_true]
    intro c hc
    have := h3 c (by simpa using hc)
    exact decide_eq_true (Nat.lt_of_le_of_lt (show c ≤ 1000 by omega) (by decide))
  · simp only [PyData.weight, List.size_toArray]
    exact h2
theorem row_leaf {r : Row3} (h : NameOk r.1 ∧ SmO r.2.1 ∧ SmO r.2.2) : (rowD r).leavesShort 101 = true ∧ (rowD r).showable = true ∧ (rowD r).weight ≤ 207 := by
  obtain ⟨a1, a2, a3⟩ := name_leaf h.1
  obtain ⟨b1, b2, b3⟩ := opt_leaf h.2.1
  obtain ⟨c1, c2, c3⟩ := opt_leaf h.2.2
  unfold rowD
  refine ⟨?_, ?_, ?_⟩
  · simp only [PyData.leavesShort] at a1
    simp only [PyData.leavesShort, PyData.leavesShortAll, a1, b1, c1]
    rfl
  · simp only [PyData.showable, PyData.showableAll, b2, c2]
    rfl
  · simp only [PyData.weight] at a3
    simp only [PyData.weight, PyData.weightAll]
    omega
theorem rows_leaf : ∀ {rs : List Row3}, (∀ r ∈ rs, NameOk r.1 ∧ SmO r.2.1 ∧ SmO r.2.2) → PyData.leavesShortAll 101 (rs.map rowD) = true ∧ PyData.showableAll (rs.map rowD) = true ∧ PyData.weightAll (rs.map rowD) ≤ 208 * rs.length
  | [], _ => ⟨by simp [PyData.leavesShortAll], by simp [PyData.showableAll], by simp [PyData.weightAll]⟩
  | r :: rs, h => by
    obtain ⟨a1, a2, a3⟩ := row_leaf (h r List.mem_cons_self)
    obtain ⟨b1, b2, b3⟩ := rows_leaf (rs := rs) fun x hx => h x (List.mem_cons_of_mem _ hx)
    simp only [List.map_cons, PyData.leavesShortAll, PyData.showableAll, PyData.weightAll, a1, a2, b1, b2, List.length_cons]
    refine ⟨rfl, rfl, by omega⟩
theorem rows_dep : ∀ {rs : List Row3}, PyData.depthAll (rs.map rowD) ≤ 1
  | [] => by simp [PyData.depthAll]
  | r :: rs => by
    rw [List.map_cons, PyData.depthAll]
    have := rows_dep (rs := rs)
    have e : (rowD r).depth ≤ 1 := by
      unfold rowD
      simp [PyData.depth, PyData.depthAll, lim_dep]
    exact Nat.max_le.mpr ⟨e, this⟩
/-- what repr may be asked of -/
def Shw (d : PyData) : Prop := d.showable = true ∧ d.depth ≤ 60 ∧ d.shown.length ≤ sizeLine
theorem shw_of {d : PyData} (h1 : d.leavesShort 101 = true) (h2 : d.showable = true) (h3 : d.weight ≤ 2000) (h4 : d.depth ≤ 60) : Shw d := by
  refine ⟨h2, h4, ?_⟩
  have := PyData.shown_le 101 (by decide) d h1
  have e : sizeLine = 16777216 := by decide
  rw [e]
  have : (101 + 2) * d.weight ≤ 103 * 2000 := Nat.mul_le_mul_left _ h3
  omega
theorem shw_rows {rs : List Row3} (h : ∀ r ∈ rs, NameOk r.1 ∧ SmO r.2.1 ∧ SmO r.2.2) (hl : rs.length ≤ 6) : Shw (rowsD rs) := by
  obtain ⟨a1, a2, a3⟩ := rows_leaf h
  unfold rowsD
  refine shw_of (by simp only [PyData.leavesShort]; exact a1) (by simp only [PyData.showable]; exact a2) (by simp only [PyData.weight]; omega) ?_
  have := rows_dep (rs := rs)
  simp only [PyData.depth]
  omega
theorem shw_pair {a b : Int} (ha : Sm a) (hb : Sm b) : Shw (.tuple [.int a, .int b]) := by
  obtain ⟨a1, a2, a3⟩ := int_leaf ha
  obtain ⟨b1, b2, b3⟩ := int_leaf hb
  refine shw_of ?_ ?_ ?_ (by simp [PyData.depth, PyData.depthAll])
  · simp only [PyData.leavesShort, PyData.leavesShortAll] at a1 b1 ⊢
    rw [a1, b1]
    rfl
  · simp only [PyData.showable, PyData.showableAll] at a2 b2 ⊢
    rw [a2, b2]
    rfl
  · simp only [PyData.weight, PyData.weightAll] at a3 b3 ⊢
    omega
theorem shw_int {a : Int} (ha : Sm a) : Shw (.int a) := by
  obtain ⟨a1, a2, a3⟩ := int_leaf ha
  exact shw_of a1 a2 (by omega) (by simp [PyData.depth])
theorem shw_non : Shw .none := shw_of (by simp [PyData.leavesShort]) (by simp [PyData.showable]) (by simp [PyData.weight]) (by simp [PyData.depth])
/-- repr of an object, a number, None -/
def Rp : V → Prop
  | .non => True
  | .int _ => True
  | .ref _ => True
  | _ => False
def rRp (K : PySem.W.Frag) : List V → Hp → VK → Prop := fun xs H Q => ∃ (v : V) (d : PyData), xs = [v] ∧ Rp v ∧ Dq K H v d ∧ Shw d ∧ Q (.str d.shown) H
theorem call_rp {X : Cx} (S : SysK X.K) (hg : X.A.guards = some []) (hu : X.A.units + 64 < cLine) : CallR X (.builtin "repr") (rRp X.K) := by
  intro pins s σ H xs us Q I r h
  obtain ⟨v, d, rfl, hv, hd, hs, q⟩ := h
  cases v with
  | non =>
    cases hd
    obtain ⟨u, rfl, ru⟩ := vals1 r
    cases ru
    exact PySem.P.repr_of_none ⟨.str "None", H, I.tok _, ⟨_, rfl⟩, q⟩
  | int i =>
    cases hd
    exact SkE.call_repr_int pins s σ H _ us Q I r ⟨i, rfl, by have := hs.1; simp only [PyData.showable] at this; exact of_decide_eq_true this, q⟩
  | ref a => exact call_reprQ S hg hu pins s σ H _ us Q I r ⟨a, d, rfl, hd, hs.1, hs.2.1, hs.2.2, q⟩
  | _ => exact hv.elim
theorem dq_opt {K : PySem.W.Frag} {H : Hp} {o : Option Int} : Dq K H (optV o) (optD o) := by
  cases o with
  | none => exact .non
  | some i => exact .int i
theorem dq_rows {K : PySem.W.Frag} {H : Hp} : ∀ {rs : List Row3} {xs : List V}, Fa (rs.map RowT) xs H → DqAll K H xs (rs.map rowD)
  | [], [], _ => .nil
  | r :: rs, x :: xs, h => by
    obtain ⟨p, rfl, hp⟩ := h.1
    exact .cons (.tup (.of hp) (.cons (.str _) (.cons dq_opt (.cons dq_opt .nil)))) (dq_rows h.2)
  | [], _ :: _, h => h.elim
  | _ :: _, [], h => h.elim
end W48

set_option Elab.async false
set_option linter.all false
set_option maxRecDepth 100000
set_option maxHeartbeats 4000000
/-! calls of defs that ask for no repr under way -/
namespace WCg
open PySem PySem.Spec PyProof.Rows L2 WXG
section
variable {X : Cx} {CX : CXT} {k : Nat} {f : Addr} {fd : FuncData} {ps : List Str} {sp : Sp} {dvs : List V} {ds : List Value} {E : XK} {x : Str} {p pos : Pos} {e : Expr} {es : List Expr} {t : TA}
theorem run_fnG {pins : List (Addr × Obj)} {σ : L2.St} {H : Hp} {s : Shared} {Q : VK} {us : List Value} {vs : List V} (F : FnG X.prog X.w X.K X.mg X.base CX k f fd ps sp) (hgd : X.A.guards = some []) (hr : Room k X.A) (hb : Binds X.K fd ps ds) (hd : Vals dvs ds) (hx : Passes CX X E)
    (I : Inv X pins σ H s) (r : Vals vs us) (h : sp (vs ++ dvs) H Q E) : wpAny (model X.prog X.w) X.A (call (.ref f) us) (EP X pins σ Q) X.xe s := by
  have r2 : Vals (vs ++ dvs) (us ++ ds) := r.append hd
  have hl : (us ++ ds).length = ps.length := by rw [← r2.length]; exact F.len _ _ _ _ h
  refine wpAny_call (codeAny_mono (F.run X.A X.stack s H ⟨us, []⟩ (us ++ ds) (vs ++ dvs) Q E hr hgd I.env0 (hb s us I.kIn hl) r2 h) fun r s' hq => ?_)
  cases r with
  | error e => exact hx pins σ H s e s' I hq
  | ok fl =>
    cases fl with
    | ret u => exact I.after hq
    | next => exact False.elim hq
    | brk => exact False.elim hq
    | cont => exact False.elim hq
/-- f(..), f a def where no repr may be under way -/
theorem pe_callG (F : FnG X.prog X.w X.K X.mg X.base CX k f fd ps sp) (hgd : X.A.guards = some []) (hr : Room k X.A) (hg : Gl X x) (hm : X.mg x = some (.ref f)) (hk : PySem.W.keepIn X.K (.ref f) = true) (hb : Binds X.K fd ps ds) (hd : Vals dvs ds) (hx : Passes CX X E)
    (ha : PA X (e :: es) t) (hdb : (x == ("__debug__" : Str)) = false := by decide) (he : starEach (e :: es) X.env = (false, eval e X.env) :: starEach es X.env := by rfl) (hpl : (backTo pos (starEach es X.env)).any (·.1) = false := by rfl) :
    PE X (.Call (.Name x p) (e :: es) [] pos) (tCall sp dvs E t) := by
  refine ⟨fun pins s σ H Q I h => ?_⟩
  refine wpAny_Call_Name_kw (ld_glob I hg hm ?_ hdb)
  refine PySem.W.callWith_K (h₀ := X.base) I.ok.mod.kin hk (thn (ha.run pos pins s σ H _ I h) fun us s1 ⟨vs, H1, I1, r, q⟩ => ⟨I1.kIn, ?_⟩) he hpl
  exact run_fnG F hgd hr hb hd hx I1 r q
end
/-- e or 0, of a number or None -/
def tOrZ (ta tb : TE) : TE := fun σ H Q => ta σ H fun x H1 => (x = .non ∧ tb σ H1 Q) ∨ ∃ i, x = .int i ∧ (i = 0 → tb σ H1 Q) ∧ (i ≠ 0 → Q (.int i) H1)
theorem truthy_non {M : Model} {A : Around} {E : Value → Shared → Prop} {s : Shared} {Q : Bool → Shared → Prop} (h : Q false s) : wpAny M A (truthy .none) Q E s := fun _ _ _ => h
theorem pe_orZ {X : Cx} {a b : Expr} {pos : Pos} {ta tb : TE} (ha : PE X a ta) (hb : PE X b tb) : PE X (.BoolOp .Or [a, b] pos) (tOrZ ta tb) := by
  refine ⟨fun pins s σ H Q I h => ?_⟩
  refine BoolOp_or (thn (ha.run pins s σ H _ I h) fun v s1 ⟨x, H1, I1, r1, q1⟩ => ?_)
  rcases q1 with ⟨rfl, q⟩ | ⟨i, rfl, q0, q1⟩
  · cases r1
    refine truthy_non ?_
    exact BoolOp_one (hb.run pins s1 σ H1 Q I1 q)
  · obtain ⟨t, rfl⟩ := r1
    refine PySem.P.truthy_int ?_
    by_cases h : i = 0
    · rw [if_neg (by simp [h])]
      exact BoolOp_one (hb.run pins s1 σ H1 Q I1 (q0 h))
    · rw [if_pos (by simp [h])]
      exact ⟨.int i, H1, I1, ⟨t, rfl⟩, q1 h⟩
end WCg

set_option Elab.async false
set_option linter.all false
set_option maxRecDepth 100000
set_option maxHeartbeats 4000000
namespace W48
open PySem PySem.Spec PyProof.Rows L2 WXG WEv WRd WLf WEn WZs WRu WSt StX WDc WCg
/-! ### longer times -/
def LimLe (l l' : Option Int) : Prop := ∀ i, l' = some i → ∃ j, l = some j ∧ j ≤ i
structure WLe (d d' : WD) : Prop where
  nm : d'.name = d.name
  wd : d'.word = d.word
  b : d.b ≤ d'.b
  e : d.e ≤ d'.e
  lim : LimLe d.lim d'.lim
structure SLe (d d' : SD) : Prop where
  nm : d'.name = d.name
  wd : d'.word = d.word
  wy : d'.way = d.way
  most : d.most ≤ d'.most
  span : d'.span ≤ d.span
  lim : LimLe d.lim d'.lim
def Longer : (n : Nat) → Told n → Told n → Prop
  | 0, _, _ => True
  | n + 1, t, u => match (show WD ⊕ (SD × List (Told n)) from t), (show WD ⊕ (SD × List (Told n)) from u) with
    | .inl d, .inl d' => WLe d d'
    | .inr x, .inr y => SLe x.1 y.1 ∧ y.2.length = x.2.length ∧ ∀ (i : Nat) (t u : Told n), x.2[i]? = some t → y.2[i]? = some u → Longer n t u
    | _, _ => False
/-- how many draws a tuple takes -/
def dL : Nat → Nat
  | 0 => 0
  | n + 1 => 4 * dL n + 10
def spMore (K : PySem.W.Frag) (S : Addr × List Int × Int) : Sp := fun vs H Q _ => ∃ (m : Addr) (a c : Nat), vs = [.ref m] ∧ SrcAt K S H m a c ∧ a + 3 ≤ 100000 ∧ c ≤ 100000 ∧ ∀ (i : Int) H', 0 ≤ i → i ≤ 60 → But m H H' → SrcAt K S H' m (a + 3) c → Q (.int i) H'
def spLong (K : PySem.W.Frag) (S : Addr × List Int × Int) (n : Nat) : Sp := fun vs H Q _ => ∃ (m : Addr) (v : V) (t : Told n) (p : Int) (a c : Nat), vs = [.ref m, v, .int p] ∧ n ≤ 6 ∧ Told.Ok n t ∧ MostLe 3 n t ∧ TAt n t v H ∧ 1 ≤ p ∧ p * 21 ^ n ≤ 1000000000 ∧ SrcAt K S H m a c ∧ a + dL n ≤ 90000 ∧ c ≤ 1000 ∧
  ∀ v' u H', Longer n t u → Told.Ok n u → TAt n u v' H' → But m H H' → SrcAt K S H' m (a + dL n) c → Q v' H'
def MoreV (v : V) : Prop := ∃ i : Int, v = .int i ∧ 0 ≤ i ∧ i ≤ 60
theorem st_anyS {t : TS} {D : Ends} {σ : L2.St} {H : Hp} (R : L2.St → Hp → Prop) (h : ∀ D' : Ends, (∀ σ' H', R σ' H' → D'.nx σ' H') → t D' σ H) (k : ∀ σ' H', R σ' H' → D.nx σ' H') : t D σ H := h D k
theorem limV_inj {l l' : Option Int} (h : limV l = limV l') : l = l' := by
  cases l <;> cases l' <;> cases h <;> rfl
/-- the children of a drawn tuple, chosen -/
theorem pick_R {n : Nat} {ts : List (Told n)} {R : Told n → Told n → Prop} : ∀ {acc : List V} {H : Hp}, acc.length = ts.length → (∀ (i : Nat) (y : V), acc[i]? = some y → ∃ t u : Told n, ts[i]? = some t ∧ R t u ∧ TAt n u y H) → ∃ us : List (Told n), us.length = ts.length ∧ (∀ (j : Nat) (t u : Told n), ts[j]? = some t → us[j]? = some u → R t u) ∧ Fa (us.map (TAt n)) acc H := by
  induction ts with
  | nil =>
    intro acc H hl h
    cases acc with
    | nil => exact ⟨[], rfl, (fun _ _ _ z => nomatch z), trivial⟩
    | cons y acc => cases hl
  | cons t ts ih =>
    intro acc H hl h
    cases acc with
    | nil => cases hl
    | cons y acc =>
      obtain ⟨t0, u, e, h1, h2⟩ := h 0 y rfl
      cases e
      obtain ⟨us, g1, g2, g3⟩ := ih (acc := acc) (H := H) (Nat.succ.inj hl) fun i y hy => h (i + 1) y hy
      refine ⟨u :: us, congrArg (· + 1) g1, fun j t' u' h3 h4 => ?_, h2, g3⟩
      cases j with
      | zero =>
        cases h3
        cases h4
        exact h1
      | succ j => exact g2 j t' u' h3 h4
section
variable {P : Program} {w : World} {K : PySem.W.Frag} {S : Addr × List Int × Int} {mg : Str → Option Value} {base : Heap}
theorem ok_more (T : Env K mg) : FnOk P w K mg base CX0 2 (d_L_more.loc K) T.fd_L_more ["m"] (spMore K S) := by
  have G_L_next : FnOk P w K mg base CX0 1 _ _ _ _ := ok_next (S := S) T
  refine T.F_L_more.ok sc_L_more (fun vs H Q E h => ?_) (fun cdv A outer s H vs Q E hr h => ?_)
  · obtain ⟨m, a, c, rfl, _⟩ := h
    rfl
  · have nd := sc_L_more.nd
    have hu := hu_of hr
    obtain ⟨m, a, c, rfl, hS, ha, hc, k⟩ := h
    refine ⟨_, PSs.nox (pss_one (ps_ret (pe_ix (ixlK (K := K)) (pe_lst (pa_cons pe_int (pa_cons pe_int (pa_cons pe_int (pa_cons pe_int (pa_cons (pe_call G_L_next (hr.mono (by decide)) (by rfl) T.g__law_next T.F_L_next.kp T.bi_L_next .nil pass0 (pa_cons (pv 0) (pa_cons pe_int pa_nil))) (pa_cons (pe_call G_L_next (hr.mono (by decide)) (by rfl) T.g__law_next T.F_L_next.kp T.bi_L_next .nil pass0 (pa_cons (pv 0) (pa_cons pe_int pa_nil))) pa_nil))))))) (pe_call G_L_next (hr.mono (by decide)) (by rfl) T.g__law_next T.F_L_next.kp T.bi_L_next .nil pass0 (pa_cons (pv 0) (pa_cons pe_int pa_nil))) (fun _ _ => rfl)))), ?_⟩
    refine st_retD (n := 3) (d := 0) (dr_ix (n := 2) (d := 0) (n' := 1) (d' := 0) (k := 6) (b := 6) (p := MoreV) (dr_lst (m := m) (K := K) (n := 2) (d := 0) (dral_cons (n := 0) (d := 0) (n' := 2) (d' := 0) (p := MoreV) (dr_ev (fun H => ev_c) ⟨0, rfl, by decide, by decide⟩)
      (dral_cons (n := 0) (d := 0) (n' := 2) (d' := 0) (p := MoreV) (dr_ev (fun H => ev_c) ⟨0, rfl, by decide, by decide⟩)
      (dral_cons (n := 0) (d := 0) (n' := 2) (d' := 0) (p := MoreV) (dr_ev (fun H => ev_c) ⟨0, rfl, by decide, by decide⟩)
      (dral_cons (n := 0) (d := 0) (n' := 2) (d' := 0) (p := MoreV) (dr_ev (fun H => ev_c) ⟨1, rfl, by decide, by decide⟩)
      (dral_cons (n := 1) (d := 0) (n' := 1) (d' := 0) ((dr_next' rfl (by decide) (by decide)).imp fun v H ⟨r, e, h0, h1⟩ => ⟨r, e, h0, by omega⟩)
      (dral_cons (n := 1) (d := 0) (n' := 0) (d' := 0) ((dr_next' rfl (by decide) (by decide)).imp fun v H ⟨r, e, h0, h1⟩ => ⟨r, e, h0, by omega⟩)
      dral_nil)))))) (fun xs H q => by rw [q.1]; decide) ml_pure) (dr_next' rfl (by decide) (by decide)) (by decide)) hS (by omega) (by omega) fun v H1 b1 s1 hv => ?_
    obtain ⟨i, ei, hi0, hi1⟩ := hv
    subst ei
    exact k i H1 hi0 hi1 b1 s1
theorem ok_longer (T : Env K mg) : ∀ n, FnOk P w K mg base CX0 (n + 4) (d_L_longer.loc K) T.fd_L_longer ["m", "told", "product"] (spLong K S n)
  | 0 => T.F_L_longer.ok sc_L_longer (fun vs H Q E (h : spLong K S 0 vs H Q E) => by obtain ⟨m, v, t, _⟩ := h; cases t) (fun cdv A outer s H vs Q E hr (h : spLong K S 0 vs H Q E) => by obtain ⟨m, v, t, _⟩ := h; cases t)
  | n + 1 => by
    have G_L_longer : FnOk P w K mg base CX0 (n + 4) _ _ _ _ := ok_longer T n
    have G_L_next : FnOk P w K mg base CX0 1 _ _ _ _ := ok_next (S := S) T
    have G_L_of : FnOk P w K mg base CX0 2 _ _ _ _ := ok_of (S := S) T
    have G_L_more : FnOk P w K mg base CX0 2 _ _ _ _ := ok_more (S := S) T
    refine T.F_L_longer.ok sc_L_longer (fun vs H Q E h => ?_) (fun cdv A outer s H vs Q E hr h => ?_)
    · obtain ⟨m, v, t, p, a, c, rfl, _⟩ := h
      rfl
    · have nd := sc_L_longer.nd
      have hu := hu_of hr
      obtain ⟨m, v, t, pr, a, c, rfl, hn, hok, hml, ht, hp1, hp2, hS, ha, hc, k⟩ := h
      have e5 : dL (n + 1) = 4 * dL n + 10 := rfl
      refine ⟨_, PSs.nox (pss_cons (ps_set (i := 3) nd rfl (Or.inl rfl) (pe_ix (ixtK (K := K)) (pv 1) (pe_un un_neg pe_int) (fun _ _ => rfl)))
 (pss_cons (ps_if (pt_cmpR op_notN (pv 3) pe_non (nomark _))
  (pss_one (ps_set (i := 3) nd rfl (Or.inl rfl) (pe_call G_L_of (hr.mono (by omega)) (by rfl) T.g__law_of T.F_L_of.kp T.bi_L_of .nil pass0 (pa_cons (pv 0) (pa_cons (pe_lst (pa_cons (pv 3) (pa_cons (pe_op op_add (pv 3) (pe_call G_L_more (hr.mono (by omega)) (by rfl) T.g__law_more T.F_L_more.kp T.bi_L_more .nil pass0 (pa_cons (pv 0) pa_nil))) (pa_cons pe_non pa_nil)))) pa_nil)))))
  pss_nil)
 (pss_cons (ps_if (pt_cmpR op_eq (pe_ix (ixtK (K := K)) (pv 1) pe_int (fun _ _ => rfl)) pe_str (nomark _))
  (pss_one (ps_ret (pe_op op_catT (pe_slice sl_tup (pv 1) po_none (po_some pe_int)) (pe_tup (pa_cons (pe_op op_add (pe_ix (ixtK (K := K)) (pv 1) pe_int (fun _ _ => rfl)) (pe_call G_L_more (hr.mono (by omega)) (by rfl) T.g__law_more T.F_L_more.kp T.bi_L_more .nil pass0 (pa_cons (pv 0) pa_nil))) (pa_cons (pe_op op_add (pe_ix (ixtK (K := K)) (pv 1) pe_int (fun _ _ => rfl)) (pe_call G_L_more (hr.mono (by omega)) (by rfl) T.g__law_more T.F_L_more.kp T.bi_L_more .nil pass0 (pa_cons (pv 0) pa_nil))) (pa_cons (pv 3) (pa_cons pe_int pa_nil))))))))
  pss_nil)
 (pss_cons (ps_set (i := 4) nd rfl (Or.inr rfl) (pe_callB (call_max2 rfl) (by rfl) T.b_max (by decide +kernel) (pa_cons (pe_ix (ixtK (K := K)) (pv 1) pe_int (fun _ _ => rfl)) (pa_cons (pe_callB (call_min2 rfl) (by rfl) T.b_min (by decide +kernel) (pa_cons (pe_op op_add (pe_ix (ixtK (K := K)) (pv 1) pe_int (fun _ _ => rfl)) (pe_op op_mul (pe_call G_L_next (hr.mono (by omega)) (by rfl) T.g__law_next T.F_L_next.kp T.bi_L_next .nil pass0 (pa_cons (pv 0) (pa_cons pe_int pa_nil))) (pe_call G_L_next (hr.mono (by omega)) (by rfl) T.g__law_next T.F_L_next.kp T.bi_L_next .nil pass0 (pa_cons (pv 0) (pa_cons pe_int pa_nil))))) (pa_cons (pe_op op_sub (pe_op op_fdivN pe_int (pv 2)) pe_int) pa_nil))) pa_nil))))
 (pss_cons (ps_set (i := 5) nd rfl (Or.inl rfl) (pe_callTy WSl.call_tuple_ofF (by rfl) T.b_tuple (by decide +kernel) (pa_cons (pe_lc (own := [("one", 6)]) (by rfl) nd (pi_tup (pe_ix (ixtK (K := K)) (pv 1) pe_int (fun _ _ => rfl))) (blkOk_by (N := ["m", "told", "product", "limit", "most", "below", "one"]) (sc := defScope s_L_longer) (by decide +kernel)) (fun _ _ _ _ _ => (pg_name (i := 6) nd rfl (Or.inl rfl))) (fun _ _ _ _ _ => pts_nil) (fun _ _ _ _ _ => (pe_call G_L_longer (hr.mono (by omega)) (by rfl) T.g__law_longer T.F_L_longer.kp T.bi_L_longer .nil pass0 (pa_cons (pv 0) (pa_cons (pv 6) (pa_cons (pe_op op_mul (pv 2) (pe_op op_add (pv 4) pe_int)) pa_nil)))))) pa_nil)))
 (pss_one (ps_ret (pe_op op_catT (pe_slice sl_tup (pv 1) po_none (po_some pe_int)) (pe_tup (pa_cons (pv 4) (pa_cons (pe_callB (call_max2 rfl) (by rfl) T.b_max (by decide +kernel) (pa_cons pe_int (pa_cons (pe_op op_sub (pe_ix (ixtK (K := K)) (pv 1) pe_int (fun _ _ => rfl)) (pe_call G_L_more (hr.mono (by omega)) (by rfl) T.g__law_more T.F_L_more.kp T.bi_L_more .nil pass0 (pa_cons (pv 0) pa_nil))) pa_nil))) (pa_cons (pv 3) (pa_cons (pv 5) pa_nil))))))))))))), ?_⟩
      obtain ⟨p, vals, lim, rfl, hp, hv2, hlok, hlow⟩ : ∃ (p : Addr) (vals : List V) (lim : Option Int), v = .ref p ∧ H p = some (.tup vals) ∧ atI vals (-2) = some (limV lim) ∧ LimOk lim ∧ LowL lim := by
        cases t with
        | inl d =>
          obtain ⟨p, rfl, hp⟩ := ht
          exact ⟨p, _, d.lim, rfl, hp, rfl, hok.2.2.2.2.1, hml.2.2⟩
        | inr x =>
          obtain ⟨p, q, ys, rfl, hp, _⟩ := ht
          exact ⟨p, _, x.1.lim, rfl, hp, rfl, hok.1.2.2.2.2.2.2.2, hml.2.1⟩
      -- limit
      refine ⟨_, rfl, _, rfl, p, vals, -2, limV lim, rfl, rfl, .of hp, hv2, ?_⟩
      dsimp only
      show tIfS _ _ _ _ _ _
      refine st_anyS (R := fun σ' H' => ∃ l' : Option Int, σ' = [some (.ref m), some (.ref p), some (.int pr), some (limV l'), none, none, none] ∧ LimLe lim l' ∧ LimOk l' ∧ But m H H' ∧ SrcAt K S H' m (a + 4) c) (fun D' q' => ?_) (fun σ' H1 ⟨l', hσ, hle, hlo, b1, s1⟩ => ?_)
      · cases lim with
        | none => exact st_no (fun Q q => ⟨_, rfl, rfl, false, rfl, q⟩) (q' _ _ ⟨none, rfl, (fun i e => nomatch e), hlok, But.refl, hS.mono (by omega)⟩)
        | some l =>
          refine st_if (b := true) (fun Q q => ⟨_, rfl, rfl, true, rfl, q⟩) ?_
          rw [if_pos rfl]
          refine ⟨.ref m, rfl, _, rfl, _, rfl, .ref m, rfl, m, a, c, rfl, hS, by omega, by omega, fun i1 H1 h0 h1 b1 s1 => ⟨l, i1, rfl, rfl, (by decide : 3 ≤ sizeLine), fun p0 hp0 => ?_⟩⟩
          refine ⟨m, p0, _, _, _, rfl, upd_same, by simp, by simp, s1.new hp0, by omega, s1.ne hp0, fun v2 H2 hv b2 s2 => ?_⟩
          have hl0 := hlok l rfl
          have hl1 := hlow l rfl
          have B := (b1.new hp0).trans b2
          simp only [List.mem_cons, List.not_mem_nil, or_false] at hv
          rcases hv with rfl | rfl | rfl
          · exact q' _ _ ⟨some l, rfl, (fun i e => ⟨l, rfl, by cases e; exact Int.le_refl _⟩), hlok, B, s2.mono (by omega)⟩
          · exact q' _ _ ⟨some (l + i1), rfl, (fun i e => ⟨l, rfl, by cases e; omega⟩), (fun i e => by cases e; exact ⟨by have := hl0.1; omega, by omega⟩), B, s2.mono (by omega)⟩
          · exact q' _ _ ⟨none, rfl, (fun i e => nomatch e), (fun i e => nomatch e), B, s2.mono (by omega)⟩
      subst hσ
      have kp1 := b1.kp hS
      have ht1 := mk_tat _ _ _ _ _ kp1 ht
      show tSeq _ _ _ _ _
      cases t with
      | inl d =>
        obtain ⟨p', e, hpd⟩ := ht1
        cases e
        have hp' := kp_tup kp1 hp
        rw [hpd] at hp'
        cases hp'
        have el : d.lim = lim := limV_inj (Option.some.inj (show some (limV d.lim) = some (limV lim) from hv2))
        refine st_if (b := true) (evb_eqS (ev_ixT rfl hpd rfl) ev_c rfl) ?_
        rw [if_pos rfl]
        have cut3 : cutV d.vals none (some 3) = [.str "worker", .str d.name, .str d.word] := rfl
        have nw3 : ¬ (HT.sIx d.vals.length 0 none = 0 ∧ HT.sIx d.vals.length d.vals.length (some 3) = d.vals.length) := by
          rintro ⟨_, h⟩
          cases h
        refine ⟨_, rfl, _, rfl, p, _, rfl, .of hpd, nw3, fun r hr' => ?_⟩
        have hr1 : upd H1 r (.tup (cutV d.vals none (some 3))) r = some (.tup (cutV d.vals none (some 3))) := upd_same
        have sr := same_new (o := .tup (cutV d.vals none (some 3))) hr'
        have hpd2 := sr _ _ hpd
        have s2 := s1.same sr
        have b2 := b1.trans (But.same sr)
        generalize upd H1 r (.tup (cutV d.vals none (some 3))) = H2 at hr1 hpd2 s2 b2
        refine ⟨_, rfl, p, _, 3, .int d.b, rfl, rfl, .of hpd2, rfl, .ref m, rfl, m, _, _, rfl, s2, by omega, by omega, fun i3 H3 h30 h31 b3 s3 => ⟨d.b, i3, rfl, rfl, ?_⟩⟩
        have k3 := b3.kp s2
        refine ⟨_, rfl, p, _, 4, .int d.e, rfl, rfl, .of (kp_tup k3 hpd2), rfl, .ref m, rfl, m, _, _, rfl, s3, by omega, by omega, fun i4 H4 h40 h41 b4 s4 => ⟨d.e, i4, rfl, rfl, ?_⟩⟩
        have k4 := k3.trans (b4.kp s3)
        refine ⟨_, rfl, (by decide : 4 ≤ sizeLine), fun r2 hr2 => ?_⟩
        refine ⟨r, r2, _, _, rfl, rfl, .of ((same_new hr2) _ _ (kp_tup k4 hr1)), .of upd_same, by rw [cut3]; exact fun z => (nomatch z), by rw [cut3]; exact (by decide : 7 ≤ sizeLine), fun z => (nomatch z), fun _ p9 hp9 => ?_⟩
        have sE := (same_new (o := .tup [.int (d.b + i3), .int (d.e + i4), limV l', .int 0]) hr2).trans (same_new (o := .tup (cutV d.vals none (some 3) ++ [.int (d.b + i3), .int (d.e + i4), limV l', .int 0])) hp9)
        refine k _ (Sum.inl { d with b := d.b + i3, e := d.e + i4, lim := l', r := 0 }) _ ⟨rfl, rfl, by show d.b ≤ d.b + i3; omega, by show d.e ≤ d.e + i4; omega, by rw [el]; exact hle⟩ ?_ ⟨p9, rfl, ?_⟩ (((b2.trans b3).trans b4).trans (But.same sE)) ((s4.same sE).mono (by omega))
        · obtain ⟨q1, q2, q3, q4, _, _, _⟩ := hok
          obtain ⟨w1, w2, _⟩ := hml
          exact ⟨q1, q2, ⟨by have := q3.1; show 0 ≤ d.b + i3; omega, by show d.b + i3 ≤ 1000000000; omega⟩, ⟨by have := q4.1; show 0 ≤ d.e + i4; omega, by show d.e + i4 ≤ 1000000000; omega⟩, hlo, Int.le_refl _, (by decide : (0 : Int) ≤ 100)⟩
        · rw [upd_same, cut3]
          rfl
      | inr x =>
        obtain ⟨d, ts⟩ := x
        obtain ⟨p', q, ys, e, hpd, hq, fa⟩ := ht1
        cases e
        have hp' := kp_tup kp1 hp
        rw [hpd] at hp'
        cases hp'
        have el : d.lim = lim := limV_inj (Option.some.inj (show some (limV d.lim) = some (limV lim) from hv2))
        have hpd : H1 p = some (.tup (d.vals q)) := hpd
        have sd : d.Ok := hok.1
        have m0 : 0 ≤ d.most := sd.2.2.2.1
        have m3 : d.most ≤ 3 := hml.1
        have tl4 : ts.length ≤ 4 := hok.2.1
        have yl := sup_len fa
        refine st_no (evb_eqS (ev_ixT rfl hpd rfl) ev_c rfl) ?_
        dsimp only
        show tSeq _ _ _ _ _
        -- most
        have p21 : pr ≤ 1000000000 := by
          have h1 : (1 : Int) ≤ 21 ^ (n + 1) := by
            have : ∀ k, (1 : Int) ≤ 21 ^ k := fun k => by
              induction k with
              | zero => decide
              | succ k ih => rw [Int.pow_succ]; omega
            exact this _
          have h2 : pr * 1 ≤ pr * 21 ^ (n + 1) := Int.mul_le_mul_of_nonneg_left h1 (by omega)
          omega
        refine ⟨_, rfl, p, _, 4, .int d.most, rfl, rfl, .of hpd, rfl, _, rfl, p, _, 4, .int d.most, rfl, rfl, .of hpd, rfl, .ref m, rfl, m, 3, _, _, rfl, by decide, by decide, s1, by omega, fun r3 H3 r30 r31 b3 s3 => ?_⟩
        refine ⟨.ref m, rfl, m, 2, _, _, rfl, by decide, by decide, s3, by omega, fun r4 H4 r40 r41 b4 s4 => ⟨r3, r4, rfl, rfl, .inl ⟨by omega, by omega⟩, d.most, _, rfl, rfl, _, rfl, 1000, pr, rfl, rfl, ⟨by omega, by omega⟩, _, 1, rfl, rfl, _, _, rfl, _, _, rfl, ?_⟩⟩
        have rr : 0 ≤ r3 * r4 ∧ r3 * r4 ≤ 2 := by
          have h3 : r3 = 0 ∨ r3 = 1 ∨ r3 = 2 := by omega
          have h4 : r4 = 0 ∨ r4 = 1 := by omega
          rcases h3 with rfl | rfl | rfl <;> rcases h4 with rfl | rfl <;> decide
        dsimp only
        generalize hmo : (if d.most < (if Int.fdiv 1000 pr - 1 < d.most + r3 * r4 then Int.fdiv 1000 pr - 1 else d.most + r3 * r4) then (if Int.fdiv 1000 pr - 1 < d.most + r3 * r4 then Int.fdiv 1000 pr - 1 else d.most + r3 * r4) else d.most) = mo
        have mo0 : d.most ≤ mo := by rw [← hmo]; split <;> omega
        have mo1 : mo ≤ 5 := by rw [← hmo]; split <;> (try split) <;> omega
        have b14 := b3.trans b4
        have k14 := b14.kp s1
        have hpd4 := kp_tup k14 hpd
        have hq4 := tq_kp k14 hq
        have fa4 := fa_kp mk_tats k14 fa
        show tSeq _ _ _ _ _
        have le4 : dL n * ts.length ≤ dL n * 4 := Nat.mul_le_mul_left _ tl4
        -- below
        refine st_any (R := fun v' H' => ∃ (q' : Addr) (us : List (Told n)) (ys' : List V), v' = .ref q' ∧ WSl.TQ H' q' ys' ∧ us.length = ts.length ∧ (∀ (j : Nat) (t u : Told n), ts[j]? = some t → us[j]? = some u → Longer n t u ∧ Told.Ok n u) ∧ Fa (us.map (TAt n)) ys' H' ∧ But m H4 H' ∧ SrcAt K S H' m (a + 6 + dL n * ts.length) c) (fun Q' q' => ?_) (fun v' H5 ⟨q3, us, ys3, e3, hq3, ul, hus, fa5, b5, S5⟩ => ?_)
        · refine te_cbR ?_
          refine lcDi (m := m) (n := ts.length) (d := dL n) (a := a + 6) (φ := fun i x => ys[i]? = some x) (P := fun i y H => ∃ t u : Told n, ts[i]? = some t ∧ (Longer n t u ∧ Told.Ok n u) ∧ TAt n u y H) (fun R r => ?_) (s4.mono (by omega)) (fun i y H H' s h => ?_) (by omega) (by omega) (fun i x a' H5 hi hx b5 s5 ha' Q2 q2 => ?_) (fun l acc H5 hl la pa b5 s5 => ?_)
          · exact ⟨_, rfl, p, _, 7, .ref q, rfl, rfl, .of hpd4, rfl, q, rfl, ⟨ys, hq4.sq⟩, r (Itt K q) _ _ H4 (Same.refl _) (show Walk (Itt K q) ts.length (fun H' => SqT K H' q ys) (YAt ys) by rw [← yl]; exact walk_tup) (fun H3 b => (tq_kp (b.kp s4) hq4).sq) fun i H x H' y => ⟨y.1, y.2⟩⟩
          · obtain ⟨t, u, h1, h2, h3⟩ := h
            exact ⟨t, u, h1, h2, mk_tat n u _ _ _ s h3⟩
          · obtain ⟨t, ht, px⟩ := sup_get fa4 hx
            have tm := List.mem_of_getElem? ht
            have hpp : pr * (mo + 1) * 21 ^ n ≤ 1000000000 := by
              have h1 : pr * (mo + 1) ≤ pr * 21 := Int.mul_le_mul_of_nonneg_left (by omega) (by omega)
              have h2 : pr * (mo + 1) * 21 ^ n ≤ pr * 21 * 21 ^ n := Int.mul_le_mul_of_nonneg_right h1 (Int.pow_nonneg (by decide))
              have h3 : pr * 21 * 21 ^ n = pr * 21 ^ (n + 1) := by rw [Int.pow_succ, Int.mul_assoc, Int.mul_comm 21]
              omega
            have hp1' : 1 ≤ pr * (mo + 1) := by
              have : pr * 1 ≤ pr * (mo + 1) := Int.mul_le_mul_of_nonneg_left (by omega) (by omega)
              omega
            exact ⟨_, rfl, _, rfl, _, rfl, _, rfl, _, _, rfl, rfl, _, _, rfl, rfl, .inr ⟨by omega, by omega⟩, m, x, t, pr * (mo + 1), a', c, rfl, by omega, hok.2.2 t tm, hml.2.2 t tm, mk_tat n t _ _ _ (b5.kp s4) px, hp1', hpp, s5, by omega, hc, fun v' u H6 h1 h2 h3 b6 s6 => q2 v' H6 b6 s6 ⟨t, u, ht, ⟨h1, h2⟩, h3⟩⟩
          · obtain ⟨us, g1, g2, g3⟩ := pick_R (R := fun t u => Longer n t u ∧ Told.Ok n u) la pa
            refine ⟨l, acc, rfl, .of hl, fun l2 ob h2 hob => q' _ _ ⟨l2, us, acc, rfl, ⟨ob, upd_same, hob⟩, g1, g2, mn_fa mk_tats _ _ _ (same_new h2) g3, b5.new h2, s5.new h2⟩⟩
        subst e3
        have k5 := b5.kp s4
        have hpd5 := kp_tup k5 hpd4
        have B5 := (b1.trans b14).trans b5
        clear b3 b4 b14 s1 s3 s4 fa fa4 hq hq4 k14
        dsimp only
        have cut4 : cutV (d.vals q) none (some 4) = [.str "supervisor", .str d.name, .str d.word, .str d.way] := rfl
        have nw4 : ¬ (HT.sIx (d.vals q).length 0 none = 0 ∧ HT.sIx (d.vals q).length (d.vals q).length (some 4) = (d.vals q).length) := by
          rintro ⟨_, h⟩
          cases h
        show tRet _ _ _ _
        refine ⟨_, rfl, _, rfl, p, _, rfl, .of hpd5, nw4, fun r hr' => ?_⟩
        have hr1 : upd H5 r (.tup (cutV (d.vals q) none (some 4))) r = some (.tup (cutV (d.vals q) none (some 4))) := upd_same
        have sr := same_new (o := .tup (cutV (d.vals q) none (some 4))) hr'
        have hpd6 := sr _ _ hpd5
        have s6 := S5.same sr
        have b6 := B5.trans (But.same sr)
        have hq6 := hq3.mn sr
        have fa6 := mn_fa mk_tats _ _ _ sr fa5
        generalize upd H5 r (.tup (cutV (d.vals q) none (some 4))) = H6 at hr1 hpd6 s6 b6 hq6 fa6
        refine ⟨_, rfl, _, rfl, p, _, 5, .int d.span, rfl, rfl, .of hpd6, rfl, .ref m, rfl, m, _, _, rfl, s6, by omega, by omega, fun i7 H7 h70 h71 b7 s7 => ⟨d.span, i7, rfl, rfl, _, _, rfl, ?_⟩⟩
        dsimp only
        generalize hsp : (if d.span - i7 > 1 then d.span - i7 else 1) = spn
        have sp0 : 1 ≤ spn := by rw [← hsp]; split <;> omega
        have sp1 : spn ≤ d.span := by have := sd.2.2.2.2.2.1; rw [← hsp]; split <;> omega
        have k7 := b7.kp s6
        refine ⟨_, rfl, _, rfl, (by decide : 4 ≤ sizeLine), fun r2 hr2 => ?_⟩
        refine ⟨r, r2, _, _, rfl, rfl, .of ((same_new hr2) _ _ (kp_tup k7 hr1)), .of upd_same, by rw [cut4]; exact fun z => (nomatch z), by rw [cut4]; exact (by decide : 8 ≤ sizeLine), fun z => (nomatch z), fun _ p9 hp9 => ?_⟩
        have sE := (same_new (o := .tup [.int mo, .int spn, limV l', .ref q3]) hr2).trans (same_new (o := .tup (cutV (d.vals q) none (some 4) ++ [.int mo, .int spn, limV l', .ref q3])) hp9)
        refine k _ (Sum.inr ({ d with most := mo, span := spn, lim := l' }, us)) _ ⟨⟨rfl, rfl, rfl, mo0, sp1, by rw [el]; exact hle⟩, ul, fun i t u h1 h2 => (hus i t u h1 h2).1⟩ ?_ ⟨p9, q3, ys3, rfl, ?_, (tq_kp k7 hq6).mn sE, mn_fa mk_tats _ _ _ sE (fa_kp mk_tats k7 fa6)⟩ ((b6.trans b7).trans (But.same sE)) ((s7.same sE).mono (by omega))
        · refine ⟨⟨sd.1, sd.2.1, sd.2.2.1, by show 0 ≤ mo; omega, by show mo ≤ 20; omega, sp0, by have := sd.2.2.2.2.2.2.1; show spn ≤ 1000000000; omega, hlo⟩, by show us.length ≤ 4; omega, fun u hu => ?_⟩
          obtain ⟨j, hj⟩ := List.getElem?_of_mem hu
          have hjl : j < us.length := (List.getElem?_eq_some_iff.mp hj).1
          exact (hus j _ u (List.getElem?_eq_getElem (by omega)) hj).2
        · rw [upd_same, cut4]
          rfl
end
end W48

set_option Elab.async false
set_option linter.all false
set_option maxRecDepth 100000
set_option maxHeartbeats 4000000
namespace W48
open PySem PySem.Spec PyProof.Rows L2 WXG WEv WRd WLf WEn WZs WRu WSt StX WDc WCg
/-! ### times multiplied -/
def WD.times (k : Int) (d : WD) : WD := { d with b := k * d.b, e := k * d.e, lim := d.lim.map (k * ·), r := 0 }
def SD.times (k : Int) (d : SD) : SD := { d with span := k * d.span, lim := d.lim.map (k * ·) }
def Told.times (k : Int) : (n : Nat) → Told n → Told n
  | 0, t => t
  | n + 1, t => match (show WD ⊕ (SD × List (Told n)) from t) with
    | .inl d => Sum.inl (d.times k)
    | .inr x => Sum.inr (x.1.times k, x.2.map (Told.times k n))
def spTim (K : PySem.W.Frag) (n : Nat) : Sp := fun vs H Q _ => ∃ (v : V) (t : Told n) (k : Int), vs = [v, .int k] ∧ 0 ≤ k ∧ k ≤ 1000000000 ∧ n ≤ 6 ∧ Told.Ok n t ∧ TAt n t v H ∧ ∀ v' H', Same H H' → TAt n (Told.times k n t) v' H' → Q v' H'
/-- no number of ticks is greater -/
def Bnd (g : Int) : (n : Nat) → Told n → Prop
  | 0, _ => True
  | n + 1, t => match (show WD ⊕ (SD × List (Told n)) from t) with
    | .inl d => d.b ≤ g ∧ d.e ≤ g ∧ ∀ i, d.lim = some i → i ≤ g
    | .inr x => x.1.span ≤ g ∧ (∀ i, x.1.lim = some i → i ≤ g) ∧ ∀ t ∈ x.2, Bnd g n t
theorem Bnd.mono {g g' : Int} (hg : g ≤ g') : ∀ (n : Nat) (t : Told n), Bnd g n t → Bnd g' n t
  | 0, t, _ => t.elim
  | n + 1, .inl d, h => ⟨Int.le_trans h.1 hg, Int.le_trans h.2.1 hg, fun i e => Int.le_trans (h.2.2 i e) hg⟩
  | n + 1, .inr x, h => ⟨Int.le_trans h.1 hg, fun i e => Int.le_trans (h.2.1 i e) hg, fun t ht => Bnd.mono hg n t (h.2.2 t ht)⟩
def spGr (K : PySem.W.Frag) (n : Nat) : Sp := fun vs H Q _ => ∃ (v : V) (t : Told n), vs = [v] ∧ n ≤ 6 ∧ Told.Ok n t ∧ TAt n t v H ∧ ∀ g H', 1 ≤ g → g ≤ 1000000000 → Bnd g n t → Same H H' → Q (.int g) H'
def spSmall (K : PySem.W.Frag) (n : Nat) : Sp := fun vs H Q _ => ∃ (v : V) (t : Told n) (p : Nat), vs = [v, .int ((p : Nat) : Int)] ∧ n ≤ 6 ∧ Told.Ok n t ∧ TAt n t v H ∧ ∀ b H', (b = true → p ≤ 1000 → Told.great n t * p ≤ 1000) → Same H H' → Q (.bl b) H'
def GrV {n : Nat} (t : Told n) : HP V := fun v _ => ∃ g : Int, v = .int g ∧ 1 ≤ g ∧ g ≤ 1000000000 ∧ Bnd g n t
theorem grs_of {n : Nat} {H : Hp} : ∀ {ts : List (Told n)} {xs : List V}, Fa (ts.map GrV) xs H → ∃ gs : List Int, xs = gs.map V.int ∧ (∀ g ∈ gs, 1 ≤ g ∧ g ≤ 1000000000) ∧ ∀ t ∈ ts, ∃ g ∈ gs, Bnd g n t
  | [], [], _ => ⟨[], rfl, (fun _ h => nomatch h), fun _ h => nomatch h⟩
  | t :: ts, x :: xs, h => by
    obtain ⟨g, rfl, h1, h2, h3⟩ := h.1
    obtain ⟨gs, e, h4, h5⟩ := grs_of h.2
    refine ⟨g :: gs, by rw [e]; rfl, fun y hy => ?_, fun u hu => ?_⟩
    · rcases List.mem_cons.mp hy with rfl | hy
      · exact ⟨h1, h2⟩
      · exact h4 y hy
    · rcases List.mem_cons.mp hu with rfl | hu
      · exact ⟨g, List.mem_cons_self, h3⟩
      · obtain ⟨g', hg, hb⟩ := h5 u hu
        exact ⟨g', List.mem_cons_of_mem _ hg, hb⟩
  | [], _ :: _, h => h.elim
  | _ :: _, [], h => h.elim
section
variable {K : PySem.W.Frag} {σ : L2.St} {H : Hp}
theorem ev_orZ {ta : TE} {l : Option Int} (h : Ev ta σ H (limV l)) : Ev (tOrZ ta (tC (.int 0))) σ H (.int (l.getD 0)) := fun Q q => h _ (by
  cases l with
  | none => exact .inl ⟨rfl, q⟩
  | some i =>
    refine .inr ⟨i, rfl, fun h0 => ?_, fun _ => q⟩
    subst h0
    exact q)
theorem ev_ixN {i : Nat} {p : Addr} {xs : List V} {v : V} (h : σ[i]? = some (some (.ref p))) (hp : H p = some (.tup xs)) (e : atI xs (-2) = some v) {te : TE} (hn : ∀ Q : VK, Q (.int (-2)) H → te σ H Q) : Ev (tOp (rIxT K) (tVar i) te) σ H v := fun Q q => ⟨_, h, hn _ ⟨p, xs, -2, v, rfl, rfl, .of hp, e, q⟩⟩
/-- [v for v in a sequence if ..] -/
theorem lc_any {te : TE} {tt : TT} {wi : TI} {v : Nat} {J : It} {Gw : Hp → Prop} {ys : List V} {Good : Nat → Prop} {Q : VK} (hw : ∀ R : It → Hp → Prop, R J H → wi σ H R) (wk : Walk J ys.length Gw (YAt ys)) (hg : ∀ H1, Same H H1 → Gw H1) (hz : ys.length ≤ 1000)
    (ht : ∀ (i : Nat) (x : V) (H1 : Hp), ys[i]? = some x → Same H H1 → ∀ Q : Bool → Hp → Prop, (∀ b H2, (b = false → Good i) → Same H1 H2 → Q b H2) → tt ((σ.set v none).set v (some x)) H1 Q)
    (he : ∀ (x : V) (H1 : Hp), Ev te ((σ.set v none).set v (some x)) H1 x)
    (k : ∀ l acc H1, Same H H1 → H1 l = some (.lst acc) → (acc = [] → ∀ i, i < ys.length → Good i) → Q (.ref l) H1) : tLc wi (gName v) tt te [v] σ H Q := by
  refine hw _ ?_
  intro Dd hD
  show ∃ W, _
  refine lc_it wk (fun i H' => Same H H' ∧ ∃ acc, H' Dd = some (.lst acc) ∧ acc.length ≤ i ∧ (acc = [] → ∀ j, j < i → Good j)) ⟨same_new hD, [], upd_same, Nat.zero_le _, fun _ j h => absurd h (Nat.not_lt_zero _)⟩ (fun _ H' _ p => hg H' p.1) (fun i x H2 H3 hi p y => ?_) (fun H2 p => ?_)
  · obtain ⟨s2, acc, hd, la, fa⟩ := p
    obtain ⟨rfl, hx⟩ := y
    refine ⟨(List.set_set ..).trans (List.set_set ..), ?_⟩
    refine ht i x _ hx s2 _ fun b H5 hb s5 => ?_
    cases b with
    | true =>
      rw [if_pos rfl]
      refine he x H5 _ ⟨acc, s5 _ _ hd, Nat.lt_of_le_of_lt (show acc.length ≤ 1000 by omega) (by decide), same_put (s2.trans s5) hD, acc ++ [x], upd_same, by rw [List.length_append]; exact Nat.succ_le_succ la, fun z => ?_⟩
      exact absurd z (by simp)
    | false =>
      rw [if_neg Bool.false_ne_true]
      refine ⟨s2.trans s5, acc, s5 _ _ hd, Nat.le_succ_of_le la, fun z j hj => ?_⟩
      by_cases hji : j = i
      · subst hji
        exact hb rfl
      · exact fa z j (by omega)
  · obtain ⟨s2, acc, hd, la, fa⟩ := p
    exact k Dd acc H2 s2 hd fa
end
section
variable {P : Program} {w : World} {K : PySem.W.Frag} {mg : Str → Option Value} {base : Heap}
theorem ok_ltimes (T : Env K mg) : ∀ n, FnOk P w K mg base CX0 (n + 1) (d_L_times.loc K) T.fd_L_times ["told", "k"] (spTim K n)
  | 0 => T.F_L_times.ok sc_L_times (fun vs H Q E (h : spTim K 0 vs H Q E) => by obtain ⟨v, t, _⟩ := h; cases t) (fun cdv A outer s H vs Q E hr (h : spTim K 0 vs H Q E) => by obtain ⟨v, t, _⟩ := h; cases t)
  | n + 1 => by
    have G_L_times : FnOk P w K mg base CX0 (n + 1) _ _ _ _ := ok_ltimes T n
    refine T.F_L_times.ok sc_L_times (fun vs H Q E h => ?_) (fun cdv A outer s H vs Q E hr h => ?_)
    · obtain ⟨v, t, k, rfl, _⟩ := h
      rfl
    · have nd := sc_L_times.nd
      have hu := hu_of hr
      obtain ⟨v, t, kk, rfl, hk0, hk1, hn, hok, ht, k⟩ := h
      refine ⟨_, PSs.nox (pss_cons (ps_set (i := 2) nd rfl (Or.inl rfl) (pe_ifExp (pt_cmpR op_isN (pe_ix (ixtK (K := K)) (pv 0) (pe_un un_neg pe_int) (fun _ _ => rfl)) pe_non (nomark _)) pe_non (pe_op op_mul (pv 1) (pe_ix (ixtK (K := K)) (pv 0) (pe_un un_neg pe_int) (fun _ _ => rfl)))))
 (pss_cons (ps_if (pt_cmpR op_eq (pe_ix (ixtK (K := K)) (pv 0) pe_int (fun _ _ => rfl)) pe_str (nomark _))
  (pss_one (ps_ret (pe_op op_catT (pe_slice sl_tup (pv 0) po_none (po_some pe_int)) (pe_tup (pa_cons (pe_op op_mul (pv 1) (pe_ix (ixtK (K := K)) (pv 0) pe_int (fun _ _ => rfl))) (pa_cons (pe_op op_mul (pv 1) (pe_ix (ixtK (K := K)) (pv 0) pe_int (fun _ _ => rfl))) (pa_cons (pv 2) (pa_cons pe_int pa_nil))))))))
  pss_nil)
 (pss_one (ps_ret (pe_op op_catT (pe_slice sl_tup (pv 0) po_none (po_some pe_int)) (pe_tup (pa_cons (pe_op op_mul (pv 1) (pe_ix (ixtK (K := K)) (pv 0) pe_int (fun _ _ => rfl))) (pa_cons (pv 2) (pa_cons (pe_callTy WSl.call_tuple_ofF (by rfl) T.b_tuple (by decide +kernel) (pa_cons (pe_lc (own := [("one", 3)]) (by rfl) nd (pi_tup (pe_ix (ixtK (K := K)) (pv 0) pe_int (fun _ _ => rfl))) (blkOk_by (N := ["told", "k", "limit", "one"]) (sc := defScope s_L_times) (by decide +kernel)) (fun _ _ _ _ _ => (pg_name (i := 3) nd rfl (Or.inl rfl))) (fun _ _ _ _ _ => pts_nil) (fun _ _ _ _ _ => (pe_call G_L_times (hr.mono (by omega)) (by rfl) T.g__law_times T.F_L_times.kp T.bi_L_times .nil pass0 (pa_cons (pv 3) (pa_cons (pv 1) pa_nil))))) pa_nil)) pa_nil))))))))), ?_⟩
      have limit : ∀ {p : Addr} {vals : List V} {lim : Option Int} {D : Ends}, v = .ref p → H p = some (.tup vals) → atI vals (-2) = some (limV lim) → D.nx [some v, some (.int kk), some (limV (lim.map (kk * ·))), none] H →
          tAsg (tIf (tTest (tOp (fun x y H Q => y = V.non ∧ Q (.bl (decide (x = V.non))) H) (tOp (rIxT K) (tVar 0) (tUn (fun x H Q => ∃ i, x = V.int i ∧ Q (.int (-i)) H) (tC (.int 2)))) (tC .non))) (tC .non) (tOp (rI CMul fun i j => V.int (i * j)) (tVar 1) (tOp (rIxT K) (tVar 0) (tUn (fun x H Q => ∃ i, x = V.int i ∧ Q (.int (-i)) H) (tC (.int 2)))))) (gName 2) D [some v, some (.int kk), none, none] H := by
        intro p vals lim D hv hp h2 q
        subst hv
        cases lim with
        | none =>
          refine ⟨_, rfl, _, rfl, p, vals, -2, .non, rfl, rfl, .of hp, h2, rfl, true, rfl, ?_⟩
          dsimp only
          rw [if_pos rfl]
          exact q
        | some l =>
          refine ⟨_, rfl, _, rfl, p, vals, -2, .int l, rfl, rfl, .of hp, h2, rfl, false, rfl, ?_⟩
          dsimp only
          rw [if_neg Bool.false_ne_true]
          exact ⟨_, rfl, _, rfl, _, rfl, p, vals, -2, .int l, rfl, rfl, .of hp, h2, kk, l, rfl, rfl, .inl ⟨by omega, by omega⟩, q⟩
      cases t with
      | inl d =>
        obtain ⟨p, rfl, hp⟩ := ht
        refine limit rfl hp rfl ?_
        dsimp only
        show tSeq _ _ _ _ _
        refine st_if (b := true) (evb_eqS (ev_ixT rfl hp rfl) ev_c rfl) ?_
        rw [if_pos rfl]
        have cut3 : cutV d.vals none (some 3) = [.str "worker", .str d.name, .str d.word] := rfl
        have nw3 : ¬ (HT.sIx d.vals.length 0 none = 0 ∧ HT.sIx d.vals.length d.vals.length (some 3) = d.vals.length) := by
          rintro ⟨_, h⟩
          cases h
        refine ⟨_, rfl, _, rfl, p, _, rfl, .of hp, nw3, fun r hr' => ?_⟩
        have hr1 : upd H r (.tup (cutV d.vals none (some 3))) r = some (.tup (cutV d.vals none (some 3))) := upd_same
        have sr := same_new (o := .tup (cutV d.vals none (some 3))) hr'
        have hp2 := sr _ _ hp
        generalize upd H r (.tup (cutV d.vals none (some 3))) = H2 at hr1 hp2 sr
        refine ⟨_, rfl, _, rfl, p, _, 3, .int d.b, rfl, rfl, .of hp2, rfl, kk, d.b, rfl, rfl, .inl ⟨by omega, by omega⟩, _, rfl, _, rfl, p, _, 4, .int d.e, rfl, rfl, .of hp2, rfl, kk, d.e, rfl, rfl, .inl ⟨by omega, by omega⟩, _, rfl, (by decide : 4 ≤ sizeLine), fun r2 hr2 => ?_⟩
        refine ⟨r, r2, _, _, rfl, rfl, .of ((same_new hr2) _ _ hr1), .of upd_same, by rw [cut3]; exact fun z => (nomatch z), by rw [cut3]; exact (by decide : 7 ≤ sizeLine), fun z => (nomatch z), fun _ p9 hp9 => ?_⟩
        refine k (.ref p9) _ ((sr.trans (same_new hr2)).trans (same_new hp9)) ⟨p9, rfl, ?_⟩
        rw [upd_same, cut3]
        rfl
      | inr x =>
        obtain ⟨d, ts⟩ := x
        obtain ⟨p, q, ys, rfl, hp, hq, fa⟩ := ht
        have hp : H p = some (.tup (d.vals q)) := hp
        have yl : ys.length = ts.length := sup_len fa
        have tl4 : ts.length ≤ 4 := hok.2.1
        refine limit rfl hp rfl ?_
        dsimp only
        show tSeq _ _ _ _ _
        refine st_no (evb_eqS (ev_ixT rfl hp rfl) ev_c rfl) ?_
        have cut5 : cutV (d.vals q) none (some 5) = [.str "supervisor", .str d.name, .str d.word, .str d.way, .int d.most] := rfl
        have nw5 : ¬ (HT.sIx (d.vals q).length 0 none = 0 ∧ HT.sIx (d.vals q).length (d.vals q).length (some 5) = (d.vals q).length) := by
          rintro ⟨_, h⟩
          cases h
        refine ⟨_, rfl, _, rfl, p, _, rfl, .of hp, nw5, fun r hr' => ?_⟩
        have hr1 : upd H r (.tup (cutV (d.vals q) none (some 5))) r = some (.tup (cutV (d.vals q) none (some 5))) := upd_same
        have sr := same_new (o := .tup (cutV (d.vals q) none (some 5))) hr'
        have hp2 := sr _ _ hp
        have hq2 := hq.mn sr
        have fa2 := mn_fa mk_tats _ _ _ sr fa
        generalize upd H r (.tup (cutV (d.vals q) none (some 5))) = H2 at hr1 hp2 hq2 fa2 sr
        refine ⟨_, rfl, _, rfl, p, _, 5, .int d.span, rfl, rfl, .of hp2, rfl, kk, d.span, rfl, rfl, .inl ⟨by omega, by omega⟩, _, rfl, ?_⟩
        show tCB _ _ _ _ _
        refine te_cbR ?_
        refine (g_lcT (j := 7) (q := q) (Ps := ts.map fun t => TAt n (Told.times kk n t)) rfl hp2 rfl hq2 (by rw [List.length_map, yl]) (by rw [yl]; omega) (fun P hP => by
          obtain ⟨t, _, rfl⟩ := List.mem_map.mp hP
          exact mk_tat n _) fun i x P H3 hx hP s3 Q2 q2 => ?_).ev _ (Same.refl _) _ fun vl H3 s3 pl => ?_
        · obtain ⟨t, ht, px⟩ := sup_get fa2 hx
          rw [List.getElem?_map, ht] at hP
          cases hP
          exact ⟨_, rfl, _, rfl, x, t, kk, rfl, hk0, hk1, by omega, hok.2.2 t (List.mem_of_getElem? ht), (mk_tat n t).mn _ _ _ s3 px, q2⟩
        · obtain ⟨l, acc, rfl, hl, fl⟩ := pl
          refine ⟨l, acc, rfl, .of hl, fun l2 ob h2 hob => ⟨(by decide : 3 ≤ sizeLine), fun r2 hr2 => ?_⟩⟩
          have s4 := same_new (o := .frz ob (.tup acc)) h2
          have hl2 : WSl.TQ (upd H3 l2 (.frz ob (.tup acc))) l2 acc := ⟨ob, upd_same, hob⟩
          generalize upd H3 l2 (.frz ob (.tup acc)) = H4 at s4 hl2 hr2 ⊢
          refine ⟨r, r2, _, _, rfl, rfl, .of ((same_new hr2) _ _ (s4 _ _ (s3 _ _ hr1))), .of upd_same, by rw [cut5]; exact fun z => (nomatch z), by rw [cut5]; exact (by decide : 8 ≤ sizeLine), fun z => (nomatch z), fun _ p9 hp9 => ?_⟩
          have s5 := (same_new (o := .tup [.int (kk * d.span), limV (d.lim.map (kk * ·)), .ref l2]) hr2).trans (same_new (o := .tup (cutV (d.vals q) none (some 5) ++ [.int (kk * d.span), limV (d.lim.map (kk * ·)), .ref l2])) hp9)
          refine k (.ref p9) _ (((sr.trans s3).trans s4).trans s5) ⟨p9, l2, acc, rfl, ?_, hl2.mn s5, ?_⟩
          · rw [upd_same, cut5]
            rfl
          · have := mn_fa (fun P hP => by
              obtain ⟨t, _, rfl⟩ := List.mem_map.mp hP
              exact mk_tat n _) _ _ _ (s4.trans s5) fl
            rw [List.map_map]
            exact this
theorem ok_greatest (T : Env K mg) : ∀ n, FnOk P w K mg base CX0 (n + 1) (d_L_greatest.loc K) T.fd_L_greatest ["told"] (spGr K n)
  | 0 => T.F_L_greatest.ok sc_L_greatest (fun vs H Q E (h : spGr K 0 vs H Q E) => by obtain ⟨v, t, _⟩ := h; cases t) (fun cdv A outer s H vs Q E hr (h : spGr K 0 vs H Q E) => by obtain ⟨v, t, _⟩ := h; cases t)
  | n + 1 => by
    have G_L_greatest : FnOk P w K mg base CX0 (n + 1) _ _ _ _ := ok_greatest T n
    refine T.F_L_greatest.ok sc_L_greatest (fun vs H Q E h => ?_) (fun cdv A outer s H vs Q E hr h => ?_)
    · obtain ⟨v, t, rfl, _⟩ := h
      rfl
    · have nd := sc_L_greatest.nd
      have hu := hu_of hr
      obtain ⟨v, t, rfl, hn, hok, ht, k⟩ := h
      refine ⟨_, PSs.nox (pss_cons (ps_set (i := 1) nd rfl (Or.inl rfl) (pe_lst (pa_cons (WCg.pe_orZ (pe_ix (ixtK (K := K)) (pv 0) (pe_un un_neg pe_int) (fun _ _ => rfl)) pe_int) (pa_cons (WCg.pe_orZ (pe_ix (ixtK (K := K)) (pv 0) pe_int (fun _ _ => rfl)) pe_int) pa_nil))))
 (pss_cons (ps_if (pt_cmpR op_eq (pe_ix (ixtK (K := K)) (pv 0) pe_int (fun _ _ => rfl)) pe_str (nomark _))
  (pss_one (ps_ret (pe_callB (cr_max rfl) (by rfl) T.b_max (by decide +kernel) (pa_cons (pe_op op_cat (pv 1) (pe_lst (pa_cons pe_int (pa_cons (pe_ix (ixtK (K := K)) (pv 0) pe_int (fun _ _ => rfl)) (pa_cons (pe_ix (ixtK (K := K)) (pv 0) pe_int (fun _ _ => rfl)) pa_nil))))) pa_nil))))
  pss_nil)
 (pss_one (ps_ret (pe_callB (cr_max rfl) (by rfl) T.b_max (by decide +kernel) (pa_cons (pe_op op_cat (pe_op op_cat (pv 1) (pe_lst (pa_cons pe_int pa_nil))) (pe_lc (own := [("one", 2)]) (by rfl) nd (pi_tup (pe_ix (ixtK (K := K)) (pv 0) pe_int (fun _ _ => rfl))) (blkOk_by (N := ["told", "numbers", "one"]) (sc := defScope s_L_greatest) (by decide +kernel)) (fun _ _ _ _ _ => (pg_name (i := 2) nd rfl (Or.inl rfl))) (fun _ _ _ _ _ => pts_nil) (fun _ _ _ _ _ => (pe_call G_L_greatest (hr.mono (by omega)) (by rfl) T.g__law_greatest T.F_L_greatest.kp T.bi_L_greatest .nil pass0 (pa_cons (pv 2) pa_nil))))) pa_nil)))))), ?_⟩
      have gd : ∀ {l : Option Int}, LimOk l → 0 ≤ l.getD 0 ∧ l.getD 0 ≤ 1000000000 := fun {l} h => by
        cases l with
        | none => exact ⟨by decide, by decide⟩
        | some i => exact h i rfl
      have ge : ∀ {l : Option Int} {g : Int}, l.getD 0 ≤ g → ∀ i, l = some i → i ≤ g := fun {l g} h i e => by
        subst e
        exact h
      cases t with
      | inl d =>
        obtain ⟨p, rfl, hp⟩ := ht
        refine (ev_orZ (l := d.lim) (ev_ixN (v := limV d.lim) rfl hp rfl fun Q q => ⟨_, rfl, q⟩)) _ ?_
        refine (ev_orZ (l := d.lim) (ev_ixT (v := limV d.lim) rfl hp rfl)) _ ⟨(by decide : 2 ≤ sizeLine), fun l hl => ?_⟩
        have s1 := same_new (o := .lst [.int (d.lim.getD 0), .int (d.lim.getD 0)]) hl
        have hl1 : upd H l (.lst [.int (d.lim.getD 0), .int (d.lim.getD 0)]) l = some (.lst [.int (d.lim.getD 0), .int (d.lim.getD 0)]) := upd_same
        have hp1 := s1 _ _ hp
        generalize upd H l (.lst [.int (d.lim.getD 0), .int (d.lim.getD 0)]) = H1 at s1 hl1 hp1
        dsimp only
        show tSeq _ _ _ _ _
        refine st_if (b := true) (evb_eqS (ev_ixT rfl hp1 rfl) ev_c rfl) ?_
        rw [if_pos rfl]
        refine ⟨_, rfl, _, rfl, p, _, 3, .int d.b, rfl, rfl, .of hp1, rfl, _, rfl, p, _, 4, .int d.e, rfl, rfl, .of hp1, rfl, (by decide : 3 ≤ sizeLine), fun l2 hl2 => ?_⟩
        refine ⟨l, l2, _, _, rfl, rfl, (same_new hl2) _ _ hl1, upd_same, (by decide : 5 ≤ sizeLine), fun l3 hl3 => ?_⟩
        refine ⟨l3, [d.lim.getD 0, d.lim.getD 0, 1, d.b, d.e], rfl, .of upd_same, by simp, fun g hg hle => ?_⟩
        have g0 := gd hok.2.2.2.2.1
        have g1 := hok.2.2.1
        have g2 := hok.2.2.2.1
        refine k g _ (hle 1 (by simp)) ?_ ⟨hle d.b (by simp), hle d.e (by simp), ge (hle _ List.mem_cons_self)⟩ ((s1.trans (same_new hl2)).trans (same_new hl3))
        simp only [List.mem_cons, List.not_mem_nil, or_false] at hg
        rcases hg with rfl | rfl | rfl | rfl | rfl
        · exact g0.2
        · exact g0.2
        · decide
        · exact g1.2
        · exact g2.2
      | inr x =>
        obtain ⟨d, ts⟩ := x
        obtain ⟨p, q, ys, rfl, hp, hq, fa⟩ := ht
        have hp : H p = some (.tup (d.vals q)) := hp
        have yl : ys.length = ts.length := sup_len fa
        have tl4 : ts.length ≤ 4 := hok.2.1
        have sd : d.Ok := hok.1
        refine (ev_orZ (l := d.lim) (ev_ixN (v := limV d.lim) rfl hp rfl fun Q q => ⟨_, rfl, q⟩)) _ ?_
        refine (ev_orZ (l := some d.span) (ev_ixT (v := .int d.span) rfl hp rfl) : Ev _ _ _ (.int d.span)) _ ⟨(by decide : 2 ≤ sizeLine), fun l hl => ?_⟩
        have s1 := same_new (o := .lst [.int (d.lim.getD 0), .int ((some d.span).getD 0)]) hl
        have hl1 : upd H l (.lst [.int (d.lim.getD 0), .int ((some d.span).getD 0)]) l = some (.lst [.int (d.lim.getD 0), .int ((some d.span).getD 0)]) := upd_same
        have hp1 := s1 _ _ hp
        have hq1 := hq.mn s1
        have fa1 := mn_fa mk_tats _ _ _ s1 fa
        have hl' : H l = none := hl
        generalize upd H l (.lst [.int (d.lim.getD 0), .int ((some d.span).getD 0)]) = H1 at s1 hl1 hp1 hq1 fa1
        have hl1 : H1 l = some (.lst [.int (d.lim.getD 0), .int d.span]) := hl1
        show tSeq _ _ _ _ _
        refine st_no (evb_eqS (ev_ixT rfl hp1 rfl) ev_c rfl) ?_
        refine ⟨_, rfl, (by decide : 1 ≤ sizeLine), fun l2 hl2 => ⟨l, l2, _, _, rfl, rfl, (same_new hl2) _ _ hl1, upd_same, (by decide : 3 ≤ sizeLine), fun l3 hl3 => ?_⟩⟩
        have s3 := (same_new (o := .lst [.int 1]) hl2).trans (same_new (o := .lst ([.int (d.lim.getD 0), .int d.span] ++ [.int 1])) hl3)
        have hl33 : upd (upd H1 l2 (.lst [.int 1])) l3 (.lst ([.int (d.lim.getD 0), .int d.span] ++ [.int 1])) l3 = some (.lst ([.int (d.lim.getD 0), .int d.span] ++ [.int 1])) := upd_same
        have hp3 := s3 _ _ hp1
        have hq3 := hq1.mn s3
        have fa3 := mn_fa mk_tats _ _ _ s3 fa1
        generalize upd (upd H1 l2 (.lst [.int 1])) l3 (.lst ([.int (d.lim.getD 0), .int d.span] ++ [.int 1])) = H3 at s3 hl33 hp3 hq3 fa3
        refine (g_lcT (j := 7) (q := q) (Ps := ts.map GrV) rfl hp3 rfl hq3 (by rw [List.length_map, yl]) (by rw [yl]; omega) (fun P hP => by
          obtain ⟨t, _, rfl⟩ := List.mem_map.mp hP
          exact fun _ _ _ _ h => h) fun i x P H4 hx hP s4 Q2 q2 => ?_).ev _ (Same.refl _) _ fun vl H4 s4 pl => ?_
        · obtain ⟨t, ht, px⟩ := sup_get fa3 hx
          rw [List.getElem?_map, ht] at hP
          cases hP
          exact ⟨_, rfl, x, t, rfl, by omega, hok.2.2 t (List.mem_of_getElem? ht), (mk_tat n t).mn _ _ _ s4 px, fun g H5 h1 h2 h3 s5 => q2 _ _ s5 ⟨g, rfl, h1, h2, h3⟩⟩
        · obtain ⟨l4, xs4, rfl, hl4, fl4⟩ := pl
          obtain ⟨gs, rfl, hgs, hbs⟩ := grs_of fl4
          have gl : gs.length = ts.length := by
            have := fl4.len
            rw [List.length_map, List.length_map] at this
            exact this
          refine ⟨l3, l4, _, _, rfl, rfl, s4 _ _ hl33, hl4, Nat.le_trans (show _ ≤ 10 by rw [List.length_map, gl]; show 3 + ts.length ≤ 10; omega) (by decide), fun l5 hl5 => ?_⟩
          refine ⟨l5, [d.lim.getD 0, d.span, 1] ++ gs, rfl, .of (by rw [upd_same, List.map_append]; rfl), by simp, fun g hg hle => ?_⟩
          have g0 := gd sd.2.2.2.2.2.2.2
          refine k g _ (hle 1 (by simp)) ?_ ⟨hle d.span (by simp), ge (hle _ (by simp)), fun t ht => ?_⟩ (((s1.trans s3).trans s4).trans (same_new hl5))
          · rcases List.mem_append.mp hg with hg | hg
            · simp only [List.mem_cons, List.not_mem_nil, or_false] at hg
              rcases hg with rfl | rfl | rfl
              · exact g0.2
              · exact sd.2.2.2.2.2.2.1
              · decide
            · exact (hgs g hg).2
          · obtain ⟨g', hg', hb'⟩ := hbs t ht
            exact Bnd.mono (hle g' (List.mem_append_right _ hg')) n t hb'
theorem ok_small (T : Env K mg) : ∀ n, FnOk P w K mg base CX0 (n + 1) (d_L_product_is_small.loc K) T.fd_L_product_is_small ["told", "product"] (spSmall K n)
  | 0 => T.F_L_product_is_small.ok sc_L_product_is_small (fun vs H Q E (h : spSmall K 0 vs H Q E) => by obtain ⟨v, t, _⟩ := h; cases t) (fun cdv A outer s H vs Q E hr (h : spSmall K 0 vs H Q E) => by obtain ⟨v, t, _⟩ := h; cases t)
  | n + 1 => by
    have G_L_product_is_small : FnOk P w K mg base CX0 (n + 1) _ _ _ _ := ok_small T n
    refine T.F_L_product_is_small.ok sc_L_product_is_small (fun vs H Q E h => ?_) (fun cdv A outer s H vs Q E hr h => ?_)
    · obtain ⟨v, t, p, rfl, _⟩ := h
      rfl
    · have nd := sc_L_product_is_small.nd
      have hu := hu_of hr
      obtain ⟨v, t, pr, rfl, hn, hok, ht, k⟩ := h
      refine ⟨_, PSs.nox (pss_cons (ps_if (pt_cmpR op_eq (pe_ix (ixtK (K := K)) (pv 0) pe_int (fun _ _ => rfl)) pe_str (nomark _))
  (pss_one (ps_ret pe_bl))
  pss_nil)
 (pss_cons (ps_set (i := 2) nd rfl (Or.inr rfl) (pe_op op_mul (pv 1) (pe_op op_add (pe_ix (ixtK (K := K)) (pv 0) pe_int (fun _ _ => rfl)) pe_int)))
 (pss_cons (ps_setLc (i := 3) (own := [("one", 4)]) (by rfl) nd rfl rfl (sw_true rfl rfl rfl (by decide +kernel)) (pi_tup (pe_ix (ixtK (K := K)) (pv 0) pe_int (fun _ _ => rfl))) (blkOk_by (N := ["told", "product", "here", "wide", "one"]) (sc := defScope s_L_product_is_small) (by decide +kernel)) (fun _ _ _ _ _ => (pg_name (i := 4) nd rfl (Or.inl rfl))) (fun _ _ _ _ _ => (pts_one (pt_not (pt_val (pe_call G_L_product_is_small (hr.mono (by omega)) (by rfl) T.g__law_product_is_small T.F_L_product_is_small.kp T.bi_L_product_is_small .nil pass0 (pa_cons (pv 4) (pa_cons (pv 2) pa_nil))))))) (fun _ _ _ _ _ => (pv 4)))
 (pss_one (ps_ret (pe_and (pe_cmpR op_le (pv 2) pe_int (nomark _)) (pe_one (pe_cmpR (op_eqN hr.units) (pv 3) (pe_lst pa_nil) (nomark _))))))))), ?_⟩
      cases t with
      | inl d =>
        obtain ⟨p, rfl, hp⟩ := ht
        refine st_if (b := true) (evb_eqS (ev_ixT rfl hp rfl) ev_c rfl) ?_
        rw [if_pos rfl]
        exact k true H (fun _ h => by show 1 * pr ≤ 1000; omega) (Same.refl _)
      | inr x =>
        obtain ⟨d, ts⟩ := x
        obtain ⟨p, q, ys, rfl, hp, hq, fa⟩ := ht
        have hp : H p = some (.tup (d.vals q)) := hp
        have yl : ys.length = ts.length := sup_len fa
        have tl4 : ts.length ≤ 4 := hok.2.1
        have m0 : 0 ≤ d.most := hok.1.2.2.2.1
        have m1 : d.most ≤ 20 := hok.1.2.2.2.2.1
        refine st_no (evb_eqS (ev_ixT rfl hp rfl) ev_c rfl) ?_
        dsimp only
        show tSeq _ _ _ _ _
        refine st_nxx (v := .int ((pr * (d.most.toNat + 1) : Nat) : Int)) (fun Q q' => ⟨_, rfl, _, rfl, p, _, 4, .int d.most, rfl, rfl, .of hp, rfl, _, _, rfl, rfl, _, _, rfl, rfl, .inr ⟨by omega, by omega⟩, by
          rw [Int.natCast_mul, Int.natCast_add, Int.toNat_of_nonneg m0] at q'
          exact q'⟩) ?_
        generalize hq0 : pr * (d.most.toNat + 1) = here
        dsimp only
        show tSeq _ _ _ _ _
        refine st_any (R := fun v' H' => ∃ (l : Addr) (acc : List V), v' = .ref l ∧ Same H H' ∧ H' l = some (.lst acc) ∧ (acc = [] → ∀ t ∈ ts, here ≤ 1000 → Told.great n t * here ≤ 1000)) (fun Q' q' => ?_) (fun v' H1 ⟨l, acc, e, s1, hl, hac⟩ => ?_)
        · refine lc_any (J := Itt K q) (ys := ys) (Good := fun i => ∀ t : Told n, ts[i]? = some t → here ≤ 1000 → Told.great n t * here ≤ 1000) (fun R r => ⟨_, rfl, p, _, 7, .ref q, rfl, rfl, .of hp, rfl, q, rfl, ⟨ys, hq.sq⟩, r⟩) walk_tup (fun H1 s1 => (hq.mn s1).sq) (by omega) (fun i x H1 hx s1 Q2 q2 => ?_) (fun x H1 => ev_var rfl) fun l acc H1 s1 hl hac => ?_
          · obtain ⟨t, ht, px⟩ := sup_get fa hx
            refine ⟨_, rfl, _, rfl, x, t, here, rfl, by omega, hok.2.2 t (List.mem_of_getElem? ht), (mk_tat n t).mn _ _ _ s1 px, fun b H2 hb s2 => ⟨b, rfl, ?_⟩⟩
            refine q2 (!b) H2 (fun e t' ht' h => ?_) s2
            rw [ht] at ht'
            cases ht'
            exact hb (by cases b <;> simp at e ⊢) h
          · refine q' _ _ ⟨l, acc, rfl, s1, hl, fun e t ht => ?_⟩
            obtain ⟨i, hi⟩ := List.getElem?_of_mem ht
            exact hac e i (by have := (List.getElem?_eq_some_iff.mp hi).1; omega) t hi
        subst e
        dsimp only
        show tRet _ _ _ _
        refine ⟨_, rfl, _, _, rfl, rfl, decide ((here : Int) ≤ 1000), rfl, ?_⟩
        dsimp only
        by_cases hh : (here : Int) ≤ 1000
        · rw [if_pos (decide_eq_true hh)]
          refine ⟨_, rfl, Nat.zero_le _, fun e he => ⟨l, e, acc, rfl, rfl, .inl (.of ((same_new he) _ _ hl)), .inl (.of upd_same), ?_⟩⟩
          refine k _ _ (fun hb _ => ?_) (s1.trans (same_new he))
          have hac0 := hac (of_decide_eq_true hb)
          show (d.most.toNat + 1) * (ts.map (Told.great n)).foldr max 1 * pr ≤ 1000
          have h1 : (ts.map (Told.great n)).foldr max 1 * here ≤ 1000 := max_le (by omega) fun y hy => by
            obtain ⟨t, ht, rfl⟩ := List.mem_map.mp hy
            exact hac0 t ht (by omega)
          rw [← hq0] at h1
          rw [Nat.mul_comm (d.most.toNat + 1), Nat.mul_assoc, Nat.mul_comm (d.most.toNat + 1)]
          exact h1
        · rw [if_neg (by rw [decide_eq_false hh]; exact Bool.false_ne_true)]
          exact k false _ (fun e => nomatch e) s1
end
end W48

set_option Elab.async false
set_option linter.all false
set_option maxRecDepth 100000
set_option maxHeartbeats 4000000
namespace W48
open PySem PySem.Spec PyProof.Rows L2 WXG WEv WRd WLf WEn WZs WRu WSt StX WDc WCg
/-! ### pure: pairs of lists -/
def Pw {α β : Type} (R : α → β → Prop) : List α → List β → Prop
  | [], [] => True
  | a :: l, b :: m => R a b ∧ Pw R l m
  | _, _ => False
namespace Pw
variable {α β : Type} {R : α → β → Prop}
theorem len : ∀ {l : List α} {m : List β}, Pw R l m → m.length = l.length
  | [], [], _ => rfl
  | _ :: _, _ :: _, h => congrArg (· + 1) (len h.2)
  | [], _ :: _, h => h.elim
  | _ :: _, [], h => h.elim
theorem of : ∀ {l : List α} {m : List β}, m.length = l.length → (∀ (i : Nat) (a : α) (b : β), l[i]? = some a → m[i]? = some b → R a b) → Pw R l m
  | [], [], _, _ => trivial
  | a :: l, b :: m, h, k => ⟨k 0 a b rfl rfl, of (Nat.succ.inj h) fun i a b h1 h2 => k (i + 1) a b h1 h2⟩
  | [], _ :: _, h, _ => nomatch h
  | _ :: _, [], h, _ => nomatch h
theorem get : ∀ {l : List α} {m : List β} {i : Nat} {a : α} {b : β}, Pw R l m → l[i]? = some a → m[i]? = some b → R a b
  | a :: l, b :: m, 0, _, _, h, h1, h2 => by cases h1; cases h2; exact h.1
  | a :: l, b :: m, i + 1, _, _, h, h1, h2 => get (l := l) (m := m) (i := i) h.2 h1 h2
  | [], [], _, _, _, _, h1, _ => nomatch h1
  | [], _ :: _, _, _, _, h, _, _ => h.elim
  | _ :: _, [], _, _, _, h, _, _ => h.elim
theorem tk : ∀ {l : List α} {m : List β} {n : Nat}, Pw R l m → Pw R (l.take n) (m.take n)
  | [], [], n, _ => by simp [Pw]
  | a :: l, b :: m, 0, _ => trivial
  | a :: l, b :: m, n + 1, h => ⟨h.1, tk h.2⟩
  | [], _ :: _, _, h => h.elim
  | _ :: _, [], _, h => h.elim
theorem dr : ∀ {l : List α} {m : List β} {n : Nat}, Pw R l m → Pw R (l.drop n) (m.drop n)
  | [], [], n, _ => by simp [Pw]
  | a :: l, b :: m, 0, h => h
  | a :: l, b :: m, n + 1, h => (dr h.2 : Pw R (l.drop n) (m.drop n))
  | [], _ :: _, _, h => h.elim
  | _ :: _, [], _, h => h.elim
theorem ap : ∀ {l l' : List α} {m m' : List β}, Pw R l m → Pw R l' m' → Pw R (l ++ l') (m ++ m')
  | [], _, [], _, _, h => h
  | _ :: _, _, _ :: _, _, h, h' => ⟨h.1, ap h.2 h'⟩
  | [], _, _ :: _, _, h, _ => h.elim
  | _ :: _, _, [], _, h, _ => h.elim
theorem sum {f : α → Int} {g : β → Int} (k : ∀ a b, R a b → f a ≤ g b) : ∀ {l : List α} {m : List β}, Pw R l m → (l.map f).sum ≤ (m.map g).sum
  | [], [], _ => Int.le_refl _
  | a :: l, b :: m, h => by
    rw [List.map_cons, List.map_cons, List.sum_cons, List.sum_cons]
    have := k a b h.1
    have := sum k h.2
    omega
  | [], _ :: _, h => h.elim
  | _ :: _, [], h => h.elim
theorem mapEq {γ : Type} {f : α → γ} {g : β → γ} (k : ∀ a b, R a b → g b = f a) : ∀ {l : List α} {m : List β}, Pw R l m → m.map g = l.map f
  | [], [], _ => rfl
  | a :: l, b :: m, h => by
    rw [List.map_cons, List.map_cons, k a b h.1, mapEq k h.2]
  | [], _ :: _, h => h.elim
  | _ :: _, [], h => h.elim
end Pw
theorem longer_pw {n : Nat} {x y : SD × List (Told n)} (h : Longer (n + 1) (Sum.inr x) (Sum.inr y)) : Pw (Longer n) x.2 y.2 := .of h.2.1 h.2.2
theorem cut_mono {f f' : Int} {l l' : Option Int} (h : f ≤ f') (hl : LimLe l l') : cutI f l ≤ cutI f' l' := by
  cases l' with
  | none =>
    show _ ≤ f'
    cases l with
    | none => exact h
    | some j =>
      show (if f ≤ j then f else j) ≤ f'
      split <;> omega
  | some i =>
    obtain ⟨j, rfl, hj⟩ := hl i rfl
    show (if f ≤ j then f else j) ≤ (if f' ≤ i then f' else i)
    split <;> split <;> omega
theorem long_open : ∀ (n : Nat) (t u : Told n), Longer n t u → Told.opening n t ≤ Told.opening n u
  | 0, t, _, _ => t.elim
  | n + 1, .inl d, .inl d', h => h.b
  | n + 1, .inr x, .inr y, h => Pw.sum (long_open n) (longer_pw h)
  | n + 1, .inl _, .inr _, h => h.elim
  | n + 1, .inr _, .inl _, h => h.elim
theorem long_stop : ∀ (n : Nat) (t u : Told n), Longer n t u → Told.stopping n t ≤ Told.stopping n u
  | 0, t, _, _ => t.elim
  | n + 1, .inl d, .inl d', h => cut_mono h.e h.lim
  | n + 1, .inr x, .inr y, h => cut_mono (Pw.sum (long_stop n) (longer_pw h)) h.1.lim
  | n + 1, .inl _, .inr _, h => h.elim
  | n + 1, .inr _, .inl _, h => h.elim
theorem long_rows : ∀ (n : Nat) (t u : Told n), Longer n t u → Told.rows n u = Told.rows n t
  | 0, t, _, _ => t.elim
  | n + 1, .inl d, .inl d', h => by
    show [(true, d'.name)] = [(true, d.name)]
    rw [h.nm]
  | n + 1, .inr x, .inr y, h => by
    show (false, y.1.name) :: (y.2.map (Told.rows n)).flatten = (false, x.1.name) :: (x.2.map (Told.rows n)).flatten
    rw [h.1.nm, Pw.mapEq (long_rows n) (longer_pw h)]
  | n + 1, .inl _, .inr _, h => h.elim
  | n + 1, .inr _, .inl _, h => h.elim
theorem findL_pw {α : Type} {f g : α → Option (List Nat)} {R : α → α → Prop} (k : ∀ a b, R a b → g b = f a) : ∀ {l m : List α} {i : Nat}, Pw R l m → findL g i m = findL f i l
  | [], [], _, _ => rfl
  | a :: l, b :: m, i, h => by
    unfold findL
    rw [k a b h.1]
    cases f a with
    | none => exact findL_pw k h.2
    | some s => rfl
  | [], _ :: _, _, h => h.elim
  | _ :: _, [], _, h => h.elim
theorem long_spot {z : Str} : ∀ (n : Nat) (t u : Told n), Longer n t u → Told.spot z n u = Told.spot z n t
  | 0, t, _, _ => t.elim
  | n + 1, .inl d, .inl d', h => by
    show (if d'.name = z then some [] else none) = (if d.name = z then some [] else none)
    rw [h.nm]
  | n + 1, .inr x, .inr y, h => findL_pw (long_spot n) (longer_pw h)
  | n + 1, .inl _, .inr _, h => h.elim
  | n + 1, .inr _, .inl _, h => h.elim
theorem max_mono {a b a' b' : Int} (h : a ≤ a') (h' : b ≤ b') : maxI a b ≤ maxI a' b' := by
  unfold maxI
  split <;> split <;> omega
theorem pw_stop {n : Nat} {x y : SD × List (Told n)} (h : Longer (n + 1) (Sum.inr x) (Sum.inr y)) (i : Nat) : Pw (Longer n) (stopped x.1 x.2 i) (stopped y.1 y.2 i) := by
  have p := longer_pw h
  unfold stopped
  rw [h.1.wy]
  split
  · trivial
  · split
    · exact p.dr
    · exact p.tk.ap p.dr
theorem pw_front {n : Nat} {x y : SD × List (Told n)} (h : Longer (n + 1) (Sum.inr x) (Sum.inr y)) (i : Nat) : Pw (Longer n) (front x.1 x.2 i) (front y.1 y.2 i) := by
  have p := longer_pw h
  unfold front
  rw [h.1.wy]
  split
  · exact p.tk
  · trivial
theorem cyc_mono {n : Nat} {x y : SD × List (Told n)} (h : Longer (n + 1) (Sum.inr x) (Sum.inr y)) (i : Nat) {o o' a a' : Int} (ho : o ≤ o') (ha : o + a ≤ o' + a') : cyc x.1 x.2 i o a ≤ cyc y.1 y.2 i o' a' := by
  have h1 : stS (stopped x.1 x.2 i) ≤ stS (stopped y.1 y.2 i) := Pw.sum (long_stop n) (pw_stop h i)
  have h2 : opS (stopped x.1 x.2 i) ≤ opS (stopped y.1 y.2 i) := Pw.sum (long_open n) (pw_stop h i)
  have h3 : opS (front x.1 x.2 i) ≤ opS (front y.1 y.2 i) := Pw.sum (long_open n) (pw_front h i)
  exact max_mono (by omega) (by omega)
theorem sum_nonneg {n : Nat} {f : Told n → Int} {us : List (Told n)} (h : ∀ u ∈ us, 0 ≤ f u) : 0 ≤ (us.map f).sum := sum_nn _ fun x hx => by
  obtain ⟨u, hu, rfl⟩ := List.mem_map.mp hx
  exact h u hu
theorem cyc_nn {n : Nat} {x : SD × List (Told n)} (hok : Told.Ok (n + 1) (Sum.inr x)) (i : Nat) {o a : Int} (ho : 0 ≤ o) : 0 ≤ cyc x.1 x.2 i o a := by
  have h1 : 0 ≤ stS (stopped x.1 x.2 i) := sum_nonneg fun u hu => (stop_inB n u (hok.2.2 u (stop_in hu))).1
  have h2 : 0 ≤ opS (stopped x.1 x.2 i) := sum_nonneg fun u hu => (open_in n u (hok.2.2 u (stop_in hu))).1
  have := (max_in (a := stS (stopped x.1 x.2 i) + opS (stopped x.1 x.2 i) + o) (b := stS (stopped x.1 x.2 i) + opS (front x.1 x.2 i) + o + a) (B := cyc x.1 x.2 i o a) (Int.le_trans (by unfold cyc maxI; split <;> omega) (Int.le_refl _)) (by unfold cyc maxI; split <;> omega)).2.1
  unfold cyc
  omega
/-! ### longer times are safer -/
def RowLe (r r' : Row3) : Prop := r'.1 = r.1 ∧ (r.2.1 = none → r'.2.1 = none) ∧ (r.2.2 = none → r'.2.2 = none) ∧ ∀ c c', r.2.1 = some c → r'.2.1 = some c' → c ≤ c'
def StepLe (n : Nat) (t u : Told n) (s s' : AS) : Prop := (∀ a', s'.1 = some a' → ∃ a, s.1 = some a ∧ Told.opening n t + a ≤ Told.opening n u + a') ∧ Pw RowLe s.2 s'.2
theorem step_le {n : Nat} {x y : SD × List (Told n)} {i : Nat} {t u : Told n} {s s' : AS} (hx : Told.Ok (n + 1) (Sum.inr x)) (hy : Told.Ok (n + 1) (Sum.inr y)) (h : Longer (n + 1) (Sum.inr x) (Sum.inr y)) (ht : x.2[i]? = some t) (hu : y.2[i]? = some u) (hs : StepLe n t u s s') :
    StepLe (n + 1) (Sum.inr x) (Sum.inr y) (stepA x.1 x.2 i (Told.opening n t) s) (stepA y.1 y.2 i (Told.opening n u) s') := by
  have p := longer_pw h
  have htu : Longer n t u := p.get ht hu
  have oo := long_open n t u htu
  have on := (open_in n t (hx.2.2 t (List.mem_of_getElem? ht))).1
  obtain ⟨h1, h2⟩ := hs
  unfold stepA
  cases e' : s'.1 with
  | none =>
    cases e : s.1 with
    | none => exact ⟨fun a e => (nomatch e), h2.ap ⟨⟨h.1.nm, fun _ => rfl, fun _ => rfl, fun c c' e => nomatch e⟩, trivial⟩⟩
    | some a => exact ⟨fun a e => (nomatch e), h2.ap ⟨⟨h.1.nm, fun _ => rfl, fun _ => rfl, fun c c' _ e => nomatch e⟩, trivial⟩⟩
  | some a' =>
    obtain ⟨a, e, hle⟩ := h1 a' e'
    rw [e]
    have hc := cyc_mono h i oo hle
    have hc0 := cyc_nn hx i (o := Told.opening n t) (a := a) on
    have hm : x.1.most * cyc x.1 x.2 i (Told.opening n t) a ≤ y.1.most * cyc y.1 y.2 i (Told.opening n u) a' :=
      Int.mul_le_mul h.1.most hc hc0 (Int.le_trans hx.1.2.2.2.1 h.1.most)
    have hA : ∀ b', attA y.1 y.2 i (Told.opening n u) a' = some b' → ∃ b, attA x.1 x.2 i (Told.opening n t) a = some b ∧ Told.opening (n + 1) (Sum.inr x) + b ≤ Told.opening (n + 1) (Sum.inr y) + b' := by
      intro b' hb'
      unfold attA at hb' ⊢
      split at hb'
      · cases hb'
      · rename_i hlt
        have hsp := h.1.span
        rw [if_neg (by omega)]
        refine ⟨_, rfl, ?_⟩
        cases hb'
        have g1 : opS (x.2.take i) ≤ opS (y.2.take i) := Pw.sum (long_open n) p.tk
        have g2 : opS x.2 ≤ opS y.2 := Pw.sum (long_open n) p
        have g3 : stS (x.2.take i ++ x.2.drop (i + 1)) ≤ stS (y.2.take i ++ y.2.drop (i + 1)) := Pw.sum (long_stop n) (p.tk.ap p.dr)
        show opS x.2 + _ ≤ opS y.2 + _
        generalize x.1.most * cyc x.1 x.2 i (Told.opening n t) a = mc at hm ⊢
        generalize y.1.most * cyc y.1 y.2 i (Told.opening n u) a' = mc' at hm ⊢
        unfold maxI
        split <;> split <;> omega
    refine ⟨hA, h2.ap ⟨⟨h.1.nm, fun z => (nomatch z), fun z => ?_, fun c c' z z' => ?_⟩, trivial⟩⟩
    · cases hb : attA y.1 y.2 i (Told.opening n u) a' with
      | none => rfl
      | some b' =>
        obtain ⟨b, hb2, _⟩ := hA b' hb
        have z : attA x.1 x.2 i (Told.opening n t) a = none := z
        rw [hb2] at z
        cases z
    · cases z
      cases z'
      exact hc
theorem att_long : ∀ (n : Nat) (t u : Told n), Told.Ok n t → Told.Ok n u → Longer n t u → ∀ sp, (attS n t sp = [] ∧ attS n u sp = []) ∨ ∃ s l s' l', attS n t sp = s :: l ∧ attS n u sp = s' :: l' ∧ StepLe n t u s s'
  | 0, t, _, _, _, _, _ => t.elim
  | n + 1, t, u, ht, hu, h, [] => .inr ⟨_, _, _, _, rfl, rfl, fun a e => by cases e; exact ⟨0, rfl, by have := long_open _ t u h; omega⟩, trivial⟩
  | n + 1, .inl d, .inl d', _, _, _, i :: sp => .inl ⟨rfl, rfl⟩
  | n + 1, .inl _, .inr _, _, _, h, _ :: _ => h.elim
  | n + 1, .inr _, .inl _, _, _, h, _ :: _ => h.elim
  | n + 1, .inr x, .inr y, hx, hy, h, i :: sp => by
    have p := longer_pw h
    show ((match x.2[i]? with | none => [] | some t => match attS n t sp with | [] => [] | s :: l => stepA x.1 x.2 i (Told.opening n t) s :: s :: l : List AS) = [] ∧ (match y.2[i]? with | none => [] | some t => match attS n t sp with | [] => [] | s :: l => stepA y.1 y.2 i (Told.opening n t) s :: s :: l : List AS) = []) ∨ ∃ s l s' l', (match x.2[i]? with | none => [] | some t => match attS n t sp with | [] => [] | s :: l => stepA x.1 x.2 i (Told.opening n t) s :: s :: l : List AS) = s :: l ∧ (match y.2[i]? with | none => [] | some t => match attS n t sp with | [] => [] | s :: l => stepA y.1 y.2 i (Told.opening n t) s :: s :: l : List AS) = s' :: l' ∧ _
    cases ht : x.2[i]? with
    | none =>
      have : y.2[i]? = none := List.getElem?_eq_none (by have := List.getElem?_eq_none_iff.mp ht; have := p.len; omega)
      rw [this]
      exact .inl ⟨rfl, rfl⟩
    | some t =>
      obtain ⟨u, hu⟩ : ∃ u, y.2[i]? = some u := ⟨_, List.getElem?_eq_getElem (by have := (List.getElem?_eq_some_iff.mp ht).1; have := p.len; omega)⟩
      rw [hu]
      dsimp only
      rcases att_long n t u (hx.2.2 t (List.mem_of_getElem? ht)) (hy.2.2 u (List.mem_of_getElem? hu)) (p.get ht hu) sp with ⟨e1, e2⟩ | ⟨s, l, s', l', e1, e2, hs⟩
      · rw [e1, e2]
        exact .inl ⟨rfl, rfl⟩
      · rw [e1, e2]
        exact .inr ⟨_, _, _, _, rfl, rfl, step_le hx hy h ht hu hs⟩
theorem head_long {n : Nat} {t u : Told n} (ht : Told.Ok n t) (hu : Told.Ok n u) (h : Longer n t u) (sp : List Nat) : StepLe n t u (headS n t sp) (headS n u sp) := by
  unfold headS
  rcases att_long n t u ht hu h sp with ⟨e1, e2⟩ | ⟨s, l, s', l', e1, e2, hs⟩
  · rw [e1, e2]
    exact ⟨fun a e => (nomatch e), trivial⟩
  · rw [e1, e2]
    exact hs
theorem facs_long : ∀ (n : Nat) (t u : Told n), Longer n t u → ∀ sp, Pw (· ≤ ·) (facs n t sp) (facs n u sp)
  | 0, t, _, _, _ => t.elim
  | n + 1, t, u, h, [] => trivial
  | n + 1, .inl d, .inl d', _, i :: sp => trivial
  | n + 1, .inl _, .inr _, h, _ :: _ => h.elim
  | n + 1, .inr _, .inl _, h, _ :: _ => h.elim
  | n + 1, .inr x, .inr y, h, i :: sp => by
    have p := longer_pw h
    show Pw (· ≤ ·) (match x.2[i]? with | none => [] | some t => (x.1.most + 1) :: facs n t sp : List Int) (match y.2[i]? with | none => [] | some t => (y.1.most + 1) :: facs n t sp : List Int)
    cases ht : x.2[i]? with
    | none =>
      have : y.2[i]? = none := List.getElem?_eq_none (by have := List.getElem?_eq_none_iff.mp ht; have := p.len; omega)
      rw [this]
      trivial
    | some t =>
      obtain ⟨u, hu⟩ : ∃ u, y.2[i]? = some u := ⟨_, List.getElem?_eq_getElem (by have := (List.getElem?_eq_some_iff.mp ht).1; have := p.len; omega)⟩
      rw [hu]
      exact ⟨by have := h.1.most; omega, facs_long n t u (p.get ht hu) sp⟩
theorem prod_mono : ∀ {l m : List Int} {p q : Int}, Pw (· ≤ ·) l m → (∀ x ∈ l, 0 ≤ x) → 0 ≤ p → p ≤ q → l.foldl (· * ·) p ≤ m.foldl (· * ·) q
  | [], [], _, _, _, _, _, h => h
  | a :: l, b :: m, p, q, h, hx, hp, hq => by
    have ha := hx a List.mem_cons_self
    have hab : a ≤ b := h.1
    exact prod_mono (l := l) (m := m) h.2 (fun x hx' => hx x (List.mem_cons_of_mem _ hx')) (Int.mul_nonneg hp ha) (Int.mul_le_mul hq hab ha (Int.le_trans hp hq))
  | [], _ :: _, _, _, h, _, _, _ => h.elim
  | _ :: _, [], _, _, h, _, _, _ => h.elim
theorem prod_long {n : Nat} {t u : Told n} (ht : Told.Ok n t) (h : Longer n t u) (sp : List Nat) : prodI (facs n t sp) ≤ prodI (facs n u sp) :=
  prod_mono (facs_long n t u h sp) (fun x hx => ((facs_in n t sp ht).1 x hx).1) (by decide) (Int.le_refl _)
/-! ### times multiplied -/
section
variable {k : Int} (hk : 1 ≤ k)
include hk
theorem max_mul (a b : Int) : maxI (k * a) (k * b) = k * maxI a b := by
  unfold maxI
  by_cases h : a < b
  · rw [if_pos h, if_pos (Int.mul_lt_mul_of_pos_left h (by omega))]
  · rw [if_neg h, if_neg]
    intro h'
    exact h (Int.lt_of_mul_lt_mul_left h' (by omega))
theorem cut_mul (f : Int) (l : Option Int) : cutI (k * f) (l.map (k * ·)) = k * cutI f l := by
  cases l with
  | none => rfl
  | some i =>
    show (if k * f ≤ k * i then k * f else k * i) = k * (if f ≤ i then f else i)
    by_cases h : f ≤ i
    · rw [if_pos h, if_pos (Int.mul_le_mul_of_nonneg_left h (by omega))]
    · rw [if_neg h, if_neg]
      intro h'
      exact h (Int.le_of_mul_le_mul_left h' (by omega))
omit hk in
theorem sum_mul {α : Type} {f g : α → Int} : ∀ {l : List α}, (∀ a ∈ l, g a = k * f a) → (l.map g).sum = k * (l.map f).sum
  | [], _ => by simp
  | a :: l, h => by
    rw [List.map_cons, List.map_cons, List.sum_cons, List.sum_cons, h a List.mem_cons_self, sum_mul fun b hb => h b (List.mem_cons_of_mem _ hb), Int.mul_add]
omit hk in
theorem open_mul : ∀ (n : Nat) (t : Told n), Told.opening n (Told.times k n t) = k * Told.opening n t
  | 0, t => t.elim
  | n + 1, .inl d => rfl
  | n + 1, .inr x => by
    show ((x.2.map (Told.times k n)).map (Told.opening n)).sum = k * (x.2.map (Told.opening n)).sum
    rw [List.map_map]
    exact sum_mul fun t _ => open_mul n t
theorem stop_mul : ∀ (n : Nat) (t : Told n), Told.stopping n (Told.times k n t) = k * Told.stopping n t
  | 0, t => t.elim
  | n + 1, .inl d => cut_mul hk d.e d.lim
  | n + 1, .inr x => by
    show cutI ((x.2.map (Told.times k n)).map (Told.stopping n)).sum (x.1.lim.map (k * ·)) = k * cutI (x.2.map (Told.stopping n)).sum x.1.lim
    rw [List.map_map, sum_mul (f := Told.stopping n) (g := Told.stopping n ∘ Told.times k n) (k := k) fun t _ => stop_mul n t, cut_mul hk]
omit hk in
theorem rows_mul : ∀ (n : Nat) (t : Told n), Told.rows n (Told.times k n t) = Told.rows n t
  | 0, t => t.elim
  | n + 1, .inl d => rfl
  | n + 1, .inr x => by
    show (false, x.1.name) :: ((x.2.map (Told.times k n)).map (Told.rows n)).flatten = (false, x.1.name) :: (x.2.map (Told.rows n)).flatten
    rw [List.map_map, List.map_congr_left (f := Told.rows n ∘ Told.times k n) (g := Told.rows n) fun t _ => rows_mul n t]
omit hk in
theorem great_mul : ∀ (n : Nat) (t : Told n), Told.great n (Told.times k n t) = Told.great n t
  | 0, t => t.elim
  | n + 1, .inl d => rfl
  | n + 1, .inr x => by
    show (x.1.most.toNat + 1) * ((x.2.map (Told.times k n)).map (Told.great n)).foldr max 1 = (x.1.most.toNat + 1) * (x.2.map (Told.great n)).foldr max 1
    rw [List.map_map, List.map_congr_left (f := Told.great n ∘ Told.times k n) (g := Told.great n) fun t _ => great_mul n t]
omit hk in
theorem findL_map {α : Type} {f : α → Option (List Nat)} {g : α → α} : ∀ {l : List α} {i : Nat}, (∀ a ∈ l, f (g a) = f a) → findL f i (l.map g) = findL f i l
  | [], _, _ => rfl
  | a :: l, i, h => by
    rw [List.map_cons]
    unfold findL
    rw [h a List.mem_cons_self]
    cases f a with
    | none => exact findL_map fun b hb => h b (List.mem_cons_of_mem _ hb)
    | some s => rfl
omit hk in
theorem spot_mul {z : Str} : ∀ (n : Nat) (t : Told n), Told.spot z n (Told.times k n t) = Told.spot z n t
  | 0, t => t.elim
  | n + 1, .inl d => rfl
  | n + 1, .inr x => findL_map fun t _ => spot_mul n t
omit hk in
theorem facs_mul : ∀ (n : Nat) (t : Told n) (sp : List Nat), facs n (Told.times k n t) sp = facs n t sp
  | 0, t, _ => t.elim
  | n + 1, t, [] => rfl
  | n + 1, .inl d, i :: sp => rfl
  | n + 1, .inr x, i :: sp => by
    show (match (x.2.map (Told.times k n))[i]? with | none => [] | some t => (x.1.most + 1) :: facs n t sp : List Int) = (match x.2[i]? with | none => [] | some t => (x.1.most + 1) :: facs n t sp : List Int)
    rw [List.getElem?_map]
    cases x.2[i]? with
    | none => rfl
    | some t => exact congrArg (_ :: ·) (facs_mul n t sp)
omit hk in
theorem opS_mul {n : Nat} (ts : List (Told n)) : opS (ts.map (Told.times k n)) = k * opS ts := by
  unfold opS
  rw [List.map_map]
  exact sum_mul fun t _ => open_mul n t
theorem stS_mul {n : Nat} (ts : List (Told n)) : stS (ts.map (Told.times k n)) = k * stS ts := by
  unfold stS
  rw [List.map_map]
  exact sum_mul fun t _ => stop_mul hk n t
omit hk in
theorem stopped_mul {n : Nat} (d : SD) (ts : List (Told n)) (i : Nat) : stopped (d.times k) (ts.map (Told.times k n)) i = (stopped d ts i).map (Told.times k n) := by
  unfold stopped
  show (if d.way = "one" then [] else if d.way = "rest" then (ts.map (Told.times k n)).drop (i + 1) else (ts.map (Told.times k n)).take i ++ (ts.map (Told.times k n)).drop (i + 1)) = _
  split
  · rfl
  · split
    · rw [List.map_drop]
    · rw [List.map_append, List.map_drop, List.map_take]
omit hk in
theorem front_mul {n : Nat} (d : SD) (ts : List (Told n)) (i : Nat) : front (d.times k) (ts.map (Told.times k n)) i = (front d ts i).map (Told.times k n) := by
  unfold front
  show (if d.way = "all" then (ts.map (Told.times k n)).take i else []) = _
  split
  · rw [List.map_take]
  · rfl
theorem cyc_mul {n : Nat} (d : SD) (ts : List (Told n)) (i : Nat) (o a : Int) : cyc (d.times k) (ts.map (Told.times k n)) i (k * o) (k * a) = k * cyc d ts i o a := by
  unfold cyc
  rw [stopped_mul, front_mul, opS_mul, opS_mul, stS_mul hk, ← max_mul hk]
  congr 1
  · rw [Int.mul_add, Int.mul_add]
  · rw [Int.mul_add, Int.mul_add, Int.mul_add]
theorem att_mul {n : Nat} (d : SD) (ts : List (Told n)) (i : Nat) (o a : Int) : attA (d.times k) (ts.map (Told.times k n)) i (k * o) (k * a) = (attA d ts i o a).map (k * ·) := by
  unfold attA
  rw [cyc_mul hk]
  have e : (d.times k).most * (k * cyc d ts i o a) = k * (d.most * cyc d ts i o a) := by
    show d.most * (k * cyc d ts i o a) = _
    rw [← Int.mul_assoc, Int.mul_comm d.most k, Int.mul_assoc]
  rw [e]
  show (if k * (d.most * cyc d ts i o a) ≥ k * d.span then _ else _) = _
  by_cases h : d.most * cyc d ts i o a ≥ d.span
  · rw [if_pos h, if_pos (Int.mul_le_mul_of_nonneg_left h (by omega))]
    rfl
  · rw [if_neg h, if_neg (fun h' => h (Int.le_of_mul_le_mul_left h' (by omega)))]
    show some _ = some _
    rw [← List.map_take, ← List.map_drop, ← List.map_append, opS_mul, opS_mul, stS_mul hk]
    congr 1
    dsimp only
    rw [Int.mul_add, Int.mul_add]
    congr 2
    rw [← max_mul hk, Int.mul_zero, Int.mul_sub, Int.mul_add, Int.mul_add]
def scR (k : Int) (r : Row3) : Row3 := (r.1, r.2.1.map (k * ·), r.2.2.map (k * ·))
def scS (k : Int) (s : AS) : AS := (s.1.map (k * ·), s.2.map (scR k))
theorem step_mul {n : Nat} (d : SD) (ts : List (Told n)) (i : Nat) (o : Int) (s : AS) : stepA (d.times k) (ts.map (Told.times k n)) i (k * o) (scS k s) = scS k (stepA d ts i o s) := by
  obtain ⟨a, rs⟩ := s
  cases a with
  | none =>
    show (none, rs.map (scR k) ++ [(d.name, none, none)]) = (none, (rs ++ [(d.name, none, none)]).map (scR k))
    rw [List.map_append]
    rfl
  | some a =>
    show (attA (d.times k) (ts.map (Told.times k n)) i (k * o) (k * a), rs.map (scR k) ++ [(d.name, some (cyc (d.times k) (ts.map (Told.times k n)) i (k * o) (k * a)), attA (d.times k) (ts.map (Told.times k n)) i (k * o) (k * a))]) = ((attA d ts i o a).map (k * ·), (rs ++ [(d.name, some (cyc d ts i o a), attA d ts i o a)]).map (scR k))
    rw [att_mul hk, cyc_mul hk, List.map_append]
    rfl
theorem atts_mul : ∀ (n : Nat) (t : Told n) (sp : List Nat), attS n (Told.times k n t) sp = (attS n t sp).map (scS k)
  | 0, t, _ => t.elim
  | n + 1, t, [] => by
    show [(some 0, [])] = [scS k (some 0, [])]
    show [(some (0 : Int), ([] : List Row3))] = [(some (k * 0), [])]
    rw [Int.mul_zero]
  | n + 1, .inl d, i :: sp => rfl
  | n + 1, .inr x, i :: sp => by
    show (match (x.2.map (Told.times k n))[i]? with | none => [] | some t => match attS n t sp with | [] => [] | s :: l => stepA (x.1.times k) (x.2.map (Told.times k n)) i (Told.opening n t) s :: s :: l : List AS) = (match x.2[i]? with | none => [] | some t => match attS n t sp with | [] => [] | s :: l => stepA x.1 x.2 i (Told.opening n t) s :: s :: l : List AS).map (scS k)
    rw [List.getElem?_map]
    cases x.2[i]? with
    | none => rfl
    | some t =>
      show (match attS n (Told.times k n t) sp with | [] => [] | s :: l => stepA (x.1.times k) (x.2.map (Told.times k n)) i (Told.opening n (Told.times k n t)) s :: s :: l : List AS) = (match attS n t sp with | [] => [] | s :: l => stepA x.1 x.2 i (Told.opening n t) s :: s :: l : List AS).map (scS k)
      rw [atts_mul n t sp, open_mul]
      cases attS n t sp with
      | nil => rfl
      | cons s l =>
        show stepA (x.1.times k) (x.2.map (Told.times k n)) i (k * Told.opening n t) (scS k s) :: scS k s :: l.map (scS k) = scS k (stepA x.1 x.2 i (Told.opening n t) s) :: scS k s :: l.map (scS k)
        rw [step_mul hk]
theorem head_mul (n : Nat) (t : Told n) (sp : List Nat) : headS n (Told.times k n t) sp = scS k (headS n t sp) := by
  unfold headS
  rw [atts_mul hk, List.getElem?_map]
  cases (attS n t sp)[0]? <;> rfl
theorem ok_mul {g : Int} (hg : k * g ≤ 1000000000) : ∀ (n : Nat) (t : Told n), Told.Ok n t → Bnd g n t → Told.Ok n (Told.times k n t)
  | 0, t, _, _ => t.elim
  | n + 1, .inl d, h, b => by
    have le : ∀ {i : Int}, 0 ≤ i → i ≤ g → TickOk (k * i) := fun {i} h0 h1 => ⟨Int.mul_nonneg (by omega) h0, Int.le_trans (Int.mul_le_mul_of_nonneg_left h1 (by omega)) hg⟩
    refine ⟨h.1, h.2.1, le h.2.2.1.1 b.1, le h.2.2.2.1.1 b.2.1, fun i e => ?_, Int.le_refl _, (by decide : (0 : Int) ≤ 100)⟩
    have e : d.lim.map (k * ·) = some i := e
    cases hl : d.lim with
    | none => rw [hl] at e; cases e
    | some l =>
      rw [hl] at e
      cases e
      exact le (h.2.2.2.2.1 l hl).1 (b.2.2 l hl)
  | n + 1, .inr x, h, b => by
    have le : ∀ {i : Int}, 0 ≤ i → i ≤ g → TickOk (k * i) := fun {i} h0 h1 => ⟨Int.mul_nonneg (by omega) h0, Int.le_trans (Int.mul_le_mul_of_nonneg_left h1 (by omega)) hg⟩
    have sd := h.1
    have s1 := sd.2.2.2.2.2.1
    refine ⟨⟨sd.1, sd.2.1, sd.2.2.1, sd.2.2.2.1, sd.2.2.2.2.1, ?_, (le (by omega) b.1).2, fun i e => ?_⟩, by show (x.2.map (Told.times k n)).length ≤ 4; rw [List.length_map]; exact h.2.1, fun u hu => ?_⟩
    · show 1 ≤ k * x.1.span
      have : 1 * 1 ≤ k * x.1.span := Int.mul_le_mul hk s1 (by decide) (by omega)
      omega
    · have e : x.1.lim.map (k * ·) = some i := e
      cases hl : x.1.lim with
      | none => rw [hl] at e; cases e
      | some l =>
        rw [hl] at e
        cases e
        exact le (sd.2.2.2.2.2.2.2 l hl).1 (b.2.1 l hl)
    · obtain ⟨t, ht, rfl⟩ := List.mem_map.mp hu
      exact ok_mul hg n t (h.2.2 t ht) (b.2.2 t ht)
end
end W48

set_option Elab.async false
set_option linter.all false
set_option maxRecDepth 100000
set_option maxHeartbeats 4000000
namespace W48
open PySem PySem.Spec PyProof.Rows L2 WXG WEv WRd WLf WEn WZs WRu WSt StX WDc WCg RZ
/-- a loop over zip of two tuples -/
theorem for_zipT {K : PySem.W.Frag} {a b : Addr} {xs ys : List V} {g : TG} {tb : TS} {D : Ends} {σ : L2.St} {H : Hp} (hl : xs.length ≤ ys.length) (Pv : Nat → L2.St → Hp → Prop) (h0 : Pv 0 σ H) (hq : ∀ i σ H, Pv i σ H → SqT K H a xs ∧ SqT K H b ys)
    (hs : ∀ (i : Nat) (x y : V) (T : Addr) (σ : L2.St) (H : Hp), xs[i]? = some x → ys[i]? = some y → Pv i σ H → H T = none → g (.ref T) σ (upd H T (.tup [x, y])) fun σ2 H2 => tb { D with nx := Pv (i + 1), ct := Pv (i + 1), bk := D.nx } σ2 H2) (hd : ∀ σ H, Pv xs.length σ H → D.nx σ H) :
    ∃ W : Nat → Nat → L2.St → Hp → Prop, (∃ m, W 0 m σ H) ∧ ∀ i m σ H, W i m σ H →
      ((ItzT K a b).stop i H ∧ D.nx σ H) ∨ ((ItzT K a b).go i H ∧ ∃ N : L2.St → Hp → Prop, (∀ σ' H', N σ' H' → ∃ m', m' < m ∧ W (i + 1) m' σ' H') ∧ ∀ v H', (ItzT K a b).yld i H v H' → g v σ H' fun σ2 H2 => tb { D with nx := N, ct := N, bk := D.nx } σ2 H2) := by
  refine ⟨fun i m σ H => m = xs.length - i ∧ i ≤ xs.length ∧ Pv i σ H, ⟨xs.length, rfl, Nat.zero_le _, h0⟩, ?_⟩
  rintro i m σ H ⟨rfl, hi, p⟩
  obtain ⟨qx, qy⟩ := hq i σ H p
  by_cases hlt : i < xs.length
  · have hx : xs[i]? = some xs[i] := List.getElem?_eq_getElem hlt
    have hlt2 : i < ys.length := by omega
    have hy : ys[i]? = some ys[i] := List.getElem?_eq_getElem hlt2
    refine .inr ⟨⟨xs, ys, _, _, qx, qy, hx, hy⟩, Pv (i + 1), fun σ' H' p' => ⟨xs.length - (i + 1), by omega, rfl, hlt, p'⟩, fun v H' y => ?_⟩
    obtain ⟨T, x', y', rfl, hT, rfl, f1, f2⟩ := y
    exact hs i x' y' T σ H (f1 xs qx) (f2 ys qy) p hT
  · have e : i = xs.length := by omega
    subst e
    exact .inl ⟨⟨xs, ys, qx, qy, Or.inl (Nat.le_refl _)⟩, hd σ H p⟩
theorem mn_fall {p o : Int} {a : Option Int} : Mn (FallV p o a) := fun v H H' s h => by
  cases a with
  | none => exact h
  | some a =>
    obtain ⟨q, e, hq⟩ := h
    exact ⟨q, e, s _ _ hq⟩
/-- a plan with a worker below it -/
structure Here (K : PySem.W.Frag) (n : Nat) (x : SD × List (Told n)) (z : Str) (sp : List Nat) (v : V) (H : Hp) : Prop where
  rt : RootOk (n + 1) (Sum.inr x)
  fr : SupFree z (n + 1) (Sum.inr x)
  sp : Told.spot z (n + 1) (Sum.inr x) = some sp
  pt : PAt K (n + 1) (Sum.inr x) v H
theorem Here.mn {K : PySem.W.Frag} {n : Nat} {x : SD × List (Told n)} {z : Str} {sp : List Nat} {v : V} {H H' : Hp} (s : Same H H') (h : Here K n x z sp v H) : Here K n x z sp v H' := ⟨h.rt, h.fr, h.sp, (mk_pat _ _).mn _ _ _ s h.pt⟩
def spSafer (K : PySem.W.Frag) : Sp := fun vs H Q _ => ∃ (n : Nat) (v v' : V) (x y : SD × List (Told n)) (z : Str) (sp : List Nat), vs = [v, v', .str z] ∧ n ≤ 5 ∧ Here K n x z sp v H ∧ Here K n y z sp v' H ∧ Longer (n + 1) (Sum.inr x) (Sum.inr y) ∧ ∀ H', Same H H' → Q (.bl true) H'
def spMult (K : PySem.W.Frag) : Sp := fun vs H Q _ => ∃ (n : Nat) (v v' : V) (x : SD × List (Told n)) (k : Int) (z : Str) (sp : List Nat), vs = [v, v', .str z, .int k] ∧ n ≤ 5 ∧ 1 ≤ k ∧ k ≤ 1000000000 ∧ Here K n x z sp v H ∧ Here K n (x.1.times k, x.2.map (Told.times k n)) z sp v' H ∧ ∀ H', Same H H' → Q (.bl true) H'
section
variable {P : Program} {w : World} {K : PySem.W.Frag} {mg : Str → Option Value} {base : Heap}
/-- a call of fall -/
theorem call_fall {σ : L2.St} {H : Hp} {Q : VK} {E : XK} {n : Nat} {x : SD × List (Told n)} {z : Str} {sp : List Nat} {v : V} {i j : Nat} (hn : n ≤ 5) (h : Here K n x z sp v H) (hi : σ[i]? = some (some v)) (hj : σ[j]? = some (some (.str z)))
    (q : ∀ v' H', Same H H' → FallV (prodI (facs (n + 1) (Sum.inr x) sp)) (opS x.2) (headS (n + 1) (Sum.inr x) sp).1 v' H' → Q v' H') : tCall (spFall K) [] E (tCons (tVar i) (tCons (tVar j) tNil)) σ H Q := by
  obtain ⟨ws, hch⟩ := chainP_of _ _ h.sp h.pt
  exact ⟨_, hi, _, hj, n, v, x, z, sp, ws, rfl, hn, h.rt, h.fr, h.sp, hch, q⟩
theorem call_att {σ : L2.St} {H : Hp} {Q : VK} {E : XK} {n : Nat} {x : SD × List (Told n)} {z : Str} {sp : List Nat} {v : V} {i j : Nat} (hn : n ≤ 5) (h : Here K n x z sp v H) (hi : σ[i]? = some (some v)) (hj : σ[j]? = some (some (.str z)))
    (q : ∀ p xs H', Same H H' → H' p = some (.tup xs) → Fa ((headS (n + 1) (Sum.inr x) sp).2.map RowT) xs H' → Q (.ref p) H') : tCall (spAtt K) [] E (tCons (tVar i) (tCons (tVar j) tNil)) σ H Q := by
  obtain ⟨ws, hch⟩ := chainP_of _ _ h.sp h.pt
  exact ⟨_, hi, _, hj, n, v, x, z, sp, ws, rfl, hn, h.rt, h.fr, h.sp, hch, q⟩
theorem rowT_get {rs : List Row3} {xs : List V} {H : Hp} (h : Fa (rs.map RowT) xs H) {i : Nat} {x : V} (hx : xs[i]? = some x) : ∃ r, rs[i]? = some r ∧ RowT r x H := by
  have hl := h.len
  rw [List.length_map] at hl
  obtain ⟨r, hr⟩ : ∃ r, rs[i]? = some r := ⟨_, List.getElem?_eq_getElem (by have := (List.getElem?_eq_some_iff.mp hx).1; omega)⟩
  obtain ⟨x', e, px⟩ := h.get (n := i) (P := RowT r) (by rw [List.getElem?_map, hr]; rfl)
  rw [hx] at e
  cases e
  exact ⟨r, hr, px⟩
theorem evb_eq {tt : TT} {σ : L2.St} {H : Hp} {b c : Bool} (h : EvB tt σ H b) (e : b = c) : EvB tt σ H c := e ▸ h
theorem flat_opt {o : Option Int} : flatV (optV o) = true := by cases o <;> rfl
theorem ok_safer (T : Env K mg) : FnOk P w K mg base CX0 15 (d_L_is_safer.loc K) T.fd_L_is_safer ["plan", "other", "name"] (spSafer K) := by
  have G_fall : FnOk P w K mg base CX0 14 _ _ _ _ := ok_fall T
  have G_attacks : FnOk P w K mg base CX0 13 _ _ _ _ := ok_attacks T
  refine T.F_L_is_safer.ok sc_L_is_safer (fun vs H Q E h => ?_) (fun cdv A outer s H vs Q E hr h => ?_)
  · obtain ⟨n, v, v', x, y, z, sp, rfl, _⟩ := h
    rfl
  · have nd := sc_L_is_safer.nd
    have hu := hu_of hr
    obtain ⟨n, v, v', x, y, z, sp, rfl, hn, hx, hy, hl, k⟩ := h
    have hst := head_long hx.rt.1 hy.rt.1 hl sp
    have hpr := prod_long hx.rt.1 hl sp
    refine ⟨_, PSs.nox (pss_cons (ps_par (i := 3) (j := 4) (by rfl) nd rfl rfl (by decide) rfl rfl (pa_cons (pe_call G_fall (hr.mono (by decide)) (by rfl) T.g_fall T.F_fall.kp T.bi_fall .nil pass0 (pa_cons (pv 0) (pa_cons (pv 2) pa_nil))) (pa_cons (pe_call G_fall (hr.mono (by decide)) (by rfl) T.g_fall T.F_fall.kp T.bi_fall .nil pass0 (pa_cons (pv 1) (pa_cons (pv 2) pa_nil))) pa_nil)) (by rfl))
 (pss_cons (ps_if (PW.pt (pw_and (pt_cmpR op_notN (pv 4) pe_non (nomark _)) (pw_and1 (PW.pt (pw_or (pt_cmpR op_isN (pv 3) pe_non (nomark _)) (pw_or (pt_cmpR op_lt (pe_ix (ixtK (K := K)) (pv 4) pe_int (fun _ _ => rfl)) (pe_ix (ixtK (K := K)) (pv 3) pe_int (fun _ _ => rfl)) (nomark _)) (pw_or1 (pt_cmpR op_lt (pe_ix (ixtK (K := K)) (pv 4) pe_int (fun _ _ => rfl)) (pe_ix (ixtK (K := K)) (pv 3) pe_int (fun _ _ => rfl)) (nomark _)))))))))
  (pss_one (ps_ret pe_bl))
  pss_nil)
 (pss_cons (ps_for PassesOwn.never rfl (pi_zipA (by rfl) T.b_zip (pa_cons (pe_call G_attacks (hr.mono (by decide)) (by rfl) T.g_attacks T.F_attacks.kp T.bi_attacks .nil pass0 (pa_cons (pv 0) (pa_cons (pv 2) pa_nil))) (pa_cons (pe_call G_attacks (hr.mono (by decide)) (by rfl) T.g_attacks T.F_attacks.kp T.bi_attacks .nil pass0 (pa_cons (pv 1) (pa_cons (pv 2) pa_nil))) pa_nil))) (pg_tup rfl (pgs_cons (pg_name (i := 5) nd rfl (Or.inl rfl)) (pgs_cons (pg_name (i := 6) nd rfl (Or.inl rfl)) pgs_nil)))
  (pss_cons (ps_if (pt_cmpR op_ne (pe_ix (ixtK (K := K)) (pv 5) pe_int (fun _ _ => rfl)) (pe_ix (ixtK (K := K)) (pv 6) pe_int (fun _ _ => rfl)) (nomark _))
  (pss_one (ps_ret pe_bl))
  pss_nil)
 (pss_cons (ps_if (PW.pt (pw_and (pt_cmpR op_isN (pe_ix (ixtK (K := K)) (pv 5) pe_int (fun _ _ => rfl)) pe_non (nomark _)) (pw_and1 (pt_cmpR op_notN (pe_ix (ixtK (K := K)) (pv 6) pe_int (fun _ _ => rfl)) pe_non (nomark _)))))
  (pss_one (ps_ret pe_bl))
  pss_nil)
 (pss_cons (ps_if (PW.pt (pw_and (pt_cmpR op_isN (pe_ix (ixtK (K := K)) (pv 5) pe_int (fun _ _ => rfl)) pe_non (nomark _)) (pw_and1 (pt_cmpR op_notN (pe_ix (ixtK (K := K)) (pv 6) pe_int (fun _ _ => rfl)) pe_non (nomark _)))))
  (pss_one (ps_ret pe_bl))
  pss_nil)
 (pss_one (ps_if (PW.pt (pw_and (pt_cmpR (op_notIn_seq) pe_non (pe_tup (pa_cons (pe_ix (ixtK (K := K)) (pv 5) pe_int (fun _ _ => rfl)) (pa_cons (pe_ix (ixtK (K := K)) (pv 6) pe_int (fun _ _ => rfl)) pa_nil))) (by rfl)) (pw_and1 (pt_cmpR op_lt (pe_ix (ixtK (K := K)) (pv 6) pe_int (fun _ _ => rfl)) (pe_ix (ixtK (K := K)) (pv 5) pe_int (fun _ _ => rfl)) (nomark _)))))
  (pss_one (ps_ret pe_bl))
  pss_nil))))))
 (pss_one (ps_ret pe_bl))))), ?_⟩
    refine g_par (P := FallV (prodI (facs (n + 1) (Sum.inr x) sp)) (opS x.2) (headS (n + 1) (Sum.inr x) sp).1) (P' := FallV (prodI (facs (n + 1) (Sum.inr y) sp)) (opS y.2) (headS (n + 1) (Sum.inr y) sp).1) ⟨fun H1 e Q q => call_fall hn (hx.mn e) rfl rfl q, mn_fall⟩ ⟨fun H1 e Q q => call_fall hn (hy.mn e) rfl rfl q, mn_fall⟩ fun v3 v4 H1 s1 p3 p4 => ?_
    dsimp only
    show tSeq _ _ _ _ _
    refine st_no ?_ ?_
    · cases hhy : (headS (n + 1) (Sum.inr y) sp).1 with
      | none =>
        rw [hhy] at p4
        cases p4
        exact evb_and (a := false) (b := false) (fun Q q => ⟨_, rfl, rfl, false, rfl, q⟩) fun z => nomatch z
      | some b' =>
        obtain ⟨b, hb, hle⟩ := hst.1 b' hhy
        rw [hhy] at p4
        rw [hb] at p3
        obtain ⟨q3, rfl, h3⟩ := p3
        obtain ⟨q4, rfl, h4⟩ := p4
        have hle : opS x.2 + b ≤ opS y.2 + b' := hle
        refine evb_and (a := true) (b := false) (fun Q q => ⟨_, rfl, rfl, true, rfl, q⟩) fun _ => evb_or (a := false) (b := false) (fun Q q => ⟨_, rfl, rfl, false, rfl, q⟩) fun _ => evb_or (a := false) (b := false) (fun Q q => ⟨_, rfl, q4, _, 0, _, rfl, rfl, .of h4, rfl, _, rfl, q3, _, 0, _, rfl, rfl, .of h3, rfl, _, _, rfl, rfl, false, congrArg V.bl (decide_eq_false (by omega)), q⟩) fun _ => fun Q q => ⟨_, rfl, q4, _, 1, _, rfl, rfl, .of h4, rfl, _, rfl, q3, _, 1, _, rfl, rfl, .of h3, rfl, _, _, rfl, rfl, false, congrArg V.bl (decide_eq_false (by omega)), q⟩
    · dsimp only
      show tSeq _ _ _ _ _
      have hx1 := hx.mn s1
      have hy1 := hy.mn s1
      refine call_att hn hx1 rfl rfl fun p5 xs H2 s2 hp5 fx => ?_
      refine call_att hn (hy1.mn s2) rfl rfl fun p6 ys H3 s3 hp6 fy => ?_
      have hp5 := s3 _ _ hp5
      have fx := mn_fa mk_rowTs _ _ _ s3 fx
      have pw := hst.2
      refine ⟨p5, p6, xs, ys, rfl, .inr ⟨.of hp5, .of hp6, ?_⟩⟩
      have ll : xs.length ≤ ys.length := by
        have h1 := fx.len
        have h2 := fy.len
        rw [List.length_map] at h1 h2
        have := pw.len
        omega
      refine for_zipT (xs := xs) (ys := ys) ll (fun i σ H' => Same H3 H' ∧ ∃ a5 a6, σ = [some v, some v', some (.str z), some v3, some v4, a5, a6]) ⟨Same.refl _, none, none, rfl⟩ (fun i σ H' q => ⟨.of (q.1 _ _ hp5), .of (q.1 _ _ hp6)⟩) (fun i x1 y1 t0 σ H4 hx1' hy1' q ht0 => ?_) (fun σ H4 q => ?_)
      · obtain ⟨s4, a5, a6, rfl⟩ := q
        obtain ⟨r, hr1, hrx⟩ := rowT_get (mn_fa mk_rowTs _ _ _ s4 fx) hx1'
        obtain ⟨r', hr2, hry⟩ := rowT_get (mn_fa mk_rowTs _ _ _ s4 fy) hy1'
        obtain ⟨hnm, hc1, hc2, hc3⟩ := pw.get hr1 hr2
        refine ⟨t0, _, rfl, .of upd_same, rfl, _, _, rfl, _, _, rfl, rfl, ?_⟩
        have s5 := s4.trans (same_new (o := .tup [x1, y1]) ht0)
        obtain ⟨px, rfl, hpx⟩ := (mk_rowT.mn _ _ _ (same_new (o := .tup [x1, y1]) ht0) hrx)
        obtain ⟨py, rfl, hpy⟩ := (mk_rowT.mn _ _ _ (same_new (o := .tup [_, y1]) ht0) hry)
        generalize upd H4 t0 (.tup [.ref px, .ref py]) = H5 at s5 hpx hpy ⊢
        dsimp only
        show tSeq _ _ _ _ _
        have optN : ∀ {o : Option Int}, (decide (optV o = V.non)) = o.isNone := fun {o} => by cases o <;> simp [optV]
        refine st_no (fun Q q => ⟨_, rfl, px, _, 0, .str r.1, rfl, rfl, .of hpx, rfl, _, rfl, py, _, 0, .str r'.1, rfl, rfl, .of hpy, rfl, rfl, false, congrArg V.bl (by rw [hnm]; simp), q⟩) ?_
        dsimp only
        show tSeq _ _ _ _ _
        have no1 : (r.2.1.isNone && !r'.2.1.isNone) = false := by
          cases e : r.2.1 with
          | none => rw [hc1 e]; rfl
          | some c => rfl
        have no2 : (r.2.2.isNone && !r'.2.2.isNone) = false := by
          cases e : r.2.2 with
          | none => rw [hc2 e]; rfl
          | some c => rfl
        refine st_no (evb_eq (evb_and (a := r.2.1.isNone) (b := !r'.2.1.isNone) (fun Q q => ⟨_, rfl, px, _, 1, optV r.2.1, rfl, rfl, .of hpx, rfl, rfl, _, congrArg V.bl optN, q⟩) fun _ => fun Q q => ⟨_, rfl, py, _, 1, optV r'.2.1, rfl, rfl, .of hpy, rfl, rfl, _, congrArg V.bl (congrArg (!·) optN), q⟩) no1) ?_
        dsimp only
        show tSeq _ _ _ _ _
        refine st_no (evb_eq (evb_and (a := r.2.2.isNone) (b := !r'.2.2.isNone) (fun Q q => ⟨_, rfl, px, _, 2, optV r.2.2, rfl, rfl, .of hpx, rfl, rfl, _, congrArg V.bl optN, q⟩) fun _ => fun Q q => ⟨_, rfl, py, _, 2, optV r'.2.2, rfl, rfl, .of hpy, rfl, rfl, _, congrArg V.bl (congrArg (!·) optN), q⟩) no2) ?_
        dsimp only
        refine ⟨_, rfl, px, _, 1, optV r.2.1, rfl, rfl, .of hpx, rfl, _, rfl, py, _, 1, optV r'.2.1, rfl, rfl, .of hpy, rfl, (by decide : 2 ≤ sizeLine), fun q hq => ⟨q, _, rfl, .inr (.of upd_same), rfl, by rw [List.all_cons, List.all_cons, flat_opt, flat_opt]; rfl, (!inV .non [optV r.2.1, optV r'.2.1]), rfl, ?_⟩⟩
        have s6 := s5.trans (same_new (o := .tup [optV r.2.1, optV r'.2.1]) hq)
        have hpx6 := (same_new (o := .tup [optV r.2.1, optV r'.2.1]) hq) _ _ hpx
        have hpy6 := (same_new (o := .tup [optV r.2.1, optV r'.2.1]) hq) _ _ hpy
        generalize upd H5 q (.tup [optV r.2.1, optV r'.2.1]) = H6 at s6 hpx6 hpy6 ⊢
        dsimp only
        cases e1 : r.2.1 with
        | none =>
          rw [if_neg (by rw [show inV V.non [optV none, optV r'.2.1] = true from rfl]; exact Bool.false_ne_true)]
          exact ⟨s6, _, _, rfl⟩
        | some c =>
          cases e2 : r'.2.1 with
          | none =>
            rw [if_neg (by rw [show inV V.non [optV (some c), optV none] = true from rfl]; exact Bool.false_ne_true)]
            exact ⟨s6, _, _, rfl⟩
          | some c' =>
            rw [e1] at hpx6
            rw [e2] at hpy6
            have hle := hc3 c c' e1 e2
            rw [if_pos (by rw [show inV V.non [optV (some c), optV (some c')] = false from rfl]; rfl)]
            refine ⟨_, rfl, py, _, 1, .int c', rfl, rfl, .of hpy6, rfl, _, rfl, px, _, 1, .int c, rfl, rfl, .of hpx6, rfl, _, _, rfl, rfl, false, congrArg V.bl (decide_eq_false (by omega)), ?_⟩
            exact ⟨s6, _, _, rfl⟩
      · exact k _ ((s1.trans (s2.trans s3)).trans q.1)
end
end W48

set_option Elab.async false
set_option linter.all false
set_option maxRecDepth 100000
set_option maxHeartbeats 4000000
namespace W48
open PySem PySem.Spec PyProof.Rows L2 WXG WEv WRd WLf WEn WZs WRu WSt StX WDc WCg RZ
def fallD (p o : Int) : Option Int → PyData
  | none => .none
  | some b => .tuple [.int p, .int (o + b)]
theorem fall_data {K : PySem.W.Frag} {p o : Int} {a : Option Int} {v : V} {H : Hp} (hp : Sm p) (ho : ∀ b, a = some b → Sm (o + b)) (h : FallV p o a v H) : ∃ d, Rp v ∧ Dq K H v d ∧ Shw d ∧ d = fallD p o a := by
  cases a with
  | none =>
    cases h
    exact ⟨_, trivial, .non, shw_non, rfl⟩
  | some b =>
    obtain ⟨q, rfl, hq⟩ := h
    exact ⟨_, trivial, .tup (.of hq) (.cons (.int _) (.cons (.int _) .nil)), shw_pair hp (ho b rfl), rfl⟩
theorem end_sm {n : Nat} {t : Told n} {sp : List Nat} (hok : Told.Ok n t) (hz : Told.size n t ≤ 16) (hn : n ≤ 6) : ∀ b, (headS n t sp).1 = some b → Sm (Told.opening n t + b) := fun b hb => by
  have h1 := (head_in n t sp hok hz hn).1 b hb
  have h2 := open_in n t hok
  have : (n : Int) ≤ 6 := by omega
  unfold Sm
  omega
section
variable {P : Program} {w : World} {K : PySem.W.Frag} {mg : Str → Option Value} {base : Heap}
theorem ok_mult (T : Env K mg) : FnG P w K mg base CX0 15 (d_L_is_multiplied.loc K) T.fd_L_is_multiplied ["plan", "other", "name", "k"] (spMult K) := by
  have G_fall : FnOk P w K mg base CX0 14 _ _ _ _ := ok_fall T
  have G_attacks : FnOk P w K mg base CX0 13 _ _ _ _ := ok_attacks T
  refine FnG.of T.F_L_is_multiplied sc_L_is_multiplied (fun vs H Q E h => ?_) (fun cdv A outer s H vs Q E hr hgd h => ?_)
  · obtain ⟨n, v, v', x, k, z, sp, rfl, _⟩ := h
    rfl
  · have nd := sc_L_is_multiplied.nd
    have hu := hu_of hr
    obtain ⟨n, v, v', x, kk, z, sp, rfl, hn, hk1, hk2, hx, hy, k⟩ := h
    have hm : headS (n + 1) (Sum.inr (x.1.times kk, x.2.map (Told.times kk n))) sp = scS kk (headS (n + 1) (Sum.inr x) sp) := head_mul hk1 (n + 1) (Sum.inr x) sp
    have hf : facs (n + 1) (Sum.inr (x.1.times kk, x.2.map (Told.times kk n))) sp = facs (n + 1) (Sum.inr x) sp := facs_mul (n + 1) (Sum.inr x) sp
    have ho : opS (x.2.map (Told.times kk n)) = kk * opS x.2 := opS_mul x.2
    have hHB := head_in (n + 1) _ sp hy.rt.1 hy.rt.2.2.1 (by omega)
    have hEN := end_sm (sp := sp) hy.rt.1 hy.rt.2.2.1 (by omega)
    have hPR := prod_sm (sp := sp) hx.rt.1 (by omega)
    rw [hm] at hHB hEN
    refine ⟨_, PSs.nox (pss_cons (ps_set (i := 4) nd rfl (Or.inl rfl) (pe_lst pa_nil))
 (pss_cons (ps_for PassesOwn.never rfl (pi_tup (pe_call G_attacks (hr.mono (by decide)) (by rfl) T.g_attacks T.F_attacks.kp T.bi_attacks .nil pass0 (pa_cons (pv 0) (pa_cons (pv 2) pa_nil)))) (pg_name (i := 5) nd rfl (Or.inl rfl))
  (pss_one (ps_expr (pe_bm PySem.F.plainAttrs_list PySem.F.slot_list_append PySem.F.type_list_append mt_append (pv 4) (pa_cons (pe_op op_catT (pe_tup (pa_cons (pe_ix (ixtK (K := K)) (pv 5) pe_int (fun _ _ => rfl)) pa_nil)) (pe_callTy call_tuple_of (by rfl) T.b_tuple (by decide +kernel) (pa_cons (pe_lc (own := [("part", 6)]) (by rfl) nd (pi_tup (pe_slice sl_tup (pv 5) (po_some pe_int) po_none)) (blkOk_by (N := ["plan", "other", "name", "k", "due", "row", "part", "one", "end"]) (sc := defScope s_L_is_multiplied) (by decide +kernel)) (fun _ _ _ _ _ => (pg_name (i := 6) nd rfl (Or.inl rfl))) (fun _ _ _ _ _ => pts_nil) (fun _ _ _ _ _ => (pe_ifExp (pt_cmpR op_isN (pv 6) pe_non (nomark _)) pe_non (pe_op op_mul (pv 3) (pv 6))))) pa_nil))) pa_nil)))))
 (pss_cons (ps_set (i := 7) nd rfl (Or.inl rfl) (pe_call G_fall (hr.mono (by decide)) (by rfl) T.g_fall T.F_fall.kp T.bi_fall .nil pass0 (pa_cons (pv 0) (pa_cons (pv 2) pa_nil))))
 (pss_cons (ps_set (i := 8) nd rfl (Or.inl rfl) (pe_ifExp (pt_cmpR op_isN (pv 7) pe_non (nomark _)) pe_non (pe_tup (pa_cons (pe_ix (ixtK (K := K)) (pv 7) pe_int (fun _ _ => rfl)) (pa_cons (pe_op op_mul (pv 3) (pe_ix (ixtK (K := K)) (pv 7) pe_int (fun _ _ => rfl))) pa_nil)))))
 (pss_one (ps_ret (pe_and (pe_cmpR op_eq (pe_callB (call_rp T.sys hgd hr.units) (by rfl) T.b_repr (by decide +kernel) (pa_cons (pe_call G_attacks (hr.mono (by decide)) (by rfl) T.g_attacks T.F_attacks.kp T.bi_attacks .nil pass0 (pa_cons (pv 1) (pa_cons (pv 2) pa_nil))) pa_nil)) (pe_callB (call_rp T.sys hgd hr.units) (by rfl) T.b_repr (by decide +kernel) (pa_cons (pe_callTy call_tuple_of (by rfl) T.b_tuple (by decide +kernel) (pa_cons (pv 4) pa_nil)) pa_nil)) (nomark _)) (pe_one (pe_cmpR op_eq (pe_callB (call_rp T.sys hgd hr.units) (by rfl) T.b_repr (by decide +kernel) (pa_cons (pe_call G_fall (hr.mono (by decide)) (by rfl) T.g_fall T.F_fall.kp T.bi_fall .nil pass0 (pa_cons (pv 1) (pa_cons (pv 2) pa_nil))) pa_nil)) (pe_callB (call_rp T.sys hgd hr.units) (by rfl) T.b_repr (by decide +kernel) (pa_cons (pv 8) pa_nil)) (nomark _)))))))))), ?_⟩
    -- due = []
    refine ⟨Nat.zero_le _, fun ld hld => ?_⟩
    have s1 := same_new (o := .lst []) hld
    have hld1 : upd H ld (.lst []) ld = some (.lst []) := upd_same
    have hx1 := hx.mn s1
    have hy1 := hy.mn s1
    generalize upd H ld (.lst []) = H1 at s1 hld1 hx1 hy1
    dsimp only
    show tSeq _ _ _ _ _
    refine call_att hn hx1 rfl rfl fun p2 xs H2 s2 hp2 fx => ?_
    refine ⟨p2, rfl, ⟨xs, .of hp2⟩, ?_⟩
    have hl0 : H ld = none := hld
    have fl := fx.len
    rw [List.length_map] at fl
    have rl := hHB.2.2
    have rl : (headS (n + 1) (Sum.inr x) sp).2.length ≤ n + 1 := by
      have : ((headS (n + 1) (Sum.inr x) sp).2.map (scR kk)).length ≤ n + 1 := rl
      rw [List.length_map] at this
      exact this
    refine for_it (walk_tup (xs := xs)) (fun i σ H' => ∃ a5 acc, σ = [some v, some v', some (.str z), some (.int kk), some (.ref ld), a5, none, none, none] ∧ Kp H2 H' ∧ H' ld = some (.lst acc) ∧ Fa (((headS (n + 1) (Sum.inr x) sp).2.take i).map fun r => RowT (scR kk r)) acc H' ∧ But ld H2 H') ⟨none, [], rfl, Kp.refl _, s2 _ _ hld1, trivial, But.refl⟩ (fun i σ H' _ q => by
      obtain ⟨_, _, _, q, _⟩ := q
      exact .of (kp_tup q hp2)) (fun i x1 σ H3 H4 hi q yy => ?_) (fun σ H3 q => ?_)
    · obtain ⟨a5, acc, rfl, k3, hl3, fa3, b3⟩ := q
      obtain ⟨rfl, hx1'⟩ := yy
      obtain ⟨r, hr1, hrx⟩ := rowT_get (fa_kp mk_rowTs k3 fx) hx1'
      obtain ⟨px, rfl, hpx⟩ := hrx
      refine ⟨_, rfl, .inl ⟨rfl, _, .of hl3⟩, _, rfl, px, _, 0, .str r.1, rfl, rfl, .of hpx, rfl, (by decide : 1 ≤ sizeLine), fun q1 hq1 => ?_⟩
      have s4 := same_new (o := .tup [.str r.1]) hq1
      have hq11 : upd H4 q1 (.tup [.str r.1]) q1 = some (.tup [.str r.1]) := upd_same
      have hpx4 := s4 _ _ hpx
      generalize upd H4 q1 (.tup [.str r.1]) = H5 at s4 hq11 hpx4 ⊢
      have cut1 : cutV [V.str r.1, optV r.2.1, optV r.2.2] (some 1) none = [optV r.2.1, optV r.2.2] := rfl
      have nw1 : ¬ (HT.sIx [V.str r.1, optV r.2.1, optV r.2.2].length 0 (some 1) = 0 ∧ HT.sIx [V.str r.1, optV r.2.1, optV r.2.2].length [V.str r.1, optV r.2.1, optV r.2.2].length none = [V.str r.1, optV r.2.1, optV r.2.2].length) := by
        rintro ⟨h, _⟩
        cases h
      show tCB _ _ _ _ _
      refine te_cbR ?_
      refine (g_lcG (ys := [optV r.2.1, optV r.2.2]) (Ps := [optV (r.2.1.map (kk * ·)), optV (r.2.2.map (kk * ·))].map Is) (fun H6 s6 R rr => ⟨_, rfl, _, rfl, px, _, rfl, .of (s6 _ _ hpx4), nw1, fun q2 hq2 => ⟨q2, rfl, ⟨_, .of upd_same⟩, rr (Itt K q2) (fun H' => SqT K H' q2 [optV r.2.1, optV r.2.2]) _ (same_new hq2) walk_tup fun H7 s7 => .of (by
          have := s7 _ _ upd_same
          rw [cut1] at this
          exact this)⟩⟩) rfl (by simp) mk_iss fun j y P H6 hy' hP s6 Q2 q2' => ?_).ev _ (Same.refl _) _ fun vl H6 s6 pl => ?_
      · have key : ∀ o : Option Int, y = optV o → P = Is (optV (o.map (kk * ·))) → tIf (tTest (tOp (fun x y H Q => y = V.non ∧ Q (.bl (decide (x = V.non))) H) (tVar 6) (tC .non))) (tC .non) (tOp (rI CMul fun i j => V.int (i * j)) (tVar 3) (tVar 6)) [some v, some v', some (.str z), some (.int kk), some (.ref ld), some (.ref px), some y, none, none] H6 Q2 := by
          intro o e1 e2
          subst e1 e2
          cases o with
          | none =>
            refine ⟨_, rfl, rfl, true, rfl, ?_⟩
            dsimp only
            rw [if_pos rfl]
            exact q2' _ _ (Same.refl _) rfl
          | some c =>
            refine ⟨_, rfl, rfl, false, rfl, ?_⟩
            dsimp only
            rw [if_neg Bool.false_ne_true]
            exact ⟨_, rfl, _, rfl, kk, c, rfl, rfl, .inl ⟨by omega, by omega⟩, q2' _ _ (Same.refl _) rfl⟩
        match j, hy', hP with
        | 0, hy', hP => exact key r.2.1 (Option.some.inj hy').symm (Option.some.inj hP).symm
        | 1, hy', hP => exact key r.2.2 (Option.some.inj hy').symm (Option.some.inj hP).symm
        | j + 2, hy', _ => cases hy'
      · obtain ⟨l6, xs6, rfl, hl6, f6⟩ := pl
        obtain rfl := f6.is
        refine ⟨l6, _, rfl, .inl ⟨.of hl6, fun q3 hq3 => ?_⟩⟩
        have s7 := s6.trans (same_new (o := .tup [optV (r.2.1.map (kk * ·)), optV (r.2.2.map (kk * ·))]) hq3)
        have hq33 : upd H6 q3 (.tup [optV (r.2.1.map (kk * ·)), optV (r.2.2.map (kk * ·))]) q3 = some (.tup [optV (r.2.1.map (kk * ·)), optV (r.2.2.map (kk * ·))]) := upd_same
        generalize upd H6 q3 (.tup [optV (r.2.1.map (kk * ·)), optV (r.2.2.map (kk * ·))]) = H7 at s7 hq33 ⊢
        refine ⟨q1, q3, _, _, rfl, rfl, .of (s7 _ _ hq11), .of hq33, fun z => (nomatch z), (by decide : 3 ≤ sizeLine), fun z => (nomatch z), fun _ q4 hq4 => ?_⟩
        have s8 := (s4.trans s7).trans (same_new (o := .tup ([.str r.1] ++ [optV (r.2.1.map (kk * ·)), optV (r.2.2.map (kk * ·))])) hq4)
        have hq44 : upd H7 q4 (.tup ([.str r.1] ++ [optV (r.2.1.map (kk * ·)), optV (r.2.2.map (kk * ·))])) q4 = some (.tup ([.str r.1] ++ [optV (r.2.1.map (kk * ·)), optV (r.2.2.map (kk * ·))])) := upd_same
        generalize upd H7 q4 (.tup ([.str r.1] ++ [optV (r.2.1.map (kk * ·)), optV (r.2.2.map (kk * ·))])) = H8 at s8 hq44 ⊢
        have hl8 := s8 _ _ hl3
        have al : acc.length ≤ 6 := by
          have := fa3.len
          rw [List.length_map, List.length_take] at this
          omega
        refine ⟨ld, acc, .ref q4, rfl, rfl, hl8, Nat.lt_of_le_of_lt (show acc.length ≤ 6 by omega) (by decide), some (.ref px), acc ++ [.ref q4], rfl, k3.trans ((Kp.same s8).trans (Kp.lst hl8)), upd_same, ?_, fun b o e ne => ?_⟩
        · rw [List.take_succ, hr1, List.map_append]
          refine (fa_kp (fun P hP => ?_) ((Kp.same s8).trans (Kp.lst hl8)) fa3).app ⟨⟨q4, rfl, ?_⟩, trivial⟩
          · obtain ⟨r', _, rfl⟩ := List.mem_map.mp hP
            exact mk_rowT
          · rw [upd_ne (fun e => by rw [e, hl8] at hq44; cases hq44)]
            exact hq44
        · rw [upd_ne ne]
          exact s8 _ _ (b3 b o e ne)
    · obtain ⟨a5, acc, rfl, k3, hl3, fa3, b3⟩ := q
      rw [fl, List.take_length] at fa3
      have fa3 : Fa ((scS kk (headS (n + 1) (Sum.inr x) sp)).2.map RowT) acc H3 := by
        show Fa (((headS (n + 1) (Sum.inr x) sp).2.map (scR kk)).map RowT) acc H3
        rw [List.map_map]
        exact fa3
      have sH3 : Same H H3 := fun b o e => b3 b o (s2 _ _ (s1 _ _ e)) fun z => by rw [z, hl0] at e; cases e
      have hx3 : Here K n x z sp v H3 := ⟨hx.rt, hx.fr, hx.sp, mk_pat _ _ _ _ _ ((Kp.same s2).trans k3) hx1.pt⟩
      have hy3 : Here K n (x.1.times kk, x.2.map (Told.times kk n)) z sp v' H3 := ⟨hy.rt, hy.fr, hy.sp, mk_pat _ _ _ _ _ ((Kp.same s2).trans k3) hy1.pt⟩
      show tSeq _ _ _ _ _
      -- one
      refine call_fall hn hx3 rfl rfl fun v7 H7 s7 hf7 => ?_
      dsimp only
      show tSeq _ _ _ _ _
      -- end
      refine st_any (R := fun v' H' => Same H7 H' ∧ FallV (prodI (facs (n + 1) (Sum.inr x) sp)) (kk * opS x.2) ((headS (n + 1) (Sum.inr x) sp).1.map (kk * ·)) v' H') (fun Q' q' => ?_) (fun v8 H8 ⟨s8, hf8⟩ => ?_)
      · cases hh : (headS (n + 1) (Sum.inr x) sp).1 with
        | none =>
          rw [hh] at hf7
          cases hf7
          refine ⟨_, rfl, rfl, true, rfl, ?_⟩
          dsimp only
          rw [if_pos rfl]
          exact q' _ _ ⟨Same.refl _, by rw [hh]; rfl⟩
        | some b =>
          rw [hh] at hf7
          obtain ⟨q7, rfl, h7⟩ := hf7
          refine ⟨_, rfl, rfl, false, rfl, ?_⟩
          dsimp only
          rw [if_neg Bool.false_ne_true]
          refine ⟨_, rfl, q7, _, 0, _, rfl, rfl, .of h7, rfl, _, rfl, _, rfl, q7, _, 1, _, rfl, rfl, .of h7, rfl, kk, opS x.2 + b, rfl, rfl, .inl ⟨by omega, by omega⟩, (by decide : 2 ≤ sizeLine), fun q hq => q' _ _ ⟨same_new hq, ?_⟩⟩
          rw [hh]
          refine ⟨q, rfl, ?_⟩
          rw [upd_same]
          exact congrArg (fun i => some (HO.tup [V.int (prodI (facs (n + 1) (Sum.inr x) sp)), V.int i])) (Int.mul_add kk (opS x.2) b)
      dsimp only
      show tRet _ _ _ _
      have s78 := s7.trans s8
      refine call_att hn (hy3.mn s78) rfl rfl fun p9 xs9 H9 s9 hp9 fx9 => ?_
      rw [hm] at fx9
      have shr := shw_rows hHB.2.1 (by have := hHB.2.2; omega)
      refine ⟨.ref p9, rowsD (scS kk (headS (n + 1) (Sum.inr x) sp)).2, rfl, trivial, .tup (.of hp9) (dq_rows fx9), shr, ?_⟩
      refine ⟨_, rfl, ld, acc, rfl, .inl ⟨.of (s9 _ _ (s78 _ _ hl3)), fun p10 hp10 => ?_⟩⟩
      have s10 := s9.trans (same_new (o := .tup acc) hp10)
      refine ⟨.ref p10, rowsD (scS kk (headS (n + 1) (Sum.inr x) sp)).2, rfl, trivial, .tup (.of upd_same) (dq_rows (mn_fa mk_rowTs _ _ _ (s78.trans s10) fa3)), shr, ?_⟩
      generalize upd H9 p10 (.tup acc) = H10 at s10 ⊢
      refine ⟨rfl, true, congrArg V.bl (by simp), ?_⟩
      dsimp only
      rw [if_pos rfl]
      refine call_fall hn (hy3.mn (s78.trans s10)) rfl rfl fun v11 H11 s11 hf11 => ?_
      rw [hm, hf, ho] at hf11
      have hEN' : ∀ b, (scS kk (headS (n + 1) (Sum.inr x) sp)).1 = some b → Sm (kk * opS x.2 + b) := fun b hb => by
        have := hEN b hb
        have e : Told.opening (n + 1) (Sum.inr (x.1.times kk, x.2.map (Told.times kk n))) = opS (x.2.map (Told.times kk n)) := rfl
        rw [e, ho] at this
        exact this
      obtain ⟨d1, r1, q1, h1, e1⟩ := fall_data (K := K) hPR hEN' hf11
      obtain ⟨d2, r2, q2, h2, e2⟩ := fall_data (K := K) hPR hEN' (mn_fall _ _ _ (s10.trans s11) hf8)
      exact ⟨v11, d1, rfl, r1, q1, h1, _, rfl, v8, d2, rfl, r2, q2, h2, rfl, by
        rw [e1, e2]
        rw [decide_eq_true rfl]
        exact k _ (((sH3.trans s78).trans s10).trans s11)⟩
end
end W48

set_option Elab.async false
set_option linter.all false
set_option maxRecDepth 100000
set_option maxHeartbeats 4000000
namespace W48
open PySem PySem.Spec PyProof.Rows L2 WXG WEv WRd WLf WEn WZs WRu WSt StX WDc WCg RZ
def spLaw (K : PySem.W.Frag) : Sp := fun vs H Q _ => ∃ (a : Addr) (ns : List Int), vs = [.ref a] ∧ SqL K H a (ns.map V.int) ∧ ns.length ≤ 63 ∧ ∀ H', Q (.bl true) H'
theorem st_tSeqY {A B : TS} {D : Ends} {σ : L2.St} {H : Hp} (h : A { D with nx := B D } σ H) : tSeq A B D σ H := h

theorem long_refl : ∀ (n : Nat) (t : Told n), Longer n t t
  | 0, t => t.elim
  | n + 1, .inl d => ⟨rfl, rfl, Int.le_refl _, Int.le_refl _, fun i e => ⟨i, e, Int.le_refl _⟩⟩
  | n + 1, .inr x => ⟨⟨rfl, rfl, rfl, Int.le_refl _, Int.le_refl _, fun i e => ⟨i, e, Int.le_refl _⟩⟩, rfl, fun i t u h1 h2 => by
      rw [h1] at h2
      cases h2
      exact long_refl n t⟩
theorem names_rows : ∀ (n : Nat) (t : Told n), (Told.rows n t).map (·.2) = Told.names n t
  | 0, t => t.elim
  | n + 1, .inl d => rfl
  | n + 1, .inr x => by
    show x.1.name :: ((x.2.map (Told.rows n)).flatten).map (·.2) = x.1.name :: (x.2.map (Told.names n)).flatten
    rw [List.map_flatten, List.map_map]
    congr 2
    exact List.map_congr_left fun t _ => names_rows n t
theorem nms_in {f : Int} {z : Str} : ∀ {c n : Nat}, z ∈ nms f c n → ∃ j, c ≤ j ∧ j < c + n ∧ z = nmS f j
  | c, 0, h => nomatch h
  | c, n + 1, h => by
    rcases List.mem_cons.mp h with rfl | h
    · exact ⟨c, Nat.le_refl _, by omega, rfl⟩
    · obtain ⟨j, h1, h2, h3⟩ := nms_in h
      exact ⟨j, by omega, by omega, h3⟩
theorem nms_nodup {f : Int} : ∀ {c n : Nat}, c + n ≤ 26 → (nms f c n).Nodup
  | c, 0, _ => List.nodup_nil
  | c, n + 1, h => List.nodup_cons.mpr ⟨fun hm => by
      obtain ⟨j, h1, h2, h3⟩ := nms_in hm
      have := nm_inj (by omega) (by omega) h3
      omega, nms_nodup (by omega)⟩
theorem kind_dec (b : Bool) : decide (kindS b = "worker") = b := by
  cases b <;> decide +kernel
section
variable {P : Program} {w : World} {K : PySem.W.Frag} {mg : Str → Option Value} {base : Heap}
theorem fn_ex {α : Type} {f : Addr} {fd : FuncData} {ps : List Str} {sp : α → Sp} {M : Nat} (F : ∀ a, FnOk P w K mg base CX0 M f fd ps (sp a)) : FnOk P w K mg base CX0 M f fd ps (fun vs H Q E => ∃ a, sp a vs H Q E) :=
  ⟨fun vs H Q E ⟨a, h⟩ => (F a).len vs H Q E h, fun A outer s H args us vs Q E hr he hb hv ⟨a, h⟩ => (F a).run A outer s H args us vs Q E hr he hb hv h⟩
theorem ok_law (T : Env K mg) : FnG P w K mg base CX0 30 (d_law.loc K) T.fd_law ["script"] (spLaw K) := by
  refine FnG.of T.F_law sc_law (fun vs H Q E h => ?_) (fun cdv A outer s H vs Q E hr hgd h => ?_)
  · obtain ⟨a, ns, rfl, _⟩ := h
    rfl
  · have nd := sc_law.nd
    have hu := hu_of hr
    obtain ⟨a, ns, rfl, hS, hl, k⟩ := h
    have G_L_begun : FnOk P w K mg base CX0 1 _ _ _ _ := ok_begun (S := (a, ns, 0)) T
    have G_L_next : FnOk P w K mg base CX0 1 _ _ _ _ := fn_ex fun S => ok_next (S := S) T
    have G_L_of : FnOk P w K mg base CX0 2 _ _ _ _ := fn_ex fun S => ok_of (S := S) T
    have G_L_supervisor : FnOk P w K mg base CX0 14 _ _ _ _ := fn_ex fun S => ok_supervisor (S := S) T 5
    have G_L_spanned : FnOk P w K mg base CX0 17 _ _ _ _ := fn_ex fun S => ok_lspanned (S := S) T 6
    have G_L_longer : FnOk P w K mg base CX0 10 _ _ _ _ := fn_ex fun S => ok_longer (S := S) T 6
    have G_L_greatest : FnOk P w K mg base CX0 7 _ _ _ _ := ok_greatest T 6
    have G_L_product_is_small : FnOk P w K mg base CX0 7 _ _ _ _ := ok_small T 6
    have G_L_times : FnOk P w K mg base CX0 7 _ _ _ _ := ok_ltimes T 6
    have G_L_is_safer : FnOk P w K mg base CX0 15 _ _ _ _ := ok_safer T
    have G_L_is_multiplied : FnG P w K mg base CX0 15 _ _ _ _ := ok_mult T
    have G_opening_time : FnOk P w K mg base CX0 9 _ _ _ _ := ok_opening_time T 6
    have G_stopping_time : FnOk P w K mg base CX0 9 _ _ _ _ := ok_stopping_time T 6
    have G_L_all : FnOk P w K mg base CX0 7 _ _ _ _ := ok_all T 6
    have G_L_plan : FnOk P w K mg base CX0 15 _ _ _ _ := ok_lplan T 6
    have G_fewest : FnOk P w K mg base CX0 13 _ _ _ _ := ok_fewest T
    refine ⟨_, PSs.nox (pss_cons (ps_set (i := 1) nd rfl (Or.inl rfl) (pe_call G_L_begun (hr.mono (by decide)) (by rfl) T.g__law_begun T.F_L_begun.kp T.bi_L_begun .nil pass0 (pa_cons (pv 0) pa_nil)))
 (pss_cons (ps_dput hu (pv 1) pe_str (pe_call G_L_next (hr.mono (by decide)) (by rfl) T.g__law_next T.F_L_next.kp T.bi_L_next .nil pass0 (pa_cons (pv 1) (pa_cons pe_int pa_nil))) rfl)
 (pss_cons (ps_set (i := 2) nd rfl (Or.inl rfl) (pe_call G_L_supervisor (hr.mono (by decide)) (by rfl) T.g__law_supervisor T.F_L_supervisor.kp T.bi_L_supervisor .nil pass0 (pa_cons (pv 1) (pa_cons pe_int (pa_cons pe_int pa_nil)))))
 (pss_cons (ps_setLc (i := 3) (own := [("one", 4)]) (by rfl) nd rfl rfl (sw_true rfl rfl rfl (by decide +kernel)) (pi_list (pe_call G_L_all (hr.mono (by decide)) (by rfl) T.g__law_all T.F_L_all.kp T.bi_L_all .nil pass0 (pa_cons (pv 2) pa_nil))) (blkOk_by (N := ["script", "m", "told", "called", "one", "longer", "k", "plan", "other", "third", "name"]) (sc := defScope s_law) (by decide +kernel)) (fun _ _ _ _ _ => (pg_name (i := 4) nd rfl (Or.inl rfl))) (fun _ _ _ _ _ => (pts_one (pt_cmpR op_eq (pe_ix (ixtK (K := K)) (pv 4) pe_int (fun _ _ => rfl)) pe_str (nomark _)))) (fun _ _ _ _ _ => (pe_ix (ixtK (K := K)) (pv 4) pe_int (fun _ _ => rfl))))
 (pss_cons (ps_if (pt_cmpR (op_eqN hr.units) (pv 3) (pe_lst pa_nil) (nomark _))
  (pss_one (ps_ret pe_bl))
  pss_nil)
 (pss_cons (ps_set (i := 2) nd rfl (Or.inl rfl) (pe_call G_L_spanned (hr.mono (by decide)) (by rfl) T.g__law_spanned T.F_L_spanned.kp T.bi_L_spanned .nil pass0 (pa_cons (pv 1) (pa_cons (pv 2) (pa_cons (pe_call G_L_of (hr.mono (by decide)) (by rfl) T.g__law_of T.F_L_of.kp T.bi_L_of .nil pass0 (pa_cons (pv 1) (pa_cons (pv 3) pa_nil))) pa_nil)))))
 (pss_cons (ps_par (i := 5) (j := 6) (by rfl) nd rfl rfl (by decide) rfl rfl (pa_cons (pe_call G_L_longer (hr.mono (by decide)) (by rfl) T.g__law_longer T.F_L_longer.kp T.bi_L_longer .nil pass0 (pa_cons (pv 1) (pa_cons (pv 2) (pa_cons pe_int pa_nil)))) (pa_cons (pe_op op_add pe_int (pe_call G_L_next (hr.mono (by decide)) (by rfl) T.g__law_next T.F_L_next.kp T.bi_L_next .nil pass0 (pa_cons (pv 1) (pa_cons pe_int pa_nil)))) pa_nil)) (by rfl))
 (pss_cons (ps_set (i := 6) nd rfl (Or.inl rfl) (pe_callB (call_min2 rfl) (by rfl) T.b_min (by decide +kernel) (pa_cons (pv 6) (pa_cons (pe_op op_fdivN (pe_op op_pow pe_int pe_int) (pe_call G_L_greatest (hr.mono (by decide)) (by rfl) T.g__law_greatest T.F_L_greatest.kp T.bi_L_greatest .nil pass0 (pa_cons (pv 2) pa_nil))) pa_nil))))
 (pss_cons (ps_if (pt_not (pt_val (pe_call G_L_product_is_small (hr.mono (by decide)) (by rfl) T.g__law_product_is_small T.F_L_product_is_small.kp T.bi_L_product_is_small .nil pass0 (pa_cons (pv 5) (pa_cons pe_int pa_nil)))))
  (pss_one (ps_set (i := 5) nd rfl (Or.inl rfl) (pv 2)))
  pss_nil)
 (pss_cons (ps_par (i := 7) (j := 8) (by rfl) nd rfl rfl (by decide) rfl rfl (pa_cons (pe_call G_L_plan (hr.mono (by decide)) (by rfl) T.g__law_plan T.F_L_plan.kp T.bi_L_plan .nil pass0 (pa_cons (pv 2) pa_nil)) (pa_cons (pe_call G_L_plan (hr.mono (by decide)) (by rfl) T.g__law_plan T.F_L_plan.kp T.bi_L_plan .nil pass0 (pa_cons (pv 5) pa_nil)) pa_nil)) (by rfl))
 (pss_cons (ps_set (i := 9) nd rfl (Or.inl rfl) (pe_call G_L_plan (hr.mono (by decide)) (by rfl) T.g__law_plan T.F_L_plan.kp T.bi_L_plan .nil pass0 (pa_cons (pe_call G_L_times (hr.mono (by decide)) (by rfl) T.g__law_times T.F_L_times.kp T.bi_L_times .nil pass0 (pa_cons (pv 2) (pa_cons (pv 6) pa_nil))) pa_nil)))
 (pss_cons (ps_for PassesOwn.never rfl (pi_list (pv 3)) (pg_name (i := 10) nd rfl (Or.inl rfl))
  (pss_cons (ps_if (pt_not (pt_val (pe_call G_L_is_safer (hr.mono (by decide)) (by rfl) T.g__law_is_safer T.F_L_is_safer.kp T.bi_L_is_safer .nil pass0 (pa_cons (pv 7) (pa_cons (pv 8) (pa_cons (pv 10) pa_nil))))))
  (pss_one (ps_ret pe_bl))
  pss_nil)
 (pss_one (ps_if (pt_not (pt_val (pe_callG G_L_is_multiplied hgd (hr.mono (by decide)) (by rfl) T.g__law_is_multiplied T.F_L_is_multiplied.kp T.bi_L_is_multiplied .nil pass0 (pa_cons (pv 7) (pa_cons (pv 9) (pa_cons (pv 10) (pa_cons (pv 6) pa_nil)))))))
  (pss_one (ps_ret pe_bl))
  pss_nil))))
 (pss_cons (ps_if (PW.pt (pw_or (pt_cmpR op_lt (pe_call G_opening_time (hr.mono (by decide)) (by rfl) T.g_opening_time T.F_opening_time.kp T.bi_opening_time .nil pass0 (pa_cons (pv 8) pa_nil)) (pe_call G_opening_time (hr.mono (by decide)) (by rfl) T.g_opening_time T.F_opening_time.kp T.bi_opening_time .nil pass0 (pa_cons (pv 7) pa_nil)) (nomark _)) (pw_or1 (pt_cmpR op_lt (pe_call G_stopping_time (hr.mono (by decide)) (by rfl) T.g_stopping_time T.F_stopping_time.kp T.bi_stopping_time .nil pass0 (pa_cons (pv 8) pa_nil)) (pe_call G_stopping_time (hr.mono (by decide)) (by rfl) T.g_stopping_time T.F_stopping_time.kp T.bi_stopping_time .nil pass0 (pa_cons (pv 7) pa_nil)) (nomark _)))))
  (pss_one (ps_ret pe_bl))
  pss_nil)
 (pss_one (ps_ret (pe_and (pe_cmpR op_le (pe_call G_fewest (hr.mono (by decide)) (by rfl) T.g_fewest T.F_fewest.kp T.bi_fewest .nil pass0 (pa_cons (pv 7) pa_nil)) (pe_call G_fewest (hr.mono (by decide)) (by rfl) T.g_fewest T.F_fewest.kp T.bi_fewest .nil pass0 (pa_cons (pv 8) pa_nil)) (nomark _)) (pe_one (pe_cmpR op_eq (pe_call G_fewest (hr.mono (by decide)) (by rfl) T.g_fewest T.F_fewest.kp T.bi_fewest .nil pass0 (pa_cons (pv 9) pa_nil)) (pe_call G_fewest (hr.mono (by decide)) (by rfl) T.g_fewest T.F_fewest.kp T.bi_fewest .nil pass0 (pa_cons (pv 7) pa_nil)) (nomark _))))))))))))))))))), ?_⟩
    refine ⟨_, rfl, rfl, rfl, hS, by show ns.length ≤ 1000; omega, fun m H1 hm0 s1 hsrc => ?_⟩
    refine ⟨.ref m, rfl, (a, ns, 0), m, 26, 0, 0, rfl, by decide, by decide, hsrc, by decide, fun r H2 r0 r1 b2 s2 => ?_⟩
    have src3 : ∃ kvs, H2 m = some (.dK kvs) ∧ kvs.length < sizeLine ∧ SrcAt K (a, ns, r) (upd H2 m (.dK (putK kvs (Sum.inr "first") (.int r)))) m 1 0 := by
      obtain ⟨s0, cs, kk, l, f, hm, hs, h1, h2, h3, h4⟩ := s2
      refine ⟨_, hm, five, s0, cs, kk, l, r, by rw [p_first]; exact upd_same, ?_, h1, h2, h3, ?_⟩
      · exact (But.put (But.refl)).seq hm hs
      · cases h4
        rfl
    obtain ⟨kvs, hm2, hk2, hs3⟩ := src3
    refine ⟨_, rfl, m, _, rfl, .inl ⟨kvs, Sum.inr "first", hm2, rfl, hk2, rfl⟩, ?_⟩
    generalize upd H2 m (.dK (putK kvs (Sum.inr "first") (.int r))) = H3 at hs3 ⊢
    -- told
    refine ⟨_, rfl, (a, ns, r), m, 1, 0, 1, rfl, by decide, by decide, by decide, by decide, hs3, by decide, by decide, fun v t H4 hx hml hok hnm hgr ht hsz b4 s4 => ?_⟩
    obtain ⟨x, rfl⟩ := hx
    rw [Nat.zero_add] at hsz
    have hsz0 : Told.size (5 + 1) (Sum.inr x) ≤ 14 := hsz
    have hsz : Told.size 6 (Sum.inr x) ≤ 16 := Nat.le_trans (show Told.size 6 (Sum.inr x) ≤ 14 from hsz) (by decide)
    have hnd : ((Told.rows 6 (Sum.inr x)).map (·.2)).Nodup := by
      have e := names_rows 6 (Sum.inr x)
      have e2 : Told.names 6 (Sum.inr x) = nms r 0 (Told.size 6 (Sum.inr x)) := hnm
      exact (congrArg List.Nodup (e.trans e2)).mpr (nms_nodup (by omega))
    have hgr1 : Told.great 6 (Sum.inr x) ≤ 1000 := by
      have hgr : Told.great 6 (Sum.inr x) * 1 ≤ 200 := hgr
      omega
    have hR : RootOk 6 (Sum.inr x) := ⟨hok, hnd, hsz, by decide, hgr1⟩
    dsimp only
    show tSeq _ _ _ _ _
    -- called
    have rl := rows_len 6 (Sum.inr x)
    refine g_asg (g_lcGf (Pa := RowP) (rs := Told.rows 6 (Sum.inr x)) (p := (·.1)) (f := fun r : Bool × Str => V.str r.2) (fun H5 s5 R r => ?_) (mn_fa mk_rows) (by omega) (fun r y H5 hr' py s5 => ?_) fun r y H5 hr' hb1 py s5 Q q => ?_) fun v3 H5 s5 p5 => ?_
    · exact ⟨_, rfl, v, Sum.inr x, rfl, hok, hsz, (mk_tat 6 (Sum.inr x)).mn _ _ _ s5 ht, fun p xs H6 s6 hp hf => ⟨p, rfl, ⟨xs, .of hp⟩, r (Itl K p) _ xs H6 s6 (walk_list (xs := xs)) (fun H7 s7 => .of (s7 _ _ hp)) hf⟩⟩
    · obtain ⟨p, xs, rfl, hp, e0, e1⟩ := py
      exact evb_eqS (x := kindS r.1) (y := "worker") (ev_ixT rfl hp e0) ev_c (kind_dec r.1)
    · obtain ⟨p, xs, rfl, hp, e0, e1⟩ := py
      exact ev_ixT rfl hp e1 _ (q _ (Same.refl _))
    obtain ⟨lc, xs, rfl, hlc, fx⟩ := p5
    obtain rfl := fx.is
    have em : (((Told.rows 6 (Sum.inr x)).filter (·.1)).map fun r : Bool × Str => V.str r.2) = (wNames 6 (Sum.inr x)).map V.str := by
      unfold wNames
      rw [List.map_map]
      rfl
    rw [em] at hlc
    have s45 := s4.same s5
    have ht5 := (mk_tat 6 (Sum.inr x)).mn _ _ _ s5 ht
    have lcm : lc ≠ m := fun e => by
      obtain ⟨_, _, _, _, _, hm, _⟩ := s45
      rw [← e, hlc] at hm
      cases hm
    have nl : (wNames 6 (Sum.inr x)).length ≤ 16 := by
      unfold wNames
      rw [List.length_map]
      exact Nat.le_trans (List.length_filter_le _ _) (by omega)
    dsimp only
    show tSeq _ _ _ _ _
    refine ⟨_, rfl, Nat.zero_le _, fun e he => ⟨lc, e, _, rfl, rfl, .inl (.of ((same_new he) _ _ hlc)), .inl (.of upd_same), _, rfl, ?_⟩⟩
    have s56 := same_new (o := .lst []) he
    have hlc6 := s56 _ _ hlc
    have ht6 := (mk_tat 6 (Sum.inr x)).mn _ _ _ s56 ht5
    have src6 := s45.same s56
    generalize upd H5 e (.lst []) = H6 at s56 hlc6 ht6 src6 ⊢
    dsimp only
    by_cases hw0 : wNames 6 (Sum.inr x) = []
    · rw [if_pos (by rw [hw0]; rfl)]
      exact k _
    · rw [if_neg (by simp [hw0])]
      refine st_next ?_
      dsimp only
      show tSeq _ _ _ _ _
      -- spans
      refine ⟨_, rfl, _, rfl, .ref m, rfl, .ref lc, rfl, (a, ns, r), m, lc, _, _, _, rfl, hlc6, by simpa using hw0, by rw [List.length_map]; omega, src6, by omega, lcm, fun zv H7 hzv b7 s7 => ?_⟩
      obtain ⟨z, hz, rfl⟩ := List.mem_map.mp hzv
      have kp7 := b7.kp src6
      refine ⟨(a, ns, r), m, v, Sum.inr x, z, _, _, rfl, by decide, hok, hnd, mk_tat 6 (Sum.inr x) _ _ _ kp7 ht6, s7, by omega, by omega, fun v8 t8 H8 hsp ht8 b8 s8 => ?_⟩
      obtain ⟨er, eg, hok8, hml8⟩ := hsp
      have hml8 := hml8 3 hml
      have hlc8 : H8 lc = some (.lst ((wNames 6 (Sum.inr x)).map V.str)) := b8 _ _ (b7 _ _ hlc6 lcm) lcm
      have ew : wNames 6 t8 = wNames 6 (Sum.inr x) := by
        unfold wNames
        rw [er]
      have sz8 : Told.size 6 t8 ≤ 16 := by
        rw [← rows_len 6 t8, er, rl]
        exact hsz
      have hR8 : RootOk 6 t8 := ⟨hok8, by rw [er]; exact hnd, sz8, by decide, by rw [eg]; exact hgr1⟩
      obtain ⟨x8, rfl⟩ : ∃ x8 : SD × List (Told 5), t8 = Sum.inr x8 := by
        cases t8 with
        | inr x8 => exact ⟨x8, rfl⟩
        | inl d8 =>
          have : [(true, d8.name)] = (false, x.1.name) :: (x.2.map (Told.rows 5)).flatten := er
          cases this
      clear em fx hlc hlc6 ht ht5 ht6 b7 b4 b2 s4 s45 s7 src6 hs3 kp7 hgr hnm
      obtain ⟨c8, hc8, hS8⟩ : ∃ c8, c8 ≤ 100 ∧ SrcAt K (a, ns, r) H8 m 50000 c8 := ⟨_, by omega, s8.mono (by omega)⟩
      have lc8 : lc ≠ m := lcm
      clear s8 b8 hsz0
      dsimp only
      show tSeq _ _ _ _ _
      -- longer, k
      have dl6 : dL 6 = 13650 := by decide
      refine ⟨_, rfl, _, rfl, (a, ns, r), m, v8, Sum.inr x8, 1, 50000, c8, rfl, by decide, hok8, hml8, ht8, by decide, by decide, hS8, by rw [dl6]; decide, by omega, fun v9 u9 H9 hlg hok9 ht9 b9 s9 => ?_⟩
      have k9 := b9.kp hS8
      rw [dl6] at s9
      refine ⟨.ref m, rfl, (a, ns, r), m, 40, _, c8, rfl, by decide, by decide, s9, by decide, fun rk H10 rk0 rk1 b10 s10 => ⟨1, rk, rfl, rfl, _, _, rfl, ?_⟩⟩
      have k10 := k9.trans (b10.kp s9)
      have ht10 := mk_tat 6 (Sum.inr x8) _ _ _ k10 ht8
      have hu10 := mk_tat 6 u9 _ _ _ (b10.kp s9) ht9
      have hlc10 : H10 lc = some (.lst ((wNames 6 (Sum.inr x)).map V.str)) := b10 _ _ (b9 _ _ hlc8 lcm) lcm
      clear b10 s10 b9 s9 hS8 ht8 ht9 hlc8 k9 k10 dl6
      dsimp only
      show tSeq _ _ _ _ _
      -- k
      refine ⟨_, rfl, 10, 9, rfl, rfl, ⟨by decide, by decide, by decide⟩, _, rfl, v8, Sum.inr x8, rfl, by decide, hok8, ht10, fun g H11 g1 g2 hb s11 => ⟨_, g, rfl, rfl, ⟨by omega, by omega⟩, _, _, rfl, ?_⟩⟩
      dsimp only
      have e9 : (10 : Int) ^ Int.toNat 9 = 1000000000 := by decide
      rw [e9]
      generalize hkk : (if Int.fdiv 1000000000 g < 1 + rk then Int.fdiv 1000000000 g else 1 + rk) = kk
      have hfd : Int.fdiv 1000000000 g = 1000000000 / g := Int.fdiv_eq_ediv_of_nonneg _ (by omega)
      have hq1 : 1 ≤ 1000000000 / g := (Int.le_ediv_iff_mul_le (by omega)).mpr (by omega)
      have hq2 : 1000000000 / g * g ≤ 1000000000 := Int.ediv_mul_le _ (by omega)
      have hk1 : 1 ≤ kk := by rw [← hkk, hfd]; split <;> omega
      have hk2 : kk ≤ 40 := by rw [← hkk, hfd]; split <;> omega
      have hkq : kk ≤ 1000000000 / g := by rw [← hkk, hfd]; split <;> omega
      have hkg : kk * g ≤ 1000000000 := Int.le_trans (Int.mul_le_mul_of_nonneg_right hkq (by omega)) hq2
      clear hkk hfd hq1 hq2 hkq e9
      have ht11 := (mk_tat 6 (Sum.inr x8)).mn _ _ _ s11 ht10
      have hu11 := (mk_tat 6 u9).mn _ _ _ s11 hu10
      have hlc11 := s11 _ _ hlc10
      show tSeq _ _ _ _ _
      -- longer once more
      refine st_tSeqY (st_anyS (R := fun σ' H' => ∃ (v5 : V) (u : Told 6), σ' = [some (.ref a), some (.ref m), some v8, some (.ref lc), none, some v5, some (.int kk), none, none, none, none] ∧ Same H11 H' ∧ TAt 6 u v5 H' ∧ Told.Ok 6 u ∧ Longer 6 (Sum.inr x8) u ∧ Told.great 6 u ≤ 1000) (fun D' q' => ?_) (fun σ' H12 ⟨v5, u, hσ, s12, hu12, hoku, hlu, hgu⟩ => ?_))
      · refine ⟨_, rfl, v9, u9, 1, rfl, by decide, hok9, hu11, fun b H12 hb12 s12 => ⟨b, rfl, ?_⟩⟩
        cases b with
        | true => exact q' _ _ ⟨v9, u9, rfl, s12, (mk_tat 6 u9).mn _ _ _ s12 hu11, hok9, hlg, by have := hb12 rfl (by decide); omega⟩
        | false => exact ⟨_, rfl, q' _ _ ⟨v8, Sum.inr x8, rfl, s12, (mk_tat 6 (Sum.inr x8)).mn _ _ _ s12 ht11, hok8, long_refl _ _, hR8.2.2.2.2⟩⟩
      subst hσ
      obtain ⟨y, rfl⟩ : ∃ y : SD × List (Told 5), u = Sum.inr y := by
        cases u with
        | inr y => exact ⟨y, rfl⟩
        | inl d => exact hlu.elim
      have ery : Told.rows 6 (Sum.inr y) = Told.rows 6 (Sum.inr x8) := long_rows 6 _ _ hlu
      have hRy : RootOk 6 (Sum.inr y) := ⟨hoku, by rw [ery]; exact hR8.2.1, Nat.le_trans (Nat.le_of_eq ((rows_len 6 (Sum.inr y)).symm.trans ((congrArg List.length ery).trans (rows_len 6 (Sum.inr x8))))) hR8.2.2.1, by decide, hgu⟩
      have er3 : Told.rows 6 (Told.times kk 6 (Sum.inr x8)) = Told.rows 6 (Sum.inr x8) := rows_mul 6 (Sum.inr x8)
      have hok3 : Told.Ok 6 (Told.times kk 6 (Sum.inr x8)) := ok_mul hk1 hkg 6 _ hok8 hb
      have hR3 : RootOk 6 (Told.times kk 6 (Sum.inr x8)) := ⟨hok3, by rw [er3]; exact hR8.2.1, Nat.le_trans (Nat.le_of_eq ((rows_len 6 (Told.times kk 6 (Sum.inr x8))).symm.trans ((congrArg List.length er3).trans (rows_len 6 (Sum.inr x8))))) hR8.2.2.1, by decide, Nat.le_trans (Nat.le_of_eq (great_mul 6 (Sum.inr x8))) hR8.2.2.2.2⟩
      have ht12 := (mk_tat 6 (Sum.inr x8)).mn _ _ _ s12 ht11
      have hlc12 := s12 _ _ hlc11
      clear ht11 hu11 hu10 ht10 hlc11 hlc10 s11 s12 hok9 hlg hgu
      dsimp only
      show tSeq _ _ _ _ _
      -- plans
      refine g_par (P := PAt K 6 (Sum.inr x8)) (P' := PAt K 6 (Sum.inr y)) ⟨fun H13 e Q q => ⟨_, rfl, v8, Sum.inr x8, rfl, hok8, hR8.2.2.1, by decide, (mk_tat 6 (Sum.inr x8)).mn _ _ _ e ht12, q⟩, (mk_pat 6 _).mn⟩ ⟨fun H13 e Q q => ⟨_, rfl, v5, Sum.inr y, rfl, hoku, hRy.2.2.1, by decide, (mk_tat 6 (Sum.inr y)).mn _ _ _ e hu12, q⟩, (mk_pat 6 _).mn⟩ fun v7 v8' H13 s13 p7 p8 => ?_
      have ht13 := (mk_tat 6 (Sum.inr x8)).mn _ _ _ s13 ht12
      have hlc13 := s13 _ _ hlc12
      clear ht12 hu12 hlc12
      dsimp only
      show tSeq _ _ _ _ _
      refine ⟨_, rfl, _, rfl, v8, Sum.inr x8, kk, rfl, by omega, by omega, by decide, hok8, ht13, fun v14 H14 s14 h14 => ⟨v14, Told.times kk 6 (Sum.inr x8), rfl, hok3, hR3.2.2.1, by decide, h14, fun v9' H15 s15 p9 => ?_⟩⟩
      have s1315 := s14.trans s15
      have p7 := (mk_pat 6 (Sum.inr x8)).mn _ _ _ s1315 p7
      have p8 := (mk_pat 6 (Sum.inr y)).mn _ _ _ s1315 p8
      have hlc15 := s1315 _ _ hlc13
      clear h14 ht13 hlc13 s14 s15
      have hw8 : wNames 6 (Sum.inr x8) ≠ [] := by rw [ew]; exact hw0
      rw [← ew] at hlc15
      have ewy : wNames 6 (Sum.inr y) = wNames 6 (Sum.inr x8) := by unfold wNames; rw [ery]
      have ew3 : wNames 6 (Told.times kk 6 (Sum.inr x8)) = wNames 6 (Sum.inr x8) := by unfold wNames; rw [er3]
      have facts : ∀ z ∈ wNames 6 (Sum.inr x8), (∃ sp, Told.spot z 6 (Sum.inr x8) = some sp) ∧ SupFree z 6 (Sum.inr x8) := fun z hz => wName_facts hR8.2.1 hz
      have free : ∀ {z : Str} {t : Told 6}, Told.rows 6 t = Told.rows 6 (Sum.inr x8) → SupFree z 6 (Sum.inr x8) → SupFree z 6 t := fun {z t} e h => by
        unfold SupFree
        rw [e]
        exact h
      dsimp only
      show tSeq _ _ _ _ _
      refine ⟨_, rfl, lc, rfl, ⟨_, .of hlc15⟩, ?_⟩
      refine for_it (walk_list (xs := (wNames 6 (Sum.inr x8)).map V.str)) (fun i σ H' => Same H15 H' ∧ ∃ a10, σ = [some (.ref a), some (.ref m), some v8, some (.ref lc), none, some v5, some (.int kk), some v7, some v8', some v9', a10]) ⟨Same.refl _, none, rfl⟩ (fun i σ H' _ q => .of (q.1 _ _ hlc15)) (fun i x1 σ H16 H17 hi q yy => ?_) (fun σ H16 q => ?_)
      · obtain ⟨s16, a10, rfl⟩ := q
        obtain ⟨rfl, hx1⟩ := yy
        obtain ⟨z, hz, rfl⟩ : ∃ z, (wNames 6 (Sum.inr x8))[i]? = some z ∧ x1 = .str z := by
          rw [List.getElem?_map] at hx1
          cases h : (wNames 6 (Sum.inr x8))[i]? with
          | none => rw [h] at hx1; cases hx1
          | some z => rw [h] at hx1; cases hx1; exact ⟨z, rfl, rfl⟩
        obtain ⟨⟨sp, hsp⟩, hfree⟩ := facts z (List.mem_of_getElem? hz)
        have hx7 : Here K 5 x8 z sp v7 H17 := ⟨hR8, hfree, hsp, (mk_pat 6 _).mn _ _ _ s16 p7⟩
        have hy8 : Here K 5 y z sp v8' H17 := ⟨hRy, free ery hfree, (long_spot 6 _ _ hlu).trans hsp, (mk_pat 6 _).mn _ _ _ s16 p8⟩
        have h39 : Here K 5 (x8.1.times kk, x8.2.map (Told.times kk 5)) z sp v9' H17 := ⟨hR3, free er3 hfree, (spot_mul 6 (Sum.inr x8)).trans hsp, (mk_pat 6 _).mn _ _ _ s16 p9⟩
        dsimp only
        show tSeq _ _ _ _ _
        refine ⟨_, rfl, _, rfl, _, rfl, 5, v7, v8', x8, y, z, sp, rfl, by decide, hx7, hy8, hlu, fun H18 s18 => ⟨true, rfl, ?_⟩⟩
        refine st_next ?_
        dsimp only
        refine ⟨_, rfl, _, rfl, _, rfl, _, rfl, 5, v7, v9', x8, kk, z, sp, rfl, by decide, hk1, by omega, hx7.mn s18, h39.mn s18, fun H19 s19 => ⟨true, rfl, ?_⟩⟩
        exact ⟨(s16.trans s18).trans s19, _, rfl⟩
      · obtain ⟨s16, a10, rfl⟩ := q
        have q7 := (mk_pat 6 (Sum.inr x8)).mn _ _ _ s16 p7
        have q8 := (mk_pat 6 (Sum.inr y)).mn _ _ _ s16 p8
        have q9 := (mk_pat 6 (Told.times kk 6 (Sum.inr x8))).mn _ _ _ s16 p9
        have lo := long_open 6 _ _ hlu
        have ls := long_stop 6 _ _ hlu
        show tSeq _ _ _ _ _
        refine ⟨_, rfl, v8', Sum.inr y, rfl, hoku, q8, fun H17 s17 => ⟨_, rfl, v7, Sum.inr x8, rfl, hok8, (mk_pat 6 _).mn _ _ _ s17 q7, fun H18 s18 => ⟨_, _, rfl, rfl, false, congrArg V.bl (decide_eq_false (by omega)), ?_⟩⟩⟩
        dsimp only
        rw [if_neg Bool.false_ne_true]
        have s1718 := s17.trans s18
        refine ⟨_, rfl, v8', Sum.inr y, rfl, hoku, (mk_pat 6 _).mn _ _ _ s1718 q8, fun H19 s19 => ⟨_, rfl, v7, Sum.inr x8, rfl, hok8, (mk_pat 6 _).mn _ _ _ (s1718.trans s19) q7, fun H20 s20 => ⟨_, _, rfl, rfl, false, congrArg V.bl (decide_eq_false (by omega)), ?_⟩⟩⟩
        dsimp only
        rw [if_neg Bool.false_ne_true]
        refine st_next ?_
        dsimp only
        have s20' := (s1718.trans s19).trans s20
        have pm : ∀ z ∈ wNames 6 (Sum.inr x8), prodI (facs 6 (Sum.inr x8) ((Told.spot z 6 (Sum.inr x8)).getD [])) ≤ prodI (facs 6 (Sum.inr y) ((Told.spot z 6 (Sum.inr y)).getD [])) := fun z hz => by
          have e : Told.spot z 6 (Sum.inr y) = Told.spot z 6 (Sum.inr x8) := long_spot 6 _ _ hlu
          rw [e]
          exact prod_long hok8 hlu _
        have wp3 : wProds 6 (Told.times kk 6 (Sum.inr x8)) = wProds 6 (Sum.inr x8) := by
          unfold wProds
          rw [ew3]
          exact List.map_congr_left fun z _ => by
            have e1 : Told.spot z 6 (Told.times kk 6 (Sum.inr x8)) = Told.spot z 6 (Sum.inr x8) := spot_mul 6 (Sum.inr x8)
            have e2 : ∀ sp, facs 6 (Told.times kk 6 (Sum.inr x8)) sp = facs 6 (Sum.inr x8) sp := fun sp => facs_mul 6 (Sum.inr x8) sp
            show prodI (facs 6 (Told.times kk 6 (Sum.inr x8)) ((Told.spot z 6 (Told.times kk 6 (Sum.inr x8))).getD [])) = _
            rw [e1, e2]
        have few : ∀ {σ : L2.St} {H21 : Hp} {Q : VK} {E : XK} {i : Nat} {v : V} {x : SD × List (Told 5)}, RootOk 6 (Sum.inr x) → wNames 6 (Sum.inr x) = wNames 6 (Sum.inr x8) → PAt K 6 (Sum.inr x) v H21 → σ[i]? = some (some v) → (∀ m H', m ∈ wProds 6 (Sum.inr x) → (∀ y ∈ wProds 6 (Sum.inr x), m ≤ y) → Same H21 H' → Q (.int m) H') → tCall (spFew K) [] E (tCons (tVar i) tNil) σ H21 Q := fun {σ H21 Q E i v x} hR e p hi q =>
          ⟨_, hi, 5, v, x, rfl, by decide, hR, p, (fun z => absurd (e.symm.trans z) hw8), fun _ => q⟩
        show tRet _ _ _ _
        refine few hR8 rfl ((mk_pat 6 _).mn _ _ _ s20' q7) rfl fun m1 H21 hm1 hl1 s21 => ?_
        refine few hRy ewy ((mk_pat 6 _).mn _ _ _ (s20'.trans s21) q8) rfl fun m2 H22 hm2 hl2 s22 => ⟨_, _, rfl, rfl, ?_⟩
        have h12 : m1 ≤ m2 := by
          unfold wProds at hm2
          rw [ewy] at hm2
          obtain ⟨z, hz, rfl⟩ := List.mem_map.mp hm2
          exact Int.le_trans (hl1 _ (List.mem_map.mpr ⟨z, hz, rfl⟩)) (pm z hz)
        refine ⟨true, congrArg V.bl (decide_eq_true h12), ?_⟩
        dsimp only
        rw [if_pos rfl]
        refine few (x := (x8.1.times kk, x8.2.map (Told.times kk 5))) hR3 ew3 ((mk_pat 6 _).mn _ _ _ ((s20'.trans s21).trans s22) q9) rfl fun m3 H23 hm3 hl3 s23 => ?_
        refine few hR8 rfl ((mk_pat 6 _).mn _ _ _ (((s20'.trans s21).trans s22).trans s23) q7) rfl fun m4 H24 hm4 hl4 s24 => ?_
        have hm3 : m3 ∈ wProds 6 (Sum.inr x8) := wp3 ▸ hm3
        have hl3 : ∀ y ∈ wProds 6 (Sum.inr x8), m3 ≤ y := fun y hy => hl3 y (wp3.symm ▸ hy)
        obtain rfl : m3 = m4 := Int.le_antisymm (hl3 m4 hm4) (hl4 m3 hm3)
        refine ⟨rfl, ?_⟩
        rw [decide_eq_true rfl]
        exact k _
end
end W48

set_option Elab.async false
set_option linter.all false
set_option maxRecDepth 100000
set_option maxHeartbeats 0
namespace W48
open PySem PySem.Spec PyProof.Rows L2 WXG WEv WRd WLf
theorem facts {P : Program} {w : World} {K : PySem.W.Frag} {h : Heap} {mg : Str → Option Value} {f : Addr} (X : K.In h) (G : h.Ns mainGlobals mg) (hfa : mg ("law" : Str) = some (.ref f)) (c : WHe.SaysK chk fns K) :
    ∃ fd : FuncData, (∀ (s : Shared) (v : Value), BindsTo s fd ⟨[v], []⟩ [("script", v)]) ∧ ∀ base : Heap, K.In base → base.Ns mainGlobals mg → FnG P w K mg base CX0 30 f fd ["script"] (spLaw K) := by
  obtain ⟨T⟩ := env_of X G c
  have e := hfa.symm.trans T.g_law
  have ef : f = d_law.loc K := by
    injection e with e
    injection e
  subst ef
  have b := FunD.bindsA (ps := ["script"]) T.F_law fun _ _ _ _ _ _ us hl => match us, hl with | [_], _ => rfl
  exact ⟨T.fd_law, fun s v => b s [v] rfl, fun base _ _ => ok_law T⟩
end W48
open PySem PySem.W PySem.Calls PyProof.Rows
theorem PySem.Challenge.cw_watchtree_k48_whole_longer_times_are_saf_holds : PySem.Challenge.rw_watchtree_k48_whole_longer_times_are_saf.Holds := by
  w_on; o_law
  refine HandSHeadRun.head_any (r := OpenLaw.row PySem.Challenge.rw_watchtree_k48_whole_longer_times_are_saf) (q := view (OpenLaw.row PySem.Challenge.rw_watchtree_k48_whole_longer_times_are_saf).prog [116]) (H := W48.hk) (ob := W48.ob) (M := 9000) (loose := W48.loose) (d := HandSHeadRun.topDef (OpenLaw.row PySem.Challenge.rw_watchtree_k48_whole_longer_times_are_saf).prog 116) (kwd := []) W48.ob_eq
    (by kernel_rfl) (fun s => by kernel_rfl) W48.run (by kernel_rfl) (by kernel_rfl) (by kernel_rfl) (by rfl) (by first | assumption | decide +kernel) (by decide +kernel) ⟨rfl, rfl, rfl, rfl, rfl, by decide +kernel⟩ ?hw ?hc
  case hw => w_witness2
  case hc =>
    refine WXG.walk_G (l := PySem.Challenge.rw_watchtree_k48_whole_longer_times_are_saf) (n := 63) (k := 30) (x := "script") (CX := L2.CX0) rfl (by decide) (by kernel_rfl) ⟨rfl, by decide, by decide⟩ ?F (fun _ _ _ _ z => z)
    intro w mg fa h Y G hmg0
    obtain ⟨K, KX, c⟩ := Y
    have hmg : mg ("law" : PySem.Str) = some (.ref fa) := by
      have e : (HandSHeadRun.topDef (OpenLaw.row PySem.Challenge.rw_watchtree_k48_whole_longer_times_are_saf).prog 116).name = ("law" : PySem.Str) := by kernel_rfl
      rw [← e]
      exact hmg0
    obtain ⟨fd, hb, hF⟩ := W48.facts (P := (PySem.Challenge.rw_watchtree_k48_whole_longer_times_are_saf).prog) (w := w) KX G hmg c
    exact ⟨K, fd, W48.spLaw K, KX, hb, fun H a ns hl _ hS => ⟨a, ns, rfl, hS, hl, fun _ => rfl⟩, hF⟩
