import PyProof.Rows.All
import Wide.All
import OpenK.AllK
import Wide.FinOn
import KE.KExcInit
import KE.KExcIs
import HandS.Base
import HandS.Call
import HandS.List
import HandS.Exc
import HandS.ExcInit
import HandS.Words
import HandS.Defaults
import PyProof.ReprRoads
import HandS.Ends
import HandS.Dict
import HandS.Comp
import HandS.WordsList
import HandS.WordsDict
import HandS.WordsExc
import HandS.Head0
import HandS.Head1
import HandS.Head2
import HandS.HeadEnd
import HandS.HeadHook1
import HandS.HeadHook2
import HandS.Walk
import PyProof.ExcBaseAll.RuntimeError
import PyProof.ExcBaseAll.LookupError
import PyProof.ExcBaseAll.ValueError
import HandS.Iter
import HandS.IsInst
import HandS.TryOnly
import HandS.NoneIn
import PySem.Challenge.RW_watchtree_k87_errors_by_hand
set_option Elab.async false
set_option linter.all false
set_option maxRecDepth 100000
set_option maxHeartbeats 4000000
/-! exceptions of the program's own classes as values: made, with a field stored by their __init__, read, asked by isinstance -/
namespace WXE
open PySem PySem.Spec PyProof.Rows L2 Builtin.ObjectAttr

/-- what the written part says of an exception class of the program -/
structure XC (K : PySem.W.Frag) (C : Addr) (B newId initId : String) (bmB : List Value) : Prop where
  fb : ExcBaseFacts B newId initId bmB
  sf : StoreFacts B bmB "object.__setattr__" "object"
  ini : PySem.W.excInitIn K C bmB newId = true
  ovr : PySem.W.excOver K C bmB = true
  hd : PySem.W.hasDictIn K C = true
  sa : PySem.W.findIn K (.ref C) "__setattr__" = some (some (.builtin "object.__setattr__"))
  ga : PySem.W.findIn K (.ref C) "__getattribute__" = some (some (.builtin "BaseException.__getattribute__"))
  gg : PySem.W.findIn K (.ref C) "__getattr__" = some none
  ex : PySem.W.subIn K (.ref C) (.type "BaseException") = some true
  cc : PySem.W.findIn K (.ref C) "__class__" = some (some (.builtin "object.__class__"))
  mo : PySem.W.mroIn K C (.type "object") = some true
  kp : PySem.W.keepIn K (.ref C) = true
  gs : PySem.W.specialIn K (.builtin "object.__class__") "__get__" = some (some (.builtin "getset_descriptor.__get__"))
  tk : PySem.W.takesIn K (.builtin "object.__class__") = some true

section
variable {prog : Program} {w : World} {A : Around} {E : Value → Shared → Prop} {hp : Heap} {g : Array GenState} {d : Drawn} {t : Nat} {os : OsState}
theorem set_first {K : PySem.W.Frag} {B : String} {bmB : List Value} {x C t0 : Addr} {name : Str} {v : Value} {Q : Unit → Shared → Prop}
    (SF : StoreFacts B bmB "object.__setattr__" "object") (X : K.In hp) (hx : hp.get? x = some (PySem.W.excObj C t0 none .none))
    (hov : PySem.W.excOver K C bmB = true) (hh : PySem.W.hasDictIn K C = true)
    (hs : PySem.W.findIn K (.ref C) "__setattr__" = some (some (.builtin "object.__setattr__"))) (ha : PySem.W.findIn K (.ref C) name = some none)
    (hq : ∀ h' tk' dx, (∀ b o, b ≠ x → hp.get? b = some o → h'.get? b = some o) → hp.objs.size ≤ dx → dx ≠ x →
      h'.get? x = some (PySem.W.excObj C t0 (some dx) .none) → h'.Ns1 dx (fun y => if y = name then some v else none) → Q () ⟨h', g, d, tk', os⟩) :
    wpAny (model prog w) A (setAttr (.ref x) name v) Q E ⟨hp, g, d, t, os⟩ := by
  obtain ⟨cd, hc, hd'⟩ := PySem.W.any_some hh
  have hxs : x ≠ hp.objs.size := Nat.ne_of_lt (Heap.lt_size hx)
  refine PySem.W.set_plain X (od := none) ⟨hx, rfl, rfl, trivial⟩ hs ?_
  refine PySem.W.osa_openX (s := ⟨hp, g, d, t + 1, os⟩) (od := none) SF X ⟨hx, rfl, rfl, trivial⟩ hov (by unfold PySem.W.takerIn; rw [ha]; rfl) fun b => ?_
  refine wpAny_bind (wpAny_pure (wpAny_bind (PySem.W.instanceDict_exc (s := ⟨hp, g, d, t + 1, os⟩) hx (PySem.W.looks_clsIn X hc) hd' ?_)))
  show wpAny _ _ (storeInDict hp.objs.size (.str name _) name v) _ _ _
  have hx1 : (hp.push (PySem.W.dictOf [] 0)).get? x = some (PySem.W.excObj C t0 none .none) := Heap.get?_push_of_some _ hx
  refine PySem.HandSPX.store_in_new ⟨_, #[], _, (Heap.get?_update_ne _ _ _ _ hxs.symm).trans (Heap.get?_push_at rfl rfl), rfl, fun e he => absurd he (by simp), fun _ => rfl⟩ fun h' tk' hn' hs' => ?_
  refine hq h' tk' hp.objs.size (fun b o hb ho => ?_) (Nat.le_refl _) hxs.symm ?_ hn'
  · exact (hs'.2 b (Nat.ne_of_lt (Heap.lt_size ho))).trans ((Heap.get?_update_ne _ _ _ _ hb).trans (Heap.get?_push_of_some _ ho))
  · exact (hs'.2 x hxs).trans (Heap.get?_update_self _ hx1 rfl)
end

section
variable {X : Cx} {pins : List (Addr × Obj)} {σ : L2.St} {H : Hp} {s : Shared} {a C dx : Addr} {f : Str} {y : V} {u : Value} {fs : List (Str × V)} {B newId initId : String} {bmB : List Value} {A : Around} {E : Value → Shared → Prop}
/-- one object changed in its place, one new beside it -/
theorem inv_pair {h' : Heap} {tk' : Nat} {o o1 o2 : HO} (I : Inv X pins σ H s) (e : H a = some o) (hno : ∀ z, o ≠ .own z) (hnt : ∀ xs, o ≠ .tup xs) (hnf : ∀ ob v, o ≠ .frz ob v) (hnb : ∀ ps, o ≠ .tbl ps)
    (k : ∀ b ob, b ≠ a → s.heap.get? b = some ob → h'.get? b = some ob) (dn : s.heap.objs.size ≤ dx) (hx : ∃ ob, h'.get? a = some ob)
    (w1 : ∀ H', ObjOk X.prog X.w H' h' dx o1) (w2 : ∀ H', ObjOk X.prog X.w H' h' a o2) : Inv X pins σ (upd (upd H dx o1) a o2) { s with heap := h', toks := tk' } := by
  have hnd : H dx = none := I.hok.fresh dn
  have nd : ∀ {b : Addr} {ob : Obj}, s.heap.get? b = some ob → b ≠ dx := fun {b ob} q => Nat.ne_of_lt (Nat.lt_of_lt_of_le (Heap.lt_size q) dn)
  have na : ∀ {b : Addr}, H b = none → b ≠ a := fun {b} n z => by
    rw [z, e] at n
    cases n
  have apart : ∀ {b : Addr} {u : HO}, H b = some u → o ≠ u → b ≠ a := fun {b u} q n z => by
    rw [z, e] at q
    exact n (Option.some.inj q)
  refine I.un (t' := tk') ⟨fun b ob q n _ _ => k b ob (na n) q, fun b ob q n _ _ => ⟨ob.slots, k b ob (na n) q⟩, fun b ob q n _ => ?_, fun b ob q _ => ?_, fun b xs q => ?_, fun b ob v q => ?_, fun b ps q => ⟨#[], ?_⟩⟩ fun b ob q => ?_
  · rw [upd_ne (na n), upd_ne (nd q)]
    exact n
  · by_cases hb : b = a
    · rw [hb]
      exact hx
    · exact ⟨ob, k b ob hb q⟩
  · rw [upd_ne (apart q (hnt _)), upd_ne (ne_of_none q hnd)]
    exact q
  · rw [upd_ne (apart q (hnf _ _)), upd_ne (ne_of_none q hnd)]
    exact q
  · rw [upd_ne (apart q (hnb _)), upd_ne (ne_of_none q hnd), q]
    simp
  · by_cases hb : b = a
    · subst hb
      rw [upd_same] at q
      cases q
      exact w2 _
    · rw [upd_ne hb] at q
      by_cases hd : b = dx
      · subst hd
        rw [upd_same] at q
        cases q
        exact w1 _
      · rw [upd_ne hd] at q
        refine (I.hok b ob q).stay (fun c v hc z => k c v ?_ z) (fun c hc => ?_) fun c xs hc => ?_
        · rcases hc with hc | hc
          · rw [hc]
            exact hb
          · exact apart hc (hno _)
        · rw [upd_ne (apart hc (hno _)), upd_ne (ne_of_none hc hnd)]
          exact hc
        · rw [upd_ne (apart hc (hnt _)), upd_ne (ne_of_none hc hnd)]
          exact hc
/-- self.f = y, its first field -/
theorem xset_ok {Q : Unit → Shared → Prop} (T : XC X.K C B newId initId bmB) (I : Inv X pins σ H s) (e : H a = some (exo a C none)) (hno : PySem.W.findIn X.K (.ref C) f = some none) (ry : RelV y u)
    (h : ∀ dx s', H dx = none → dx ≠ a → Inv X pins σ (upd (upd H dx (exd dx [(f, y)])) a (exo a C (some dx))) s' → Q () s') : wpAny (model X.prog X.w) A (setAttr (.ref a) f u) Q E s := by
  obtain ⟨t1, ho⟩ := exo_at I.hok e
  obtain ⟨hp, g, d, t, os⟩ := s
  refine set_first T.sf I.kIn ho T.ovr T.hd T.sa hno fun h' tk' dx k dn dne hx hn => ?_
  exact h dx _ (I.hok.fresh dn) dne (inv_pair I e (fun _ => exo_own) (fun _ => exo_tup) (fun _ _ => exo_frz) (fun _ => exo_tbl) k dn ⟨_, hx⟩ (fun _ => exd_ok hn (relO_put (fs := []) ry fun _ => True.intro)) fun _ => exo_ok hx)
/-- B.__init__(self, ..) -/
theorem xinit_ok {us : List Value} {Q : Value → Shared → Prop} (T : XC X.K C B newId initId bmB) (I : Inv X pins σ H s) (e : H a = some (exo a C none)) (hl : us.length ≤ sizeLine) (h : ∀ s', Inv X pins σ H s' → Q .none s') :
    wpAny (model X.prog X.w) A (call (.builtin initId) (.ref a :: us)) Q E s := by
  obtain ⟨t1, ho⟩ := exo_at I.hok e
  obtain ⟨nm, N, qn, bs, bm, hdct, sn, sub, ab, col, dd, k0, k1, k2, k3, k5, hC, hT⟩ := PySem.W.excInit_of I.kIn T.ini
  obtain ⟨hp, g, d, t, os⟩ := s
  refine wpAny_call (PySem.HandSPX.init_base T.fb hT hC ho hl fun h' t2 k hx => ?_)
  have J := I.write (t' := t) (x := a) (e := a) (o := exo a C none) (by rw [e]; exact True.intro) (.inl rfl) k ⟨_, hx⟩ (exo_ok hx)
  have eu : upd H a (exo a C none) = H := funext fun b => by
    by_cases hb : b = a
    · rw [hb, upd_same, e]
    · rw [upd_ne hb]
  rw [eu] at J
  exact h _ J
end

/-! ### readings and rules -/
/-- B.__init__(self, ..), read off an own class above -/
def tXini (K : PySem.W.Frag) (initId : String) (ta : TA) : TE := fun σ H Q => ta σ H fun vs H1 => ∃ (a C : Addr) (ws : List V) (B newId : String) (bmB : List Value),
  vs = .ref a :: ws ∧ ws.length ≤ 1000 ∧ XC K C B newId initId bmB ∧ H1 a = some (exo a C none) ∧ Q .non H1
/-- self.f = e on an exception without a field -/
def tXst (K : PySem.W.Frag) (f : Str) (to te : TE) : TS := fun D σ H => te σ H fun y H1 => to σ H1 fun x H2 => ∃ (a C : Addr) (B newId initId : String) (bmB : List Value),
  x = .ref a ∧ XC K C B newId initId bmB ∧ PySem.W.findIn K (.ref C) f = some none ∧ H2 a = some (exo a C none) ∧
    ∀ dx, H2 dx = none → dx ≠ a → D.nx σ (upd (upd H2 dx (exd dx [(f, y)])) a (exo a C (some dx)))
/-- C(..), C's own __init__ keeping sp: the exception stays as a value -/
def tXmk (C : Addr) (n m : Nat) (sp : Sp) (E : XK) (gV : List V → List V → List V) (ta tk : TA) : TE := fun σ H Q => ta σ H fun vs H1 => tk σ H1 fun zs H2 => vs.length = n ∧ zs.length = m ∧ n ≤ 1000 ∧
  ∀ a, H2 a = none → sp (gV (.ref a :: vs) zs) (upd H2 a (exo a C none)) (fun v H3 => v = .non ∧ Q (.ref a) H3) E
/-- e.f of an exception -/
def tXfld (K : PySem.W.Frag) (f : Str) (te : TE) : TE := fun σ H Q => te σ H fun x H1 => ∃ (a C dx : Addr) (fs : List (Str × V)) (v : V) (B newId initId : String) (bmB : List Value),
  x = .ref a ∧ H1 a = some (exo a C (some dx)) ∧ H1 dx = some (exd dx fs) ∧ XC K C B newId initId bmB ∧ PySem.W.findIn K (.ref C) f = some none ∧ fs.lookup f = some v ∧ Q v H1
/-- a whole exception at a -/
def XAt (H : Hp) (a C : Addr) : Prop := H a = some (exo a C none) ∨ ∃ dx fs, H a = some (exo a C (some dx)) ∧ H dx = some (exd dx fs)
/-- isinstance(e, c) | isinstance(e, (c, ..)) -/
def rXis (K : PySem.W.Frag) : List V → Hp → VK → Prop := fun xs H Q => ∃ (a C : Addr) (c : V) (B newId initId : String) (bmB : List Value) (b : Bool),
  xs = [.ref a, c] ∧ XAt H a C ∧ XC K C B newId initId bmB ∧ ((∃ cv, (∀ u, RelV c u → u = cv) ∧ PySem.W.kitOne K (.ref C) cv = some b) ∨
    ∃ p cs, c = .ref p ∧ H p = some (.tup cs) ∧ ∀ us, Vals cs us → PySem.W.kitAny K (.ref C) us = some b) ∧ Q (.bl b) H

section
variable {X : Cx} {o e : Expr} {es : List Expr} {to te : TE} {ta tk : TA} {f x : Str} {p p' p1 p2 pos : Pos} {initId : String}
theorem pe_xini {C0 : Addr} {pl : Sem Bool} (hg : Gl X x) (hm : X.mg x = some (.ref C0)) (hr : PySem.W.readsIn X.K C0 (.type "type") = true)
    (hs : PySem.W.specialIn X.K (.ref C0) "__getattribute__" = some (some (.builtin "type.__getattribute__"))) (hf : PySem.W.findCls X.K (.ref C0) (.type "type") "__init__" = some (.val (.builtin initId)))
    (hh : PySem.W.handedIn (.builtin initId) = true) (ha : PA X (e :: es) ta) (hdb : (x == ("__debug__" : Str)) = false := by decide)
    (hc : eval (.Call (.Attribute (.Name x p1) "__init__" p2) (e :: es) [] pos) X.env = (do
      let ov ← eval (.Name x p1) X.env
      standAt p2.atName
      let (f, first) ← holding [ov] (getMethod ov "__init__" pl)
      callWith pos f first (backTo pos (starEach (e :: es) X.env)) (backToKw pos (keywordEach [] X.env))) := by rfl)
    (he : starEach (e :: es) X.env = (false, eval e X.env) :: starEach es X.env := by rfl) (hpl : (backTo pos (starEach es X.env)).any (·.1) = false := by rfl) :
    PE X (.Call (.Attribute (.Name x p1) "__init__" p2) (e :: es) [] pos) (tXini X.K initId ta) := by
  refine ⟨fun pins s σ H Q I h => ?_⟩
  refine PySem.W.methodCall_KW (ld_glob I hg hm ?_ hdb) hc
  refine PySem.W.method_cls I.kIn hs (PySem.W.cls_value I.kIn hr hf hh ?_)
  show wpAny _ _ (callWith pos (Value.builtin initId) [] (backTo pos (starEach (e :: es) X.env)) []) _ _ _
  refine PyProof.Rows.callWith_method1 (thn (ha.run pos pins _ σ H _ (I.tok _) h) fun us s1 ⟨vs, H1, I1, r1, a, C, ws, B, newId, bmB, ev, hl, T, ea, q⟩ => ?_) he hpl
  subst ev
  cases r1 with
  | @cons _ u0 _ ur ra rw' =>
    obtain rfl : u0 = Value.ref a := ra
    exact xinit_ok T I1 ea (by rw [← Paired.length rw', sizeLine_eq]; omega) fun s' J => ⟨.non, H1, J, rfl, q⟩
theorem ps_xst (ho : PE X o to) (he : PE X e te) (hs : swapsWith e (some (.Attribute o f p')) pos.line X.env = pure false := by rfl) : PS X (.Assign [.Attribute o f p'] e pos) (tXst X.K f to te) := by
  refine ⟨fun pins s σ H D I h => ?_⟩
  refine plainObj_wpAny_Assign_Attribute (thn (he.run pins s σ H _ I h) fun v s1 ⟨y, H1, I1, r1, q1⟩ => thn (ho.run pins s1 σ H1 _ I1 q1) fun u s2 ⟨x, H2, I2, r2, a, C, B, n, i, bm, ex, T, hno, ea, q⟩ => ?_) hs
  subst ex
  obtain rfl : u = Value.ref a := r2
  exact xset_ok T I2 ea hno r1 fun dx s' nx ne J => ⟨σ, _, J, q dx nx ne⟩
theorem pe_xfld (he : PE X e te) (hb : attributeBase e f X.env (eval e X.env) = eval e X.env := by rfl) : PE X (.Attribute e f pos) (tXfld X.K f te) := by
  refine ⟨fun pins s σ H Q I h => ?_⟩
  refine attr_of hb (thn (he.run pins s σ H _ I h) fun u s1 hh => ?_)
  obtain ⟨x, H1, I1, rx, a, C, dx, fs, v, B, n, i, bm, ex, ea, ed, T, hno, l, q⟩ := hh
  subst ex
  obtain rfl : u = Value.ref a := rx
  obtain ⟨t1, ho⟩ := exo_at I1.hok ea
  obtain ⟨mA, hns, rel⟩ := exd_at I1.hok ed
  obtain ⟨od, hod, hl⟩ := lookIn_ns hns
  obtain ⟨u, hu, ru⟩ := RelO.some_of (v := v) (o := mA f) (by rw [← l]; exact rel f)
  refine HandSPX.exc_get I1.kIn (od := some od) ⟨ho, rfl, rfl, hod⟩ T.ga T.gg T.ex (PySem.W.findObj_own T.hd hno rfl (by rw [hl, hu])) (handed_of ru) ⟨v, H1, I1.tok _, ru, q⟩
theorem x_inst {pins : List (Addr × Obj)} {σ : L2.St} {H : Hp} {s : Shared} {a C : Addr} (I : Inv X pins σ H s) (h : XAt H a C) : ∃ ox od, PySem.W.InstAt s.heap a ox C od := by
  rcases h with ea | ⟨dx, fs, ea, ed⟩
  · obtain ⟨t1, ho⟩ := exo_at I.hok ea
    exact ⟨_, none, ho, rfl, rfl, trivial⟩
  · obtain ⟨t1, ho⟩ := exo_at I.hok ea
    obtain ⟨mA, hns, rel⟩ := exd_at I.hok ed
    obtain ⟨od, hod, hl⟩ := lookIn_ns hns
    exact ⟨_, some od, ho, rfl, rfl, hod⟩
theorem call_xis : CallR X (.builtin "isinstance") (rXis X.K) := by
  intro pins s σ H xs us Q I r h
  obtain ⟨a, C, c, B, n, i, bm, b, rfl, xa, T, hk, q⟩ := h
  cases r with
  | cons rx rr =>
    cases rr with
    | cons rt rr =>
      cases rr
      cases rx
      obtain ⟨ox, od, J⟩ := x_inst I xa
      have hcl : (PySem.W.clsIn X.K C).isSome = true := by
        obtain ⟨cd, hc, _⟩ := PySem.W.any_some T.hd
        rw [hc] <;> rfl
      have Z := PySem.W.kitx_exc (x := a) (ox := ox) (od := od) hcl T.ga T.gg T.ex T.cc T.gs T.tk T.mo
      rcases hk with ⟨cv, hcv, e⟩ | ⟨p, cs, rfl, hp, e⟩
      · have ec := hcv _ rt
        subst ec
        exact PySem.W.kia_one Z I.kIn J e (fun z => nomatch z) fun tk => ⟨.bl b, H, I.kept (t' := tk) fun _ _ z => z, rfl, q⟩
      · cases rt
        obtain ⟨_, its, rv, ⟨⟨oc, odd, odt, osl⟩, ho, hc, m, hd⟩⟩ := I.hok p _ hp
        dsimp only at hc hd
        subst hc hd
        exact PySem.W.kia_tup Z I.kIn J ho (e its rv) (fun z => nomatch z) fun tk => ⟨.bl b, H, I.kept (t' := tk) fun _ _ z => z, rfl, q⟩
end

/-- the same by a Bool -/
def xcB (K : PySem.W.Frag) (C : Addr) (newId : String) (bmB : List Value) : Bool :=
  PySem.W.excInitIn K C bmB newId && (PySem.W.excOver K C bmB && (PySem.W.hasDictIn K C && (decide (PySem.W.findIn K (.ref C) "__setattr__" = some (some (.builtin "object.__setattr__"))) &&
  (decide (PySem.W.findIn K (.ref C) "__getattribute__" = some (some (.builtin "BaseException.__getattribute__"))) && (decide (PySem.W.findIn K (.ref C) "__getattr__" = some none) &&
  (decide (PySem.W.subIn K (.ref C) (.type "BaseException") = some true) && (decide (PySem.W.findIn K (.ref C) "__class__" = some (some (.builtin "object.__class__"))) &&
  (decide (PySem.W.mroIn K C (.type "object") = some true) && (PySem.W.keepIn K (.ref C) && (decide (PySem.W.specialIn K (.builtin "object.__class__") "__get__" = some (some (.builtin "getset_descriptor.__get__"))) &&
  decide (PySem.W.takesIn K (.builtin "object.__class__") = some true)))))))))))
theorem xcB_ok {K : PySem.W.Frag} {C : Addr} {B newId initId : String} {bmB : List Value} (fb : ExcBaseFacts B newId initId bmB) (sf : StoreFacts B bmB "object.__setattr__" "object") (h : xcB K C newId bmB = true) : XC K C B newId initId bmB := by
  unfold xcB at h
  simp only [Bool.and_eq_true, decide_eq_true_eq] at h
  obtain ⟨h1, h2, h3, h4, h5, h6, h7, h8, h9, h10, h11, h12⟩ := h
  exact ⟨fb, sf, h1, h2, h3, h4, h5, h6, h7, h8, h9, h10, h11, h12⟩
end WXE

set_option Elab.async false
set_option linter.all false
set_option maxRecDepth 100000
set_option maxHeartbeats 4000000
/-! an exception of the program made by a call with keywords -/
namespace WXE
open PySem PySem.Spec PyProof.Rows L2 Builtin.ObjectAttr
section
variable {prog : Program} {w : World} {M : Model} {A : Around} {E : Value → Shared → Prop} {R : Result → Shared → Prop} {h : Heap} {g : Array GenState} {d : Drawn} {t : Nat} {os : OsState}
variable {nm q : Str} {C N : Addr} {bs bm bmB : List Value} {hdct : Bool} {sn : List Str} {sub : List Value} {ab : Bool} {col : Option Bool} {dd : Option Addr} {k0 k1 k2 k3 k5 : Option Value} {B newId initId : String}
theorem ck_new (FB : ExcBaseFacts B newId initId bmB) (hT : ∀ Y : String, bm.contains (.type Y) = bmB.contains (.type Y)) {args : List Value} {kw : List (Str × Value)} {Q : Unit → Shared → Prop}
    (hC : h.get? C = some (excClassObj nm q C N bs bm hdct sn sub ab col dd k0 k1 k2 k3 k5 newId)) (hq : Q () ⟨h, g, d, t, os⟩) :
    wpAny M A (checkBuiltinCall newId ⟨.ref C :: args, kw⟩) Q E ⟨h, g, d, t, os⟩ := by
  have z1 : (Value.ref C :: bm).contains (.type B) = true := by rw [List.contains_cons, hT, FB.hasB, Bool.or_true]
  have z2 := FB.noStar
  simp only [checkBuiltinCall, FB.newKind, FB.newSplit, FB.newRow]
  repeat (first
    | refine wpAny_loadPart_at hC ?_
    | (refine wpAny_isSubtype_exc hC ?_; rw [z1])
    | refine wpAny_staticBase_exc hC ?_
    | refine wpAny_madeBy_exc hC ?_
    | simp only [bne_self_eq_false, Bool.false_eq_true, if_false]
    | wp_step)
  exact hq
theorem ck_made (FB : ExcBaseFacts B newId initId bmB) (hT : ∀ Y : String, bm.contains (.type Y) = bmB.contains (.type Y)) {args : List Value} {kw : List (Str × Value)}
    (hC : h.get? C = some (excClassObj nm q C N bs bm hdct sn sub ab col dd k0 k1 k2 k3 k5 newId))
    (hq : R (.ok (.ret (.ref (h.objs.size + 1)))) ⟨(h.push (PySem.W.kdv_tup args)).push (PySem.HandSPX.excO C h.objs.size), g, d, t, os⟩) (hz : args.length ≤ sizeLine) :
    codeAny (model prog w) A (.builtin newId ⟨.ref C :: args, kw⟩) R ⟨h, g, d, t, os⟩ := by
  have z0 := FB.ends
  have z1 : (Value.ref C :: bm).contains (.type B) = true := by rw [List.contains_cons, hT, FB.hasB, Bool.or_true]
  have z2 : (Value.ref C :: bm).contains (.type "AttributeError") = false := by rw [List.contains_cons, hT, FB.noAttr]; rfl
  have z3 : (Value.ref C :: bm).contains (.type "NameError") = false := by rw [List.contains_cons, hT, FB.noName]; rfl
  refine codeAny_builtinAt FB.entry ?_
  unfold Builtin.«BaseException.__new__»
  refine PySem.wpAt_bind ?_
  show PySem.wpAt _ _ _ (stack >>= _) _ _ _
  refine PySem.wpAt_bind (PySem.wpAt_stack fun p below => PySem.wpAt_of_wpAny ?_)
  wp_walk
  refine PySem.wpAt_of_wpAny ?_
  rw [FB.owner]
  repeat (first
    | with_reducible refine wpAny_madeHere_exc FB.canon hC ?_
    | with_reducible refine wpAny_loadPart_at hC ?_
    | (with_reducible refine wpAny_isSubtype_exc hC ?_; first | rw [z1] | rw [z2] | rw [z3])
    | wp_step)
  show R _ _
  rw [Heap.size_push]
  exact hq
theorem ck_type (FB : ExcBaseFacts B newId initId bmB) (hT : ∀ Y : String, bm.contains (.type Y) = bmB.contains (.type Y)) {args : List Value} {kw : List (Str × Value)} {fI : Addr} {Q : Fin → Shared → Prop}
    (hC : h.get? C = some (excClassObj nm q C N bs bm hdct sn sub ab col dd k0 k1 k2 k3 k5 newId))
    (hi : PySem.W.Looks (model prog w) h (typeLookup (.ref C) "__init__") (some (.ref fI))) (hb : ∀ self, PySem.W.Looks (model prog w) h (bindSpecial (.ref fI) self) (.ref fI, [self])) (hz : args.length ≤ sizeLine)
    (hq : codeAny (model prog w) A (.call (.ref fI) ⟨.ref (h.objs.size + 1) :: args, kw⟩)
      (fun r s' => match r with
        | .ok (.ret v) => v = .none ∧ Q (.done (.ret (.ref (h.objs.size + 1)))) s'
        | .ok _ => False
        | .error e => E e s')
      ⟨(h.push (PySem.W.kdv_tup args)).push (PySem.HandSPX.excO C h.objs.size), g, d, t, os⟩) :
    wpAny (model prog w) A (Builtin.«type.__call__» ⟨.ref C :: args, kw⟩) Q E ⟨h, g, d, t, os⟩ := by
  repeat (first | with_reducible refine wpAny_loadPart_at hC ?_ | with_reducible refine wpAny_madeBy_exc hC ?_ | wp_step)
  refine codeAny_call_builtin_code (Code.quiet_builtin _ FB.quiet) (ck_new FB hT hC ?_)
  refine ck_made FB hT hC ?_ hz
  show wpAny _ _ _ _ _ _
  have kk : ∀ b o, h.get? b = some o → ((h.push (PySem.W.kdv_tup args)).push (PySem.HandSPX.excO C h.objs.size)).get? b = some o := fun b o z => Heap.get?_push_of_some _ (Heap.get?_push_of_some _ z)
  have hC1 := kk _ _ hC
  have hnew : ((h.push (PySem.W.kdv_tup args)).push (PySem.HandSPX.excO C h.objs.size)).get? (h.objs.size + 1) = some (PySem.HandSPX.excO C h.objs.size) := by heap_get
  have hself : (Value.ref C :: bm).contains (.ref C) = true := by simp
  have look1 := hi.keeps kk
  have bind1 := (hb (.ref (h.objs.size + 1))).keeps kk
  unfold isInstance
  repeat (first
    | with_reducible refine wpAny_loadPart_at hnew ?_
    | (with_reducible refine wpAny_isSubtype_exc hC1 ?_; rw [hself])
    | wp_step)
  show wpAny _ _ (typeLookup (.ref C) _) _ _ _
  refine look1.at ?_
  refine wpAny_holding (wpAny_bind (bind1.at ?_))
  refine wpAny_bind (wpAny_call (codeAny_mono hq fun r s' z => ?_))
  rcases r with e | (v | _ | _ | _) <;> first | exact z | exact z.elim | skip
  obtain ⟨rfl, z⟩ := z
  first
    | exact wpAny_pure (wpAny_pure z)
    | (wp_walk; exact z)
theorem ck_tc {args : List Value} {kw : List (Str × Value)} {Q : Unit → Shared → Prop} (hC : h.get? C = some (excClassObj nm q C N bs bm hdct sn sub ab col dd k0 k1 k2 k3 k5 newId))
    (hq : Q () ⟨h, g, d, t, os⟩) : wpAny M A (checkBuiltinCall "type.__call__" ⟨.ref C :: args, kw⟩) Q E ⟨h, g, d, t, os⟩ := by
  have z1 := tc_sub
  have z2 : (⟨h, g, d, t, os⟩ : Shared).TypeIs (.ref C) "type" := ⟨_, hC, rfl⟩
  simp only [checkBuiltinCall, tc_kind, tc_split]
  repeat (any_goals (first
    | assumption
    | with_reducible refine wpAny_loadPart_at hC ?_
    | with_reducible refine wpAny_onRaise ?_
    | with_reducible refine wpAny_map ?_
    | wp_step))
theorem ck_call (FB : ExcBaseFacts B newId initId bmB) (hT : ∀ Y : String, bm.contains (.type Y) = bmB.contains (.type Y)) {args : List Value} {kw : List (Str × Value)} {fI : Addr}
    (hC : h.get? C = some (excClassObj nm q C N bs bm hdct sn sub ab col dd k0 k1 k2 k3 k5 newId))
    (hi : PySem.W.Looks (model prog w) h (typeLookup (.ref C) "__init__") (some (.ref fI))) (hb : ∀ self, PySem.W.Looks (model prog w) h (bindSpecial (.ref fI) self) (.ref fI, [self])) (hz : args.length ≤ sizeLine)
    (hq : codeAny (model prog w) (A.under (.builtin "type.__call__" ⟨.ref C :: args, kw⟩)) (.call (.ref fI) ⟨.ref (h.objs.size + 1) :: args, kw⟩) (PySem.W.InitBack (h.objs.size + 1) R)
      ⟨(h.push (PySem.W.kdv_tup args)).push (PySem.HandSPX.excO C h.objs.size), g, d, t, os⟩) :
    codeAny (model prog w) A (.call (.ref C) ⟨args, kw⟩) R ⟨h, g, d, t, os⟩ := by
  have z1 := tc_lookup
  have z2 := tc_bind (.ref C)
  have z3 : (⟨h, g, d, t, os⟩ : Shared).TypeIs (.ref C) "type" := ⟨_, hC, rfl⟩
  refine codeAny_of_tree ?_
  show wpAny _ _ (callAny (.ref C) _) _ _ _
  repeat (any_goals (first | assumption | with_reducible refine wpAny_loadPart_at hC ?_ | wp_step))
  refine ⟨rfl, ?_⟩
  refine codeAny_call_builtin_at (Code.quiet_builtin _ (by decide +kernel)) entry_typeCall (ck_tc hC (ck_type FB hT hC hi hb hz ?_))
  refine codeAny_mono hq fun r s' z => ?_
  rcases r with e | (v | _ | _ | _) <;> exact z
end

section
variable {X : Cx} {CX : CXT} {k n : Nat} {C fI : Addr} {fd : FuncData} {ps ks : List Str} {sp : Sp} {E : XK} {x : Str} {p pos : Pos} {e : Expr} {es : List Expr} {kws : List Keyword} {ta tk : TA} {g : List Value → List Value → List Value} {gV : List V → List V → List V}
  {B newId initId : String} {bmB : List Value}
theorem run_xmk {pins : List (Addr × Obj)} {σ : L2.St} {H : Hp} {s : Shared} {Q : VK} {us ws : List Value} {vs zs : List V} (T : XC X.K C B newId initId bmB) (iC : PySem.W.findIn X.K (.ref C) "__init__" = some (some (.ref fI)))
    (tI : PySem.W.typeIn X.K (.ref fI) = some (.type "function")) (F : FnOk X.prog X.w X.K X.mg X.base CX k fI fd ps sp) (hr : Room (k + 1) X.A) (hb : KBn X.K fd ps (n + 1) ks g gV) (hx : Passes CX X E)
    (I : Inv X pins σ H s) (r : Vals vs us) (rz : Vals zs ws) (l1 : vs.length = n) (l2 : zs.length = ks.length) (hn : n ≤ 1000)
    (h : ∀ a, H a = none → sp (gV (.ref a :: vs) zs) (upd H a (exo a C none)) (fun v H2 => v = .non ∧ Q (.ref a) H2) E) :
    wpAny (model X.prog X.w) X.A (call (.ref C) us (ks.zip ws)) (EP X pins σ Q) X.xe s := by
  obtain ⟨nm, N, qn, bs, bm, hdct, sn, sub, ab, col, dd, k0, k1, k2, k3, k5, hC, hT⟩ := PySem.W.excInit_of I.kIn T.ini
  obtain ⟨hp, gg, dr, tk, os⟩ := s
  have hsz : hp.objs.size ≤ hp.objs.size + 1 := Nat.le_succ _
  have hq := h (hp.objs.size + 1) (I.hok.fresh hsz)
  have kk : ∀ b o, hp.get? b = some o → ((hp.push (PySem.W.kdv_tup us)).push (PySem.HandSPX.excO C hp.objs.size)).get? b = some o := fun b o z => Heap.get?_push_of_some _ (Heap.get?_push_of_some _ z)
  have hnew : ((hp.push (PySem.W.kdv_tup us)).push (PySem.HandSPX.excO C hp.objs.size)).get? (hp.objs.size + 1) = some (PySem.HandSPX.excO C hp.objs.size) := by heap_get
  have I2 : Inv X pins σ (upd H (hp.objs.size + 1) (exo (hp.objs.size + 1) C none)) ⟨(hp.push (PySem.W.kdv_tup us)).push (PySem.HandSPX.excO C hp.objs.size), gg, dr, tk, os⟩ :=
    I.laid (t' := tk) (o := exo (hp.objs.size + 1) C none) kk hsz (exo_ok hnew)
  have r2 : Vals (V.ref (hp.objs.size + 1) :: vs) (Value.ref (hp.objs.size + 1) :: us) := .cons rfl r
  have r3 := hb.rel r2 rz
  have hus : us.length ≤ sizeLine := by
    rw [← Paired.length r, sizeLine_eq]
    omega
  refine wpAny_call (ck_call T.fb hT hC (PySem.W.looks_findIn I.kIn iC) (fun self => PySem.W.bind_fn I.kIn self tI) hus
    (codeAny_mono (F.run _ X.stack _ _ ⟨Value.ref (hp.objs.size + 1) :: us, ks.zip ws⟩ (g (Value.ref (hp.objs.size + 1) :: us) ws) _ _ E (hr.make C us (ks.zip ws)) (I2.env0.make C us (ks.zip ws))
      (hb.to _ (Value.ref (hp.objs.size + 1) :: us) ws I2.kIn (r2.length.symm.trans (congrArg Nat.succ l1)) (rz.length.symm.trans l2)) r3 hq) fun r s' hq' => ?_))
  cases r with
  | error er => exact hx pins σ _ _ er s' I2 hq'
  | ok fl =>
    cases fl with
    | ret u =>
      obtain ⟨v, H', I3, rv, ev, q3⟩ := I2.after hq'
      subst ev
      exact ⟨rv, V.ref (hp.objs.size + 1), H', I3, rfl, q3⟩
    | next => exact False.elim hq'
    | brk => exact False.elim hq'
    | cont => exact False.elim hq'
/-- C(e, ..) -/
theorem pe_xmk (T : XC X.K C B newId initId bmB) (iC : PySem.W.findIn X.K (.ref C) "__init__" = some (some (.ref fI))) (tI : PySem.W.typeIn X.K (.ref fI) = some (.type "function"))
    (F : FnOk X.prog X.w X.K X.mg X.base CX k fI fd ps sp) (hr : Room (k + 1) X.A) (hg : Gl X x) (hm : X.mg x = some (.ref C)) (hb : KBn X.K fd ps (n + 1) [] g gV) (hx : Passes CX X E) (ha : PA X (e :: es) ta)
    (hdb : (x == ("__debug__" : Str)) = false := by decide) (he : starEach (e :: es) X.env = (false, eval e X.env) :: starEach es X.env := by rfl) (hpl : (backTo pos (starEach es X.env)).any (·.1) = false := by rfl) :
    PE X (.Call (.Name x p) (e :: es) [] pos) (tXmk C n 0 sp E gV ta tNil) := by
  refine ⟨fun pins s σ H Q I h => ?_⟩
  refine wpAny_Call_Name_kw (ld_glob I hg hm ?_ hdb)
  exact PySem.W.callWith_K (h₀ := X.base) I.ok.mod.kin T.kp (thn (ha.run pos pins s σ H _ I h) fun us s1 ⟨vs, H1, I1, r, l1, l2, hn, q⟩ => ⟨I1.kIn, run_xmk (ws := []) (zs := []) T iC tI F hr hb hx I1 r .nil l1 l2 hn q⟩) he hpl
/-- C() -/
theorem pe_xmk0 (T : XC X.K C B newId initId bmB) (iC : PySem.W.findIn X.K (.ref C) "__init__" = some (some (.ref fI))) (tI : PySem.W.typeIn X.K (.ref fI) = some (.type "function"))
    (F : FnOk X.prog X.w X.K X.mg X.base CX k fI fd ps sp) (hr : Room (k + 1) X.A) (hg : Gl X x) (hm : X.mg x = some (.ref C)) (hb : KBn X.K fd ps (0 + 1) [] g gV) (hx : Passes CX X E)
    (hdb : (x == ("__debug__" : Str)) = false := by decide) : PE X (.Call (.Name x p) [] [] pos) (tXmk C 0 0 sp E gV tNil tNil) := by
  refine ⟨fun pins s σ H Q I h => ?_⟩
  refine wpAny_Call_Name_kw (ld_glob I hg hm ?_ hdb)
  obtain ⟨l1, l2, hn, q⟩ := h
  exact PySem.W.callWith_K0 I.kIn T.kp (run_xmk (us := []) (vs := []) (ws := []) (zs := []) T iC tI F hr hb hx I .nil .nil l1 l2 hn q)
/-- C(k = v, ..) -/
theorem pe_xmkK (T : XC X.K C B newId initId bmB) (iC : PySem.W.findIn X.K (.ref C) "__init__" = some (some (.ref fI))) (tI : PySem.W.typeIn X.K (.ref fI) = some (.type "function"))
    (F : FnOk X.prog X.w X.K X.mg X.base CX k fI fd ps sp) (hr : Room (k + 1) X.A) (hg : Gl X x) (hm : X.mg x = some (.ref C)) (hb : KBn X.K fd ps (0 + 1) ks g gV) (hx : Passes CX X E) (hkw : PK X kws tk)
    (hall : (backToKw pos (keywordEach kws X.env)).all (·.1.isSome) = true := by rfl) (hks : (backToKw pos (keywordEach kws X.env)).filterMap (·.1) = ks := by rfl)
    (hdb : (x == ("__debug__" : Str)) = false := by decide) (hpl : ((backTo pos (starEach [] X.env)).any (·.1) || (backToKw pos (keywordEach kws X.env)).any (·.1.isNone)) = false := by rfl) :
    PE X (.Call (.Name x p) [] kws pos) (tXmk C 0 ks.length sp E gV tNil tk) := by
  refine ⟨fun pins s σ H Q I h => ?_⟩
  refine wpAny_Call_Name_kw (ld_glob I hg hm ?_ hdb)
  refine PySem.W.callWith_KW0 (h₀ := X.base) I.ok.mod.kin T.kp hall (thn (hkw.run pos pins s σ H _ I h) fun ws s1 ⟨zs, H1, I1, rz, l1, l2, hn, q⟩ => ⟨I1.kIn, ?_⟩) hpl
  rw [hks]
  exact run_xmk (us := []) (vs := []) T iC tI F hr hb hx I1 .nil rz l1 l2 hn q
end
end WXE

set_option Elab.async false
set_option linter.all false
set_option maxRecDepth 100000
set_option maxHeartbeats 4000000
/-! defs that are called where no repr is under way (the law's own def): repr of lists, tuples and empty dicts -/
namespace WXG
open PySem PySem.Spec PyProof.Rows L2
/-- a def's promise, where no repr is under way -/
structure FnG (P : Program) (w : World) (K : PySem.W.Frag) (mg : Str → Option Value) (base : Heap) (CX : CXT) (k : Nat) (f : Addr) (fd : FuncData) (ps : List Str) (sp : Sp) : Prop where
  len : ∀ vs H Q E, sp vs H Q E → vs.length = ps.length
  run : ∀ (A : Around) (outer : List Env) (s : Shared) (H : Hp) (args : Args) (us : List Value) (vs : List V) (Q : VK) (E : XK), Room k A → A.guards = some [] → Env0 P w K mg base A outer s H →
    BindsTo s fd args (ps.zip us) → Vals vs us → sp vs H Q E → codeAny (model P w) A (.call (.ref f) args) (CR CX outer P w H s Q E) s
section
variable {CX : CXT} {P : Program} {w : World} {K : PySem.W.Frag} {mg : Str → Option Value} {base : Heap} {k : Nat} {f : Addr} {x qual : Str} {params : Arguments} {body : List Stmt} {scope : Scope} {dvs : List V} {kws : List (Str × V)} {fd : FuncData} {N ps : List Str} {sp : Sp}
theorem FnG.of (F : FunD K x qual params body scope dvs kws f fd) (S : FnScope N ps scope) (len : ∀ vs H Q E, sp vs H Q E → vs.length = ps.length)
    (hbody : ∀ (cdv : Value) (A : Around) (outer : List Env) (s : Shared) (H : Hp) (vs : List V) (Q : VK) (E : XK), Room k (A.deeper (envOfC qual scope s.heap.objs.size f cdv)) → (A.deeper (envOfC qual scope s.heap.objs.size f cdv)).guards = some [] → sp vs H Q E →
      ∃ t, PSs (cxOf CX P w K mg base N qual scope f cdv A outer s H E) body t ∧ t { nx := fun _ H' => Q .non H', rt := Q } (start N vs) H) : FnG P w K mg base CX (k + 1) f fd ps sp := by
  obtain ⟨oc, od, dV, kV, doc, pm, an, cdv, ct, osl, rfl, lk, hcd, _, _⟩ := F.ex
  refine ⟨len, fun A outer s H args us vs Q E hr hg e0 hb r hsp => ?_⟩
  have KX : K.In s.heap := e0.mod.kin.keeps fun b o e => (e0.bs b o e).1
  have lim : s.heap.NoLimit := e0.mod.nolimit.keeps fun b o e => (e0.bs b o e).1
  refine codeAny_call_function hr.depth (KX _ _ lk) rfl S.co S.gen rfl (PySem.W.codeRec_of KX hcd) (hb _ _ _ _ (wpAny_newFunctionEnv_cells S.kind (fun y hy => ?_) fun env he s1 x => ?_))
  · rcases S.par y.1 (List.of_mem_zip hy).1 with q | q
    · exact .inl q
    · exact .inr ⟨q, PySem.W.cellsFrom_some _ _ _ (.inl q)⟩
  subst he
  obtain ⟨t, ht, hq⟩ := hbody cdv A outer s H vs Q E (hr.deeper _) hg hsp
  refine ⟨lim.keeps x.toInCall.keep, codeAny_func (wpAny_mono (ht.run [] s1 (start N vs) H _ (inv_start S hr.hd e0 (len _ _ _ _ hsp) r x) hq) (fun fl s' hs => ?_) fun _ _ z => z)⟩
  cases fl with
  | ret u =>
    obtain ⟨v, σ', H', J, rv, q⟩ := hs
    exact ⟨v, H', J.os, J.bare, J.base, J.hok, rv, q⟩
  | next =>
    obtain ⟨σ', H', J, q⟩ := hs
    exact ⟨.non, H', J.os, J.bare, J.base, J.hok, rfl, q⟩
  | brk =>
    obtain ⟨_, _, _, q⟩ := hs
    exact q.elim
  | cont =>
    obtain ⟨_, _, _, q⟩ := hs
    exact q.elim
theorem FnOk.toG {fd : FuncData} (F : FnOk P w K mg base CX k f fd ps sp) : FnG P w K mg base CX k f fd ps sp := ⟨F.len, fun A outer s H args us vs Q E hr _ e0 hb r h => F.run A outer s H args us vs Q E hr e0 hb r h⟩
end

/-! ### the end of a law's row -/
theorem hid_ns {h : Heap} {H : Hp} {b : Addr} {m : Str → Option Value} (n : H b = none) (z : h.Ns b m) : (hidT h H).Ns b m := by
  obtain ⟨o, es, ep, e, d, r⟩ := z
  exact ⟨o, es, ep, hidT_get e n, d, r⟩
theorem law_callG {P : Program} {w : World} {K : PySem.W.Frag} {mg mb : Str → Option Value} {CX : CXT} {k : Nat} {fa a : Addr} {fd : FuncData} {x : Str} {sp : Sp} {s₁ : Shared} {vs : List Value} {ns : List Int}
    (KX : K.In s₁.heap) (hns : s₁.heap.Ns mainGlobals mg) (hb : s₁.heap.Ns builtinsNs mb) (hbb : ∀ x : Str, x ≠ "__name__" → mb x = bootBuiltins x) (hlim : s₁.heap.NoLimit) (hg : s₁.gens = #[])
    (ha : s₁.heap.get? a = some { cls := .type "list", data := .seq vs.toArray }) (hi : IntsAre vs ns) (hl : ns.length ≤ sizeLine) (hr : Room k callerA)
    (F : ∀ base : Heap, K.In base → base.Ns mainGlobals mg → FnG P w K mg base CX k fa fd [x] sp) (hbind : ∀ (s : Shared) (u : Value), BindsTo s fd ⟨[u], []⟩ [(x, u)])
    (hsp : ∀ H : Hp, Only H → SqL K H a (ns.map V.int) → sp [.ref a] H (fun v _ => v = .bl true) fun _ _ _ => False)
    (hCX : ∀ H e s', CX [] H s₁ (fun _ _ _ => False) e s' → False) :
    codeAny (model P w) callerA (.call (.ref fa) ⟨[.ref a], []⟩) (fun r s' => r = .ok (.ret (.bool true)) ∧ OldK s₁.heap s'.heap ∧ s'.os = s₁.os ∧ AllBare s'.gens) s₁ := by
  have lenV := hi.length
  have rv : Vals (ns.map V.int) vs := vals_ints hi
  have go : ∀ H : Hp, Only H → SqL K H a (ns.map V.int) → HOk P w H s₁.heap → (∀ b, H b ≠ none → b = a) → (H a ≠ none → K.lookup a = none) →
      codeAny (model P w) callerA (.call (.ref fa) ⟨[.ref a], []⟩) (fun r s' => r = .ok (.ret (.bool true)) ∧ OldK s₁.heap s'.heap ∧ s'.os = s₁.os ∧ AllBare s'.gens) s₁ := by
    intro H hO hS hok hA hK
    have isA : ∀ {b : Addr} {u : HO}, H b = some u → b = a := fun {b u} q => hA b (by rw [q]; exact fun z => nomatch z)
    have nsN : ∀ {b : Addr} {m : Str → Option Value}, s₁.heap.Ns b m → H b = none := fun {b m} z => by
      obtain ⟨o, es, ep, e, d, _⟩ := z
      cases q : H b with
      | none => rfl
      | some u =>
        rw [isA q, ha] at e
        cases e
        cases d
    have hKb : K.In (hidT s₁.heap H) := fun b o e => hidT_get (KX b o e) (by
      cases q : H b with
      | none => rfl
      | some u =>
        have eb := isA q
        subst eb
        rw [hK (by rw [q]; exact fun z => nomatch z)] at e
        cases e)
    have nsB : (hidT s₁.heap H).Ns mainGlobals mg := hid_ns (nsN hns) hns
    obtain ⟨mc, hm1, hm2⟩ := hlim
    have e0 : Env0 P w K mg (hidT s₁.heap H) callerA [] s₁ H := ⟨rfl, ⟨hKb, nsB, ⟨mb, hid_ns (nsN hb) hb, hbb⟩, ⟨mc, hid_ns (nsN hm1) hm1, hm2⟩⟩, fun b o e => of_hidT e, Nat.le_of_eq (hidT_size _ _), trivial, fun b z => (nomatch (show b ∈ ([] : List Addr) from z)), hok, .of_eq hg⟩
    refine codeAny_mono ((F _ hKb nsB).run callerA [] s₁ H ⟨[.ref a], []⟩ [.ref a] [.ref a] _ _ hr rfl e0 (hbind s₁ (.ref a)) (.cons rfl .nil) (hsp H hO hS)) fun r s' h => ?_
    cases r with
    | error e => exact (hCX H e s' h).elim
    | ok fl =>
      cases fl with
      | next => exact h.elim
      | brk => exact h.elim
      | cont => exact h.elim
      | ret u =>
        obtain ⟨v, H', os, bare, un, hok', r', q⟩ := h
        obtain rfl : v = .bl true := q
        obtain rfl : u = Value.bool true := r'
        refine ⟨rfl, OldK.of_keep fun b o e => ?_, os, bare⟩
        cases q : H b with
        | none => exact un.keep b o e q (fun z => nomatch (show b ∈ ([] : List Addr) from z)) (fun z => nomatch z)
        | some u =>
          rcases hO b with z | ⟨ob, xs, z⟩
          · rw [q] at z
            cases z
          · obtain ⟨e1, _⟩ := hok b _ z
            obtain ⟨e2, _⟩ := hok' b _ (un.frzs b ob _ z)
            rw [e] at e1
            cases e1
            exact e2
  cases hk : K.lookup a with
  | some o =>
    have e := KX a o hk
    rw [ha] at e
    cases e
    exact go (fun _ => none) (fun _ => .inl rfl) (.inr ⟨_, vs.toArray, _, hk, rfl, rfl, rfl, by rw [List.size_toArray, lenV]; exact hl, by simpa using rv⟩) (fun b u z => nomatch (show (none : Option HO) = some u from z)) (fun b z => absurd rfl z) fun z => absurd rfl z
  | none =>
    refine go (fun b => if b = a then some (.frz { cls := .type "list", data := .seq vs.toArray } (.lst (ns.map V.int))) else none) (fun b => ?_) (.inl (.inr ⟨_, if_pos rfl⟩)) (fun b u z => ?_) (fun b z => ?_) fun _ => hk
    · by_cases hb : b = a
      · exact .inr ⟨_, _, if_pos hb⟩
      · exact .inl (if_neg hb)
    · by_cases hb : b = a
      · have z' := (if_pos hb).symm.trans z
        cases z'
        subst hb
        exact ⟨ha, by rw [List.length_map]; exact hl, vs, _, rv, ha⟩
      · exact nomatch (if_neg hb).symm.trans z
    · by_cases hb : b = a
      · exact hb
      · exact absurd (if_neg hb) z
theorem walk_G {l : PySem.W.OpenLaw} {n k : Nat} {q : Program} {loose : List Str} {XP : (Str → Option Value) → Heap → Prop} {YP : World → Heap → Prop} {d : DefRec} {CX : CXT} {x : Str}
    (hn : l.most = some n) (hn2 : n ≤ sizeLine) (hdf : d.params.defaults = []) (hr : Room k callerA)
    (F : ∀ (w : World) (mg : Str → Option Value) (fa : Addr) (h : Heap), YP w h → h.Ns mainGlobals mg → mg d.name = some (.ref fa) →
      ∃ (K : PySem.W.Frag) (fd : FuncData) (sp : Sp), K.In h ∧ (∀ (s : Shared) (u : Value), BindsTo s fd ⟨[u], []⟩ [(x, u)]) ∧
        (∀ (H : Hp) (a : Addr) (ns : List Int), ns.length ≤ n → Only H → SqL K H a (ns.map V.int) → sp [.ref a] H (fun v _ => v = .bl true) fun _ _ _ => False) ∧
        ∀ base : Heap, K.In base → base.Ns mainGlobals mg → FnG l.prog w K mg base CX k fa fd [x] sp)
    (hCX : ∀ (H : Hp) (s : Shared) (e : Value) (s' : Shared), CX [] H s (fun _ _ _ => False) e s' → False) :
    PySem.W.WalkO q loose XP YP l.row.toRowW d [] (fun f vs => PySem.call f vs) := by
  refine Att.attach_call hn hdf fun w s₀ s₁ mg mb fa o pm cd doc a vs ns G Y ho hd hcd hmg hobj hints hlen hg => ?_
  obtain ⟨K, fd, sp, KX, hb, hsp, hF⟩ := F w mg fa _ Y G.T.g hmg
  exact law_callG KX G.T.g G.T.b G.T.builtins G.T.nolimit hg hobj hints (Nat.le_trans hlen hn2) hr hF hb (fun H hO hS => hsp H a ns hlen hO hS) fun H e s' => hCX H s₁ e s'

/-! ### repr -/
mutual
/-- data: lists, tuples, empty dicts, flat ones -/
inductive Dq (K : PySem.W.Frag) (H : Hp) : V → PyData → Prop
  | non : Dq K H .non .none
  | bl (b : Bool) : Dq K H (.bl b) (.bool b)
  | int (i : Int) : Dq K H (.int i) (.int i)
  | str (x : Str) : Dq K H (.str x) (.str x)
  | lst {a : Addr} {xs : List V} {ds : List PyData} : SqL K H a xs → DqAll K H xs ds → Dq K H (.ref a) (.list ds)
  | tup {a : Addr} {xs : List V} {ds : List PyData} : SqT K H a xs → DqAll K H xs ds → Dq K H (.ref a) (.tuple ds)
  | emp {a : Addr} : H a = some (.dK []) → Dq K H (.ref a) (.dict [])
inductive DqAll (K : PySem.W.Frag) (H : Hp) : List V → List PyData → Prop
  | nil : DqAll K H [] []
  | cons {v : V} {vs : List V} {d : PyData} {ds : List PyData} : Dq K H v d → DqAll K H vs ds → DqAll K H (v :: vs) (d :: ds)
end
section
variable {X : Cx} {pins : List (Addr × Obj)} {σ : L2.St} {H : Hp} {s : Shared}
/-- the table of modules is the head's -/
def SysK (K : PySem.W.Frag) : Prop := ∃ o, K.lookup sysModules = some o ∧ o.cls = .type "dict"
theorem ne_sys (I : Inv X pins σ H s) (S : SysK X.K) {a : Addr} {o : Obj} (ho : s.heap.get? a = some o) (hc : o.cls = .type "list") : a ≠ sysModules := fun e => by
  obtain ⟨o', h1, h2⟩ := S
  have q := I.kIn _ _ h1
  rw [← e, ho] at q
  cases q
  rw [hc] at h2
  exact absurd h2 (by decide)
mutual
theorem Dq.reads (I : Inv X pins σ H s) (S : SysK X.K) : ∀ (d : PyData) (v : V) (u : Value), Dq X.K H v d → RelV v u → ∃ as, Reads s.heap u d as ∧ sysModules ∉ as
  | .none, _, _, h, r => by
    cases h; cases r
    exact ⟨_, Reads.none, fun z => nomatch z⟩
  | .bool b, _, _, h, r => by
    cases h; cases r
    exact ⟨_, Reads.bool b, fun z => nomatch z⟩
  | .int i, _, _, h, r => by
    cases h
    obtain ⟨t, rfl⟩ := r
    exact ⟨_, Reads.int i t, fun z => nomatch z⟩
  | .str x, _, _, h, r => by
    cases h
    obtain ⟨t, rfl⟩ := r
    exact ⟨_, Reads.str x t, fun z => nomatch z⟩
  | .list ds, _, _, h, r => by
    cases h with
    | lst hs ha =>
      cases r
      obtain ⟨its, rv, ⟨o, n, ho, hc, _, hd⟩, _⟩ := I.list hs
      obtain ⟨as, hr, hn⟩ := DqAll.reads I S ds _ its ha rv
      refine ⟨_, Reads.list ho hc hd hr, fun z => ?_⟩
      rcases List.mem_cons.mp z with z | z
      · exact ne_sys I S ho hc z.symm
      · exact hn z
  | .tuple ds, _, _, h, r => by
    cases h with
    | tup hs ha =>
      cases r
      obtain ⟨its, rv, ⟨o, ho, hc, n, hd⟩, _⟩ := I.tuple hs
      obtain ⟨as, hr, hn⟩ := DqAll.reads I S ds _ its ha rv
      exact ⟨_, Reads.tuple ho hc hd hr, hn⟩
  | .dict kvs, _, _, h, r => by
    cases h with
    | emp ha =>
      cases r
      obtain ⟨_, hsy, vs, rv, o, es, ep, ho, hx, hd, _, he, _⟩ := I.hok _ _ ha
      cases rv
      have e0 : es.toList = [] := List.length_eq_zero_iff.mp he.length
      refine ⟨_, Reads.dict ho hx.1 hd (as := []) (bs := []) (by rw [e0]; exact ReadsAll.nil) (by rw [e0]; exact ReadsAll.nil), fun z => ?_⟩
      rcases List.mem_cons.mp z with z | z
      · rw [← z] at hsy
        exact absurd hsy (by decide)
      · exact nomatch z
theorem DqAll.reads (I : Inv X pins σ H s) (S : SysK X.K) : ∀ (ds : List PyData) (vs : List V) (us : List Value), DqAll X.K H vs ds → Vals vs us → ∃ as, ReadsAll s.heap us ds as ∧ sysModules ∉ as
  | [], _, _, h, r => by
    cases h; cases r
    exact ⟨_, ReadsAll.nil, fun z => nomatch z⟩
  | d :: ds, _, _, h, r => by
    cases h with
    | cons h1 h2 =>
      cases r with
      | cons r1 r2 =>
        obtain ⟨as, q1, n1⟩ := Dq.reads I S d _ _ h1 r1
        obtain ⟨bs, q2, n2⟩ := DqAll.reads I S ds _ _ h2 r2
        refine ⟨_, ReadsAll.cons q1 q2, fun z => ?_⟩
        rcases List.mem_append.mp z with z | z
        · exact n1 z
        · exact n2 z
end
/-- repr(v), v an object -/
def rRepr (K : PySem.W.Frag) : List V → Hp → VK → Prop := fun xs H Q => ∃ (a : Addr) (d : PyData), xs = [.ref a] ∧ Dq K H (.ref a) d ∧ d.showable = true ∧ d.depth ≤ 60 ∧ d.shown.length ≤ sizeLine ∧ Q (.str d.shown) H
theorem call_reprQ (S : SysK X.K) (hg : X.A.guards = some []) (hu : X.A.units + 64 < cLine) : CallR X (.builtin "repr") (rRepr X.K) := by
  intro pins s σ H xs us Q I r h
  obtain ⟨a, d, rfl, hd, hs, hdp, hz, q⟩ := h
  cases r with
  | cons rx rr =>
    cases rr
    cases rx
    obtain ⟨as, hr, hn⟩ := Dq.reads I S d _ _ hd rfl
    exact repr_of_reads' hr hs (fun _ => hn) hg (by omega) (fun _ _ z => z) (fun h' u tk kk => ⟨.str d.shown, H, I.kept kk, ⟨u, rfl⟩, q⟩) hz
end
end WXG

set_option Elab.async false
set_option linter.all false
set_option maxRecDepth 100000
set_option maxHeartbeats 2000000
/-! readings that only add objects: what holds of the value and the heap behind, whatever was added before -/
namespace WEv
open PySem PySem.Spec L2
abbrev HP (α : Type) := α → Hp → Prop
/-- what stays true when objects are added -/
def Mn {α : Type} (P : HP α) : Prop := ∀ x H H', Same H H' → P x H → P x H'
def EvP (te : TE) (σ : L2.St) (H : Hp) (P : HP V) : Prop := ∀ H1, Same H H1 → ∀ Q : VK, (∀ v H2, Same H1 H2 → P v H2 → Q v H2) → te σ H1 Q
def EvA (ta : TA) (σ : L2.St) (H : Hp) (P : HP (List V)) : Prop := ∀ H1, Same H H1 → ∀ Q : List V → Hp → Prop, (∀ v H2, Same H1 H2 → P v H2 → Q v H2) → ta σ H1 Q
def EvT (tt : TT) (σ : L2.St) (H : Hp) (b : Bool) : Prop := ∀ H1, Same H H1 → ∀ Q : Bool → Hp → Prop, (∀ H2, Same H1 H2 → Q b H2) → tt σ H1 Q
/-- a list object whose items are told -/
def LstP (n : Nat) (P : HP (List V)) : HP V := fun v H => ∃ p xs, v = .ref p ∧ H p = some (.lst xs) ∧ xs.length = n ∧ P xs H
theorem same_new {H : Hp} {p : Addr} {o : HO} (h : H p = none) : Same H (upd H p o) := fun a u e => by
  rw [upd_ne (ne_of_none e h)]
  exact e
theorem same_put {H H' : Hp} {p : Addr} {o : HO} (e : Same H H') (h : H p = none) : Same H (upd H' p o) := fun a u ha => by
  rw [upd_ne (ne_of_none ha h)]
  exact e a u ha
theorem mn_lst {n : Nat} {P : HP (List V)} (m : Mn P) : Mn (LstP n P) := fun _ _ _ s ⟨p, xs, e, h, l, q⟩ => ⟨p, xs, e, s _ _ h, l, m _ _ _ s q⟩
theorem mn_is {α : Type} {x : α} : Mn (fun y _ => y = x) := fun _ _ _ _ e => e
theorem mn_pure {α : Type} {p : α → Prop} : Mn (fun y _ => p y) := fun _ _ _ _ e => e
section
variable {σ : L2.St} {H H' : Hp} {te ta tb : TE} {tr : TA} {P P' Pa Pb : HP V} {Ps : HP (List V)} {v : V} {D : Ends} {n m : Nat}
theorem EvP.mono (s : Same H H') (h : EvP te σ H P) : EvP te σ H' P := fun H1 e => h H1 (s.trans e)
theorem EvP.imp (h : EvP te σ H P) (k : ∀ v H, P v H → P' v H) : EvP te σ H P' := fun H1 e Q q => h H1 e Q fun v H2 s p => q v H2 s (k v H2 p)
theorem EvP.keep {R : Hp → Prop} (h : EvP te σ H P) (hR : R H) (mR : ∀ H H', Same H H' → R H → R H') : EvP te σ H (fun v H => P v H ∧ R H) := fun H1 e Q q => h H1 e Q fun v H2 s p => q v H2 s ⟨p, mR _ _ (e.trans s) hR⟩
theorem p_var {i : Nat} (h : σ[i]? = some (some v)) : EvP (tVar i) σ H (fun x _ => x = v) := fun H1 _ _ q => ⟨v, h, q _ H1 (Same.refl H1) rfl⟩
theorem p_c : EvP (tC v) σ H (fun x _ => x = v) := fun H1 _ _ q => q _ H1 (Same.refl H1) rfl
theorem a_nil : EvA tNil σ H (fun vs _ => vs = []) := fun H1 _ _ q => q _ H1 (Same.refl H1) rfl
theorem a_cons (m : Mn P) (h : EvP te σ H P) (hr : EvA tr σ H Ps) : EvA (tCons te tr) σ H (fun vs H => ∃ x xs, vs = x :: xs ∧ P x H ∧ Ps xs H) := fun H1 e Q q =>
  h H1 e _ fun x H2 s2 p2 => hr H2 (e.trans s2) _ fun xs H3 s3 p3 => q _ H3 (s2.trans s3) ⟨x, xs, rfl, m _ _ _ s3 p2, p3⟩
theorem p_lst (h : EvA tr σ H Ps) (m : Mn Ps) (hl : ∀ xs H, Ps xs H → xs.length = n) (hn : n ≤ 100000 := by decide) : EvP (tLst tr) σ H (LstP n Ps) := fun H1 e _ q =>
  h H1 e _ fun xs H2 s2 p2 => ⟨Nat.le_trans (Nat.le_of_eq (hl _ _ p2)) (Nat.le_trans hn (by decide)), fun p hp => q _ _ (s2.trans (same_new hp)) ⟨p, xs, rfl, upd_same, hl _ _ p2, m _ _ _ (same_new hp) p2⟩⟩
theorem s_asg {i : Nat} (h : EvP te σ H P) (k : ∀ v H1, Same H H1 → P v H1 → D.nx (σ.set i (some v)) H1) : tAsg te (gName i) D σ H := h H (Same.refl H) _ k
theorem s_ret (h : EvP te σ H P) (k : ∀ v H1, Same H H1 → P v H1 → D.rt v H1) : tRet te D σ H := h H (Same.refl H) _ k
theorem EvA.imp {Ps' : HP (List V)} (h : EvA tr σ H Ps) (k : ∀ v H, Ps v H → Ps' v H) : EvA tr σ H Ps' := fun H1 e Q q => h H1 e Q fun v H2 s p => q v H2 s (k v H2 p)
end
end WEv

set_option Elab.async false
set_option linter.all false
set_option maxRecDepth 100000
set_option maxHeartbeats 0
/-! the head's facts by a Bool of one's own -/
namespace WHd
open PySem PySem.Spec PyProof.Rows L2
def obsW (chk : PySem.W.Frag → Bool) (fn : List He.DefD) (K : PySem.W.Frag) : He.AlD := (chk K && fn.all fun d => d.ok K, fn.map fun d => He.fnW K d.at_)
def SaysW (chk : PySem.W.Frag → Bool) (fn : List He.DefD) (K : PySem.W.Frag) : Prop := obsW chk fn K = He.valD fn
def obsWG (n : Nat) (chk : PySem.W.Frag → Bool) (fn : List He.DefD) (g : Addr → Option Obj) : He.AlD := obsW chk fn (He.frG g (sysModules :: cStatics :: He.asD g n))
def hookW (n : Nat) (chk : PySem.W.Frag → Bool) (fn : List He.DefD) : PySem.W.Hook where
  α := He.AlD
  obs := fun s => obsWG n chk fn s.heap.get?
  val := fun _ => He.valD fn
  says := fun _ h => ∃ K : PySem.W.Frag, K.In h ∧ SaysW chk fn K
  of := fun _ _ e => ⟨_, He.frG_in, e⟩
  keeps := fun _ _ _ ⟨K, hK, c⟩ k => ⟨K, PySem.W.Frag.In.keeps hK k, c⟩
theorem obsWG_eq {n : Nat} {chk : PySem.W.Frag → Bool} {fn : List He.DefD} {g : Addr → Option Obj} {s : Shared} (h : ∀ a, g a = s.heap.get? a) : obsWG n chk fn g = (hookW n chk fn).obs s := by
  have e : g = s.heap.get? := funext h
  rw [e] <;> rfl
section
variable {chk : PySem.W.Frag → Bool} {fn : List He.DefD} {K : PySem.W.Frag}
theorem SaysW.chk_ (c : SaysW chk fn K) : chk K = true :=
  (He.ba (show (chk K && fn.all fun d => d.ok K) = true from congrArg (fun z : He.AlD => z.1) c)).1
theorem SaysW.def_ (c : SaysW chk fn K) (i : Nat) {d : He.DefD} (h : fn[i]? = some d := by rfl) : ∃ fd, FunD K d.name d.qual d.params d.body d.scope (d.dvs K) (d.kws K) (He.fAd K d.at_) fd := by
  have c2 := (He.ba (show (chk K && fn.all fun d => d.ok K) = true from congrArg (fun z : He.AlD => z.1) c)).2
  have e : fn.map (fun d => He.fnW K d.at_) = fn.map He.DefD.val := congrArg (fun z : He.AlD => z.2) c
  have e2 : (fn.map fun d => He.fnW K d.at_)[i]? = (fn.map He.DefD.val)[i]? := by rw [e]
  rw [List.getElem?_map, List.getElem?_map, h] at e2
  exact He.DefD.funD (Option.some.inj e2) (List.all_eq_true.mp c2 d (List.mem_of_getElem? h))
end
end WHd

set_option Elab.async false
set_option linter.all false
set_option maxRecDepth 100000
set_option maxHeartbeats 2000000
/-! readings that leave the heap: one value -/
namespace WRd
open PySem PySem.Spec L2
def Ev (te : TE) (σ : L2.St) (H : Hp) (v : V) : Prop := ∀ Q : VK, Q v H → te σ H Q
def EvL (ta : TA) (σ : L2.St) (H : Hp) (vs : List V) : Prop := ∀ Q : List V → Hp → Prop, Q vs H → ta σ H Q
def EvB (tt : TT) (σ : L2.St) (H : Hp) (b : Bool) : Prop := ∀ Q : Bool → Hp → Prop, Q b H → tt σ H Q
section
variable {K : PySem.W.Frag} {σ : L2.St} {H : Hp} {te ta tb td ty tv : TE} {tr : TA} {tt tu : TT} {v x y : V} {vs : List V} {i j : Int} {n : Nat} {m : Addr} {kvs : List (Key × V)} {k : Key} {D : Ends} {a b c : Bool}
theorem ev_var (h : σ[n]? = some (some v)) : Ev (tVar n) σ H v := fun _ q => ⟨v, h, q⟩
theorem ev_c : Ev (tC v) σ H v := fun _ q => q
theorem evl_nil : EvL tNil σ H [] := fun _ q => q
theorem evl_cons (h : Ev ta σ H x) (g : EvL tr σ H vs) : EvL (tCons ta tr) σ H (x :: vs) := fun _ q => h _ (g _ q)
theorem ev_opI {C : Int → Int → Prop} {g : Int → Int → V} (ha : Ev ta σ H (.int i)) (hb : Ev tb σ H (.int j)) (hc : C i j) : Ev (tOp (rI C g) ta tb) σ H (g i j) := fun _ q => ha _ (hb _ ⟨i, j, rfl, rfl, hc, q⟩)
theorem ev_op0 {g : Int → Int → V} (ha : Ev ta σ H (.int i)) (hb : Ev tb σ H (.int j)) : Ev (tOp (rI0 g) ta tb) σ H (g i j) := fun _ q => ha _ (hb _ ⟨i, j, rfl, rfl, q⟩)
theorem ev_iI {C : Int → Int → Prop} {g : Int → Int → Int} (ha : Ev ta σ H (.int i)) (hb : Ev tb σ H (.int j)) (hc : C i j) : Ev (tOp (rI C fun i j => .int (g i j)) ta tb) σ H (.int (g i j)) := fun _ q => ha _ (hb _ ⟨i, j, rfl, rfl, hc, q⟩)
theorem ev_i0 {g : Int → Int → Int} (ha : Ev ta σ H (.int i)) (hb : Ev tb σ H (.int j)) : Ev (tOp (rI0 fun i j => .int (g i j)) ta tb) σ H (.int (g i j)) := fun _ q => ha _ (hb _ ⟨i, j, rfl, rfl, q⟩)
theorem ev_op {r : R2} (ha : Ev ta σ H x) (hb : Ev tb σ H y) (hr : ∀ Q : VK, Q v H → r x y H Q) : Ev (tOp r ta tb) σ H v := fun _ q => ha _ (hb _ (hr _ q))
theorem ev_cb {r : List V → Hp → VK → Prop} (ha : EvL tr σ H vs) (hr : ∀ Q : VK, Q v H → r vs H Q) : Ev (tCB r tr) σ H v := fun _ q => ha _ (hr _ q)
theorem ev_int1 (ha : EvL tr σ H [.int i]) : Ev (tCB (fun xs H Q => (∃ i, xs = [.int i] ∧ Q (.int i) H) ∨ ∃ k, xs = [.bl k] ∧ Q (.int (if k then 1 else 0)) H) tr) σ H (.int i) := ev_cb ha fun _ q => .inl ⟨i, rfl, q⟩
theorem ev_dget (hd : Ev td σ H (.ref m)) (hy : Ev ty σ H (kV k)) (hm : H m = some (.dK kvs)) (hv : valV kvs k = some v) : Ev (tDGet td ty) σ H v := fun _ q => hd _ (hy _ ⟨m, v, rfl, .inl ⟨kvs, k, .inl hm, rfl, hv.symm⟩, q⟩)
theorem st_dput (hv : Ev tv σ H v) (hd : Ev td σ H (.ref m)) (hy : Ev ty σ H (kV k)) (hm : H m = some (.dK kvs)) (hl : kvs.length < sizeLine) (q : D.nx σ (upd H m (.dK (putK kvs k v)))) : sDPut td ty tv D σ H :=
  hv _ (hd _ (hy _ ⟨m, _, rfl, .inl ⟨kvs, k, hm, rfl, hl, rfl⟩, q⟩))
theorem st_asg (h : Ev te σ H v) (q : D.nx (σ.set n (some v)) H) : tAsg te (gName n) D σ H := h _ q
theorem st_ret (h : Ev te σ H v) (q : D.rt v H) : tRet te D σ H := h _ q
theorem st_if {t u : TS} (h : EvB tt σ H b) (q : if b = true then t D σ H else u D σ H) : tIfS tt t u D σ H := h _ q
theorem evb_test (h : Ev te σ H (.bl b)) : EvB (tTest te) σ H b := fun _ q => h _ ⟨b, rfl, q⟩
theorem evb_cmp {g : Int → Int → Bool} (ha : Ev ta σ H (.int i)) (hb : Ev tb σ H (.int j)) : EvB (tTest (tOp (rI0 fun i j => .bl (g i j)) ta tb)) σ H (g i j) := fun _ q => ha _ (hb _ ⟨i, j, rfl, rfl, _, rfl, q⟩)
theorem evb_and (h : EvB tt σ H a) (g : a = true → EvB tu σ H b) : EvB (tAnd tt tu) σ H (a && b) := fun Q q => h _ (by
  cases a with
  | true => exact g rfl _ q
  | false => exact q)
end
end WRd

set_option Elab.async false
set_option linter.all false
set_option maxRecDepth 100000
set_option maxHeartbeats 2000000
/-! readings that only add objects: predicates of values, lists of them -/
namespace WLf
open PySem PySem.Spec L2 WEv WRd WXE
def Is (x : V) : HP V := fun v _ => v = x
def Fa : List (HP V) → List V → Hp → Prop
  | [], [], _ => True
  | P :: Ps, v :: vs, H => P v H ∧ Fa Ps vs H
  | _, _, _ => False
/-- a list object whose items are told -/
def LF (Ps : List (HP V)) : HP V := fun v H => ∃ p xs, v = .ref p ∧ H p = some (.lst xs) ∧ Fa Ps xs H
theorem Fa.len : ∀ {Ps : List (HP V)} {vs : List V} {H : Hp}, Fa Ps vs H → vs.length = Ps.length
  | [], [], _, _ => rfl
  | _ :: _, _ :: _, _, h => congrArg (· + 1) (Fa.len h.2)
  | [], _ :: _, _, h => h.elim
  | _ :: _, [], _, h => h.elim
theorem Fa.app : ∀ {Ps Qs : List (HP V)} {vs us : List V} {H : Hp}, Fa Ps vs H → Fa Qs us H → Fa (Ps ++ Qs) (vs ++ us) H
  | [], _, [], _, _, _, g => g
  | _ :: _, _, _ :: _, _, _, h, g => ⟨h.1, Fa.app h.2 g⟩
  | [], _, _ :: _, _, _, h, _ => h.elim
  | _ :: _, _, [], _, _, h, _ => h.elim
theorem Fa.get : ∀ {Ps : List (HP V)} {vs : List V} {H : Hp} {n : Nat} {P : HP V}, Fa Ps vs H → Ps[n]? = some P → ∃ v, vs[n]? = some v ∧ P v H
  | _ :: _, _ :: _, _, 0, _, h, e => ⟨_, rfl, by cases e; exact h.1⟩
  | _ :: _, _ :: _, _, n + 1, _, h, e => Fa.get (n := n) h.2 e
  | [], _ :: _, _, _, _, h, _ => h.elim
  | _ :: _, [], _, _, _, h, _ => h.elim
theorem Fa.is : ∀ {ys : List V} {vs : List V} {H : Hp}, Fa (ys.map Is) vs H → vs = ys
  | [], [], _, _ => rfl
  | _ :: _, _ :: _, _, h => by rw [show _ = _ from h.1, Fa.is h.2]
  | [], _ :: _, _, h => h.elim
  | _ :: _, [], _, h => h.elim
theorem mn_nil : Mn (Fa []) := fun vs H H' _ h => by
  cases vs with
  | nil => exact h
  | cons _ _ => exact h
theorem mn_cons {P : HP V} {Ps : List (HP V)} (m : Mn P) (ms : Mn (Fa Ps)) : Mn (Fa (P :: Ps)) := fun vs H H' s h => by
  cases vs with
  | nil => exact h
  | cons v vs => exact ⟨m _ _ _ s h.1, ms _ _ _ s h.2⟩
theorem Fa.cut : ∀ {Ps Qs : List (HP V)} {vs : List V} {H : Hp}, Fa (Ps ++ Qs) vs H → ∃ us ws, vs = us ++ ws ∧ Fa Ps us H ∧ Fa Qs ws H
  | [], _, vs, _, h => ⟨[], vs, rfl, trivial, h⟩
  | _ :: _, _, v :: vs, _, h => by
    obtain ⟨us, ws, e, h1, h2⟩ := Fa.cut h.2
    exact ⟨v :: us, ws, by rw [e]; rfl, ⟨h.1, h1⟩, h2⟩
  | _ :: _, _, [], _, h => h.elim
theorem mn_app {Ps Qs : List (HP V)} (ms : Mn (Fa Ps)) (mt : Mn (Fa Qs)) : Mn (Fa (Ps ++ Qs)) := fun vs H H' s h => by
  obtain ⟨us, ws, rfl, h1, h2⟩ := h.cut
  exact (ms _ _ _ s h1).app (mt _ _ _ s h2)
theorem mn_lf {Ps : List (HP V)} (m : Mn (Fa Ps)) : Mn (LF Ps) := fun _ _ _ s ⟨p, xs, e, h, q⟩ => ⟨p, xs, e, s _ _ h, m _ _ _ s q⟩
theorem mn_i {x : V} : Mn (Is x) := fun _ _ _ _ e => e
structure G (te : TE) (σ : L2.St) (H : Hp) (P : HP V) : Prop where
  ev : EvP te σ H P
  mn : Mn P
structure GA (ta : TA) (σ : L2.St) (H : Hp) (Ps : List (HP V)) : Prop where
  ev : EvA ta σ H (Fa Ps)
  mn : Mn (Fa Ps)
section
variable {K : PySem.W.Frag} {σ : L2.St} {H H' : Hp} {te ta tb td ty tv : TE} {tr : TA} {v x y : V} {vs : List V} {P Pa Pb : HP V} {Ps Qs : List (HP V)} {D : Ends} {n : Nat} {C : Addr} {f : Str} {B newId initId : String} {bmB : List Value}
theorem g_var {i : Nat} (h : σ[i]? = some (some v)) : G (tVar i) σ H (Is v) := ⟨p_var h, mn_i⟩
theorem g_varP {i : Nat} (h : σ[i]? = some (some v)) (p : P v H) (m : Mn P) : G (tVar i) σ H P := ⟨fun H1 s _ q => ⟨v, h, q _ H1 (Same.refl H1) (m _ _ _ s p)⟩, m⟩
theorem g_c : G (tC v) σ H (Is v) := ⟨p_c, mn_i⟩
theorem ga_nil : GA tNil σ H [] := ⟨fun H1 _ _ q => q _ H1 (Same.refl H1) trivial, mn_nil⟩
theorem ga_cons (h : G te σ H P) (g : GA tr σ H Ps) : GA (tCons te tr) σ H (P :: Ps) := ⟨fun H1 e Q q => h.ev H1 e _ fun x H2 s2 p2 => g.ev H2 (e.trans s2) _ fun xs H3 s3 p3 => q _ H3 (s2.trans s3) ⟨h.mn _ _ _ s3 p2, p3⟩, mn_cons h.mn g.mn⟩
theorem g_lst (h : GA tr σ H Ps) (hn : Ps.length ≤ 100000 := by exact Nat.le_of_ble_eq_true rfl) : G (tLst tr) σ H (LF Ps) := ⟨fun H1 e _ q =>
  h.ev H1 e _ fun xs H2 s2 p2 => ⟨by rw [p2.len]; exact Nat.le_trans hn (by decide), fun p hp => q _ _ (s2.trans (same_new hp)) ⟨p, xs, rfl, upd_same, h.mn _ _ _ (same_new hp) p2⟩⟩, mn_lf h.mn⟩
theorem g_cat (ha : G ta σ H (LF Ps)) (hb : G tb σ H (LF Qs)) (ma : Mn (Fa Ps)) (mb : Mn (Fa Qs)) (hn : Ps.length + Qs.length ≤ 100000 := by exact Nat.le_of_ble_eq_true rfl) : G (tOp rCat ta tb) σ H (LF (Ps ++ Qs)) := ⟨fun H1 e _ q =>
  ha.ev H1 e _ fun a H2 s2 pa => hb.ev H2 (e.trans s2) _ fun b H3 s3 pb => by
    obtain ⟨p, xs, rfl, hp, fa⟩ := ha.mn _ _ _ s3 pa
    obtain ⟨p', zs, rfl, hp', fb⟩ := pb
    refine ⟨p, p', xs, zs, rfl, rfl, hp, hp', by rw [fa.len, fb.len]; exact Nat.le_trans hn (by decide), fun r hr => q _ _ ((s2.trans s3).trans (same_new hr)) ⟨r, _, rfl, upd_same, (ma _ _ _ (same_new hr) fa).app (mb _ _ _ (same_new hr) fb)⟩⟩, mn_lf (mn_app ma mb)⟩
theorem g_asg {i : Nat} (h : G te σ H P) (k : ∀ v H1, Same H H1 → P v H1 → D.nx (σ.set i (some v)) H1) : tAsg te (gName i) D σ H := h.ev H (Same.refl H) _ k
theorem g_ret (h : G te σ H P) (k : ∀ v H1, Same H H1 → P v H1 → D.rt v H1) : tRet te D σ H := h.ev H (Same.refl H) _ k
/-- the n-th of a list -/
theorem g_ix {i : Nat} (h : σ[i]? = some (some v)) (p : LF Ps v H) (hn : Ps[n]? = some P) (m : Mn P) : G (tOp (rIxL K) (tVar i) (tC (.int (n : Int)))) σ H P := ⟨fun H1 e _ q => by
  obtain ⟨l, xs, rfl, hl, fa⟩ := p
  obtain ⟨x, hx, px⟩ := fa.get hn
  exact ⟨_, h, l, xs, n, x, rfl, rfl, .of (e _ _ hl), atI_nat hx, q _ H1 (Same.refl H1) (m _ _ _ e px)⟩, m⟩
/-! exceptions -/
def XN (C : Addr) : HP V := fun v H => ∃ e, v = .ref e ∧ H e = some (exo e C none)
def XF (C : Addr) (f : Str) (y : V) : HP V := fun v H => ∃ e dx, v = .ref e ∧ H e = some (exo e C (some dx)) ∧ H dx = some (exd dx [(f, y)])
theorem mn_xn : Mn (XN C) := fun _ _ _ s ⟨e, q, h⟩ => ⟨e, q, s _ _ h⟩
theorem mn_xf : Mn (XF C f y) := fun _ _ _ s ⟨e, dx, q, h, g⟩ => ⟨e, dx, q, s _ _ h, s _ _ g⟩
def spI0 (C : Addr) : Sp := fun vs H Q _ => ∃ a, vs = [.ref a] ∧ H a = some (exo a C none) ∧ Q .non H
def spI1 (C : Addr) (f : Str) : Sp := fun vs H Q _ => ∃ a y, vs = [.ref a, y] ∧ H a = some (exo a C none) ∧ ∀ dx, H dx = none → dx ≠ a → Q .non (upd (upd H dx (exd dx [(f, y)])) a (exo a C (some dx)))
theorem spI1_of {H : Hp} {a : Addr} {E : XK} {Q : VK} (ha : H a = none) (q : ∀ H2, Same H H2 → XF C f y (.ref a) H2 → Q (.ref a) H2) : spI1 C f [.ref a, y] (upd H a (exo a C none)) (fun v H3 => v = .non ∧ Q (.ref a) H3) E := by
  refine ⟨a, y, rfl, upd_same, fun dx hdx hne => ⟨rfl, q _ (fun b o e => ?_) ⟨a, dx, rfl, upd_same, ?_⟩⟩⟩
  · have h1 : b ≠ a := ne_of_none e ha
    have h2 : H dx = none := by rwa [upd_ne hne] at hdx
    rw [upd_ne h1, upd_ne (ne_of_none e h2), upd_ne h1]
    exact e
  · rw [upd_ne hne]
    exact upd_same
theorem g_mk1 {E : XK} (h : G te σ H (Is y)) : G (tXmk C 1 0 (spI1 C f) E (fun us _ => us) (tCons te tNil) tNil) σ H (XF C f y) := ⟨fun H1 e _ q =>
  h.ev H1 e _ fun x H2 s2 px => by
    obtain rfl : x = y := px
    exact ⟨rfl, rfl, by decide, fun a ha => spI1_of ha fun H3 s3 p3 => q _ _ (s2.trans s3) p3⟩, mn_xf⟩
theorem g_mkK {E : XK} (h : G te σ H (Is y)) : G (tXmk C 0 1 (spI1 C f) E (fun vs zs => vs ++ zs) tNil (tCons te tNil)) σ H (XF C f y) := ⟨fun H1 e _ q =>
  h.ev H1 e _ fun x H2 s2 px => by
    obtain rfl : x = y := px
    exact ⟨rfl, rfl, by decide, fun a ha => spI1_of ha fun H3 s3 p3 => q _ _ (s2.trans s3) p3⟩, mn_xf⟩
theorem g_mk0 {E : XK} : G (tXmk C 0 0 (spI0 C) E (fun us _ => us) tNil tNil) σ H (XN C) := ⟨fun H1 e _ q =>
  ⟨rfl, rfl, by decide, fun a ha => ⟨a, rfl, upd_same, rfl, q _ _ (same_new ha) ⟨a, rfl, upd_same⟩⟩⟩, mn_xn⟩
theorem g_fld (T : XC K C B newId initId bmB) (hn : PySem.W.findIn K (.ref C) f = some none) (h : G te σ H (XF C f y)) : G (tXfld K f te) σ H (Is y) := ⟨fun H1 e _ q =>
  h.ev H1 e _ fun x H2 s2 px => by
    obtain ⟨a, dx, rfl, h1, h2⟩ := px
    exact ⟨a, C, dx, [(f, y)], y, B, newId, initId, bmB, rfl, h1, h2, T, hn, by simp [List.lookup], q _ _ s2 rfl⟩, mn_i⟩
/-- isinstance(e, c), c a class or a type -/
theorem g_xis {a : Addr} {c : V} {cv : Value} {b : Bool} {i : Nat} (h : σ[i]? = some (some (.ref a))) (hx : XAt H a C) (T : XC K C B newId initId bmB) (hc : ∀ u, RelV c u → u = cv) (hk : PySem.W.kitOne K (.ref C) cv = some b) :
    G (tCB (rXis K) (tCons (tVar i) (tCons (tC c) tNil))) σ H (Is (.bl b)) := ⟨fun H1 e Q q => ⟨_, h, a, C, c, B, newId, initId, bmB, b, rfl, by
      rcases hx with hx | ⟨dx, fs, h1, h2⟩
      · exact .inl (e _ _ hx)
      · exact .inr ⟨dx, fs, e _ _ h1, e _ _ h2⟩, T, .inl ⟨cv, hc, hk⟩, q _ H1 (Same.refl H1) rfl⟩, mn_i⟩
theorem mv_xat (a : Addr) (H H' : Hp) (s : Same H H') (h : XAt H a C) : XAt H' a C := by
  rcases h with h | ⟨dx, fs, h1, h2⟩
  · exact .inl (s _ _ h)
  · exact .inr ⟨dx, fs, s _ _ h1, s _ _ h2⟩
theorem pe_globR {X : Cx} {x : Str} {a : Addr} {pos : Pos} (hg : Gl X x) (hm : X.mg x = some (.ref a)) (hd : (x == ("__debug__" : Str)) = false := by decide) : PE X (.Name x pos) (tC (.ref a)) := pe_glob hg hm rfl hd
theorem pe_bltnT {X : Cx} {x : Str} {n : String} {pos : Pos} (hg : Gl X x) (hm : X.mg x = none) (hv : bootBuiltins x = some (.type n)) (hn : x ≠ "__name__" := by decide) (hd : (x == ("__debug__" : Str)) = false := by decide) : PE X (.Name x pos) (tC (.ty n)) := pe_bltn (v := .ty n) hg hm hv rfl hn hd
theorem ref_cls {a : Addr} : ∀ u, RelV (.ref a) u → u = .ref a := fun _ h => h
theorem ty_cls {n : String} : ∀ u, RelV (.ty n) u → u = .type n := fun _ h => h
end
end WLf

set_option Elab.async false
set_option linter.all false
set_option maxRecDepth 100000
set_option maxHeartbeats 2000000
namespace WLf
open PySem PySem.Spec L2 WEv WRd WXE
theorem dpall_bls {K : PySem.W.Frag} {H : Hp} : ∀ bs : List Bool, DpAll K H (bs.map V.bl) (bs.map PyData.bool)
  | [] => .nil
  | b :: bs => .cons (.bl b) (dpall_bls bs)
theorem is_list {ys xs : List V} {H : Hp} (h : Fa (ys.map Is) xs H) : xs = ys := h.is
section
variable {K : PySem.W.Frag} {σ : L2.St} {H H' : Hp} {te ta tb td ty tv : TE} {tr : TA} {tt tu : TT} {v x y : V} {vs : List V} {P Pa Pb : HP V} {Ps Qs : List (HP V)} {D : Ends} {n : Nat} {b c : Bool}
theorem lf_dp {bs : List Bool} (h : LF ((bs.map V.bl).map Is) v H) : Dp K H v (.list (bs.map PyData.bool)) := by
  obtain ⟨p, xs, rfl, hp, fa⟩ := h
  obtain rfl := fa.is
  exact .lst (.of hp) (dpall_bls bs)
theorem mn_is {ys : List V} : Mn (Fa (ys.map Is)) := by
  induction ys with
  | nil => exact mn_nil
  | cons y ys ih => exact mn_cons mn_i ih
theorem et_ne {bs : List Bool} (ha : G ta σ H (LF ((bs.map V.bl).map Is))) (hb : G tb σ H (LF ((bs.map V.bl).map Is))) (hs : SeqAt.shaped (.list (bs.map PyData.bool)) = true) : EvT (tTest (tOp (rNeD K) ta tb)) σ H false := fun H1 e _ q =>
  ha.ev H1 e _ fun a H2 s2 pa => hb.ev H2 (e.trans s2) _ fun c H3 s3 pc => by
    refine ⟨_, _, lf_dp (ha.mn _ _ _ s3 pa), lf_dp pc, hs, hs, ?_⟩
    rw [SeqAt.eqv_refl _ (SeqAt.canLay_of_shaped hs)]
    exact ⟨false, rfl, q _ (s2.trans s3)⟩
theorem et_or0 (h : EvT tt σ H false) (g : EvT tu σ H b) : EvT (tOr tt tu) σ H b := fun H1 e Q q => h H1 e _ fun H2 s2 => g H2 (e.trans s2) _ fun H3 s3 => q _ (s2.trans s3)
theorem et_val (h : G te σ H (Is (.bl b))) : EvT (tB te) σ H b := fun H1 e Q q => h.ev H1 e _ fun x H2 s2 p => ⟨b, p, q _ s2⟩
theorem s_no {t u : TS} (h : EvT tt σ H false) (q : ∀ H1, Same H H1 → u D σ H1) : tIfS tt t u D σ H := h H (Same.refl H) _ fun H1 s => q H1 s
theorem s_yes {t u : TS} (h : EvT tt σ H true) (q : ∀ H1, Same H H1 → t D σ H1) : tIfS tt t u D σ H := h H (Same.refl H) _ fun H1 s => q H1 s
/-- [e for v in range(n)], e only read -/
theorem g_lcr {v : Nat} {m : Nat} (f : Nat → V) (hm : m ≤ 1000) (h : ∀ i H1, i < m → Same H H1 → Ev te ((σ.set v none).set v (some (.int ((0 : Int) + (i : Nat))))) H1 (f i)) :
    G (tLc (iRng1 (tCons (tC (.int (m : Int))) tNil)) (gName v) tYes te [v]) σ H (LF (((List.range m).map f).map Is)) := by
  refine ⟨fun H1 e Q q => ?_, mn_lf mn_is⟩
  refine ⟨m, rfl, by omega, by omega, fun D hD => ?_⟩
  show ∃ W, _
  refine lc_it (walk_range (lo := 0) (n := m)) (fun i H' => Same H1 H' ∧ H' D = some (.lst ((List.range i).map f))) ⟨same_new hD, upd_same⟩ (fun _ _ _ _ => trivial) (fun i x H2 H3 hi p y => ?_) (fun H2 p => ?_)
  · obtain ⟨s2, hd⟩ := p
    obtain ⟨rfl, rfl⟩ := y
    refine ⟨(List.set_set ..).trans (List.set_set ..), ?_⟩
    refine h i _ hi (e.trans s2) _ ⟨_, hd, ?_, same_put s2 hD, ?_⟩
    · rw [List.length_map, List.length_range]
      exact Nat.lt_of_lt_of_le hi (Nat.le_trans hm (by decide))
    · rw [upd_same, List.range_succ, List.map_append]
      rfl
  · exact q _ _ p.1 ⟨D, _, rfl, p.2, by
      have : ∀ ys : List V, Fa (ys.map Is) ys H2 := fun ys => by
        induction ys with
        | nil => trivial
        | cons y ys ih => exact ⟨rfl, ih⟩
      exact this _⟩
theorem g_eq {xs ys : List V} (h : G te σ H (LF (xs.map Is))) (e : xs = ys) : G te σ H (LF (ys.map Is)) := e ▸ h
theorem ty2 {n1 n2 : String} : ∀ us, Vals [V.ty n1, V.ty n2] us → us = [.type n1, .type n2] := fun us r => by
  cases r with
  | cons r1 r =>
    cases r with
    | cons r2 r =>
      cases r
      cases r1
      cases r2
      rfl
/-- isinstance(e, (T1, T2)) -/
theorem g_xis2 {a C : Addr} {n1 n2 B newId initId : String} {bmB : List Value} {b : Bool} {i : Nat} (h : σ[i]? = some (some (.ref a))) (hx : XAt H a C) (T : XC K C B newId initId bmB) (hk : PySem.W.kitAny K (.ref C) [.type n1, .type n2] = some b) :
    G (tCB (rXis K) (tCons (tVar i) (tCons (tTup (tCons (tC (.ty n1)) (tCons (tC (.ty n2)) tNil))) tNil))) σ H (Is (.bl b)) := ⟨fun H1 e Q q => ⟨_, h, (by decide : 2 ≤ sizeLine), fun p hp => ⟨a, C, .ref p, B, newId, initId, bmB, b, rfl, mv_xat a _ _ (same_new hp) (mv_xat a _ _ e hx), T, .inr ⟨p, _, rfl, upd_same, fun us r => by rw [ty2 us r]; exact hk⟩, q _ _ (same_new hp) rfl⟩⟩, mn_i⟩
theorem g_imp (h : G te σ H P) (k : ∀ v H, P v H → Pa v H) (m : Mn Pa) : G te σ H Pa := ⟨h.ev.imp k, m⟩
theorem ev_g (h : ∀ H1, Same H H1 → Ev te σ H1 v) : G te σ H (Is v) := ⟨fun H1 e Q q => h H1 e _ (q _ H1 (Same.refl H1) rfl), mn_i⟩
/-- a call that only adds objects -/
theorem g_call1 {sp : Sp} {E : XK} (ha : G ta σ H (Is x)) (hs : ∀ H1, Same H H1 → ∀ Q : VK, (∀ v H2, Same H1 H2 → P v H2 → Q v H2) → sp [x] H1 Q E) (m : Mn P) : G (tCall sp [] E (tCons ta tNil)) σ H P := ⟨fun H1 e Q q =>
  ha.ev H1 e _ fun a H2 s2 pa => by
    obtain rfl : a = x := pa
    exact hs H2 (e.trans s2) _ fun v H3 s3 p3 => q _ _ (s2.trans s3) p3, m⟩
end
end WLf

set_option Elab.async false
set_option linter.all false
set_option maxRecDepth 100000
set_option maxHeartbeats 4000000
namespace W87
open PySem PySem.Spec PyProof.Rows L2
abbrev bmValueError : List Value := [.type "ValueError", .type "Exception", .type "BaseException", .type "object"]
abbrev bmRuntimeError : List Value := [.type "RuntimeError", .type "Exception", .type "BaseException", .type "object"]
abbrev bmLookupError : List Value := [.type "LookupError", .type "Exception", .type "BaseException", .type "object"]
theorem kb_pos {K : PySem.W.Frag} {fd : FuncData} {ps : List Str} {n : Nat} (hn : n = ps.length) (h : Binds K fd ps []) : KBn K fd ps n [] (fun us _ => us) (fun vs _ => vs) :=
  ⟨fun s us ws X hl _ => by
    have z := h s us X (by rw [List.append_nil, hl, hn])
    rw [List.append_nil] at z
    exact z, fun r _ => r⟩
theorem kb_kw {K : PySem.W.Frag} {x qual : Str} {params : Arguments} {body : List Stmt} {scope : Scope} {f : Addr} {fd : FuncData} {a b k : Str} (F : FunD K x qual params body scope [] [] f fd)
    (h : ∀ (kV doc pm : Value) (an : Option Addr) (cdv ct : Value) (u v : Value), bindArgs (PySem.W.fnOf x qual params body scope .none kV doc pm an cdv ct) ⟨[u], [(k, v)]⟩ = pure ([a, b].zip [u, v])) :
    KBn K fd [a, b] 1 [k] (fun us ws => us ++ ws) (fun vs zs => vs ++ zs) := by
  obtain ⟨oc, od, dV, kV, doc, pm, an, cdv, ct, osl, rfl, lk, hcd, hD, hK⟩ := F.ex
  rcases hD with ⟨_, rfl⟩ | ⟨e, _⟩
  · refine ⟨fun s us ws X h1 h2 => ?_, fun r1 r2 => r1.append r2⟩
    match us, ws, h1, h2 with
    | [u], [v], _, _ => exact .of_eq (h kV doc pm an cdv ct u v)
  · exact absurd rfl e
def top (i : Nat) : Stmt := PySem.Challenge.pw_watchtree_k87_errors_by_hand.main.body.getD i (.Pass ⟨0, 0, 0, 0⟩)
abbrev s_BadSetting__init : Stmt := inClass (top 4) 0
def d_BadSetting__init : He.DefD := ⟨("BadSetting", some "__init__"), "__init__", "BadSetting.__init__", defArgs s_BadSetting__init, defBody s_BadSetting__init, defScope s_BadSetting__init, [], []⟩
theorem sc_BadSetting__init : FnScope ["self", "setting"] ["self", "setting"] (defScope s_BadSetting__init) := ⟨rfl, rfl, rfl, by decide +kernel, rfl, by decide +kernel, by decide +kernel⟩
abbrev s_BadChild__init : Stmt := inClass (top 5) 0
def d_BadChild__init : He.DefD := ⟨("BadChild", some "__init__"), "__init__", "BadChild.__init__", defArgs s_BadChild__init, defBody s_BadChild__init, defScope s_BadChild__init, [], []⟩
theorem sc_BadChild__init : FnScope ["self", "index"] ["self", "index"] (defScope s_BadChild__init) := ⟨rfl, rfl, rfl, by decide +kernel, rfl, by decide +kernel, by decide +kernel⟩
abbrev s_BadRoot__init : Stmt := inClass (top 6) 0
def d_BadRoot__init : He.DefD := ⟨("BadRoot", some "__init__"), "__init__", "BadRoot.__init__", defArgs s_BadRoot__init, defBody s_BadRoot__init, defScope s_BadRoot__init, [], []⟩
theorem sc_BadRoot__init : FnScope ["self", "rule"] ["self", "rule"] (defScope s_BadRoot__init) := ⟨rfl, rfl, rfl, by decide +kernel, rfl, by decide +kernel, by decide +kernel⟩
abbrev s_BadText__init : Stmt := inClass (top 7) 0
def d_BadText__init : He.DefD := ⟨("BadText", some "__init__"), "__init__", "BadText.__init__", defArgs s_BadText__init, defBody s_BadText__init, defScope s_BadText__init, [], []⟩
theorem sc_BadText__init : FnScope ["self", "line"] ["self", "line"] (defScope s_BadText__init) := ⟨rfl, rfl, rfl, by decide +kernel, rfl, by decide +kernel, by decide +kernel⟩
abbrev s_BadTick__init : Stmt := inClass (top 8) 0
def d_BadTick__init : He.DefD := ⟨("BadTick", some "__init__"), "__init__", "BadTick.__init__", defArgs s_BadTick__init, defBody s_BadTick__init, defScope s_BadTick__init, [], []⟩
theorem sc_BadTick__init : FnScope ["self", "value"] ["self", "value"] (defScope s_BadTick__init) := ⟨rfl, rfl, rfl, by decide +kernel, rfl, by decide +kernel, by decide +kernel⟩
abbrev s_BadReason__init : Stmt := inClass (top 9) 0
def d_BadReason__init : He.DefD := ⟨("BadReason", some "__init__"), "__init__", "BadReason.__init__", defArgs s_BadReason__init, defBody s_BadReason__init, defScope s_BadReason__init, [], []⟩
theorem sc_BadReason__init : FnScope ["self", "value"] ["self", "value"] (defScope s_BadReason__init) := ⟨rfl, rfl, rfl, by decide +kernel, rfl, by decide +kernel, by decide +kernel⟩
abbrev s_BadScript__init : Stmt := inClass (top 10) 0
def d_BadScript__init : He.DefD := ⟨("BadScript", some "__init__"), "__init__", "BadScript.__init__", defArgs s_BadScript__init, defBody s_BadScript__init, defScope s_BadScript__init, [], []⟩
theorem sc_BadScript__init : FnScope ["self", "index"] ["self", "index"] (defScope s_BadScript__init) := ⟨rfl, rfl, rfl, by decide +kernel, rfl, by decide +kernel, by decide +kernel⟩
abbrev s_BadWord__init : Stmt := inClass (top 11) 0
def d_BadWord__init : He.DefD := ⟨("BadWord", some "__init__"), "__init__", "BadWord.__init__", defArgs s_BadWord__init, defBody s_BadWord__init, defScope s_BadWord__init, [], []⟩
theorem sc_BadWord__init : FnScope ["self", "value"] ["self", "value"] (defScope s_BadWord__init) := ⟨rfl, rfl, rfl, by decide +kernel, rfl, by decide +kernel, by decide +kernel⟩
abbrev s_BadValue__init : Stmt := inClass (top 12) 0
def d_BadValue__init : He.DefD := ⟨("BadValue", some "__init__"), "__init__", "BadValue.__init__", defArgs s_BadValue__init, defBody s_BadValue__init, defScope s_BadValue__init, [], []⟩
theorem sc_BadValue__init : FnScope ["self", "value"] ["self", "value"] (defScope s_BadValue__init) := ⟨rfl, rfl, rfl, by decide +kernel, rfl, by decide +kernel, by decide +kernel⟩
abbrev s_BadEntry__init : Stmt := inClass (top 13) 0
def d_BadEntry__init : He.DefD := ⟨("BadEntry", some "__init__"), "__init__", "BadEntry.__init__", defArgs s_BadEntry__init, defBody s_BadEntry__init, defScope s_BadEntry__init, [], []⟩
theorem sc_BadEntry__init : FnScope ["self", "index"] ["self", "index"] (defScope s_BadEntry__init) := ⟨rfl, rfl, rfl, by decide +kernel, rfl, by decide +kernel, by decide +kernel⟩
abbrev s_BadInput__init : Stmt := inClass (top 14) 0
def d_BadInput__init : He.DefD := ⟨("BadInput", some "__init__"), "__init__", "BadInput.__init__", defArgs s_BadInput__init, defBody s_BadInput__init, defScope s_BadInput__init, [], []⟩
theorem sc_BadInput__init : FnScope ["self", "index"] ["self", "index"] (defScope s_BadInput__init) := ⟨rfl, rfl, rfl, by decide +kernel, rfl, by decide +kernel, by decide +kernel⟩
abbrev s_Over__init : Stmt := inClass (top 15) 0
def d_Over__init : He.DefD := ⟨("Over", some "__init__"), "__init__", "Over.__init__", defArgs s_Over__init, defBody s_Over__init, defScope s_Over__init, [], []⟩
theorem sc_Over__init : FnScope ["self"] ["self"] (defScope s_Over__init) := ⟨rfl, rfl, rfl, by decide +kernel, rfl, by decide +kernel, by decide +kernel⟩
abbrev s_NotRunning__init : Stmt := inClass (top 16) 0
def d_NotRunning__init : He.DefD := ⟨("NotRunning", some "__init__"), "__init__", "NotRunning.__init__", defArgs s_NotRunning__init, defBody s_NotRunning__init, defScope s_NotRunning__init, [], []⟩
theorem sc_NotRunning__init : FnScope ["self", "place"] ["self", "place"] (defScope s_NotRunning__init) := ⟨rfl, rfl, rfl, by decide +kernel, rfl, by decide +kernel, by decide +kernel⟩
abbrev s_NotSupervisor__init : Stmt := inClass (top 17) 0
def d_NotSupervisor__init : He.DefD := ⟨("NotSupervisor", some "__init__"), "__init__", "NotSupervisor.__init__", defArgs s_NotSupervisor__init, defBody s_NotSupervisor__init, defScope s_NotSupervisor__init, [], []⟩
theorem sc_NotSupervisor__init : FnScope ["self", "place"] ["self", "place"] (defScope s_NotSupervisor__init) := ⟨rfl, rfl, rfl, by decide +kernel, rfl, by decide +kernel, by decide +kernel⟩
abbrev s_NotWorker__init : Stmt := inClass (top 18) 0
def d_NotWorker__init : He.DefD := ⟨("NotWorker", some "__init__"), "__init__", "NotWorker.__init__", defArgs s_NotWorker__init, defBody s_NotWorker__init, defScope s_NotWorker__init, [], []⟩
theorem sc_NotWorker__init : FnScope ["self", "place"] ["self", "place"] (defScope s_NotWorker__init) := ⟨rfl, rfl, rfl, by decide +kernel, rfl, by decide +kernel, by decide +kernel⟩
abbrev s_NotQuiet__init : Stmt := inClass (top 19) 0
def d_NotQuiet__init : He.DefD := ⟨("NotQuiet", some "__init__"), "__init__", "NotQuiet.__init__", defArgs s_NotQuiet__init, defBody s_NotQuiet__init, defScope s_NotQuiet__init, [], []⟩
theorem sc_NotQuiet__init : FnScope ["self"] ["self"] (defScope s_NotQuiet__init) := ⟨rfl, rfl, rfl, by decide +kernel, rfl, by decide +kernel, by decide +kernel⟩
abbrev s_NoPlace__init : Stmt := inClass (top 20) 0
def d_NoPlace__init : He.DefD := ⟨("NoPlace", some "__init__"), "__init__", "NoPlace.__init__", defArgs s_NoPlace__init, defBody s_NoPlace__init, defScope s_NoPlace__init, [], []⟩
theorem sc_NoPlace__init : FnScope ["self", "place"] ["self", "place"] (defScope s_NoPlace__init) := ⟨rfl, rfl, rfl, by decide +kernel, rfl, by decide +kernel, by decide +kernel⟩
abbrev s_NoMessage__init : Stmt := inClass (top 21) 0
def d_NoMessage__init : He.DefD := ⟨("NoMessage", some "__init__"), "__init__", "NoMessage.__init__", defArgs s_NoMessage__init, defBody s_NoMessage__init, defScope s_NoMessage__init, [], []⟩
theorem sc_NoMessage__init : FnScope ["self", "message"] ["self", "message"] (defScope s_NoMessage__init) := ⟨rfl, rfl, rfl, by decide +kernel, rfl, by decide +kernel, by decide +kernel⟩
abbrev s_NoEntry__init : Stmt := inClass (top 22) 0
def d_NoEntry__init : He.DefD := ⟨("NoEntry", some "__init__"), "__init__", "NoEntry.__init__", defArgs s_NoEntry__init, defBody s_NoEntry__init, defScope s_NoEntry__init, [], []⟩
theorem sc_NoEntry__init : FnScope ["self", "entry"] ["self", "entry"] (defScope s_NoEntry__init) := ⟨rfl, rfl, rfl, by decide +kernel, rfl, by decide +kernel, by decide +kernel⟩
abbrev s_L_source : Stmt := top 24
def d_L_source : He.DefD := ⟨("_law_source", none), "_law_source", "_law_source", defArgs s_L_source, defBody s_L_source, defScope s_L_source, [], []⟩
theorem sc_L_source : FnScope ["numbers"] ["numbers"] (defScope s_L_source) := ⟨rfl, rfl, rfl, by decide +kernel, rfl, by decide +kernel, by decide +kernel⟩
abbrev s_L_draw : Stmt := top 25
def d_L_draw : He.DefD := ⟨("_law_draw", none), "_law_draw", "_law_draw", defArgs s_L_draw, defBody s_L_draw, defScope s_L_draw, [], []⟩
theorem sc_L_draw : FnScope ["source", "bound", "cell", "count", "mixed", "drawn"] ["source", "bound"] (defScope s_L_draw) := ⟨rfl, rfl, rfl, by decide +kernel, rfl, by decide +kernel, by decide +kernel⟩
abbrev s_L_pick : Stmt := top 26
def d_L_pick : He.DefD := ⟨("_law_pick", none), "_law_pick", "_law_pick", defArgs s_L_pick, defBody s_L_pick, defScope s_L_pick, [], []⟩
theorem sc_L_pick : FnScope ["source", "items"] ["source", "items"] (defScope s_L_pick) := ⟨rfl, rfl, rfl, by decide +kernel, rfl, by decide +kernel, by decide +kernel⟩
abbrev s_L_kinds : Stmt := top 27
def d_L_kinds : He.DefD := ⟨("_law_kinds", none), "_law_kinds", "_law_kinds", defArgs s_L_kinds, defBody s_L_kinds, defScope s_L_kinds, [], []⟩
theorem sc_L_kinds : FnScope ["error", "some"] ["error"] (defScope s_L_kinds) := ⟨rfl, rfl, rfl, by decide +kernel, rfl, by decide +kernel, by decide +kernel⟩
abbrev s_L_made : Stmt := top 28
def d_L_made : He.DefD := ⟨("_law_made", none), "_law_made", "_law_made", defArgs s_L_made, defBody s_L_made, defScope s_L_made, [], []⟩
theorem sc_L_made : FnScope ["field", "first", "second"] ["field"] (defScope s_L_made) := ⟨rfl, rfl, rfl, by decide +kernel, rfl, by decide +kernel, by decide +kernel⟩
abbrev s_L_stored : Stmt := top 29
def d_L_stored : He.DefD := ⟨("_law_stored", none), "_law_stored", "_law_stored", defArgs s_L_stored, defBody s_L_stored, defScope s_L_stored, [], []⟩
theorem sc_L_stored : FnScope ["made", "first", "second", "third", "found"] ["made"] (defScope s_L_stored) := ⟨rfl, rfl, rfl, by decide +kernel, rfl, by decide +kernel, by decide +kernel⟩
abbrev s_L_named : Stmt := top 30
def d_L_named : He.DefD := ⟨("_law_named", none), "_law_named", "_law_named", defArgs s_L_named, defBody s_L_named, defScope s_L_named, [], []⟩
theorem sc_L_named : FnScope ["it", "found"] ["it"] (defScope s_L_named) := ⟨rfl, rfl, rfl, by decide +kernel, rfl, by decide +kernel, by decide +kernel⟩
abbrev s_L_families_right : Stmt := top 31
def d_L_families_right : He.DefD := ⟨("_law_families_right", none), "_law_families_right", "_law_families_right", defArgs s_L_families_right, defBody s_L_families_right, defScope s_L_families_right, [], []⟩
theorem sc_L_families_right : FnScope ["made", "at", "k", "group", "error", "bases", "other", "j"] ["made"] (defScope s_L_families_right) := ⟨rfl, rfl, rfl, by decide +kernel, rfl, by decide +kernel, by decide +kernel⟩
abbrev s_law : Stmt := top 32
def d_law : He.DefD := ⟨("law", none), "law", "law", defArgs s_law, defBody s_law, defScope s_law, [], []⟩
theorem sc_law : FnScope ["cells", "source", "turn", "it", "made"] ["cells"] (defScope s_law) := ⟨rfl, rfl, rfl, by decide +kernel, rfl, by decide +kernel, by decide +kernel⟩
def fns : List He.DefD := [d_BadSetting__init, d_BadChild__init, d_BadRoot__init, d_BadText__init, d_BadTick__init, d_BadReason__init, d_BadScript__init, d_BadWord__init, d_BadValue__init, d_BadEntry__init, d_BadInput__init, d_Over__init, d_NotRunning__init, d_NotSupervisor__init, d_NotWorker__init, d_NotQuiet__init, d_NoPlace__init, d_NoMessage__init, d_NoEntry__init, d_L_source, d_L_draw, d_L_pick, d_L_kinds, d_L_made, d_L_stored, d_L_named, d_L_families_right, d_law]
def exNames : List Str := ["BadSetting", "BadChild", "BadRoot", "BadText", "BadTick", "BadReason", "BadScript", "BadWord", "BadValue", "BadEntry", "BadInput", "Over", "NotRunning", "NotSupervisor", "NotWorker", "NotQuiet", "NoPlace", "NoMessage", "NoEntry"]
def exFld : List (Option Str) := [some "setting", some "index", some "rule", some "line", some "value", some "value", some "index", some "value", some "value", some "index", some "index", none, some "place", some "place", some "place", none, some "place", some "message", some "entry"]
def exFam : List Nat := [0, 0, 0, 0, 0, 0, 0, 0, 0, 0, 0, 1, 1, 1, 1, 1, 2, 2, 2]
def bNames : List Str := ["PlanError", "TreeError", "AbsentError"]
def bTypes : List String := ["ValueError", "RuntimeError", "LookupError"]
def frees : List Str := ["len", "int", "isinstance", "range", "enumerate", "repr", "list", "KeyError", "IndexError", "ValueError", "RuntimeError", "LookupError"]
def globs : List Str := ["PlanError", "TreeError", "AbsentError", "BadSetting", "BadChild", "BadRoot", "BadText", "BadTick", "BadReason", "BadScript", "BadWord", "BadValue", "BadEntry", "BadInput", "Over", "NotRunning", "NotSupervisor", "NotWorker", "NotQuiet", "NoPlace", "NoMessage", "NoEntry", "_law_source", "_law_draw", "_law_pick", "_law_kinds", "_law_made", "_law_stored", "_law_named", "_law_families_right", "law"]
def exC (K : PySem.W.Frag) (i : Nat) : Addr := He.ga K (exNames.getD i "")
structure Env (K : PySem.W.Frag) (mg : Str → Option Value) : Type where
  sys : WXG.SysK K
  b_len : mg "len" = none
  b_int : mg "int" = none
  b_isinstance : mg "isinstance" = none
  b_range : mg "range" = none
  b_enumerate : mg "enumerate" = none
  b_repr : mg "repr" = none
  b_list : mg "list" = none
  b_KeyError : mg "KeyError" = none
  b_IndexError : mg "IndexError" = none
  b_ValueError : mg "ValueError" = none
  b_RuntimeError : mg "RuntimeError" = none
  b_LookupError : mg "LookupError" = none
  g_PlanError : mg "PlanError" = some (.ref (He.ga K "PlanError"))
  g_TreeError : mg "TreeError" = some (.ref (He.ga K "TreeError"))
  g_AbsentError : mg "AbsentError" = some (.ref (He.ga K "AbsentError"))
  g_BadSetting : mg "BadSetting" = some (.ref (He.ga K "BadSetting"))
  g_BadChild : mg "BadChild" = some (.ref (He.ga K "BadChild"))
  g_BadRoot : mg "BadRoot" = some (.ref (He.ga K "BadRoot"))
  g_BadText : mg "BadText" = some (.ref (He.ga K "BadText"))
  g_BadTick : mg "BadTick" = some (.ref (He.ga K "BadTick"))
  g_BadReason : mg "BadReason" = some (.ref (He.ga K "BadReason"))
  g_BadScript : mg "BadScript" = some (.ref (He.ga K "BadScript"))
  g_BadWord : mg "BadWord" = some (.ref (He.ga K "BadWord"))
  g_BadValue : mg "BadValue" = some (.ref (He.ga K "BadValue"))
  g_BadEntry : mg "BadEntry" = some (.ref (He.ga K "BadEntry"))
  g_BadInput : mg "BadInput" = some (.ref (He.ga K "BadInput"))
  g_Over : mg "Over" = some (.ref (He.ga K "Over"))
  g_NotRunning : mg "NotRunning" = some (.ref (He.ga K "NotRunning"))
  g_NotSupervisor : mg "NotSupervisor" = some (.ref (He.ga K "NotSupervisor"))
  g_NotWorker : mg "NotWorker" = some (.ref (He.ga K "NotWorker"))
  g_NotQuiet : mg "NotQuiet" = some (.ref (He.ga K "NotQuiet"))
  g_NoPlace : mg "NoPlace" = some (.ref (He.ga K "NoPlace"))
  g_NoMessage : mg "NoMessage" = some (.ref (He.ga K "NoMessage"))
  g_NoEntry : mg "NoEntry" = some (.ref (He.ga K "NoEntry"))
  fd_BadSetting__init : FuncData
  F_BadSetting__init : FunD K d_BadSetting__init.name d_BadSetting__init.qual d_BadSetting__init.params d_BadSetting__init.body d_BadSetting__init.scope [] [] (He.fAd K d_BadSetting__init.at_) fd_BadSetting__init
  fd_BadChild__init : FuncData
  F_BadChild__init : FunD K d_BadChild__init.name d_BadChild__init.qual d_BadChild__init.params d_BadChild__init.body d_BadChild__init.scope [] [] (He.fAd K d_BadChild__init.at_) fd_BadChild__init
  fd_BadRoot__init : FuncData
  F_BadRoot__init : FunD K d_BadRoot__init.name d_BadRoot__init.qual d_BadRoot__init.params d_BadRoot__init.body d_BadRoot__init.scope [] [] (He.fAd K d_BadRoot__init.at_) fd_BadRoot__init
  fd_BadText__init : FuncData
  F_BadText__init : FunD K d_BadText__init.name d_BadText__init.qual d_BadText__init.params d_BadText__init.body d_BadText__init.scope [] [] (He.fAd K d_BadText__init.at_) fd_BadText__init
  fd_BadTick__init : FuncData
  F_BadTick__init : FunD K d_BadTick__init.name d_BadTick__init.qual d_BadTick__init.params d_BadTick__init.body d_BadTick__init.scope [] [] (He.fAd K d_BadTick__init.at_) fd_BadTick__init
  fd_BadReason__init : FuncData
  F_BadReason__init : FunD K d_BadReason__init.name d_BadReason__init.qual d_BadReason__init.params d_BadReason__init.body d_BadReason__init.scope [] [] (He.fAd K d_BadReason__init.at_) fd_BadReason__init
  fd_BadScript__init : FuncData
  F_BadScript__init : FunD K d_BadScript__init.name d_BadScript__init.qual d_BadScript__init.params d_BadScript__init.body d_BadScript__init.scope [] [] (He.fAd K d_BadScript__init.at_) fd_BadScript__init
  fd_BadWord__init : FuncData
  F_BadWord__init : FunD K d_BadWord__init.name d_BadWord__init.qual d_BadWord__init.params d_BadWord__init.body d_BadWord__init.scope [] [] (He.fAd K d_BadWord__init.at_) fd_BadWord__init
  fd_BadValue__init : FuncData
  F_BadValue__init : FunD K d_BadValue__init.name d_BadValue__init.qual d_BadValue__init.params d_BadValue__init.body d_BadValue__init.scope [] [] (He.fAd K d_BadValue__init.at_) fd_BadValue__init
  fd_BadEntry__init : FuncData
  F_BadEntry__init : FunD K d_BadEntry__init.name d_BadEntry__init.qual d_BadEntry__init.params d_BadEntry__init.body d_BadEntry__init.scope [] [] (He.fAd K d_BadEntry__init.at_) fd_BadEntry__init
  fd_BadInput__init : FuncData
  F_BadInput__init : FunD K d_BadInput__init.name d_BadInput__init.qual d_BadInput__init.params d_BadInput__init.body d_BadInput__init.scope [] [] (He.fAd K d_BadInput__init.at_) fd_BadInput__init
  fd_Over__init : FuncData
  F_Over__init : FunD K d_Over__init.name d_Over__init.qual d_Over__init.params d_Over__init.body d_Over__init.scope [] [] (He.fAd K d_Over__init.at_) fd_Over__init
  fd_NotRunning__init : FuncData
  F_NotRunning__init : FunD K d_NotRunning__init.name d_NotRunning__init.qual d_NotRunning__init.params d_NotRunning__init.body d_NotRunning__init.scope [] [] (He.fAd K d_NotRunning__init.at_) fd_NotRunning__init
  fd_NotSupervisor__init : FuncData
  F_NotSupervisor__init : FunD K d_NotSupervisor__init.name d_NotSupervisor__init.qual d_NotSupervisor__init.params d_NotSupervisor__init.body d_NotSupervisor__init.scope [] [] (He.fAd K d_NotSupervisor__init.at_) fd_NotSupervisor__init
  fd_NotWorker__init : FuncData
  F_NotWorker__init : FunD K d_NotWorker__init.name d_NotWorker__init.qual d_NotWorker__init.params d_NotWorker__init.body d_NotWorker__init.scope [] [] (He.fAd K d_NotWorker__init.at_) fd_NotWorker__init
  fd_NotQuiet__init : FuncData
  F_NotQuiet__init : FunD K d_NotQuiet__init.name d_NotQuiet__init.qual d_NotQuiet__init.params d_NotQuiet__init.body d_NotQuiet__init.scope [] [] (He.fAd K d_NotQuiet__init.at_) fd_NotQuiet__init
  fd_NoPlace__init : FuncData
  F_NoPlace__init : FunD K d_NoPlace__init.name d_NoPlace__init.qual d_NoPlace__init.params d_NoPlace__init.body d_NoPlace__init.scope [] [] (He.fAd K d_NoPlace__init.at_) fd_NoPlace__init
  fd_NoMessage__init : FuncData
  F_NoMessage__init : FunD K d_NoMessage__init.name d_NoMessage__init.qual d_NoMessage__init.params d_NoMessage__init.body d_NoMessage__init.scope [] [] (He.fAd K d_NoMessage__init.at_) fd_NoMessage__init
  fd_NoEntry__init : FuncData
  F_NoEntry__init : FunD K d_NoEntry__init.name d_NoEntry__init.qual d_NoEntry__init.params d_NoEntry__init.body d_NoEntry__init.scope [] [] (He.fAd K d_NoEntry__init.at_) fd_NoEntry__init
  g__law_source : mg "_law_source" = some (.ref (He.ga K "_law_source"))
  fd_L_source : FuncData
  F_L_source : FunD K d_L_source.name d_L_source.qual d_L_source.params d_L_source.body d_L_source.scope [] [] (He.fAd K d_L_source.at_) fd_L_source
  g__law_draw : mg "_law_draw" = some (.ref (He.ga K "_law_draw"))
  fd_L_draw : FuncData
  F_L_draw : FunD K d_L_draw.name d_L_draw.qual d_L_draw.params d_L_draw.body d_L_draw.scope [] [] (He.fAd K d_L_draw.at_) fd_L_draw
  g__law_pick : mg "_law_pick" = some (.ref (He.ga K "_law_pick"))
  fd_L_pick : FuncData
  F_L_pick : FunD K d_L_pick.name d_L_pick.qual d_L_pick.params d_L_pick.body d_L_pick.scope [] [] (He.fAd K d_L_pick.at_) fd_L_pick
  g__law_kinds : mg "_law_kinds" = some (.ref (He.ga K "_law_kinds"))
  fd_L_kinds : FuncData
  F_L_kinds : FunD K d_L_kinds.name d_L_kinds.qual d_L_kinds.params d_L_kinds.body d_L_kinds.scope [] [] (He.fAd K d_L_kinds.at_) fd_L_kinds
  g__law_made : mg "_law_made" = some (.ref (He.ga K "_law_made"))
  fd_L_made : FuncData
  F_L_made : FunD K d_L_made.name d_L_made.qual d_L_made.params d_L_made.body d_L_made.scope [] [] (He.fAd K d_L_made.at_) fd_L_made
  g__law_stored : mg "_law_stored" = some (.ref (He.ga K "_law_stored"))
  fd_L_stored : FuncData
  F_L_stored : FunD K d_L_stored.name d_L_stored.qual d_L_stored.params d_L_stored.body d_L_stored.scope [] [] (He.fAd K d_L_stored.at_) fd_L_stored
  g__law_named : mg "_law_named" = some (.ref (He.ga K "_law_named"))
  fd_L_named : FuncData
  F_L_named : FunD K d_L_named.name d_L_named.qual d_L_named.params d_L_named.body d_L_named.scope [] [] (He.fAd K d_L_named.at_) fd_L_named
  g__law_families_right : mg "_law_families_right" = some (.ref (He.ga K "_law_families_right"))
  fd_L_families_right : FuncData
  F_L_families_right : FunD K d_L_families_right.name d_L_families_right.qual d_L_families_right.params d_L_families_right.body d_L_families_right.scope [] [] (He.fAd K d_L_families_right.at_) fd_L_families_right
  g_law : mg "law" = some (.ref (He.ga K "law"))
  fd_law : FuncData
  F_law : FunD K d_law.name d_law.qual d_law.params d_law.body d_law.scope [] [] (He.fAd K d_law.at_) fd_law
  r_PlanError : PySem.W.readsIn K (He.ga K "PlanError") (.type "type") = true
  s_PlanError : PySem.W.specialIn K (.ref (He.ga K "PlanError")) "__getattribute__" = some (some (.builtin "type.__getattribute__"))
  v_PlanError : PySem.W.findCls K (.ref (He.ga K "PlanError")) (.type "type") "__init__" = some (.val (.builtin "ValueError.__init__"))
  r_TreeError : PySem.W.readsIn K (He.ga K "TreeError") (.type "type") = true
  s_TreeError : PySem.W.specialIn K (.ref (He.ga K "TreeError")) "__getattribute__" = some (some (.builtin "type.__getattribute__"))
  v_TreeError : PySem.W.findCls K (.ref (He.ga K "TreeError")) (.type "type") "__init__" = some (.val (.builtin "RuntimeError.__init__"))
  r_AbsentError : PySem.W.readsIn K (He.ga K "AbsentError") (.type "type") = true
  s_AbsentError : PySem.W.specialIn K (.ref (He.ga K "AbsentError")) "__getattribute__" = some (some (.builtin "type.__getattribute__"))
  v_AbsentError : PySem.W.findCls K (.ref (He.ga K "AbsentError")) (.type "type") "__init__" = some (.val (.builtin "LookupError.__init__"))
  x_BadSetting : WXE.XC K (He.ga K "BadSetting") "ValueError" "ValueError.__new__" "ValueError.__init__" bmValueError
  i_BadSetting : PySem.W.findIn K (.ref (He.ga K "BadSetting")) "__init__" = some (some (.ref (He.fAd K d_BadSetting__init.at_)))
  t_BadSetting : PySem.W.typeIn K (.ref (He.fAd K d_BadSetting__init.at_)) = some (.type "function")
  n_BadSetting : PySem.W.findIn K (.ref (He.ga K "BadSetting")) "setting" = some none
  x_BadChild : WXE.XC K (He.ga K "BadChild") "ValueError" "ValueError.__new__" "ValueError.__init__" bmValueError
  i_BadChild : PySem.W.findIn K (.ref (He.ga K "BadChild")) "__init__" = some (some (.ref (He.fAd K d_BadChild__init.at_)))
  t_BadChild : PySem.W.typeIn K (.ref (He.fAd K d_BadChild__init.at_)) = some (.type "function")
  n_BadChild : PySem.W.findIn K (.ref (He.ga K "BadChild")) "index" = some none
  x_BadRoot : WXE.XC K (He.ga K "BadRoot") "ValueError" "ValueError.__new__" "ValueError.__init__" bmValueError
  i_BadRoot : PySem.W.findIn K (.ref (He.ga K "BadRoot")) "__init__" = some (some (.ref (He.fAd K d_BadRoot__init.at_)))
  t_BadRoot : PySem.W.typeIn K (.ref (He.fAd K d_BadRoot__init.at_)) = some (.type "function")
  n_BadRoot : PySem.W.findIn K (.ref (He.ga K "BadRoot")) "rule" = some none
  x_BadText : WXE.XC K (He.ga K "BadText") "ValueError" "ValueError.__new__" "ValueError.__init__" bmValueError
  i_BadText : PySem.W.findIn K (.ref (He.ga K "BadText")) "__init__" = some (some (.ref (He.fAd K d_BadText__init.at_)))
  t_BadText : PySem.W.typeIn K (.ref (He.fAd K d_BadText__init.at_)) = some (.type "function")
  n_BadText : PySem.W.findIn K (.ref (He.ga K "BadText")) "line" = some none
  x_BadTick : WXE.XC K (He.ga K "BadTick") "ValueError" "ValueError.__new__" "ValueError.__init__" bmValueError
  i_BadTick : PySem.W.findIn K (.ref (He.ga K "BadTick")) "__init__" = some (some (.ref (He.fAd K d_BadTick__init.at_)))
  t_BadTick : PySem.W.typeIn K (.ref (He.fAd K d_BadTick__init.at_)) = some (.type "function")
  n_BadTick : PySem.W.findIn K (.ref (He.ga K "BadTick")) "value" = some none
  x_BadReason : WXE.XC K (He.ga K "BadReason") "ValueError" "ValueError.__new__" "ValueError.__init__" bmValueError
  i_BadReason : PySem.W.findIn K (.ref (He.ga K "BadReason")) "__init__" = some (some (.ref (He.fAd K d_BadReason__init.at_)))
  t_BadReason : PySem.W.typeIn K (.ref (He.fAd K d_BadReason__init.at_)) = some (.type "function")
  n_BadReason : PySem.W.findIn K (.ref (He.ga K "BadReason")) "value" = some none
  x_BadScript : WXE.XC K (He.ga K "BadScript") "ValueError" "ValueError.__new__" "ValueError.__init__" bmValueError
  i_BadScript : PySem.W.findIn K (.ref (He.ga K "BadScript")) "__init__" = some (some (.ref (He.fAd K d_BadScript__init.at_)))
  t_BadScript : PySem.W.typeIn K (.ref (He.fAd K d_BadScript__init.at_)) = some (.type "function")
  n_BadScript : PySem.W.findIn K (.ref (He.ga K "BadScript")) "index" = some none
  x_BadWord : WXE.XC K (He.ga K "BadWord") "ValueError" "ValueError.__new__" "ValueError.__init__" bmValueError
  i_BadWord : PySem.W.findIn K (.ref (He.ga K "BadWord")) "__init__" = some (some (.ref (He.fAd K d_BadWord__init.at_)))
  t_BadWord : PySem.W.typeIn K (.ref (He.fAd K d_BadWord__init.at_)) = some (.type "function")
  n_BadWord : PySem.W.findIn K (.ref (He.ga K "BadWord")) "value" = some none
  x_BadValue : WXE.XC K (He.ga K "BadValue") "ValueError" "ValueError.__new__" "ValueError.__init__" bmValueError
  i_BadValue : PySem.W.findIn K (.ref (He.ga K "BadValue")) "__init__" = some (some (.ref (He.fAd K d_BadValue__init.at_)))
  t_BadValue : PySem.W.typeIn K (.ref (He.fAd K d_BadValue__init.at_)) = some (.type "function")
  n_BadValue : PySem.W.findIn K (.ref (He.ga K "BadValue")) "value" = some none
  x_BadEntry : WXE.XC K (He.ga K "BadEntry") "ValueError" "ValueError.__new__" "ValueError.__init__" bmValueError
  i_BadEntry : PySem.W.findIn K (.ref (He.ga K "BadEntry")) "__init__" = some (some (.ref (He.fAd K d_BadEntry__init.at_)))
  t_BadEntry : PySem.W.typeIn K (.ref (He.fAd K d_BadEntry__init.at_)) = some (.type "function")
  n_BadEntry : PySem.W.findIn K (.ref (He.ga K "BadEntry")) "index" = some none
  x_BadInput : WXE.XC K (He.ga K "BadInput") "ValueError" "ValueError.__new__" "ValueError.__init__" bmValueError
  i_BadInput : PySem.W.findIn K (.ref (He.ga K "BadInput")) "__init__" = some (some (.ref (He.fAd K d_BadInput__init.at_)))
  t_BadInput : PySem.W.typeIn K (.ref (He.fAd K d_BadInput__init.at_)) = some (.type "function")
  n_BadInput : PySem.W.findIn K (.ref (He.ga K "BadInput")) "index" = some none
  x_Over : WXE.XC K (He.ga K "Over") "RuntimeError" "RuntimeError.__new__" "RuntimeError.__init__" bmRuntimeError
  i_Over : PySem.W.findIn K (.ref (He.ga K "Over")) "__init__" = some (some (.ref (He.fAd K d_Over__init.at_)))
  t_Over : PySem.W.typeIn K (.ref (He.fAd K d_Over__init.at_)) = some (.type "function")
  x_NotRunning : WXE.XC K (He.ga K "NotRunning") "RuntimeError" "RuntimeError.__new__" "RuntimeError.__init__" bmRuntimeError
  i_NotRunning : PySem.W.findIn K (.ref (He.ga K "NotRunning")) "__init__" = some (some (.ref (He.fAd K d_NotRunning__init.at_)))
  t_NotRunning : PySem.W.typeIn K (.ref (He.fAd K d_NotRunning__init.at_)) = some (.type "function")
  n_NotRunning : PySem.W.findIn K (.ref (He.ga K "NotRunning")) "place" = some none
  x_NotSupervisor : WXE.XC K (He.ga K "NotSupervisor") "RuntimeError" "RuntimeError.__new__" "RuntimeError.__init__" bmRuntimeError
  i_NotSupervisor : PySem.W.findIn K (.ref (He.ga K "NotSupervisor")) "__init__" = some (some (.ref (He.fAd K d_NotSupervisor__init.at_)))
  t_NotSupervisor : PySem.W.typeIn K (.ref (He.fAd K d_NotSupervisor__init.at_)) = some (.type "function")
  n_NotSupervisor : PySem.W.findIn K (.ref (He.ga K "NotSupervisor")) "place" = some none
  x_NotWorker : WXE.XC K (He.ga K "NotWorker") "RuntimeError" "RuntimeError.__new__" "RuntimeError.__init__" bmRuntimeError
  i_NotWorker : PySem.W.findIn K (.ref (He.ga K "NotWorker")) "__init__" = some (some (.ref (He.fAd K d_NotWorker__init.at_)))
  t_NotWorker : PySem.W.typeIn K (.ref (He.fAd K d_NotWorker__init.at_)) = some (.type "function")
  n_NotWorker : PySem.W.findIn K (.ref (He.ga K "NotWorker")) "place" = some none
  x_NotQuiet : WXE.XC K (He.ga K "NotQuiet") "RuntimeError" "RuntimeError.__new__" "RuntimeError.__init__" bmRuntimeError
  i_NotQuiet : PySem.W.findIn K (.ref (He.ga K "NotQuiet")) "__init__" = some (some (.ref (He.fAd K d_NotQuiet__init.at_)))
  t_NotQuiet : PySem.W.typeIn K (.ref (He.fAd K d_NotQuiet__init.at_)) = some (.type "function")
  x_NoPlace : WXE.XC K (He.ga K "NoPlace") "LookupError" "LookupError.__new__" "LookupError.__init__" bmLookupError
  i_NoPlace : PySem.W.findIn K (.ref (He.ga K "NoPlace")) "__init__" = some (some (.ref (He.fAd K d_NoPlace__init.at_)))
  t_NoPlace : PySem.W.typeIn K (.ref (He.fAd K d_NoPlace__init.at_)) = some (.type "function")
  n_NoPlace : PySem.W.findIn K (.ref (He.ga K "NoPlace")) "place" = some none
  x_NoMessage : WXE.XC K (He.ga K "NoMessage") "LookupError" "LookupError.__new__" "LookupError.__init__" bmLookupError
  i_NoMessage : PySem.W.findIn K (.ref (He.ga K "NoMessage")) "__init__" = some (some (.ref (He.fAd K d_NoMessage__init.at_)))
  t_NoMessage : PySem.W.typeIn K (.ref (He.fAd K d_NoMessage__init.at_)) = some (.type "function")
  n_NoMessage : PySem.W.findIn K (.ref (He.ga K "NoMessage")) "message" = some none
  x_NoEntry : WXE.XC K (He.ga K "NoEntry") "LookupError" "LookupError.__new__" "LookupError.__init__" bmLookupError
  i_NoEntry : PySem.W.findIn K (.ref (He.ga K "NoEntry")) "__init__" = some (some (.ref (He.fAd K d_NoEntry__init.at_)))
  t_NoEntry : PySem.W.typeIn K (.ref (He.fAd K d_NoEntry__init.at_)) = some (.type "function")
  n_NoEntry : PySem.W.findIn K (.ref (He.ga K "NoEntry")) "entry" = some none
  isx : ∀ i j, i < 19 → j < 19 → PySem.W.kitOne K (.ref (exC K i)) (.ref (exC K j)) = some (decide (i = j))
  isb : ∀ i j, i < 19 → j < 3 → PySem.W.kitOne K (.ref (exC K i)) (.ref (He.ga K (bNames.getD j ""))) = some (decide (exFam.getD i 9 = j))
  ist : ∀ i j, i < 19 → j < 3 → PySem.W.kitOne K (.ref (exC K i)) (.type (bTypes.getD j "")) = some (decide (exFam.getD i 9 = j))
  iso : ∀ i, i < 19 → PySem.W.kitAny K (.ref (exC K i)) [.type "KeyError", .type "IndexError"] = some false
section
variable {K : PySem.W.Frag} {mg : Str → Option Value}
theorem Env.kb_BadSetting (T : Env K mg) : KBn K T.fd_BadSetting__init ["self", "setting"] 2 [] (fun us _ => us) (fun vs _ => vs) := kb_pos rfl (T.F_BadSetting__init.bindsN fun _ _ _ _ _ _ us hl => match us, hl with | [_, _], _ => rfl)
theorem Env.kw_BadSetting (T : Env K mg) : KBn K T.fd_BadSetting__init ["self", "setting"] 1 ["setting"] (fun us ws => us ++ ws) (fun vs zs => vs ++ zs) := kb_kw T.F_BadSetting__init fun _ _ _ _ _ _ _ _ => rfl
theorem Env.kb_BadChild (T : Env K mg) : KBn K T.fd_BadChild__init ["self", "index"] 2 [] (fun us _ => us) (fun vs _ => vs) := kb_pos rfl (T.F_BadChild__init.bindsN fun _ _ _ _ _ _ us hl => match us, hl with | [_, _], _ => rfl)
theorem Env.kw_BadChild (T : Env K mg) : KBn K T.fd_BadChild__init ["self", "index"] 1 ["index"] (fun us ws => us ++ ws) (fun vs zs => vs ++ zs) := kb_kw T.F_BadChild__init fun _ _ _ _ _ _ _ _ => rfl
theorem Env.kb_BadRoot (T : Env K mg) : KBn K T.fd_BadRoot__init ["self", "rule"] 2 [] (fun us _ => us) (fun vs _ => vs) := kb_pos rfl (T.F_BadRoot__init.bindsN fun _ _ _ _ _ _ us hl => match us, hl with | [_, _], _ => rfl)
theorem Env.kw_BadRoot (T : Env K mg) : KBn K T.fd_BadRoot__init ["self", "rule"] 1 ["rule"] (fun us ws => us ++ ws) (fun vs zs => vs ++ zs) := kb_kw T.F_BadRoot__init fun _ _ _ _ _ _ _ _ => rfl
theorem Env.kb_BadText (T : Env K mg) : KBn K T.fd_BadText__init ["self", "line"] 2 [] (fun us _ => us) (fun vs _ => vs) := kb_pos rfl (T.F_BadText__init.bindsN fun _ _ _ _ _ _ us hl => match us, hl with | [_, _], _ => rfl)
theorem Env.kw_BadText (T : Env K mg) : KBn K T.fd_BadText__init ["self", "line"] 1 ["line"] (fun us ws => us ++ ws) (fun vs zs => vs ++ zs) := kb_kw T.F_BadText__init fun _ _ _ _ _ _ _ _ => rfl
theorem Env.kb_BadTick (T : Env K mg) : KBn K T.fd_BadTick__init ["self", "value"] 2 [] (fun us _ => us) (fun vs _ => vs) := kb_pos rfl (T.F_BadTick__init.bindsN fun _ _ _ _ _ _ us hl => match us, hl with | [_, _], _ => rfl)
theorem Env.kw_BadTick (T : Env K mg) : KBn K T.fd_BadTick__init ["self", "value"] 1 ["value"] (fun us ws => us ++ ws) (fun vs zs => vs ++ zs) := kb_kw T.F_BadTick__init fun _ _ _ _ _ _ _ _ => rfl
theorem Env.kb_BadReason (T : Env K mg) : KBn K T.fd_BadReason__init ["self", "value"] 2 [] (fun us _ => us) (fun vs _ => vs) := kb_pos rfl (T.F_BadReason__init.bindsN fun _ _ _ _ _ _ us hl => match us, hl with | [_, _], _ => rfl)
theorem Env.kw_BadReason (T : Env K mg) : KBn K T.fd_BadReason__init ["self", "value"] 1 ["value"] (fun us ws => us ++ ws) (fun vs zs => vs ++ zs) := kb_kw T.F_BadReason__init fun _ _ _ _ _ _ _ _ => rfl
theorem Env.kb_BadScript (T : Env K mg) : KBn K T.fd_BadScript__init ["self", "index"] 2 [] (fun us _ => us) (fun vs _ => vs) := kb_pos rfl (T.F_BadScript__init.bindsN fun _ _ _ _ _ _ us hl => match us, hl with | [_, _], _ => rfl)
theorem Env.kw_BadScript (T : Env K mg) : KBn K T.fd_BadScript__init ["self", "index"] 1 ["index"] (fun us ws => us ++ ws) (fun vs zs => vs ++ zs) := kb_kw T.F_BadScript__init fun _ _ _ _ _ _ _ _ => rfl
theorem Env.kb_BadWord (T : Env K mg) : KBn K T.fd_BadWord__init ["self", "value"] 2 [] (fun us _ => us) (fun vs _ => vs) := kb_pos rfl (T.F_BadWord__init.bindsN fun _ _ _ _ _ _ us hl => match us, hl with | [_, _], _ => rfl)
theorem Env.kw_BadWord (T : Env K mg) : KBn K T.fd_BadWord__init ["self", "value"] 1 ["value"] (fun us ws => us ++ ws) (fun vs zs => vs ++ zs) := kb_kw T.F_BadWord__init fun _ _ _ _ _ _ _ _ => rfl
theorem Env.kb_BadValue (T : Env K mg) : KBn K T.fd_BadValue__init ["self", "value"] 2 [] (fun us _ => us) (fun vs _ => vs) := kb_pos rfl (T.F_BadValue__init.bindsN fun _ _ _ _ _ _ us hl => match us, hl with | [_, _], _ => rfl)
theorem Env.kw_BadValue (T : Env K mg) : KBn K T.fd_BadValue__init ["self", "value"] 1 ["value"] (fun us ws => us ++ ws) (fun vs zs => vs ++ zs) := kb_kw T.F_BadValue__init fun _ _ _ _ _ _ _ _ => rfl
theorem Env.kb_BadEntry (T : Env K mg) : KBn K T.fd_BadEntry__init ["self", "index"] 2 [] (fun us _ => us) (fun vs _ => vs) := kb_pos rfl (T.F_BadEntry__init.bindsN fun _ _ _ _ _ _ us hl => match us, hl with | [_, _], _ => rfl)
theorem Env.kw_BadEntry (T : Env K mg) : KBn K T.fd_BadEntry__init ["self", "index"] 1 ["index"] (fun us ws => us ++ ws) (fun vs zs => vs ++ zs) := kb_kw T.F_BadEntry__init fun _ _ _ _ _ _ _ _ => rfl
theorem Env.kb_BadInput (T : Env K mg) : KBn K T.fd_BadInput__init ["self", "index"] 2 [] (fun us _ => us) (fun vs _ => vs) := kb_pos rfl (T.F_BadInput__init.bindsN fun _ _ _ _ _ _ us hl => match us, hl with | [_, _], _ => rfl)
theorem Env.kw_BadInput (T : Env K mg) : KBn K T.fd_BadInput__init ["self", "index"] 1 ["index"] (fun us ws => us ++ ws) (fun vs zs => vs ++ zs) := kb_kw T.F_BadInput__init fun _ _ _ _ _ _ _ _ => rfl
theorem Env.kb_Over (T : Env K mg) : KBn K T.fd_Over__init ["self"] 1 [] (fun us _ => us) (fun vs _ => vs) := kb_pos rfl (T.F_Over__init.bindsN fun _ _ _ _ _ _ us hl => match us, hl with | [_], _ => rfl)
theorem Env.kb_NotRunning (T : Env K mg) : KBn K T.fd_NotRunning__init ["self", "place"] 2 [] (fun us _ => us) (fun vs _ => vs) := kb_pos rfl (T.F_NotRunning__init.bindsN fun _ _ _ _ _ _ us hl => match us, hl with | [_, _], _ => rfl)
theorem Env.kw_NotRunning (T : Env K mg) : KBn K T.fd_NotRunning__init ["self", "place"] 1 ["place"] (fun us ws => us ++ ws) (fun vs zs => vs ++ zs) := kb_kw T.F_NotRunning__init fun _ _ _ _ _ _ _ _ => rfl
theorem Env.kb_NotSupervisor (T : Env K mg) : KBn K T.fd_NotSupervisor__init ["self", "place"] 2 [] (fun us _ => us) (fun vs _ => vs) := kb_pos rfl (T.F_NotSupervisor__init.bindsN fun _ _ _ _ _ _ us hl => match us, hl with | [_, _], _ => rfl)
theorem Env.kw_NotSupervisor (T : Env K mg) : KBn K T.fd_NotSupervisor__init ["self", "place"] 1 ["place"] (fun us ws => us ++ ws) (fun vs zs => vs ++ zs) := kb_kw T.F_NotSupervisor__init fun _ _ _ _ _ _ _ _ => rfl
theorem Env.kb_NotWorker (T : Env K mg) : KBn K T.fd_NotWorker__init ["self", "place"] 2 [] (fun us _ => us) (fun vs _ => vs) := kb_pos rfl (T.F_NotWorker__init.bindsN fun _ _ _ _ _ _ us hl => match us, hl with | [_, _], _ => rfl)
theorem Env.kw_NotWorker (T : Env K mg) : KBn K T.fd_NotWorker__init ["self", "place"] 1 ["place"] (fun us ws => us ++ ws) (fun vs zs => vs ++ zs) := kb_kw T.F_NotWorker__init fun _ _ _ _ _ _ _ _ => rfl
theorem Env.kb_NotQuiet (T : Env K mg) : KBn K T.fd_NotQuiet__init ["self"] 1 [] (fun us _ => us) (fun vs _ => vs) := kb_pos rfl (T.F_NotQuiet__init.bindsN fun _ _ _ _ _ _ us hl => match us, hl with | [_], _ => rfl)
theorem Env.kb_NoPlace (T : Env K mg) : KBn K T.fd_NoPlace__init ["self", "place"] 2 [] (fun us _ => us) (fun vs _ => vs) := kb_pos rfl (T.F_NoPlace__init.bindsN fun _ _ _ _ _ _ us hl => match us, hl with | [_, _], _ => rfl)
theorem Env.kw_NoPlace (T : Env K mg) : KBn K T.fd_NoPlace__init ["self", "place"] 1 ["place"] (fun us ws => us ++ ws) (fun vs zs => vs ++ zs) := kb_kw T.F_NoPlace__init fun _ _ _ _ _ _ _ _ => rfl
theorem Env.kb_NoMessage (T : Env K mg) : KBn K T.fd_NoMessage__init ["self", "message"] 2 [] (fun us _ => us) (fun vs _ => vs) := kb_pos rfl (T.F_NoMessage__init.bindsN fun _ _ _ _ _ _ us hl => match us, hl with | [_, _], _ => rfl)
theorem Env.kw_NoMessage (T : Env K mg) : KBn K T.fd_NoMessage__init ["self", "message"] 1 ["message"] (fun us ws => us ++ ws) (fun vs zs => vs ++ zs) := kb_kw T.F_NoMessage__init fun _ _ _ _ _ _ _ _ => rfl
theorem Env.kb_NoEntry (T : Env K mg) : KBn K T.fd_NoEntry__init ["self", "entry"] 2 [] (fun us _ => us) (fun vs _ => vs) := kb_pos rfl (T.F_NoEntry__init.bindsN fun _ _ _ _ _ _ us hl => match us, hl with | [_, _], _ => rfl)
theorem Env.kw_NoEntry (T : Env K mg) : KBn K T.fd_NoEntry__init ["self", "entry"] 1 ["entry"] (fun us ws => us ++ ws) (fun vs zs => vs ++ zs) := kb_kw T.F_NoEntry__init fun _ _ _ _ _ _ _ _ => rfl
theorem Env.bi_L_source (T : Env K mg) : Binds K T.fd_L_source ["numbers"] [] := T.F_L_source.bindsN fun _ _ _ _ _ _ us hl => match us, hl with | [_], _ => rfl
theorem Env.bi_L_draw (T : Env K mg) : Binds K T.fd_L_draw ["source", "bound"] [] := T.F_L_draw.bindsN fun _ _ _ _ _ _ us hl => match us, hl with | [_, _], _ => rfl
theorem Env.bi_L_pick (T : Env K mg) : Binds K T.fd_L_pick ["source", "items"] [] := T.F_L_pick.bindsN fun _ _ _ _ _ _ us hl => match us, hl with | [_, _], _ => rfl
theorem Env.bi_L_kinds (T : Env K mg) : Binds K T.fd_L_kinds ["error"] [] := T.F_L_kinds.bindsN fun _ _ _ _ _ _ us hl => match us, hl with | [_], _ => rfl
theorem Env.bi_L_made (T : Env K mg) : Binds K T.fd_L_made ["field"] [] := T.F_L_made.bindsN fun _ _ _ _ _ _ us hl => match us, hl with | [_], _ => rfl
theorem Env.bi_L_stored (T : Env K mg) : Binds K T.fd_L_stored ["made"] [] := T.F_L_stored.bindsN fun _ _ _ _ _ _ us hl => match us, hl with | [_], _ => rfl
theorem Env.bi_L_named (T : Env K mg) : Binds K T.fd_L_named ["it"] [] := T.F_L_named.bindsN fun _ _ _ _ _ _ us hl => match us, hl with | [_], _ => rfl
theorem Env.bi_L_families_right (T : Env K mg) : Binds K T.fd_L_families_right ["made"] [] := T.F_L_families_right.bindsN fun _ _ _ _ _ _ us hl => match us, hl with | [_], _ => rfl
theorem Env.bi_law (T : Env K mg) : Binds K T.fd_law ["cells"] [] := T.F_law.bindsN fun _ _ _ _ _ _ us hl => match us, hl with | [_], _ => rfl
end
end W87

set_option Elab.async false
set_option linter.all false
set_option maxRecDepth 100000
set_option maxHeartbeats 4000000
namespace W87
open PySem PySem.Spec PyProof.Rows L2
def sysB (K : PySem.W.Frag) : Bool := match K.lookup sysModules with
  | some o => decide (o.cls = .type "dict")
  | none => false
def newOf (k : Nat) : String := ["ValueError.__new__", "RuntimeError.__new__", "LookupError.__new__"].getD k ""
def initOf (k : Nat) : String := ["ValueError.__init__", "RuntimeError.__init__", "LookupError.__init__"].getD k ""
def bmOf (k : Nat) : List Value := [bmValueError, bmRuntimeError, bmLookupError].getD k []
def basB (K : PySem.W.Frag) (k : Nat) : Bool := PySem.W.readsIn K (He.ga K (bNames.getD k "")) (.type "type") &&
  (decide (PySem.W.specialIn K (.ref (He.ga K (bNames.getD k ""))) "__getattribute__" = some (some (.builtin "type.__getattribute__"))) &&
  (match PySem.W.findCls K (.ref (He.ga K (bNames.getD k ""))) (.type "type") "__init__" with
    | some (.val v) => decide (v = .builtin (initOf k))
    | _ => false))
def excB (K : PySem.W.Frag) (i : Nat) : Bool := WXE.xcB K (exC K i) (newOf (exFam.getD i 9)) (bmOf (exFam.getD i 9)) &&
  (decide (PySem.W.findIn K (.ref (exC K i)) "__init__" = some (some (.ref (He.fAd K (exNames.getD i "", some "__init__"))))) &&
  (decide (PySem.W.typeIn K (.ref (He.fAd K (exNames.getD i "", some "__init__"))) = some (.type "function")) &&
  (match exFld.getD i none with
    | some f => decide (PySem.W.findIn K (.ref (exC K i)) f = some none)
    | none => true)))
def tabB (K : PySem.W.Frag) : Bool := ((List.range 19).all fun i => (List.range 19).all fun j => decide (PySem.W.kitOne K (.ref (exC K i)) (.ref (exC K j)) = some (decide (i = j)))) &&
  (((List.range 19).all fun i => (List.range 3).all fun j => decide (PySem.W.kitOne K (.ref (exC K i)) (.ref (He.ga K (bNames.getD j ""))) = some (decide (exFam.getD i 9 = j)))) &&
  (((List.range 19).all fun i => (List.range 3).all fun j => decide (PySem.W.kitOne K (.ref (exC K i)) (.type (bTypes.getD j "")) = some (decide (exFam.getD i 9 = j)))) &&
  ((List.range 19).all fun i => decide (PySem.W.kitAny K (.ref (exC K i)) [.type "KeyError", .type "IndexError"] = some false))))
def chk (K : PySem.W.Frag) : Bool := sysB K && (frees.all (fun x => He.eqO (PySem.W.nsIn K mainGlobals x) (some none)) &&
  (globs.all (fun x => He.eqO (PySem.W.nsIn K mainGlobals x) (some (some (.ref (He.ga K x))))) &&
  ((List.range 3).all (basB K) && ((List.range 19).all (excB K) && tabB K))))
theorem all2 {n m : Nat} {p : Nat → Nat → Bool} (h : ((List.range n).all fun i => (List.range m).all fun j => p i j) = true) (i j : Nat) (hi : i < n) (hj : j < m) : p i j = true :=
  List.all_eq_true.mp (List.all_eq_true.mp h i (List.mem_range.mpr hi)) j (List.mem_range.mpr hj)
theorem all1 {n : Nat} {p : Nat → Bool} (h : (List.range n).all p = true) (i : Nat) (hi : i < n := by decide) : p i = true := List.all_eq_true.mp h i (List.mem_range.mpr hi)
theorem bas_v {K : PySem.W.Frag} {k : Nat} (h : basB K k = true) : PySem.W.readsIn K (He.ga K (bNames.getD k "")) (.type "type") = true ∧
    PySem.W.specialIn K (.ref (He.ga K (bNames.getD k ""))) "__getattribute__" = some (some (.builtin "type.__getattribute__")) ∧
    PySem.W.findCls K (.ref (He.ga K (bNames.getD k ""))) (.type "type") "__init__" = some (.val (.builtin (initOf k))) := by
  obtain ⟨h1, h⟩ := He.ba h
  obtain ⟨h2, h3⟩ := He.ba h
  refine ⟨h1, of_decide_eq_true h2, ?_⟩
  cases e : PySem.W.findCls K (.ref (He.ga K (bNames.getD k ""))) (.type "type") "__init__" with
  | none =>
    rw [e] at h3
    cases h3
  | some r =>
    rw [e] at h3
    cases r with
    | val v => rw [of_decide_eq_true h3]
    | get _ _ _ _ => cases h3
theorem exc_v {K : PySem.W.Frag} {i : Nat} (h : excB K i = true) : WXE.xcB K (exC K i) (newOf (exFam.getD i 9)) (bmOf (exFam.getD i 9)) = true ∧
    PySem.W.findIn K (.ref (exC K i)) "__init__" = some (some (.ref (He.fAd K (exNames.getD i "", some "__init__")))) ∧
    PySem.W.typeIn K (.ref (He.fAd K (exNames.getD i "", some "__init__"))) = some (.type "function") ∧ (∀ f, exFld.getD i none = some f → PySem.W.findIn K (.ref (exC K i)) f = some none) := by
  obtain ⟨h1, h⟩ := He.ba h
  obtain ⟨h2, h⟩ := He.ba h
  obtain ⟨h3, h4⟩ := He.ba h
  refine ⟨h1, of_decide_eq_true h2, of_decide_eq_true h3, fun f e => ?_⟩
  rw [e] at h4
  exact of_decide_eq_true h4
theorem env_of {K : PySem.W.Frag} {h : Heap} {mg : Str → Option Value} (X : K.In h) (G : h.Ns mainGlobals mg) (c : WHd.SaysW chk fns K) : Nonempty (Env K mg) := by
  obtain ⟨c1, c2⟩ := He.ba c.chk_
  obtain ⟨c2, c3⟩ := He.ba c2
  obtain ⟨c3, c4⟩ := He.ba c3
  obtain ⟨c4, c5⟩ := He.ba c4
  obtain ⟨c5, c6⟩ := He.ba c5
  obtain ⟨t1, c6⟩ := He.ba c6
  obtain ⟨t2, c6⟩ := He.ba c6
  obtain ⟨t3, t4⟩ := He.ba c6
  have fr : ∀ x ∈ frees, mg x = none := fun x hx => PySem.W.mg_none_of X G (He.eqO_ok (List.all_eq_true.mp c2 x hx))
  have gl : ∀ x ∈ globs, mg x = some (.ref (He.ga K x)) := fun x hx => PySem.W.mg_of X G (He.eqO_ok (List.all_eq_true.mp c3 x hx))
  obtain ⟨fd0, F0⟩ := c.def_ 0 (d := d_BadSetting__init) rfl
  obtain ⟨fd1, F1⟩ := c.def_ 1 (d := d_BadChild__init) rfl
  obtain ⟨fd2, F2⟩ := c.def_ 2 (d := d_BadRoot__init) rfl
  obtain ⟨fd3, F3⟩ := c.def_ 3 (d := d_BadText__init) rfl
  obtain ⟨fd4, F4⟩ := c.def_ 4 (d := d_BadTick__init) rfl
  obtain ⟨fd5, F5⟩ := c.def_ 5 (d := d_BadReason__init) rfl
  obtain ⟨fd6, F6⟩ := c.def_ 6 (d := d_BadScript__init) rfl
  obtain ⟨fd7, F7⟩ := c.def_ 7 (d := d_BadWord__init) rfl
  obtain ⟨fd8, F8⟩ := c.def_ 8 (d := d_BadValue__init) rfl
  obtain ⟨fd9, F9⟩ := c.def_ 9 (d := d_BadEntry__init) rfl
  obtain ⟨fd10, F10⟩ := c.def_ 10 (d := d_BadInput__init) rfl
  obtain ⟨fd11, F11⟩ := c.def_ 11 (d := d_Over__init) rfl
  obtain ⟨fd12, F12⟩ := c.def_ 12 (d := d_NotRunning__init) rfl
  obtain ⟨fd13, F13⟩ := c.def_ 13 (d := d_NotSupervisor__init) rfl
  obtain ⟨fd14, F14⟩ := c.def_ 14 (d := d_NotWorker__init) rfl
  obtain ⟨fd15, F15⟩ := c.def_ 15 (d := d_NotQuiet__init) rfl
  obtain ⟨fd16, F16⟩ := c.def_ 16 (d := d_NoPlace__init) rfl
  obtain ⟨fd17, F17⟩ := c.def_ 17 (d := d_NoMessage__init) rfl
  obtain ⟨fd18, F18⟩ := c.def_ 18 (d := d_NoEntry__init) rfl
  obtain ⟨fd19, F19⟩ := c.def_ 19 (d := d_L_source) rfl
  obtain ⟨fd20, F20⟩ := c.def_ 20 (d := d_L_draw) rfl
  obtain ⟨fd21, F21⟩ := c.def_ 21 (d := d_L_pick) rfl
  obtain ⟨fd22, F22⟩ := c.def_ 22 (d := d_L_kinds) rfl
  obtain ⟨fd23, F23⟩ := c.def_ 23 (d := d_L_made) rfl
  obtain ⟨fd24, F24⟩ := c.def_ 24 (d := d_L_stored) rfl
  obtain ⟨fd25, F25⟩ := c.def_ 25 (d := d_L_named) rfl
  obtain ⟨fd26, F26⟩ := c.def_ 26 (d := d_L_families_right) rfl
  obtain ⟨fd27, F27⟩ := c.def_ 27 (d := d_law) rfl
  refine ⟨{ sys := ?_
            b_len := fr "len" (by decide +kernel)
            b_int := fr "int" (by decide +kernel)
            b_isinstance := fr "isinstance" (by decide +kernel)
            b_range := fr "range" (by decide +kernel)
            b_enumerate := fr "enumerate" (by decide +kernel)
            b_repr := fr "repr" (by decide +kernel)
            b_list := fr "list" (by decide +kernel)
            b_KeyError := fr "KeyError" (by decide +kernel)
            b_IndexError := fr "IndexError" (by decide +kernel)
            b_ValueError := fr "ValueError" (by decide +kernel)
            b_RuntimeError := fr "RuntimeError" (by decide +kernel)
            b_LookupError := fr "LookupError" (by decide +kernel)
            g_PlanError := gl "PlanError" (by decide +kernel)
            g_TreeError := gl "TreeError" (by decide +kernel)
            g_AbsentError := gl "AbsentError" (by decide +kernel)
            g_BadSetting := gl "BadSetting" (by decide +kernel)
            g_BadChild := gl "BadChild" (by decide +kernel)
            g_BadRoot := gl "BadRoot" (by decide +kernel)
            g_BadText := gl "BadText" (by decide +kernel)
            g_BadTick := gl "BadTick" (by decide +kernel)
            g_BadReason := gl "BadReason" (by decide +kernel)
            g_BadScript := gl "BadScript" (by decide +kernel)
            g_BadWord := gl "BadWord" (by decide +kernel)
            g_BadValue := gl "BadValue" (by decide +kernel)
            g_BadEntry := gl "BadEntry" (by decide +kernel)
            g_BadInput := gl "BadInput" (by decide +kernel)
            g_Over := gl "Over" (by decide +kernel)
            g_NotRunning := gl "NotRunning" (by decide +kernel)
            g_NotSupervisor := gl "NotSupervisor" (by decide +kernel)
            g_NotWorker := gl "NotWorker" (by decide +kernel)
            g_NotQuiet := gl "NotQuiet" (by decide +kernel)
            g_NoPlace := gl "NoPlace" (by decide +kernel)
            g_NoMessage := gl "NoMessage" (by decide +kernel)
            g_NoEntry := gl "NoEntry" (by decide +kernel)
            fd_BadSetting__init := fd0
            F_BadSetting__init := F0
            fd_BadChild__init := fd1
            F_BadChild__init := F1
            fd_BadRoot__init := fd2
            F_BadRoot__init := F2
            fd_BadText__init := fd3
            F_BadText__init := F3
            fd_BadTick__init := fd4
            F_BadTick__init := F4
            fd_BadReason__init := fd5
            F_BadReason__init := F5
            fd_BadScript__init := fd6
            F_BadScript__init := F6
            fd_BadWord__init := fd7
            F_BadWord__init := F7
            fd_BadValue__init := fd8
            F_BadValue__init := F8
            fd_BadEntry__init := fd9
            F_BadEntry__init := F9
            fd_BadInput__init := fd10
            F_BadInput__init := F10
            fd_Over__init := fd11
            F_Over__init := F11
            fd_NotRunning__init := fd12
            F_NotRunning__init := F12
            fd_NotSupervisor__init := fd13
            F_NotSupervisor__init := F13
            fd_NotWorker__init := fd14
            F_NotWorker__init := F14
            fd_NotQuiet__init := fd15
            F_NotQuiet__init := F15
            fd_NoPlace__init := fd16
            F_NoPlace__init := F16
            fd_NoMessage__init := fd17
            F_NoMessage__init := F17
            fd_NoEntry__init := fd18
            F_NoEntry__init := F18
            g__law_source := gl "_law_source" (by decide +kernel)
            fd_L_source := fd19
            F_L_source := F19
            g__law_draw := gl "_law_draw" (by decide +kernel)
            fd_L_draw := fd20
            F_L_draw := F20
            g__law_pick := gl "_law_pick" (by decide +kernel)
            fd_L_pick := fd21
            F_L_pick := F21
            g__law_kinds := gl "_law_kinds" (by decide +kernel)
            fd_L_kinds := fd22
            F_L_kinds := F22
            g__law_made := gl "_law_made" (by decide +kernel)
            fd_L_made := fd23
            F_L_made := F23
            g__law_stored := gl "_law_stored" (by decide +kernel)
            fd_L_stored := fd24
            F_L_stored := F24
            g__law_named := gl "_law_named" (by decide +kernel)
            fd_L_named := fd25
            F_L_named := F25
            g__law_families_right := gl "_law_families_right" (by decide +kernel)
            fd_L_families_right := fd26
            F_L_families_right := F26
            g_law := gl "law" (by decide +kernel)
            fd_law := fd27
            F_law := F27
            r_PlanError := (bas_v (all1 c4 0)).1
            s_PlanError := (bas_v (all1 c4 0)).2.1
            v_PlanError := (bas_v (all1 c4 0)).2.2
            r_TreeError := (bas_v (all1 c4 1)).1
            s_TreeError := (bas_v (all1 c4 1)).2.1
            v_TreeError := (bas_v (all1 c4 1)).2.2
            r_AbsentError := (bas_v (all1 c4 2)).1
            s_AbsentError := (bas_v (all1 c4 2)).2.1
            v_AbsentError := (bas_v (all1 c4 2)).2.2
            x_BadSetting := WXE.xcB_ok F.excBase_ValueError F.store_ValueError (exc_v (all1 c5 0)).1
            i_BadSetting := (exc_v (all1 c5 0)).2.1
            t_BadSetting := (exc_v (all1 c5 0)).2.2.1
            n_BadSetting := (exc_v (all1 c5 0)).2.2.2 "setting" rfl
            x_BadChild := WXE.xcB_ok F.excBase_ValueError F.store_ValueError (exc_v (all1 c5 1)).1
            i_BadChild := (exc_v (all1 c5 1)).2.1
            t_BadChild := (exc_v (all1 c5 1)).2.2.1
            n_BadChild := (exc_v (all1 c5 1)).2.2.2 "index" rfl
            x_BadRoot := WXE.xcB_ok F.excBase_ValueError F.store_ValueError (exc_v (all1 c5 2)).1
            i_BadRoot := (exc_v (all1 c5 2)).2.1
            t_BadRoot := (exc_v (all1 c5 2)).2.2.1
            n_BadRoot := (exc_v (all1 c5 2)).2.2.2 "rule" rfl
            x_BadText := WXE.xcB_ok F.excBase_ValueError F.store_ValueError (exc_v (all1 c5 3)).1
            i_BadText := (exc_v (all1 c5 3)).2.1
            t_BadText := (exc_v (all1 c5 3)).2.2.1
            n_BadText := (exc_v (all1 c5 3)).2.2.2 "line" rfl
            x_BadTick := WXE.xcB_ok F.excBase_ValueError F.store_ValueError (exc_v (all1 c5 4)).1
            i_BadTick := (exc_v (all1 c5 4)).2.1
            t_BadTick := (exc_v (all1 c5 4)).2.2.1
            n_BadTick := (exc_v (all1 c5 4)).2.2.2 "value" rfl
            x_BadReason := WXE.xcB_ok F.excBase_ValueError F.store_ValueError (exc_v (all1 c5 5)).1
            i_BadReason := (exc_v (all1 c5 5)).2.1
            t_BadReason := (exc_v (all1 c5 5)).2.2.1
            n_BadReason := (exc_v (all1 c5 5)).2.2.2 "value" rfl
            x_BadScript := WXE.xcB_ok F.excBase_ValueError F.store_ValueError (exc_v (all1 c5 6)).1
            i_BadScript := (exc_v (all1 c5 6)).2.1
            t_BadScript := (exc_v (all1 c5 6)).2.2.1
            n_BadScript := (exc_v (all1 c5 6)).2.2.2 "index" rfl
            x_BadWord := WXE.xcB_ok F.excBase_ValueError F.store_ValueError (exc_v (all1 c5 7)).1
            i_BadWord := (exc_v (all1 c5 7)).2.1
            t_BadWord := (exc_v (all1 c5 7)).2.2.1
            n_BadWord := (exc_v (all1 c5 7)).2.2.2 "value" rfl
            x_BadValue := WXE.xcB_ok F.excBase_ValueError F.store_ValueError (exc_v (all1 c5 8)).1
            i_BadValue := (exc_v (all1 c5 8)).2.1
            t_BadValue := (exc_v (all1 c5 8)).2.2.1
            n_BadValue := (exc_v (all1 c5 8)).2.2.2 "value" rfl
            x_BadEntry := WXE.xcB_ok F.excBase_ValueError F.store_ValueError (exc_v (all1 c5 9)).1
            i_BadEntry := (exc_v (all1 c5 9)).2.1
            t_BadEntry := (exc_v (all1 c5 9)).2.2.1
            n_BadEntry := (exc_v (all1 c5 9)).2.2.2 "index" rfl
            x_BadInput := WXE.xcB_ok F.excBase_ValueError F.store_ValueError (exc_v (all1 c5 10)).1
            i_BadInput := (exc_v (all1 c5 10)).2.1
            t_BadInput := (exc_v (all1 c5 10)).2.2.1
            n_BadInput := (exc_v (all1 c5 10)).2.2.2 "index" rfl
            x_Over := WXE.xcB_ok F.excBase_RuntimeError F.store_RuntimeError (exc_v (all1 c5 11)).1
            i_Over := (exc_v (all1 c5 11)).2.1
            t_Over := (exc_v (all1 c5 11)).2.2.1
            x_NotRunning := WXE.xcB_ok F.excBase_RuntimeError F.store_RuntimeError (exc_v (all1 c5 12)).1
            i_NotRunning := (exc_v (all1 c5 12)).2.1
            t_NotRunning := (exc_v (all1 c5 12)).2.2.1
            n_NotRunning := (exc_v (all1 c5 12)).2.2.2 "place" rfl
            x_NotSupervisor := WXE.xcB_ok F.excBase_RuntimeError F.store_RuntimeError (exc_v (all1 c5 13)).1
            i_NotSupervisor := (exc_v (all1 c5 13)).2.1
            t_NotSupervisor := (exc_v (all1 c5 13)).2.2.1
            n_NotSupervisor := (exc_v (all1 c5 13)).2.2.2 "place" rfl
            x_NotWorker := WXE.xcB_ok F.excBase_RuntimeError F.store_RuntimeError (exc_v (all1 c5 14)).1
            i_NotWorker := (exc_v (all1 c5 14)).2.1
            t_NotWorker := (exc_v (all1 c5 14)).2.2.1
            n_NotWorker := (exc_v (all1 c5 14)).2.2.2 "place" rfl
            x_NotQuiet := WXE.xcB_ok F.excBase_RuntimeError F.store_RuntimeError (exc_v (all1 c5 15)).1
            i_NotQuiet := (exc_v (all1 c5 15)).2.1
            t_NotQuiet := (exc_v (all1 c5 15)).2.2.1
            x_NoPlace := WXE.xcB_ok F.excBase_LookupError F.store_LookupError (exc_v (all1 c5 16)).1
            i_NoPlace := (exc_v (all1 c5 16)).2.1
            t_NoPlace := (exc_v (all1 c5 16)).2.2.1
            n_NoPlace := (exc_v (all1 c5 16)).2.2.2 "place" rfl
            x_NoMessage := WXE.xcB_ok F.excBase_LookupError F.store_LookupError (exc_v (all1 c5 17)).1
            i_NoMessage := (exc_v (all1 c5 17)).2.1
            t_NoMessage := (exc_v (all1 c5 17)).2.2.1
            n_NoMessage := (exc_v (all1 c5 17)).2.2.2 "message" rfl
            x_NoEntry := WXE.xcB_ok F.excBase_LookupError F.store_LookupError (exc_v (all1 c5 18)).1
            i_NoEntry := (exc_v (all1 c5 18)).2.1
            t_NoEntry := (exc_v (all1 c5 18)).2.2.1
            n_NoEntry := (exc_v (all1 c5 18)).2.2.2 "entry" rfl
            isx := fun i j hi hj => of_decide_eq_true (all2 t1 i j hi hj)
            isb := fun i j hi hj => of_decide_eq_true (all2 t2 i j hi hj)
            ist := fun i j hi hj => of_decide_eq_true (all2 t3 i j hi hj)
            iso := fun i hi => of_decide_eq_true (all1 t4 i hi) }⟩
  unfold sysB at c1
  cases e : K.lookup sysModules with
  | none =>
    rw [e] at c1
    cases c1
  | some o =>
    rw [e] at c1
    exact ⟨o, e, of_decide_eq_true c1⟩
abbrev R : PySem.W.OpenRow := PySem.W.OpenLaw.row PySem.Challenge.rw_watchtree_k87_errors_by_hand
abbrev hk : PySem.W.Hook := WHd.hookW 6 chk fns
def ob (s : PySem.W.SharedT) : He.AlD := WHd.obsWG 6 chk fns (HandSHeadRun.getT s)
theorem ob_eq (s : PySem.W.SharedT) : ob s = hk.obs s.abs := WHd.obsWG_eq (HandSHeadRun.getT_eq s)
def loose : List Str := ["PlanError", "TreeError", "AbsentError", "BadSetting", "BadChild", "BadRoot", "BadText", "BadTick", "BadReason", "BadScript", "BadWord", "BadValue", "BadEntry", "BadInput", "Over", "NotRunning", "NotSupervisor", "NotWorker", "NotQuiet", "NoPlace", "NoMessage", "NoEntry", "_law_source", "_law_draw", "_law_pick", "_law_kinds", "_law_made", "_law_stored", "_law_named", "_law_families_right"]
theorem run (w : World) : HandSHeadRun.RunEq R (PySem.W.view R.prog [32]) hk ob 6000 loose w := by
  intro os
  kernel_rfl
end W87

set_option Elab.async false
set_option linter.all false
set_option maxRecDepth 100000
set_option maxHeartbeats 4000000
namespace W87
open PySem PySem.Spec PyProof.Rows L2 WXE WXG WLf
section
variable {P : Program} {w : World} {K : PySem.W.Frag} {mg : Str → Option Value} {base : Heap}
theorem ok_BadSetting (T : Env K mg) : FnOk P w K mg base CX0 1 (He.fAd K d_BadSetting__init.at_) T.fd_BadSetting__init ["self", "setting"] (spI1 (He.ga K "BadSetting") "setting") := by
  refine T.F_BadSetting__init.ok sc_BadSetting__init (fun vs H Q E h => ?_) (fun cdv A outer s H vs Q E hr h => ?_)
  · obtain ⟨a, y, rfl, _⟩ := h
    rfl
  · have nd := sc_BadSetting__init.nd
    obtain ⟨a, y, rfl, ha, k⟩ := h
    refine ⟨_, PSs.nox (pss_cons (ps_expr (pe_xini (by rfl) T.g_PlanError T.r_PlanError T.s_PlanError T.v_PlanError (by decide +kernel) (pa_cons (pv 0) (pa_cons pe_str pa_nil))))
       (pss_one (ps_xst (pv 0) (pv 1)))), ?_⟩
    exact ⟨_, rfl, a, _, [_], _, _, _, rfl, (by decide : 1 ≤ 1000), T.x_BadSetting, ha, _, rfl, _, rfl, a, _, _, _, _, _, rfl, T.x_BadSetting, T.n_BadSetting, ha, k⟩
theorem ok_BadChild (T : Env K mg) : FnOk P w K mg base CX0 1 (He.fAd K d_BadChild__init.at_) T.fd_BadChild__init ["self", "index"] (spI1 (He.ga K "BadChild") "index") := by
  refine T.F_BadChild__init.ok sc_BadChild__init (fun vs H Q E h => ?_) (fun cdv A outer s H vs Q E hr h => ?_)
  · obtain ⟨a, y, rfl, _⟩ := h
    rfl
  · have nd := sc_BadChild__init.nd
    obtain ⟨a, y, rfl, ha, k⟩ := h
    refine ⟨_, PSs.nox (pss_cons (ps_expr (pe_xini (by rfl) T.g_PlanError T.r_PlanError T.s_PlanError T.v_PlanError (by decide +kernel) (pa_cons (pv 0) (pa_cons pe_str pa_nil))))
       (pss_one (ps_xst (pv 0) (pv 1)))), ?_⟩
    exact ⟨_, rfl, a, _, [_], _, _, _, rfl, (by decide : 1 ≤ 1000), T.x_BadChild, ha, _, rfl, _, rfl, a, _, _, _, _, _, rfl, T.x_BadChild, T.n_BadChild, ha, k⟩
theorem ok_BadRoot (T : Env K mg) : FnOk P w K mg base CX0 1 (He.fAd K d_BadRoot__init.at_) T.fd_BadRoot__init ["self", "rule"] (spI1 (He.ga K "BadRoot") "rule") := by
  refine T.F_BadRoot__init.ok sc_BadRoot__init (fun vs H Q E h => ?_) (fun cdv A outer s H vs Q E hr h => ?_)
  · obtain ⟨a, y, rfl, _⟩ := h
    rfl
  · have nd := sc_BadRoot__init.nd
    obtain ⟨a, y, rfl, ha, k⟩ := h
    refine ⟨_, PSs.nox (pss_cons (ps_expr (pe_xini (by rfl) T.g_PlanError T.r_PlanError T.s_PlanError T.v_PlanError (by decide +kernel) (pa_cons (pv 0) (pa_cons pe_str pa_nil))))
       (pss_one (ps_xst (pv 0) (pv 1)))), ?_⟩
    exact ⟨_, rfl, a, _, [_], _, _, _, rfl, (by decide : 1 ≤ 1000), T.x_BadRoot, ha, _, rfl, _, rfl, a, _, _, _, _, _, rfl, T.x_BadRoot, T.n_BadRoot, ha, k⟩
theorem ok_BadText (T : Env K mg) : FnOk P w K mg base CX0 1 (He.fAd K d_BadText__init.at_) T.fd_BadText__init ["self", "line"] (spI1 (He.ga K "BadText") "line") := by
  refine T.F_BadText__init.ok sc_BadText__init (fun vs H Q E h => ?_) (fun cdv A outer s H vs Q E hr h => ?_)
  · obtain ⟨a, y, rfl, _⟩ := h
    rfl
  · have nd := sc_BadText__init.nd
    obtain ⟨a, y, rfl, ha, k⟩ := h
    refine ⟨_, PSs.nox (pss_cons (ps_expr (pe_xini (by rfl) T.g_PlanError T.r_PlanError T.s_PlanError T.v_PlanError (by decide +kernel) (pa_cons (pv 0) (pa_cons pe_str pa_nil))))
       (pss_one (ps_xst (pv 0) (pv 1)))), ?_⟩
    exact ⟨_, rfl, a, _, [_], _, _, _, rfl, (by decide : 1 ≤ 1000), T.x_BadText, ha, _, rfl, _, rfl, a, _, _, _, _, _, rfl, T.x_BadText, T.n_BadText, ha, k⟩
theorem ok_BadTick (T : Env K mg) : FnOk P w K mg base CX0 1 (He.fAd K d_BadTick__init.at_) T.fd_BadTick__init ["self", "value"] (spI1 (He.ga K "BadTick") "value") := by
  refine T.F_BadTick__init.ok sc_BadTick__init (fun vs H Q E h => ?_) (fun cdv A outer s H vs Q E hr h => ?_)
  · obtain ⟨a, y, rfl, _⟩ := h
    rfl
  · have nd := sc_BadTick__init.nd
    obtain ⟨a, y, rfl, ha, k⟩ := h
    refine ⟨_, PSs.nox (pss_cons (ps_expr (pe_xini (by rfl) T.g_PlanError T.r_PlanError T.s_PlanError T.v_PlanError (by decide +kernel) (pa_cons (pv 0) (pa_cons pe_str pa_nil))))
       (pss_one (ps_xst (pv 0) (pv 1)))), ?_⟩
    exact ⟨_, rfl, a, _, [_], _, _, _, rfl, (by decide : 1 ≤ 1000), T.x_BadTick, ha, _, rfl, _, rfl, a, _, _, _, _, _, rfl, T.x_BadTick, T.n_BadTick, ha, k⟩
theorem ok_BadReason (T : Env K mg) : FnOk P w K mg base CX0 1 (He.fAd K d_BadReason__init.at_) T.fd_BadReason__init ["self", "value"] (spI1 (He.ga K "BadReason") "value") := by
  refine T.F_BadReason__init.ok sc_BadReason__init (fun vs H Q E h => ?_) (fun cdv A outer s H vs Q E hr h => ?_)
  · obtain ⟨a, y, rfl, _⟩ := h
    rfl
  · have nd := sc_BadReason__init.nd
    obtain ⟨a, y, rfl, ha, k⟩ := h
    refine ⟨_, PSs.nox (pss_cons (ps_expr (pe_xini (by rfl) T.g_PlanError T.r_PlanError T.s_PlanError T.v_PlanError (by decide +kernel) (pa_cons (pv 0) (pa_cons pe_str pa_nil))))
       (pss_one (ps_xst (pv 0) (pv 1)))), ?_⟩
    exact ⟨_, rfl, a, _, [_], _, _, _, rfl, (by decide : 1 ≤ 1000), T.x_BadReason, ha, _, rfl, _, rfl, a, _, _, _, _, _, rfl, T.x_BadReason, T.n_BadReason, ha, k⟩
theorem ok_BadScript (T : Env K mg) : FnOk P w K mg base CX0 1 (He.fAd K d_BadScript__init.at_) T.fd_BadScript__init ["self", "index"] (spI1 (He.ga K "BadScript") "index") := by
  refine T.F_BadScript__init.ok sc_BadScript__init (fun vs H Q E h => ?_) (fun cdv A outer s H vs Q E hr h => ?_)
  · obtain ⟨a, y, rfl, _⟩ := h
    rfl
  · have nd := sc_BadScript__init.nd
    obtain ⟨a, y, rfl, ha, k⟩ := h
    refine ⟨_, PSs.nox (pss_cons (ps_expr (pe_xini (by rfl) T.g_PlanError T.r_PlanError T.s_PlanError T.v_PlanError (by decide +kernel) (pa_cons (pv 0) (pa_cons pe_str pa_nil))))
       (pss_one (ps_xst (pv 0) (pv 1)))), ?_⟩
    exact ⟨_, rfl, a, _, [_], _, _, _, rfl, (by decide : 1 ≤ 1000), T.x_BadScript, ha, _, rfl, _, rfl, a, _, _, _, _, _, rfl, T.x_BadScript, T.n_BadScript, ha, k⟩
theorem ok_BadWord (T : Env K mg) : FnOk P w K mg base CX0 1 (He.fAd K d_BadWord__init.at_) T.fd_BadWord__init ["self", "value"] (spI1 (He.ga K "BadWord") "value") := by
  refine T.F_BadWord__init.ok sc_BadWord__init (fun vs H Q E h => ?_) (fun cdv A outer s H vs Q E hr h => ?_)
  · obtain ⟨a, y, rfl, _⟩ := h
    rfl
  · have nd := sc_BadWord__init.nd
    obtain ⟨a, y, rfl, ha, k⟩ := h
    refine ⟨_, PSs.nox (pss_cons (ps_expr (pe_xini (by rfl) T.g_PlanError T.r_PlanError T.s_PlanError T.v_PlanError (by decide +kernel) (pa_cons (pv 0) (pa_cons pe_str pa_nil))))
       (pss_one (ps_xst (pv 0) (pv 1)))), ?_⟩
    exact ⟨_, rfl, a, _, [_], _, _, _, rfl, (by decide : 1 ≤ 1000), T.x_BadWord, ha, _, rfl, _, rfl, a, _, _, _, _, _, rfl, T.x_BadWord, T.n_BadWord, ha, k⟩
theorem ok_BadValue (T : Env K mg) : FnOk P w K mg base CX0 1 (He.fAd K d_BadValue__init.at_) T.fd_BadValue__init ["self", "value"] (spI1 (He.ga K "BadValue") "value") := by
  refine T.F_BadValue__init.ok sc_BadValue__init (fun vs H Q E h => ?_) (fun cdv A outer s H vs Q E hr h => ?_)
  · obtain ⟨a, y, rfl, _⟩ := h
    rfl
  · have nd := sc_BadValue__init.nd
    obtain ⟨a, y, rfl, ha, k⟩ := h
    refine ⟨_, PSs.nox (pss_cons (ps_expr (pe_xini (by rfl) T.g_PlanError T.r_PlanError T.s_PlanError T.v_PlanError (by decide +kernel) (pa_cons (pv 0) (pa_cons pe_str pa_nil))))
       (pss_one (ps_xst (pv 0) (pv 1)))), ?_⟩
    exact ⟨_, rfl, a, _, [_], _, _, _, rfl, (by decide : 1 ≤ 1000), T.x_BadValue, ha, _, rfl, _, rfl, a, _, _, _, _, _, rfl, T.x_BadValue, T.n_BadValue, ha, k⟩
theorem ok_BadEntry (T : Env K mg) : FnOk P w K mg base CX0 1 (He.fAd K d_BadEntry__init.at_) T.fd_BadEntry__init ["self", "index"] (spI1 (He.ga K "BadEntry") "index") := by
  refine T.F_BadEntry__init.ok sc_BadEntry__init (fun vs H Q E h => ?_) (fun cdv A outer s H vs Q E hr h => ?_)
  · obtain ⟨a, y, rfl, _⟩ := h
    rfl
  · have nd := sc_BadEntry__init.nd
    obtain ⟨a, y, rfl, ha, k⟩ := h
    refine ⟨_, PSs.nox (pss_cons (ps_expr (pe_xini (by rfl) T.g_PlanError T.r_PlanError T.s_PlanError T.v_PlanError (by decide +kernel) (pa_cons (pv 0) (pa_cons pe_str pa_nil))))
       (pss_one (ps_xst (pv 0) (pv 1)))), ?_⟩
    exact ⟨_, rfl, a, _, [_], _, _, _, rfl, (by decide : 1 ≤ 1000), T.x_BadEntry, ha, _, rfl, _, rfl, a, _, _, _, _, _, rfl, T.x_BadEntry, T.n_BadEntry, ha, k⟩
theorem ok_BadInput (T : Env K mg) : FnOk P w K mg base CX0 1 (He.fAd K d_BadInput__init.at_) T.fd_BadInput__init ["self", "index"] (spI1 (He.ga K "BadInput") "index") := by
  refine T.F_BadInput__init.ok sc_BadInput__init (fun vs H Q E h => ?_) (fun cdv A outer s H vs Q E hr h => ?_)
  · obtain ⟨a, y, rfl, _⟩ := h
    rfl
  · have nd := sc_BadInput__init.nd
    obtain ⟨a, y, rfl, ha, k⟩ := h
    refine ⟨_, PSs.nox (pss_cons (ps_expr (pe_xini (by rfl) T.g_PlanError T.r_PlanError T.s_PlanError T.v_PlanError (by decide +kernel) (pa_cons (pv 0) (pa_cons pe_str pa_nil))))
       (pss_one (ps_xst (pv 0) (pv 1)))), ?_⟩
    exact ⟨_, rfl, a, _, [_], _, _, _, rfl, (by decide : 1 ≤ 1000), T.x_BadInput, ha, _, rfl, _, rfl, a, _, _, _, _, _, rfl, T.x_BadInput, T.n_BadInput, ha, k⟩
theorem ok_Over (T : Env K mg) : FnOk P w K mg base CX0 1 (He.fAd K d_Over__init.at_) T.fd_Over__init ["self"] (spI0 (He.ga K "Over")) := by
  refine T.F_Over__init.ok sc_Over__init (fun vs H Q E h => ?_) (fun cdv A outer s H vs Q E hr h => ?_)
  · obtain ⟨a, rfl, _⟩ := h
    rfl
  · have nd := sc_Over__init.nd
    obtain ⟨a, rfl, ha, k⟩ := h
    refine ⟨_, PSs.nox (pss_one (ps_expr (pe_xini (by rfl) T.g_TreeError T.r_TreeError T.s_TreeError T.v_TreeError (by decide +kernel) (pa_cons (pv 0) (pa_cons pe_str pa_nil))))), ?_⟩
    exact ⟨_, rfl, a, _, [_], _, _, _, rfl, (by decide : 1 ≤ 1000), T.x_Over, ha, k⟩
theorem ok_NotRunning (T : Env K mg) : FnOk P w K mg base CX0 1 (He.fAd K d_NotRunning__init.at_) T.fd_NotRunning__init ["self", "place"] (spI1 (He.ga K "NotRunning") "place") := by
  refine T.F_NotRunning__init.ok sc_NotRunning__init (fun vs H Q E h => ?_) (fun cdv A outer s H vs Q E hr h => ?_)
  · obtain ⟨a, y, rfl, _⟩ := h
    rfl
  · have nd := sc_NotRunning__init.nd
    obtain ⟨a, y, rfl, ha, k⟩ := h
    refine ⟨_, PSs.nox (pss_cons (ps_expr (pe_xini (by rfl) T.g_TreeError T.r_TreeError T.s_TreeError T.v_TreeError (by decide +kernel) (pa_cons (pv 0) (pa_cons pe_str pa_nil))))
       (pss_one (ps_xst (pv 0) (pv 1)))), ?_⟩
    exact ⟨_, rfl, a, _, [_], _, _, _, rfl, (by decide : 1 ≤ 1000), T.x_NotRunning, ha, _, rfl, _, rfl, a, _, _, _, _, _, rfl, T.x_NotRunning, T.n_NotRunning, ha, k⟩
theorem ok_NotSupervisor (T : Env K mg) : FnOk P w K mg base CX0 1 (He.fAd K d_NotSupervisor__init.at_) T.fd_NotSupervisor__init ["self", "place"] (spI1 (He.ga K "NotSupervisor") "place") := by
  refine T.F_NotSupervisor__init.ok sc_NotSupervisor__init (fun vs H Q E h => ?_) (fun cdv A outer s H vs Q E hr h => ?_)
  · obtain ⟨a, y, rfl, _⟩ := h
    rfl
  · have nd := sc_NotSupervisor__init.nd
    obtain ⟨a, y, rfl, ha, k⟩ := h
    refine ⟨_, PSs.nox (pss_cons (ps_expr (pe_xini (by rfl) T.g_TreeError T.r_TreeError T.s_TreeError T.v_TreeError (by decide +kernel) (pa_cons (pv 0) (pa_cons pe_str pa_nil))))
       (pss_one (ps_xst (pv 0) (pv 1)))), ?_⟩
    exact ⟨_, rfl, a, _, [_], _, _, _, rfl, (by decide : 1 ≤ 1000), T.x_NotSupervisor, ha, _, rfl, _, rfl, a, _, _, _, _, _, rfl, T.x_NotSupervisor, T.n_NotSupervisor, ha, k⟩
theorem ok_NotWorker (T : Env K mg) : FnOk P w K mg base CX0 1 (He.fAd K d_NotWorker__init.at_) T.fd_NotWorker__init ["self", "place"] (spI1 (He.ga K "NotWorker") "place") := by
  refine T.F_NotWorker__init.ok sc_NotWorker__init (fun vs H Q E h => ?_) (fun cdv A outer s H vs Q E hr h => ?_)
  · obtain ⟨a, y, rfl, _⟩ := h
    rfl
  · have nd := sc_NotWorker__init.nd
    obtain ⟨a, y, rfl, ha, k⟩ := h
    refine ⟨_, PSs.nox (pss_cons (ps_expr (pe_xini (by rfl) T.g_TreeError T.r_TreeError T.s_TreeError T.v_TreeError (by decide +kernel) (pa_cons (pv 0) (pa_cons pe_str pa_nil))))
       (pss_one (ps_xst (pv 0) (pv 1)))), ?_⟩
    exact ⟨_, rfl, a, _, [_], _, _, _, rfl, (by decide : 1 ≤ 1000), T.x_NotWorker, ha, _, rfl, _, rfl, a, _, _, _, _, _, rfl, T.x_NotWorker, T.n_NotWorker, ha, k⟩
theorem ok_NotQuiet (T : Env K mg) : FnOk P w K mg base CX0 1 (He.fAd K d_NotQuiet__init.at_) T.fd_NotQuiet__init ["self"] (spI0 (He.ga K "NotQuiet")) := by
  refine T.F_NotQuiet__init.ok sc_NotQuiet__init (fun vs H Q E h => ?_) (fun cdv A outer s H vs Q E hr h => ?_)
  · obtain ⟨a, rfl, _⟩ := h
    rfl
  · have nd := sc_NotQuiet__init.nd
    obtain ⟨a, rfl, ha, k⟩ := h
    refine ⟨_, PSs.nox (pss_one (ps_expr (pe_xini (by rfl) T.g_TreeError T.r_TreeError T.s_TreeError T.v_TreeError (by decide +kernel) (pa_cons (pv 0) (pa_cons pe_str pa_nil))))), ?_⟩
    exact ⟨_, rfl, a, _, [_], _, _, _, rfl, (by decide : 1 ≤ 1000), T.x_NotQuiet, ha, k⟩
theorem ok_NoPlace (T : Env K mg) : FnOk P w K mg base CX0 1 (He.fAd K d_NoPlace__init.at_) T.fd_NoPlace__init ["self", "place"] (spI1 (He.ga K "NoPlace") "place") := by
  refine T.F_NoPlace__init.ok sc_NoPlace__init (fun vs H Q E h => ?_) (fun cdv A outer s H vs Q E hr h => ?_)
  · obtain ⟨a, y, rfl, _⟩ := h
    rfl
  · have nd := sc_NoPlace__init.nd
    obtain ⟨a, y, rfl, ha, k⟩ := h
    refine ⟨_, PSs.nox (pss_cons (ps_expr (pe_xini (by rfl) T.g_AbsentError T.r_AbsentError T.s_AbsentError T.v_AbsentError (by decide +kernel) (pa_cons (pv 0) (pa_cons pe_str pa_nil))))
       (pss_one (ps_xst (pv 0) (pv 1)))), ?_⟩
    exact ⟨_, rfl, a, _, [_], _, _, _, rfl, (by decide : 1 ≤ 1000), T.x_NoPlace, ha, _, rfl, _, rfl, a, _, _, _, _, _, rfl, T.x_NoPlace, T.n_NoPlace, ha, k⟩
theorem ok_NoMessage (T : Env K mg) : FnOk P w K mg base CX0 1 (He.fAd K d_NoMessage__init.at_) T.fd_NoMessage__init ["self", "message"] (spI1 (He.ga K "NoMessage") "message") := by
  refine T.F_NoMessage__init.ok sc_NoMessage__init (fun vs H Q E h => ?_) (fun cdv A outer s H vs Q E hr h => ?_)
  · obtain ⟨a, y, rfl, _⟩ := h
    rfl
  · have nd := sc_NoMessage__init.nd
    obtain ⟨a, y, rfl, ha, k⟩ := h
    refine ⟨_, PSs.nox (pss_cons (ps_expr (pe_xini (by rfl) T.g_AbsentError T.r_AbsentError T.s_AbsentError T.v_AbsentError (by decide +kernel) (pa_cons (pv 0) (pa_cons pe_str pa_nil))))
       (pss_one (ps_xst (pv 0) (pv 1)))), ?_⟩
    exact ⟨_, rfl, a, _, [_], _, _, _, rfl, (by decide : 1 ≤ 1000), T.x_NoMessage, ha, _, rfl, _, rfl, a, _, _, _, _, _, rfl, T.x_NoMessage, T.n_NoMessage, ha, k⟩
theorem ok_NoEntry (T : Env K mg) : FnOk P w K mg base CX0 1 (He.fAd K d_NoEntry__init.at_) T.fd_NoEntry__init ["self", "entry"] (spI1 (He.ga K "NoEntry") "entry") := by
  refine T.F_NoEntry__init.ok sc_NoEntry__init (fun vs H Q E h => ?_) (fun cdv A outer s H vs Q E hr h => ?_)
  · obtain ⟨a, y, rfl, _⟩ := h
    rfl
  · have nd := sc_NoEntry__init.nd
    obtain ⟨a, y, rfl, ha, k⟩ := h
    refine ⟨_, PSs.nox (pss_cons (ps_expr (pe_xini (by rfl) T.g_AbsentError T.r_AbsentError T.s_AbsentError T.v_AbsentError (by decide +kernel) (pa_cons (pv 0) (pa_cons pe_str pa_nil))))
       (pss_one (ps_xst (pv 0) (pv 1)))), ?_⟩
    exact ⟨_, rfl, a, _, [_], _, _, _, rfl, (by decide : 1 ≤ 1000), T.x_NoEntry, ha, _, rfl, _, rfl, a, _, _, _, _, _, rfl, T.x_NoEntry, T.n_NoEntry, ha, k⟩
end
end W87

set_option Elab.async false
set_option linter.all false
set_option maxRecDepth 100000
set_option maxHeartbeats 4000000
namespace W87
open PySem PySem.Spec PyProof.Rows L2 WXE WXG WEv WRd
/-! ### the source of draws -/
def src (c : Addr) (n r k : Int) : List (Key × V) := [(Sum.inr "cells", .ref c), (Sum.inr "next", .int n), (Sum.inr "rest", .int r), (Sum.inr "count", .int k)]
theorem v_cells {c : Addr} {n r k : Int} : valV (src c n r k) (Sum.inr "cells") = some (.ref c) := rfl
theorem v_next {c : Addr} {n r k : Int} : valV (src c n r k) (Sum.inr "next") = some (.int n) := rfl
theorem v_rest {c : Addr} {n r k : Int} : valV (src c n r k) (Sum.inr "rest") = some (.int r) := rfl
theorem v_count {c : Addr} {n r k : Int} : valV (src c n r k) (Sum.inr "count") = some (.int k) := rfl
theorem p_next {c : Addr} {n r k x : Int} : putK (src c n r k) (Sum.inr "next") (.int x) = src c x r k := rfl
theorem p_rest {c : Addr} {n r k x : Int} : putK (src c n r k) (Sum.inr "rest") (.int x) = src c n x k := rfl
theorem p_count {c : Addr} {n r k x : Int} : putK (src c n r k) (Sum.inr "count") (.int x) = src c n r x := rfl
/-- the source at m: its counter is at most i -/
def SrcAt (H : Hp) (m : Addr) (i : Nat) : Prop := ∃ (c : Addr) (cs : List Int) (n r k : Int), H m = some (.dK (src c n r k)) ∧ H c = some (.lst (cs.map V.int)) ∧ cs ≠ [] ∧ cs.length ≤ 64 ∧ 0 ≤ k ∧ k ≤ i
/-- all but what stands at m is as it was -/
def But (m : Addr) (H H' : Hp) : Prop := ∀ b o, H b = some o → b ≠ m → H' b = some o
def spSource (K : PySem.W.Frag) : Sp := fun vs H Q _ => ∃ (a : Addr) (ns : List Int), vs = [.ref a] ∧ SqL K H a (ns.map V.int) ∧ ns.length ≤ 63 ∧ ∀ m H', H m = none → Same H H' → SrcAt H' m 0 → Q (.ref m) H'
def spDraw : Sp := fun vs H Q _ => ∃ (m : Addr) (b : Int) (i : Nat), vs = [.ref m, .int b] ∧ 0 < b ∧ b ≤ 1000 ∧ SrcAt H m i ∧ i ≤ 100 ∧ ∀ r H', 0 ≤ r → r < b → But m H H' → SrcAt H' m (i + 1) → Q (.int r) H'
def spPick : Sp := fun vs H Q _ => ∃ (m l : Addr) (xs : List V) (i : Nat), vs = [.ref m, .ref l] ∧ H l = some (.lst xs) ∧ xs ≠ [] ∧ xs.length ≤ 1000 ∧ SrcAt H m i ∧ i ≤ 100 ∧ l ≠ m ∧
  ∀ (j : Nat) v H', xs[j]? = some v → But m H H' → SrcAt H' m (i + 1) → Q v H'
theorem four {c : Addr} {n r k : Int} : (src c n r k).length < sizeLine := (by decide : 4 < sizeLine)
theorem fmod_nn {a b : Int} (h : 0 < b) : 0 ≤ a.fmod b ∧ a.fmod b < b := by
  rw [Int.fmod_eq_emod_of_nonneg a (Int.le_of_lt h)]
  exact ⟨Int.emod_nonneg a (by omega), Int.emod_lt_of_pos a h⟩
/-- l + m, l any list object -/
def rCatL (K : PySem.W.Frag) : R2 := fun x y H Q => ∃ l b xs zs, x = .ref l ∧ y = .ref b ∧ SqL K H l xs ∧ SqL K H b zs ∧ xs.length + zs.length ≤ sizeLine ∧ ∀ p, H p = none → Q (.ref p) (upd H p (.lst (xs ++ zs)))
theorem op_catL {X : Cx} : OpR X (binaryOp .Add) (rCatL X.K) := by
  intro pins s σ H x y v u Q I rx ry h
  obtain ⟨l, b, xs, zs, rfl, rfl, hH, hB, hz, q⟩ := h
  cases rx
  cases ry
  obtain ⟨its, r, ⟨o, n, e, hc, hx, hd⟩, hl⟩ := I.list hH
  obtain ⟨its2, r2, ⟨o2, n2, e2, hc2, hx2, hd2⟩, hl2⟩ := I.list hB
  cases o
  cases o2
  cases hc
  cases hx
  cases hd
  cases hc2
  cases hx2
  cases hd2
  have z1 := r.length
  have z2 := r2.length
  have ea : its.toArray ++ its2.toArray = (its ++ its2).toArray := by simp
  refine concat_meets ⟨_, e, rfl⟩ ⟨_, e2, rfl⟩ noFill_list_add seq_list_add PySem.F.slot_list_add PySem.F.entry_list_add (PySem.F.args_list_add_2 _ _) (list_addW l b its.toArray its2.toArray n n2 _ _ _ _ (by simp only [List.size_toArray]; omega)) ⟨e, e2, ?_⟩
  rw [ea]
  exact ⟨.ref _, _, I.lnew (t' := s.toks) (r.append r2) (by rw [List.length_append]; omega), rfl, q _ I.fresh⟩
section
variable {P : Program} {w : World} {K : PySem.W.Frag} {mg : Str → Option Value} {base : Heap}
theorem ok_source (T : Env K mg) : FnOk P w K mg base CX0 1 (He.fAd K d_L_source.at_) T.fd_L_source ["numbers"] (spSource K) := by
  refine T.F_L_source.ok sc_L_source (fun vs H Q E h => ?_) (fun cdv A outer s H vs Q E hr h => ?_)
  · obtain ⟨a, ns, rfl, _⟩ := h
    rfl
  · have nd := sc_L_source.nd
    have hu := hu_of hr
    obtain ⟨a, ns, rfl, hS, hl, k⟩ := h
    refine ⟨_, PSs.nox (pss_one (ps_ret (pe_disp (pps_cons pe_str (pe_op op_catL (pv 0) (pe_lst (pa_cons (pe_callB call_len_seq (by rfl) T.b_len (by decide +kernel) (pa_cons (pv 0) pa_nil)) pa_nil))) (pps_cons pe_str pe_int (pps_cons pe_str pe_int (pps_cons pe_str pe_int pps_nil)))) (by rfl) (by rfl) (fun z => by cases z) (by decide)))), ?_⟩
    intro p hp
    have s1 : Same H (upd H p (.dK [])) := same_new hp
    refine ⟨_, rfl, _, rfl, a, _, rfl, .inl (s1.seq hS), (by decide : 1 ≤ sizeLine), fun l hl' => ?_⟩
    have s2 : Same H (upd (upd H p (.dK [])) l (.lst [V.int ↑(List.map V.int ns).length])) := s1.trans (same_new hl')
    refine ⟨a, l, _, _, rfl, rfl, s2.seq hS, .of upd_same, ?_, fun c hc => ?_⟩
    · simp only [List.length_map, List.length_cons, List.length_nil]
      exact Nat.le_trans (Nat.add_le_add_right hl 1) (by decide)
    have s3 := s2.trans (same_new (o := HO.lst (List.map V.int ns ++ [V.int ↑(List.map V.int ns).length])) hc)
    refine ⟨?_, src c 0 0 0, rfl, (by decide : 4 ≤ 15), ?_⟩
    · rw [upd_ne (ne_of_none (a := p) (by rw [upd_ne (ne_of_none upd_same hl')]; exact upd_same) hc), upd_ne (ne_of_none upd_same hl')]
      exact upd_same
    · refine k p _ hp (same_put s3 hp) ⟨c, ns ++ [(ns.length : Int)], 0, 0, 0, upd_same, ?_, by simp, by simp; omega, by decide, by decide⟩
      rw [upd_ne (fun z => ?_)]
      · rw [List.map_append, List.length_map]
        exact upd_same
      · subst z
        rw [upd_ne (ne_of_none upd_same hl'), upd_same] at hc
        cases hc
theorem ok_draw (T : Env K mg) : FnOk P w K mg base CX0 1 (He.fAd K d_L_draw.at_) T.fd_L_draw ["source", "bound"] spDraw := by
  refine T.F_L_draw.ok sc_L_draw (fun vs H Q E h => ?_) (fun cdv A outer s H vs Q E hr h => ?_)
  · obtain ⟨m, b, i, rfl, _⟩ := h
    rfl
  · have nd := sc_L_draw.nd
    have hu := hu_of hr
    obtain ⟨m, b, i, rfl, hb0, hb1, hS, hi, k⟩ := h
    obtain ⟨c, cs, n, r, kk, hm, hc, hne, hlen, hk0, hki⟩ := hS
    refine ⟨_, PSs.nox (pss_cons (ps_if (pt_cmpR op_eq (pe_dget hu (pv 0) pe_str (fun _ _ => rfl)) pe_int (nomark _))
  (pss_cons (ps_set (i := 2) nd rfl (Or.inl rfl) (pe_ix ix_list (pe_dget hu (pv 0) pe_str (fun _ _ => rfl)) (pe_op op_modN (pe_callTy call_int1 (by rfl) T.b_int (by decide +kernel) (pa_cons (pe_dget hu (pv 0) pe_str (fun _ _ => rfl)) pa_nil)) (pe_callB call_len_seq (by rfl) T.b_len (by decide +kernel) (pa_cons (pe_dget hu (pv 0) pe_str (fun _ _ => rfl)) pa_nil))) (fun _ _ => rfl)))
 (pss_cons (ps_dput hu (pv 0) pe_str (pe_op op_add (pe_dget hu (pv 0) pe_str (fun _ _ => rfl)) pe_int) rfl)
 (pss_one (ps_if (PW.pt (pw_and (pt_cmpR op_ge (pv 2) (pe_op op_pow pe_int pe_int) (nomark _)) (pw_and1 (pt_cmpR op_le (pe_dget hu (pv 0) pe_str (fun _ _ => rfl)) (pe_callB call_len_seq (by rfl) T.b_len (by decide +kernel) (pa_cons (pe_dget hu (pv 0) pe_str (fun _ _ => rfl)) pa_nil)) (nomark _)))))
  (pss_one (ps_dput hu (pv 0) pe_str (pv 2) rfl))
  (pss_cons (ps_set (i := 3) nd rfl (Or.inl rfl) (pe_op op_add (pe_dget hu (pv 0) pe_str (fun _ _ => rfl)) pe_int))
 (pss_cons (ps_dput hu (pv 0) pe_str (pv 3) rfl)
 (pss_cons (ps_set (i := 4) nd rfl (Or.inl rfl) (pe_op op_mul (pe_callTy call_int1 (by rfl) T.b_int (by decide +kernel) (pa_cons (pe_op op_add (pe_op op_modN (pe_callTy call_int1 (by rfl) T.b_int (by decide +kernel) (pa_cons (pv 2) pa_nil)) pe_int) (pe_op op_mul pe_int (pv 3))) pa_nil)) (pe_op op_add (pe_op op_mul (pv 3) (pv 3)) pe_int)))
 (pss_cons (ps_set (i := 4) nd rfl (Or.inl rfl) (pe_op op_modN (pe_callTy call_int1 (by rfl) T.b_int (by decide +kernel) (pa_cons (pv 4) pa_nil)) pe_int))
 (pss_cons (ps_dput hu (pv 0) pe_str (pe_op op_mul (pe_op op_modN (pe_callTy call_int1 (by rfl) T.b_int (by decide +kernel) (pa_cons (pe_op op_mul (pv 4) pe_int) pa_nil)) pe_int) pe_int) rfl)
 (pss_one (ps_dput hu (pv 0) pe_str (pe_op op_add (pe_op op_add (pe_dget hu (pv 0) pe_str (fun _ _ => rfl)) (pe_op op_modN (pe_callTy call_int1 (by rfl) T.b_int (by decide +kernel) (pa_cons (pe_op op_mul (pv 4) (pv 4)) pa_nil)) pe_int)) pe_int) rfl)))))))))))
  pss_nil)
 (pss_cons (ps_set (i := 5) nd rfl (Or.inl rfl) (pe_op op_modN (pe_callTy call_int1 (by rfl) T.b_int (by decide +kernel) (pa_cons (pe_dget hu (pv 0) pe_str (fun _ _ => rfl)) pa_nil)) (pv 1)))
 (pss_cons (ps_dput hu (pv 0) pe_str (pe_op op_fdivN (pe_dget hu (pv 0) pe_str (fun _ _ => rfl)) (pv 1)) rfl)
 (pss_one (ps_ret (pv 5)))))), ?_⟩
    have tail : ∀ (σ' : L2.St) (H' : Hp) (n' r' k' : Int), σ'.length = 6 → σ'[0]? = some (some (.ref m)) → σ'[1]? = some (some (.int b)) → H' m = some (.dK (src c n' r' k')) → But m H H' → 0 ≤ k' → k' ≤ i + 1 →
        tSeq (tAsg (tOp (rI (fun _ j => j ≠ 0) fun i j => V.int (i.fmod j)) (tCB (fun xs H Q => (∃ i, xs = [V.int i] ∧ Q (V.int i) H) ∨ ∃ k, xs = [V.bl k] ∧ Q (V.int (if k = true then 1 else 0)) H) (tCons (tDGet (tVar 0) (tC (V.str "rest"))) tNil)) (tVar 1)) (gName 5))
          (tSeq (sDPut (tVar 0) (tC (V.str "rest")) (tOp (rI CDivN fun i j => V.int (i.fdiv j)) (tDGet (tVar 0) (tC (V.str "rest"))) (tVar 1))) (tRet (tVar 5))) { nx := fun _ H' => Q .non H', rt := Q } σ' H' := by
      intro σ' H' n' r' k' hl h0 h1 hm' hb' hk0' hk1'
      refine st_asg (ev_iI (ev_int1 (evl_cons (ev_dget (ev_var h0) ev_c hm' (k := Sum.inr "rest") v_rest) evl_nil)) (ev_var h1) (by omega)) ?_
      have h0' : (σ'.set 5 (some (V.int (r'.fmod b))))[0]? = some (some (.ref m)) := by rw [List.getElem?_set_ne (by decide)]; exact h0
      have h1' : (σ'.set 5 (some (V.int (r'.fmod b))))[1]? = some (some (.int b)) := by rw [List.getElem?_set_ne (by decide)]; exact h1
      have h5' : (σ'.set 5 (some (V.int (r'.fmod b))))[5]? = some (some (.int (r'.fmod b))) := List.getElem?_set_self (by omega)
      refine st_dput (k := Sum.inr "rest") (ev_iI (ev_dget (ev_var h0') ev_c hm' (k := Sum.inr "rest") v_rest) (ev_var h1') ⟨by omega, by omega⟩) (ev_var h0') ev_c hm' four ?_
      refine st_ret (ev_var h5') ?_
      rw [p_rest]
      refine k _ _ (fmod_nn hb0).1 (fmod_nn hb0).2 (fun a o ha hne => by rw [upd_ne hne]; exact hb' a o ha hne) ⟨c, cs, n', _, k', upd_same, ?_, hne, hlen, hk0', by omega⟩
      have hcm : c ≠ m := fun z => by
        rw [z, hm] at hc
        cases hc
      rw [upd_ne hcm]
      exact hb' c _ hc hcm
    refine st_if (evb_test (ev_op (ev_dget (ev_var rfl) ev_c hm (k := Sum.inr "rest") v_rest) ev_c (v := .bl (decide (V.int r = V.int 0))) fun _ q => ⟨rfl, q⟩)) ?_
    by_cases hr0 : decide (V.int r = V.int 0) = true
    · rw [if_pos hr0]
      have hL : 0 < (cs.length : Int) := by
        cases cs with
        | nil => exact absurd rfl hne
        | cons x xs => simp only [List.length_cons]; omega
      have hcm : c ≠ m := fun z => by
        rw [z, hm] at hc
        cases hc
      have fm := fmod_nn (a := n) hL
      obtain ⟨cell, hcell⟩ : ∃ cell, cs[(n.fmod cs.length).toNat]? = some cell := ⟨_, List.getElem?_eq_getElem (by omega)⟩
      have hat : atI (cs.map V.int) (n.fmod ((cs.map V.int).length : Int)) = some (.int cell) := by
        rw [List.length_map]
        have := atI_nat (xs := cs.map V.int) (j := (n.fmod cs.length).toNat) (v := .int cell) (by rw [List.getElem?_map, hcell]; rfl)
        rw [Int.toNat_of_nonneg fm.1] at this
        exact this
      refine st_asg (ev_op (v := .int cell) (ev_dget (ev_var rfl) ev_c hm (k := Sum.inr "cells") v_cells)
        (ev_iI (ev_int1 (evl_cons (ev_dget (ev_var rfl) ev_c hm (k := Sum.inr "next") v_next) evl_nil)) (ev_cb (vs := [.ref c]) (v := .int ((cs.map V.int).length : Int)) (evl_cons (ev_dget (ev_var rfl) ev_c hm (k := Sum.inr "cells") v_cells) evl_nil) fun Q q => ⟨c, _, rfl, .inl (.of hc), q⟩)
          (by rw [List.length_map]; omega)) fun Q q => ⟨c, _, _, _, rfl, rfl, .of hc, hat, q⟩) ?_
      refine st_dput (k := Sum.inr "next") (ev_i0 (ev_dget (ev_var rfl) ev_c hm (k := Sum.inr "next") v_next) ev_c) (ev_var rfl) ev_c hm four ?_
      rw [p_next]
      have m1 : upd H m (.dK (src c (n + 1) r kk)) m = some (.dK (src c (n + 1) r kk)) := upd_same
      have c1 : upd H m (.dK (src c (n + 1) r kk)) c = some (.lst (cs.map V.int)) := by rw [upd_ne hcm]; exact hc
      have B1 : But m H (upd H m (.dK (src c (n + 1) r kk))) := fun a o ha hne => by rw [upd_ne hne]; exact ha
      generalize upd H m (.dK (src c (n + 1) r kk)) = H1 at m1 c1 B1 ⊢
      have nxt : ∀ {H' : Hp} {x : HO}, But m H H' → But m H (upd H' m x) := fun hb a o ha hne => by rw [upd_ne hne]; exact hb a o ha hne
      refine st_if (evb_and (evb_cmp (ev_var rfl) (ev_iI ev_c ev_c ⟨by decide, by decide, by decide⟩)) fun _ => evb_cmp (ev_dget (ev_var rfl) ev_c m1 (k := Sum.inr "next") v_next)
        (ev_cb (vs := [.ref c]) (v := .int ((cs.map V.int).length : Int)) (evl_cons (ev_dget (ev_var rfl) ev_c m1 (k := Sum.inr "cells") v_cells) evl_nil) fun Q q => ⟨c, _, rfl, .inl (.of c1), q⟩)) ?_
      split
      · refine st_dput (k := Sum.inr "rest") (ev_var rfl) (ev_var rfl) ev_c m1 four ?_
        rw [p_rest]
        exact tail _ _ _ _ kk rfl rfl rfl upd_same (nxt B1) hk0 (by omega)
      · refine st_asg (ev_i0 (ev_dget (ev_var rfl) ev_c m1 (k := Sum.inr "count") v_count) ev_c) ?_
        refine st_dput (k := Sum.inr "count") (ev_var rfl) (ev_var rfl) ev_c m1 four ?_
        rw [p_count]
        have m2 : upd H1 m (.dK (src c (n + 1) r (kk + 1))) m = some (.dK (src c (n + 1) r (kk + 1))) := upd_same
        have B2 : But m H (upd H1 m (.dK (src c (n + 1) r (kk + 1)))) := nxt B1
        generalize upd H1 m (.dK (src c (n + 1) r (kk + 1))) = H2 at m2 B2 ⊢
        have f1 := fmod_nn (a := cell) (b := 2147483629) (by decide)
        refine st_asg (ev_iI (ev_int1 (evl_cons (ev_i0 (ev_iI (ev_int1 (evl_cons (ev_var rfl) evl_nil)) ev_c (by decide)) (ev_iI ev_c (ev_var rfl) (.inl (by decide)))) evl_nil))
          (ev_i0 (ev_iI (ev_var rfl) (ev_var rfl) (.inl ⟨by omega, by omega⟩)) ev_c) (.inl ⟨by omega, by omega⟩)) ?_
        refine st_asg (ev_iI (ev_int1 (evl_cons (ev_var rfl) evl_nil)) ev_c (by decide)) ?_
        generalize ((cell.fmod 2147483629 + 7919 * (kk + 1)) * ((kk + 1) * (kk + 1) + 48271)) = mix
        have f2 := fmod_nn (a := mix) (b := 2147483647) (by decide)
        generalize mix.fmod 2147483647 = mx at f2 ⊢
        refine st_dput (k := Sum.inr "rest") (ev_iI (ev_iI (ev_int1 (evl_cons (ev_iI (ev_var rfl) ev_c (.inr (by decide))) evl_nil)) ev_c (by decide)) ev_c (.inr (by decide))) (ev_var rfl) ev_c m2 four ?_
        rw [p_rest]
        refine st_dput (k := Sum.inr "rest") (ev_i0 (ev_i0 (ev_dget (ev_var rfl) ev_c upd_same (k := Sum.inr "rest") v_rest) (ev_iI (ev_int1 (evl_cons (ev_iI (ev_var rfl) (ev_var rfl) (.inl ⟨by omega, by omega⟩)) evl_nil)) ev_c (by decide))) ev_c) (ev_var rfl) ev_c upd_same four ?_
        rw [p_rest]
        exact tail _ _ _ _ (kk + 1) rfl rfl rfl upd_same (nxt (nxt B2)) (by omega) (by omega)
    · rw [if_neg hr0]
      exact tail _ H n r kk rfl rfl rfl hm (fun _ _ h _ => h) hk0 (by omega)
theorem ok_pick (T : Env K mg) : FnOk P w K mg base CX0 2 (He.fAd K d_L_pick.at_) T.fd_L_pick ["source", "items"] spPick := by
  have G_L_draw : FnOk P w K mg base CX0 1 _ _ _ _ := ok_draw T
  refine T.F_L_pick.ok sc_L_pick (fun vs H Q E h => ?_) (fun cdv A outer s H vs Q E hr h => ?_)
  · obtain ⟨m, l, xs, i, rfl, _⟩ := h
    rfl
  · have nd := sc_L_pick.nd
    have hu := hu_of hr
    obtain ⟨m, l, xs, i, rfl, hl, hne, hlen, hS, hi, hlm, k⟩ := h
    refine ⟨_, PSs.nox (pss_one (ps_ret (pe_ix ix_list (pv 1) (pe_call G_L_draw (hr.mono (by decide)) (by rfl) T.g__law_draw T.F_L_draw.kp T.bi_L_draw .nil pass0 (pa_cons (pv 0) (pa_cons (pe_callB call_len_seq (by rfl) T.b_len (by decide +kernel) (pa_cons (pv 1) pa_nil)) pa_nil))) (fun _ _ => rfl)))), ?_⟩
    have hx : 0 < xs.length := List.length_pos_iff.mpr hne
    refine ⟨.ref l, rfl, .ref m, rfl, .ref l, rfl, l, xs, rfl, .inl (.of hl), ?_⟩
    refine ⟨m, (xs.length : Int), i, rfl, by omega, by omega, hS, hi, fun r H' h0 h1 hb hS' => ?_⟩
    obtain ⟨v, hv⟩ : ∃ v, xs[r.toNat]? = some v := ⟨_, List.getElem?_eq_getElem (by omega)⟩
    have hat := atI_nat hv
    rw [Int.toNat_of_nonneg h0] at hat
    exact ⟨l, xs, r, v, rfl, rfl, .of (hb _ _ hl hlm), hat, k _ v H' hv hb hS'⟩
end
end W87

set_option Elab.async false
set_option linter.all false
set_option maxRecDepth 100000
set_option maxHeartbeats 4000000
namespace W87
open PySem PySem.Spec PyProof.Rows L2 WXE WXG WEv WRd WLf
/-- the i-th of the classes, made with y -/
def XP (K : PySem.W.Frag) (y : V) (i : Nat) : HP V := match exFld.getD i none with | none => XN (exC K i) | some f => XF (exC K i) f y
theorem mn_xp {K : PySem.W.Frag} {y : V} {i : Nat} : Mn (XP K y i) := by
  unfold XP
  split
  · exact mn_xn
  · exact mn_xf
def Gr1 (K : PySem.W.Frag) (y : V) : List (HP V) := [XP K y 0, XP K y 1, XP K y 2, XP K y 3, XP K y 4, XP K y 5, XP K y 6, XP K y 7, XP K y 8, XP K y 9, XP K y 10]
def Gr2 (K : PySem.W.Frag) (y : V) : List (HP V) := [XP K y 11, XP K y 12, XP K y 13, XP K y 14, XP K y 15]
def Gr3 (K : PySem.W.Frag) (y : V) : List (HP V) := [XP K y 16, XP K y 17, XP K y 18]
def Made (K : PySem.W.Frag) (y : V) : HP V := LF [LF (Gr1 K y), LF (Gr2 K y), LF (Gr3 K y)]
def spMade (K : PySem.W.Frag) : Sp := fun vs H Q _ => ∃ y, vs = [y] ∧ ∀ v H', Same H H' → Made K y v H' → Q v H'
def spStored (K : PySem.W.Frag) : Sp := fun vs H Q _ => ∃ v y, vs = [v] ∧ Made K y v H ∧ ∀ v' H', Same H H' → LF ((List.replicate 17 y).map Is) v' H' → Q v' H'
def spNamed : Sp := fun vs H Q _ => ∃ y, vs = [y] ∧ ∀ v' H', Same H H' → LF ((List.replicate 17 y).map Is) v' H' → Q v' H'
def spKinds (K : PySem.W.Frag) : Sp := fun vs H Q _ => ∃ e i, vs = [.ref e] ∧ i < 19 ∧ XAt H e (exC K i) ∧ ∀ v' H', Same H H' → LF (((List.range 19).map fun j => V.bl (decide (i = j))).map Is) v' H' → Q v' H'

section
variable {P : Program} {w : World} {K : PySem.W.Frag} {mg : Str → Option Value} {base : Heap}
theorem mn_gr1 {y : V} : Mn (Fa (Gr1 K y)) := by
  unfold Gr1
  repeat' first | exact mn_nil | apply mn_cons | exact mn_xp
theorem mn_gr2 {y : V} : Mn (Fa (Gr2 K y)) := by
  unfold Gr2
  repeat' first | exact mn_nil | apply mn_cons | exact mn_xp
theorem mn_gr3 {y : V} : Mn (Fa (Gr3 K y)) := by
  unfold Gr3
  repeat' first | exact mn_nil | apply mn_cons | exact mn_xp
theorem mn_made {y : V} : Mn (Made K y) := mn_lf (mn_cons (mn_lf mn_gr1) (mn_cons (mn_lf mn_gr2) (mn_cons (mn_lf mn_gr3) mn_nil)))
theorem ok_made (T : Env K mg) : FnOk P w K mg base CX0 3 (He.fAd K d_L_made.at_) T.fd_L_made ["field"] (spMade K) := by
  have G_BadSetting : FnOk P w K mg base CX0 1 _ _ _ _ := ok_BadSetting T
  have G_BadChild : FnOk P w K mg base CX0 1 _ _ _ _ := ok_BadChild T
  have G_BadRoot : FnOk P w K mg base CX0 1 _ _ _ _ := ok_BadRoot T
  have G_BadText : FnOk P w K mg base CX0 1 _ _ _ _ := ok_BadText T
  have G_BadTick : FnOk P w K mg base CX0 1 _ _ _ _ := ok_BadTick T
  have G_BadReason : FnOk P w K mg base CX0 1 _ _ _ _ := ok_BadReason T
  have G_BadScript : FnOk P w K mg base CX0 1 _ _ _ _ := ok_BadScript T
  have G_BadWord : FnOk P w K mg base CX0 1 _ _ _ _ := ok_BadWord T
  have G_BadValue : FnOk P w K mg base CX0 1 _ _ _ _ := ok_BadValue T
  have G_BadEntry : FnOk P w K mg base CX0 1 _ _ _ _ := ok_BadEntry T
  have G_BadInput : FnOk P w K mg base CX0 1 _ _ _ _ := ok_BadInput T
  have G_Over : FnOk P w K mg base CX0 1 _ _ _ _ := ok_Over T
  have G_NotRunning : FnOk P w K mg base CX0 1 _ _ _ _ := ok_NotRunning T
  have G_NotSupervisor : FnOk P w K mg base CX0 1 _ _ _ _ := ok_NotSupervisor T
  have G_NotWorker : FnOk P w K mg base CX0 1 _ _ _ _ := ok_NotWorker T
  have G_NotQuiet : FnOk P w K mg base CX0 1 _ _ _ _ := ok_NotQuiet T
  have G_NoPlace : FnOk P w K mg base CX0 1 _ _ _ _ := ok_NoPlace T
  have G_NoMessage : FnOk P w K mg base CX0 1 _ _ _ _ := ok_NoMessage T
  have G_NoEntry : FnOk P w K mg base CX0 1 _ _ _ _ := ok_NoEntry T
  refine T.F_L_made.ok sc_L_made (fun vs H Q E h => ?_) (fun cdv A outer s H vs Q E hr h => ?_)
  · obtain ⟨y, rfl, _⟩ := h
    rfl
  · have nd := sc_L_made.nd
    obtain ⟨y, rfl, k⟩ := h
    refine ⟨_, PSs.nox (pss_cons (ps_set (i := 1) nd rfl (Or.inl rfl) (pe_lst (pa_cons (pe_xmk T.x_BadSetting T.i_BadSetting T.t_BadSetting G_BadSetting (hr.mono (by decide)) (by rfl) T.g_BadSetting T.kb_BadSetting pass0 (pa_cons (pv 0) pa_nil)) (pa_cons (pe_xmk T.x_BadChild T.i_BadChild T.t_BadChild G_BadChild (hr.mono (by decide)) (by rfl) T.g_BadChild T.kb_BadChild pass0 (pa_cons (pv 0) pa_nil)) (pa_cons (pe_xmk T.x_BadRoot T.i_BadRoot T.t_BadRoot G_BadRoot (hr.mono (by decide)) (by rfl) T.g_BadRoot T.kb_BadRoot pass0 (pa_cons (pv 0) pa_nil)) (pa_cons (pe_xmk T.x_BadText T.i_BadText T.t_BadText G_BadText (hr.mono (by decide)) (by rfl) T.g_BadText T.kb_BadText pass0 (pa_cons (pv 0) pa_nil)) (pa_cons (pe_xmk T.x_BadTick T.i_BadTick T.t_BadTick G_BadTick (hr.mono (by decide)) (by rfl) T.g_BadTick T.kb_BadTick pass0 (pa_cons (pv 0) pa_nil)) (pa_cons (pe_xmk T.x_BadReason T.i_BadReason T.t_BadReason G_BadReason (hr.mono (by decide)) (by rfl) T.g_BadReason T.kb_BadReason pass0 (pa_cons (pv 0) pa_nil)) pa_nil))))))))
       (pss_cons (ps_set (i := 1) nd rfl (Or.inl rfl) (pe_op op_cat (pv 1) (pe_lst (pa_cons (pe_xmk T.x_BadScript T.i_BadScript T.t_BadScript G_BadScript (hr.mono (by decide)) (by rfl) T.g_BadScript T.kb_BadScript pass0 (pa_cons (pv 0) pa_nil)) (pa_cons (pe_xmk T.x_BadWord T.i_BadWord T.t_BadWord G_BadWord (hr.mono (by decide)) (by rfl) T.g_BadWord T.kb_BadWord pass0 (pa_cons (pv 0) pa_nil)) (pa_cons (pe_xmk T.x_BadValue T.i_BadValue T.t_BadValue G_BadValue (hr.mono (by decide)) (by rfl) T.g_BadValue T.kb_BadValue pass0 (pa_cons (pv 0) pa_nil)) (pa_cons (pe_xmk T.x_BadEntry T.i_BadEntry T.t_BadEntry G_BadEntry (hr.mono (by decide)) (by rfl) T.g_BadEntry T.kb_BadEntry pass0 (pa_cons (pv 0) pa_nil)) (pa_cons (pe_xmk T.x_BadInput T.i_BadInput T.t_BadInput G_BadInput (hr.mono (by decide)) (by rfl) T.g_BadInput T.kb_BadInput pass0 (pa_cons (pv 0) pa_nil)) pa_nil))))))))
       (pss_cons (ps_set (i := 2) nd rfl (Or.inl rfl) (pe_lst (pa_cons (pe_xmk0 T.x_Over T.i_Over T.t_Over G_Over (hr.mono (by decide)) (by rfl) T.g_Over T.kb_Over pass0) (pa_cons (pe_xmk T.x_NotRunning T.i_NotRunning T.t_NotRunning G_NotRunning (hr.mono (by decide)) (by rfl) T.g_NotRunning T.kb_NotRunning pass0 (pa_cons (pv 0) pa_nil)) (pa_cons (pe_xmk T.x_NotSupervisor T.i_NotSupervisor T.t_NotSupervisor G_NotSupervisor (hr.mono (by decide)) (by rfl) T.g_NotSupervisor T.kb_NotSupervisor pass0 (pa_cons (pv 0) pa_nil)) (pa_cons (pe_xmk T.x_NotWorker T.i_NotWorker T.t_NotWorker G_NotWorker (hr.mono (by decide)) (by rfl) T.g_NotWorker T.kb_NotWorker pass0 (pa_cons (pv 0) pa_nil)) (pa_cons (pe_xmk0 T.x_NotQuiet T.i_NotQuiet T.t_NotQuiet G_NotQuiet (hr.mono (by decide)) (by rfl) T.g_NotQuiet T.kb_NotQuiet pass0) pa_nil)))))))
       (pss_one (ps_ret (pe_lst (pa_cons (pv 1) (pa_cons (pv 2) (pa_cons (pe_lst (pa_cons (pe_xmk T.x_NoPlace T.i_NoPlace T.t_NoPlace G_NoPlace (hr.mono (by decide)) (by rfl) T.g_NoPlace T.kb_NoPlace pass0 (pa_cons (pv 0) pa_nil)) (pa_cons (pe_xmk T.x_NoMessage T.i_NoMessage T.t_NoMessage G_NoMessage (hr.mono (by decide)) (by rfl) T.g_NoMessage T.kb_NoMessage pass0 (pa_cons (pv 0) pa_nil)) (pa_cons (pe_xmk T.x_NoEntry T.i_NoEntry T.t_NoEntry G_NoEntry (hr.mono (by decide)) (by rfl) T.g_NoEntry T.kb_NoEntry pass0 (pa_cons (pv 0) pa_nil)) pa_nil)))) pa_nil))))))))), ?_⟩
    refine g_asg (g_lst (ga_cons (g_mk1 (g_var (v := y) rfl)) (ga_cons (g_mk1 (g_var (v := y) rfl)) (ga_cons (g_mk1 (g_var (v := y) rfl)) (ga_cons (g_mk1 (g_var (v := y) rfl)) (ga_cons (g_mk1 (g_var (v := y) rfl)) (ga_cons (g_mk1 (g_var (v := y) rfl)) ga_nil))))))) fun v1 H1 s1 q1 => ?_
    have t1 := (Same.refl H).trans s1
    have q_first := q1
    refine g_asg (g_cat (g_varP rfl q_first (mn_lf (by repeat' first | exact mn_nil | apply mn_cons | exact mn_i | exact mn_xp | exact mn_xf | exact mn_xn | exact mn_gr1 | exact mn_gr2 | exact mn_gr3 | apply mn_lf))) (g_lst (ga_cons (g_mk1 (g_var (v := y) rfl)) (ga_cons (g_mk1 (g_var (v := y) rfl)) (ga_cons (g_mk1 (g_var (v := y) rfl)) (ga_cons (g_mk1 (g_var (v := y) rfl)) (ga_cons (g_mk1 (g_var (v := y) rfl)) ga_nil)))))) (by repeat' first | exact mn_nil | apply mn_cons | exact mn_i | exact mn_xp | exact mn_xf | exact mn_xn | exact mn_gr1 | exact mn_gr2 | exact mn_gr3 | apply mn_lf) (by repeat' first | exact mn_nil | apply mn_cons | exact mn_i | exact mn_xp | exact mn_xf | exact mn_xn | exact mn_gr1 | exact mn_gr2 | exact mn_gr3 | apply mn_lf)) fun v2 H2 s2 q2 => ?_
    have t2 := t1.trans s2
    replace q_first := q2
    refine g_asg (g_lst (ga_cons g_mk0 (ga_cons (g_mk1 (g_var (v := y) rfl)) (ga_cons (g_mk1 (g_var (v := y) rfl)) (ga_cons (g_mk1 (g_var (v := y) rfl)) (ga_cons g_mk0 ga_nil)))))) fun v3 H3 s3 q3 => ?_
    have t3 := t2.trans s3
    replace q_first := (mn_lf (by repeat' first | exact mn_nil | apply mn_cons | exact mn_i | exact mn_xp | exact mn_xf | exact mn_xn | exact mn_gr1 | exact mn_gr2 | exact mn_gr3 | apply mn_lf)) _ _ _ s3 q_first
    have q_second := q3
    refine g_ret (g_lst (ga_cons (g_varP rfl q_first (mn_lf (by repeat' first | exact mn_nil | apply mn_cons | exact mn_i | exact mn_xp | exact mn_xf | exact mn_xn | exact mn_gr1 | exact mn_gr2 | exact mn_gr3 | apply mn_lf))) (ga_cons (g_varP rfl q_second (mn_lf (by repeat' first | exact mn_nil | apply mn_cons | exact mn_i | exact mn_xp | exact mn_xf | exact mn_xn | exact mn_gr1 | exact mn_gr2 | exact mn_gr3 | apply mn_lf))) (ga_cons (g_lst (ga_cons (g_mk1 (g_var (v := y) rfl)) (ga_cons (g_mk1 (g_var (v := y) rfl)) (ga_cons (g_mk1 (g_var (v := y) rfl)) ga_nil)))) ga_nil)))) fun v4 H4 s4 q4 => ?_
    exact k _ _ (t3.trans s4) q4
theorem ok_named (T : Env K mg) : FnOk P w K mg base CX0 3 (He.fAd K d_L_named.at_) T.fd_L_named ["it"] (spNamed) := by
  have G_BadSetting : FnOk P w K mg base CX0 1 _ _ _ _ := ok_BadSetting T
  have G_BadChild : FnOk P w K mg base CX0 1 _ _ _ _ := ok_BadChild T
  have G_BadRoot : FnOk P w K mg base CX0 1 _ _ _ _ := ok_BadRoot T
  have G_BadText : FnOk P w K mg base CX0 1 _ _ _ _ := ok_BadText T
  have G_BadTick : FnOk P w K mg base CX0 1 _ _ _ _ := ok_BadTick T
  have G_BadReason : FnOk P w K mg base CX0 1 _ _ _ _ := ok_BadReason T
  have G_BadScript : FnOk P w K mg base CX0 1 _ _ _ _ := ok_BadScript T
  have G_BadWord : FnOk P w K mg base CX0 1 _ _ _ _ := ok_BadWord T
  have G_BadValue : FnOk P w K mg base CX0 1 _ _ _ _ := ok_BadValue T
  have G_BadEntry : FnOk P w K mg base CX0 1 _ _ _ _ := ok_BadEntry T
  have G_BadInput : FnOk P w K mg base CX0 1 _ _ _ _ := ok_BadInput T
  have G_Over : FnOk P w K mg base CX0 1 _ _ _ _ := ok_Over T
  have G_NotRunning : FnOk P w K mg base CX0 1 _ _ _ _ := ok_NotRunning T
  have G_NotSupervisor : FnOk P w K mg base CX0 1 _ _ _ _ := ok_NotSupervisor T
  have G_NotWorker : FnOk P w K mg base CX0 1 _ _ _ _ := ok_NotWorker T
  have G_NotQuiet : FnOk P w K mg base CX0 1 _ _ _ _ := ok_NotQuiet T
  have G_NoPlace : FnOk P w K mg base CX0 1 _ _ _ _ := ok_NoPlace T
  have G_NoMessage : FnOk P w K mg base CX0 1 _ _ _ _ := ok_NoMessage T
  have G_NoEntry : FnOk P w K mg base CX0 1 _ _ _ _ := ok_NoEntry T
  refine T.F_L_named.ok sc_L_named (fun vs H Q E h => ?_) (fun cdv A outer s H vs Q E hr h => ?_)
  · obtain ⟨y, rfl, _⟩ := h
    rfl
  · have nd := sc_L_named.nd
    obtain ⟨y, rfl, k⟩ := h
    refine ⟨_, PSs.nox (pss_cons (ps_set (i := 1) nd rfl (Or.inl rfl) (pe_lst (pa_cons (pe_xfld (pe_xmkK T.x_BadSetting T.i_BadSetting T.t_BadSetting G_BadSetting (hr.mono (by decide)) (by rfl) T.g_BadSetting T.kw_BadSetting pass0 (pk_cons (pv 0) pk_nil))) (pa_cons (pe_xfld (pe_xmkK T.x_BadChild T.i_BadChild T.t_BadChild G_BadChild (hr.mono (by decide)) (by rfl) T.g_BadChild T.kw_BadChild pass0 (pk_cons (pv 0) pk_nil))) (pa_cons (pe_xfld (pe_xmkK T.x_BadRoot T.i_BadRoot T.t_BadRoot G_BadRoot (hr.mono (by decide)) (by rfl) T.g_BadRoot T.kw_BadRoot pass0 (pk_cons (pv 0) pk_nil))) (pa_cons (pe_xfld (pe_xmkK T.x_BadText T.i_BadText T.t_BadText G_BadText (hr.mono (by decide)) (by rfl) T.g_BadText T.kw_BadText pass0 (pk_cons (pv 0) pk_nil))) pa_nil))))))
       (pss_cons (ps_set (i := 1) nd rfl (Or.inl rfl) (pe_op op_cat (pv 1) (pe_lst (pa_cons (pe_xfld (pe_xmkK T.x_BadTick T.i_BadTick T.t_BadTick G_BadTick (hr.mono (by decide)) (by rfl) T.g_BadTick T.kw_BadTick pass0 (pk_cons (pv 0) pk_nil))) (pa_cons (pe_xfld (pe_xmkK T.x_BadReason T.i_BadReason T.t_BadReason G_BadReason (hr.mono (by decide)) (by rfl) T.g_BadReason T.kw_BadReason pass0 (pk_cons (pv 0) pk_nil))) (pa_cons (pe_xfld (pe_xmkK T.x_BadScript T.i_BadScript T.t_BadScript G_BadScript (hr.mono (by decide)) (by rfl) T.g_BadScript T.kw_BadScript pass0 (pk_cons (pv 0) pk_nil))) pa_nil))))))
       (pss_cons (ps_set (i := 1) nd rfl (Or.inl rfl) (pe_op op_cat (pv 1) (pe_lst (pa_cons (pe_xfld (pe_xmkK T.x_BadWord T.i_BadWord T.t_BadWord G_BadWord (hr.mono (by decide)) (by rfl) T.g_BadWord T.kw_BadWord pass0 (pk_cons (pv 0) pk_nil))) (pa_cons (pe_xfld (pe_xmkK T.x_BadValue T.i_BadValue T.t_BadValue G_BadValue (hr.mono (by decide)) (by rfl) T.g_BadValue T.kw_BadValue pass0 (pk_cons (pv 0) pk_nil))) (pa_cons (pe_xfld (pe_xmkK T.x_BadEntry T.i_BadEntry T.t_BadEntry G_BadEntry (hr.mono (by decide)) (by rfl) T.g_BadEntry T.kw_BadEntry pass0 (pk_cons (pv 0) pk_nil))) pa_nil))))))
       (pss_cons (ps_set (i := 1) nd rfl (Or.inl rfl) (pe_op op_cat (pv 1) (pe_lst (pa_cons (pe_xfld (pe_xmkK T.x_BadInput T.i_BadInput T.t_BadInput G_BadInput (hr.mono (by decide)) (by rfl) T.g_BadInput T.kw_BadInput pass0 (pk_cons (pv 0) pk_nil))) (pa_cons (pe_xfld (pe_xmkK T.x_NotRunning T.i_NotRunning T.t_NotRunning G_NotRunning (hr.mono (by decide)) (by rfl) T.g_NotRunning T.kw_NotRunning pass0 (pk_cons (pv 0) pk_nil))) (pa_cons (pe_xfld (pe_xmkK T.x_NotSupervisor T.i_NotSupervisor T.t_NotSupervisor G_NotSupervisor (hr.mono (by decide)) (by rfl) T.g_NotSupervisor T.kw_NotSupervisor pass0 (pk_cons (pv 0) pk_nil))) pa_nil))))))
       (pss_cons (ps_set (i := 1) nd rfl (Or.inl rfl) (pe_op op_cat (pv 1) (pe_lst (pa_cons (pe_xfld (pe_xmkK T.x_NotWorker T.i_NotWorker T.t_NotWorker G_NotWorker (hr.mono (by decide)) (by rfl) T.g_NotWorker T.kw_NotWorker pass0 (pk_cons (pv 0) pk_nil))) (pa_cons (pe_xfld (pe_xmkK T.x_NoPlace T.i_NoPlace T.t_NoPlace G_NoPlace (hr.mono (by decide)) (by rfl) T.g_NoPlace T.kw_NoPlace pass0 (pk_cons (pv 0) pk_nil))) (pa_cons (pe_xfld (pe_xmkK T.x_NoMessage T.i_NoMessage T.t_NoMessage G_NoMessage (hr.mono (by decide)) (by rfl) T.g_NoMessage T.kw_NoMessage pass0 (pk_cons (pv 0) pk_nil))) pa_nil))))))
       (pss_one (ps_ret (pe_op op_cat (pv 1) (pe_lst (pa_cons (pe_xfld (pe_xmkK T.x_NoEntry T.i_NoEntry T.t_NoEntry G_NoEntry (hr.mono (by decide)) (by rfl) T.g_NoEntry T.kw_NoEntry pass0 (pk_cons (pv 0) pk_nil))) pa_nil)))))))))), ?_⟩
    refine g_asg (g_lst (ga_cons (g_fld T.x_BadSetting T.n_BadSetting (g_mkK (g_var (v := y) rfl))) (ga_cons (g_fld T.x_BadChild T.n_BadChild (g_mkK (g_var (v := y) rfl))) (ga_cons (g_fld T.x_BadRoot T.n_BadRoot (g_mkK (g_var (v := y) rfl))) (ga_cons (g_fld T.x_BadText T.n_BadText (g_mkK (g_var (v := y) rfl))) ga_nil))))) fun v1 H1 s1 q1 => ?_
    have t1 := (Same.refl H).trans s1
    have q_found := q1
    refine g_asg (g_cat (g_varP rfl q_found (mn_lf (by repeat' first | exact mn_nil | apply mn_cons | exact mn_i | exact mn_xp | exact mn_xf | exact mn_xn | exact mn_gr1 | exact mn_gr2 | exact mn_gr3 | apply mn_lf))) (g_lst (ga_cons (g_fld T.x_BadTick T.n_BadTick (g_mkK (g_var (v := y) rfl))) (ga_cons (g_fld T.x_BadReason T.n_BadReason (g_mkK (g_var (v := y) rfl))) (ga_cons (g_fld T.x_BadScript T.n_BadScript (g_mkK (g_var (v := y) rfl))) ga_nil)))) (by repeat' first | exact mn_nil | apply mn_cons | exact mn_i | exact mn_xp | exact mn_xf | exact mn_xn | exact mn_gr1 | exact mn_gr2 | exact mn_gr3 | apply mn_lf) (by repeat' first | exact mn_nil | apply mn_cons | exact mn_i | exact mn_xp | exact mn_xf | exact mn_xn | exact mn_gr1 | exact mn_gr2 | exact mn_gr3 | apply mn_lf)) fun v2 H2 s2 q2 => ?_
    have t2 := t1.trans s2
    have q_found := q2
    refine g_asg (g_cat (g_varP rfl q_found (mn_lf (by repeat' first | exact mn_nil | apply mn_cons | exact mn_i | exact mn_xp | exact mn_xf | exact mn_xn | exact mn_gr1 | exact mn_gr2 | exact mn_gr3 | apply mn_lf))) (g_lst (ga_cons (g_fld T.x_BadWord T.n_BadWord (g_mkK (g_var (v := y) rfl))) (ga_cons (g_fld T.x_BadValue T.n_BadValue (g_mkK (g_var (v := y) rfl))) (ga_cons (g_fld T.x_BadEntry T.n_BadEntry (g_mkK (g_var (v := y) rfl))) ga_nil)))) (by repeat' first | exact mn_nil | apply mn_cons | exact mn_i | exact mn_xp | exact mn_xf | exact mn_xn | exact mn_gr1 | exact mn_gr2 | exact mn_gr3 | apply mn_lf) (by repeat' first | exact mn_nil | apply mn_cons | exact mn_i | exact mn_xp | exact mn_xf | exact mn_xn | exact mn_gr1 | exact mn_gr2 | exact mn_gr3 | apply mn_lf)) fun v3 H3 s3 q3 => ?_
    have t3 := t2.trans s3
    have q_found := q3
    refine g_asg (g_cat (g_varP rfl q_found (mn_lf (by repeat' first | exact mn_nil | apply mn_cons | exact mn_i | exact mn_xp | exact mn_xf | exact mn_xn | exact mn_gr1 | exact mn_gr2 | exact mn_gr3 | apply mn_lf))) (g_lst (ga_cons (g_fld T.x_BadInput T.n_BadInput (g_mkK (g_var (v := y) rfl))) (ga_cons (g_fld T.x_NotRunning T.n_NotRunning (g_mkK (g_var (v := y) rfl))) (ga_cons (g_fld T.x_NotSupervisor T.n_NotSupervisor (g_mkK (g_var (v := y) rfl))) ga_nil)))) (by repeat' first | exact mn_nil | apply mn_cons | exact mn_i | exact mn_xp | exact mn_xf | exact mn_xn | exact mn_gr1 | exact mn_gr2 | exact mn_gr3 | apply mn_lf) (by repeat' first | exact mn_nil | apply mn_cons | exact mn_i | exact mn_xp | exact mn_xf | exact mn_xn | exact mn_gr1 | exact mn_gr2 | exact mn_gr3 | apply mn_lf)) fun v4 H4 s4 q4 => ?_
    have t4 := t3.trans s4
    have q_found := q4
    refine g_asg (g_cat (g_varP rfl q_found (mn_lf (by repeat' first | exact mn_nil | apply mn_cons | exact mn_i | exact mn_xp | exact mn_xf | exact mn_xn | exact mn_gr1 | exact mn_gr2 | exact mn_gr3 | apply mn_lf))) (g_lst (ga_cons (g_fld T.x_NotWorker T.n_NotWorker (g_mkK (g_var (v := y) rfl))) (ga_cons (g_fld T.x_NoPlace T.n_NoPlace (g_mkK (g_var (v := y) rfl))) (ga_cons (g_fld T.x_NoMessage T.n_NoMessage (g_mkK (g_var (v := y) rfl))) ga_nil)))) (by repeat' first | exact mn_nil | apply mn_cons | exact mn_i | exact mn_xp | exact mn_xf | exact mn_xn | exact mn_gr1 | exact mn_gr2 | exact mn_gr3 | apply mn_lf) (by repeat' first | exact mn_nil | apply mn_cons | exact mn_i | exact mn_xp | exact mn_xf | exact mn_xn | exact mn_gr1 | exact mn_gr2 | exact mn_gr3 | apply mn_lf)) fun v5 H5 s5 q5 => ?_
    have t5 := t4.trans s5
    have q_found := q5
    refine g_ret (g_cat (g_varP rfl q_found (mn_lf (by repeat' first | exact mn_nil | apply mn_cons | exact mn_i | exact mn_xp | exact mn_xf | exact mn_xn | exact mn_gr1 | exact mn_gr2 | exact mn_gr3 | apply mn_lf))) (g_lst (ga_cons (g_fld T.x_NoEntry T.n_NoEntry (g_mkK (g_var (v := y) rfl))) ga_nil)) (by repeat' first | exact mn_nil | apply mn_cons | exact mn_i | exact mn_xp | exact mn_xf | exact mn_xn | exact mn_gr1 | exact mn_gr2 | exact mn_gr3 | apply mn_lf) (by repeat' first | exact mn_nil | apply mn_cons | exact mn_i | exact mn_xp | exact mn_xf | exact mn_xn | exact mn_gr1 | exact mn_gr2 | exact mn_gr3 | apply mn_lf)) fun v6 H6 s6 q6 => ?_
    exact k _ _ (t5.trans s6) q6
theorem Fa.three {P1 P2 P3 : HP V} {xs : List V} {H : Hp} (h : Fa [P1, P2, P3] xs H) : ∃ a b c, xs = [a, b, c] ∧ P1 a H ∧ P2 b H ∧ P3 c H := by
  match xs, h with
  | [a, b, c], h => exact ⟨a, b, c, rfl, h.1, h.2.1, h.2.2.1⟩
theorem Env.xall (T : Env K mg) : ∀ i, i < 19 → ∃ B n m bm, XC K (exC K i) B n m bm
  | 0, _ => ⟨_, _, _, _, T.x_BadSetting⟩
  | 1, _ => ⟨_, _, _, _, T.x_BadChild⟩
  | 2, _ => ⟨_, _, _, _, T.x_BadRoot⟩
  | 3, _ => ⟨_, _, _, _, T.x_BadText⟩
  | 4, _ => ⟨_, _, _, _, T.x_BadTick⟩
  | 5, _ => ⟨_, _, _, _, T.x_BadReason⟩
  | 6, _ => ⟨_, _, _, _, T.x_BadScript⟩
  | 7, _ => ⟨_, _, _, _, T.x_BadWord⟩
  | 8, _ => ⟨_, _, _, _, T.x_BadValue⟩
  | 9, _ => ⟨_, _, _, _, T.x_BadEntry⟩
  | 10, _ => ⟨_, _, _, _, T.x_BadInput⟩
  | 11, _ => ⟨_, _, _, _, T.x_Over⟩
  | 12, _ => ⟨_, _, _, _, T.x_NotRunning⟩
  | 13, _ => ⟨_, _, _, _, T.x_NotSupervisor⟩
  | 14, _ => ⟨_, _, _, _, T.x_NotWorker⟩
  | 15, _ => ⟨_, _, _, _, T.x_NotQuiet⟩
  | 16, _ => ⟨_, _, _, _, T.x_NoPlace⟩
  | 17, _ => ⟨_, _, _, _, T.x_NoMessage⟩
  | 18, _ => ⟨_, _, _, _, T.x_NoEntry⟩
  | n + 19, h => absurd h (by omega)
theorem ok_kinds (T : Env K mg) : FnOk P w K mg base CX0 1 (He.fAd K d_L_kinds.at_) T.fd_L_kinds ["error"] (spKinds K) := by
  refine T.F_L_kinds.ok sc_L_kinds (fun vs H Q E h => ?_) (fun cdv A outer s H vs Q E hr h => ?_)
  · obtain ⟨e, i, rfl, _⟩ := h
    rfl
  · have nd := sc_L_kinds.nd
    obtain ⟨e, i, rfl, hi, hx, k⟩ := h
    refine ⟨_, PSs.nox (pss_cons (ps_set (i := 1) nd rfl (Or.inl rfl) (pe_lst (pa_cons (pe_callB call_xis (by rfl) T.b_isinstance (by decide +kernel) (pa_cons (pv 0) (pa_cons (pe_globR (by rfl) T.g_BadSetting) pa_nil))) (pa_cons (pe_callB call_xis (by rfl) T.b_isinstance (by decide +kernel) (pa_cons (pv 0) (pa_cons (pe_globR (by rfl) T.g_BadChild) pa_nil))) (pa_cons (pe_callB call_xis (by rfl) T.b_isinstance (by decide +kernel) (pa_cons (pv 0) (pa_cons (pe_globR (by rfl) T.g_BadRoot) pa_nil))) pa_nil)))))
       (pss_cons (ps_set (i := 1) nd rfl (Or.inl rfl) (pe_op op_cat (pv 1) (pe_lst (pa_cons (pe_callB call_xis (by rfl) T.b_isinstance (by decide +kernel) (pa_cons (pv 0) (pa_cons (pe_globR (by rfl) T.g_BadText) pa_nil))) (pa_cons (pe_callB call_xis (by rfl) T.b_isinstance (by decide +kernel) (pa_cons (pv 0) (pa_cons (pe_globR (by rfl) T.g_BadTick) pa_nil))) (pa_cons (pe_callB call_xis (by rfl) T.b_isinstance (by decide +kernel) (pa_cons (pv 0) (pa_cons (pe_globR (by rfl) T.g_BadReason) pa_nil))) pa_nil))))))
       (pss_cons (ps_set (i := 1) nd rfl (Or.inl rfl) (pe_op op_cat (pv 1) (pe_lst (pa_cons (pe_callB call_xis (by rfl) T.b_isinstance (by decide +kernel) (pa_cons (pv 0) (pa_cons (pe_globR (by rfl) T.g_BadScript) pa_nil))) (pa_cons (pe_callB call_xis (by rfl) T.b_isinstance (by decide +kernel) (pa_cons (pv 0) (pa_cons (pe_globR (by rfl) T.g_BadWord) pa_nil))) (pa_cons (pe_callB call_xis (by rfl) T.b_isinstance (by decide +kernel) (pa_cons (pv 0) (pa_cons (pe_globR (by rfl) T.g_BadValue) pa_nil))) pa_nil))))))
       (pss_cons (ps_set (i := 1) nd rfl (Or.inl rfl) (pe_op op_cat (pv 1) (pe_lst (pa_cons (pe_callB call_xis (by rfl) T.b_isinstance (by decide +kernel) (pa_cons (pv 0) (pa_cons (pe_globR (by rfl) T.g_BadEntry) pa_nil))) (pa_cons (pe_callB call_xis (by rfl) T.b_isinstance (by decide +kernel) (pa_cons (pv 0) (pa_cons (pe_globR (by rfl) T.g_BadInput) pa_nil))) (pa_cons (pe_callB call_xis (by rfl) T.b_isinstance (by decide +kernel) (pa_cons (pv 0) (pa_cons (pe_globR (by rfl) T.g_Over) pa_nil))) pa_nil))))))
       (pss_cons (ps_set (i := 1) nd rfl (Or.inl rfl) (pe_op op_cat (pv 1) (pe_lst (pa_cons (pe_callB call_xis (by rfl) T.b_isinstance (by decide +kernel) (pa_cons (pv 0) (pa_cons (pe_globR (by rfl) T.g_NotRunning) pa_nil))) (pa_cons (pe_callB call_xis (by rfl) T.b_isinstance (by decide +kernel) (pa_cons (pv 0) (pa_cons (pe_globR (by rfl) T.g_NotSupervisor) pa_nil))) (pa_cons (pe_callB call_xis (by rfl) T.b_isinstance (by decide +kernel) (pa_cons (pv 0) (pa_cons (pe_globR (by rfl) T.g_NotWorker) pa_nil))) pa_nil))))))
       (pss_cons (ps_set (i := 1) nd rfl (Or.inl rfl) (pe_op op_cat (pv 1) (pe_lst (pa_cons (pe_callB call_xis (by rfl) T.b_isinstance (by decide +kernel) (pa_cons (pv 0) (pa_cons (pe_globR (by rfl) T.g_NotQuiet) pa_nil))) (pa_cons (pe_callB call_xis (by rfl) T.b_isinstance (by decide +kernel) (pa_cons (pv 0) (pa_cons (pe_globR (by rfl) T.g_NoPlace) pa_nil))) (pa_cons (pe_callB call_xis (by rfl) T.b_isinstance (by decide +kernel) (pa_cons (pv 0) (pa_cons (pe_globR (by rfl) T.g_NoMessage) pa_nil))) pa_nil))))))
       (pss_one (ps_ret (pe_op op_cat (pv 1) (pe_lst (pa_cons (pe_callB call_xis (by rfl) T.b_isinstance (by decide +kernel) (pa_cons (pv 0) (pa_cons (pe_globR (by rfl) T.g_NoEntry) pa_nil))) pa_nil))))))))))), ?_⟩
    obtain ⟨_, _, _, _, hT⟩ := T.xall i hi
    refine g_asg (g_lst (ga_cons (g_xis rfl hx hT ref_cls (T.isx i 0 hi (by decide))) (ga_cons (g_xis rfl hx hT ref_cls (T.isx i 1 hi (by decide))) (ga_cons (g_xis rfl hx hT ref_cls (T.isx i 2 hi (by decide))) ga_nil)))) fun v1 H1 s1 q1 => ?_
    have t1 := (Same.refl H).trans s1
    replace hx := mv_xat _ _ _ s1 hx
    have q_some := q1
    refine g_asg (g_cat (g_varP rfl q_some (mn_lf (by repeat' first | exact mn_nil | apply mn_cons | exact mn_i | exact mn_xp | exact mn_xf | exact mn_xn | exact mn_gr1 | exact mn_gr2 | exact mn_gr3 | apply mn_lf))) (g_lst (ga_cons (g_xis rfl hx hT ref_cls (T.isx i 3 hi (by decide))) (ga_cons (g_xis rfl hx hT ref_cls (T.isx i 4 hi (by decide))) (ga_cons (g_xis rfl hx hT ref_cls (T.isx i 5 hi (by decide))) ga_nil)))) (by repeat' first | exact mn_nil | apply mn_cons | exact mn_i | exact mn_xp | exact mn_xf | exact mn_xn | exact mn_gr1 | exact mn_gr2 | exact mn_gr3 | apply mn_lf) (by repeat' first | exact mn_nil | apply mn_cons | exact mn_i | exact mn_xp | exact mn_xf | exact mn_xn | exact mn_gr1 | exact mn_gr2 | exact mn_gr3 | apply mn_lf)) fun v2 H2 s2 q2 => ?_
    have t2 := t1.trans s2
    replace hx := mv_xat _ _ _ s2 hx
    have q_some := q2
    refine g_asg (g_cat (g_varP rfl q_some (mn_lf (by repeat' first | exact mn_nil | apply mn_cons | exact mn_i | exact mn_xp | exact mn_xf | exact mn_xn | exact mn_gr1 | exact mn_gr2 | exact mn_gr3 | apply mn_lf))) (g_lst (ga_cons (g_xis rfl hx hT ref_cls (T.isx i 6 hi (by decide))) (ga_cons (g_xis rfl hx hT ref_cls (T.isx i 7 hi (by decide))) (ga_cons (g_xis rfl hx hT ref_cls (T.isx i 8 hi (by decide))) ga_nil)))) (by repeat' first | exact mn_nil | apply mn_cons | exact mn_i | exact mn_xp | exact mn_xf | exact mn_xn | exact mn_gr1 | exact mn_gr2 | exact mn_gr3 | apply mn_lf) (by repeat' first | exact mn_nil | apply mn_cons | exact mn_i | exact mn_xp | exact mn_xf | exact mn_xn | exact mn_gr1 | exact mn_gr2 | exact mn_gr3 | apply mn_lf)) fun v3 H3 s3 q3 => ?_
    have t3 := t2.trans s3
    replace hx := mv_xat _ _ _ s3 hx
    have q_some := q3
    refine g_asg (g_cat (g_varP rfl q_some (mn_lf (by repeat' first | exact mn_nil | apply mn_cons | exact mn_i | exact mn_xp | exact mn_xf | exact mn_xn | exact mn_gr1 | exact mn_gr2 | exact mn_gr3 | apply mn_lf))) (g_lst (ga_cons (g_xis rfl hx hT ref_cls (T.isx i 9 hi (by decide))) (ga_cons (g_xis rfl hx hT ref_cls (T.isx i 10 hi (by decide))) (ga_cons (g_xis rfl hx hT ref_cls (T.isx i 11 hi (by decide))) ga_nil)))) (by repeat' first | exact mn_nil | apply mn_cons | exact mn_i | exact mn_xp | exact mn_xf | exact mn_xn | exact mn_gr1 | exact mn_gr2 | exact mn_gr3 | apply mn_lf) (by repeat' first | exact mn_nil | apply mn_cons | exact mn_i | exact mn_xp | exact mn_xf | exact mn_xn | exact mn_gr1 | exact mn_gr2 | exact mn_gr3 | apply mn_lf)) fun v4 H4 s4 q4 => ?_
    have t4 := t3.trans s4
    replace hx := mv_xat _ _ _ s4 hx
    have q_some := q4
    refine g_asg (g_cat (g_varP rfl q_some (mn_lf (by repeat' first | exact mn_nil | apply mn_cons | exact mn_i | exact mn_xp | exact mn_xf | exact mn_xn | exact mn_gr1 | exact mn_gr2 | exact mn_gr3 | apply mn_lf))) (g_lst (ga_cons (g_xis rfl hx hT ref_cls (T.isx i 12 hi (by decide))) (ga_cons (g_xis rfl hx hT ref_cls (T.isx i 13 hi (by decide))) (ga_cons (g_xis rfl hx hT ref_cls (T.isx i 14 hi (by decide))) ga_nil)))) (by repeat' first | exact mn_nil | apply mn_cons | exact mn_i | exact mn_xp | exact mn_xf | exact mn_xn | exact mn_gr1 | exact mn_gr2 | exact mn_gr3 | apply mn_lf) (by repeat' first | exact mn_nil | apply mn_cons | exact mn_i | exact mn_xp | exact mn_xf | exact mn_xn | exact mn_gr1 | exact mn_gr2 | exact mn_gr3 | apply mn_lf)) fun v5 H5 s5 q5 => ?_
    have t5 := t4.trans s5
    replace hx := mv_xat _ _ _ s5 hx
    have q_some := q5
    refine g_asg (g_cat (g_varP rfl q_some (mn_lf (by repeat' first | exact mn_nil | apply mn_cons | exact mn_i | exact mn_xp | exact mn_xf | exact mn_xn | exact mn_gr1 | exact mn_gr2 | exact mn_gr3 | apply mn_lf))) (g_lst (ga_cons (g_xis rfl hx hT ref_cls (T.isx i 15 hi (by decide))) (ga_cons (g_xis rfl hx hT ref_cls (T.isx i 16 hi (by decide))) (ga_cons (g_xis rfl hx hT ref_cls (T.isx i 17 hi (by decide))) ga_nil)))) (by repeat' first | exact mn_nil | apply mn_cons | exact mn_i | exact mn_xp | exact mn_xf | exact mn_xn | exact mn_gr1 | exact mn_gr2 | exact mn_gr3 | apply mn_lf) (by repeat' first | exact mn_nil | apply mn_cons | exact mn_i | exact mn_xp | exact mn_xf | exact mn_xn | exact mn_gr1 | exact mn_gr2 | exact mn_gr3 | apply mn_lf)) fun v6 H6 s6 q6 => ?_
    have t6 := t5.trans s6
    replace hx := mv_xat _ _ _ s6 hx
    have q_some := q6
    refine g_ret (g_cat (g_varP rfl q_some (mn_lf (by repeat' first | exact mn_nil | apply mn_cons | exact mn_i | exact mn_xp | exact mn_xf | exact mn_xn | exact mn_gr1 | exact mn_gr2 | exact mn_gr3 | apply mn_lf))) (g_lst (ga_cons (g_xis rfl hx hT ref_cls (T.isx i 18 hi (by decide))) ga_nil)) (by repeat' first | exact mn_nil | apply mn_cons | exact mn_i | exact mn_xp | exact mn_xf | exact mn_xn | exact mn_gr1 | exact mn_gr2 | exact mn_gr3 | apply mn_lf) (by repeat' first | exact mn_nil | apply mn_cons | exact mn_i | exact mn_xp | exact mn_xf | exact mn_xn | exact mn_gr1 | exact mn_gr2 | exact mn_gr3 | apply mn_lf)) fun v7 H7 s7 q7 => ?_
    exact k _ _ (t6.trans s7) q7
theorem ok_stored (T : Env K mg) : FnOk P w K mg base CX0 1 (He.fAd K d_L_stored.at_) T.fd_L_stored ["made"] (spStored K) := by
  refine T.F_L_stored.ok sc_L_stored (fun vs H Q E h => ?_) (fun cdv A outer s H vs Q E hr h => ?_)
  · obtain ⟨v, y, rfl, _⟩ := h
    rfl
  · have nd := sc_L_stored.nd
    obtain ⟨v, y, rfl, hm, k⟩ := h
    refine ⟨_, PSs.nox (pss_cons (ps_asg (pv 0) (pg_lst rfl (pgs_cons (pg_name (i := 1) nd rfl (Or.inl rfl)) (pgs_cons (pg_name (i := 2) nd rfl (Or.inl rfl)) (pgs_cons (pg_name (i := 3) nd rfl (Or.inl rfl)) pgs_nil)))))
       (pss_cons (ps_set (i := 4) nd rfl (Or.inl rfl) (pe_lst (pa_cons (pe_xfld (pe_ix ix_list (pv 1) pe_int (fun _ _ => rfl))) (pa_cons (pe_xfld (pe_ix ix_list (pv 1) pe_int (fun _ _ => rfl))) (pa_cons (pe_xfld (pe_ix ix_list (pv 1) pe_int (fun _ _ => rfl))) (pa_cons (pe_xfld (pe_ix ix_list (pv 1) pe_int (fun _ _ => rfl))) (pa_cons (pe_xfld (pe_ix ix_list (pv 1) pe_int (fun _ _ => rfl))) (pa_cons (pe_xfld (pe_ix ix_list (pv 1) pe_int (fun _ _ => rfl))) pa_nil))))))))
       (pss_cons (ps_set (i := 4) nd rfl (Or.inl rfl) (pe_op op_cat (pv 4) (pe_lst (pa_cons (pe_xfld (pe_ix ix_list (pv 1) pe_int (fun _ _ => rfl))) (pa_cons (pe_xfld (pe_ix ix_list (pv 1) pe_int (fun _ _ => rfl))) (pa_cons (pe_xfld (pe_ix ix_list (pv 1) pe_int (fun _ _ => rfl))) (pa_cons (pe_xfld (pe_ix ix_list (pv 1) pe_int (fun _ _ => rfl))) (pa_cons (pe_xfld (pe_ix ix_list (pv 1) pe_int (fun _ _ => rfl))) pa_nil))))))))
       (pss_cons (ps_set (i := 4) nd rfl (Or.inl rfl) (pe_op op_cat (pv 4) (pe_lst (pa_cons (pe_xfld (pe_ix ix_list (pv 2) pe_int (fun _ _ => rfl))) (pa_cons (pe_xfld (pe_ix ix_list (pv 2) pe_int (fun _ _ => rfl))) (pa_cons (pe_xfld (pe_ix ix_list (pv 2) pe_int (fun _ _ => rfl))) pa_nil))))))
       (pss_one (ps_ret (pe_op op_cat (pv 4) (pe_lst (pa_cons (pe_xfld (pe_ix ix_list (pv 3) pe_int (fun _ _ => rfl))) (pa_cons (pe_xfld (pe_ix ix_list (pv 3) pe_int (fun _ _ => rfl))) (pa_cons (pe_xfld (pe_ix ix_list (pv 3) pe_int (fun _ _ => rfl))) pa_nil))))))))))), ?_⟩
    obtain ⟨p, xs, rfl, hp, fa⟩ := hm
    obtain ⟨a, b, c, rfl, q_first, q_second, q_third⟩ := Fa.three fa
    refine ⟨_, rfl, p, [a, b, c], rfl, .of hp, rfl, ?_⟩
    refine ⟨_, _, rfl, _, _, rfl, _, _, rfl, rfl, ?_⟩
    dsimp only
    refine g_asg (g_lst (ga_cons (g_fld T.x_BadSetting T.n_BadSetting (g_ix (n := 0) rfl q_first rfl mn_xf)) (ga_cons (g_fld T.x_BadChild T.n_BadChild (g_ix (n := 1) rfl q_first rfl mn_xf)) (ga_cons (g_fld T.x_BadRoot T.n_BadRoot (g_ix (n := 2) rfl q_first rfl mn_xf)) (ga_cons (g_fld T.x_BadText T.n_BadText (g_ix (n := 3) rfl q_first rfl mn_xf)) (ga_cons (g_fld T.x_BadTick T.n_BadTick (g_ix (n := 4) rfl q_first rfl mn_xf)) (ga_cons (g_fld T.x_BadReason T.n_BadReason (g_ix (n := 5) rfl q_first rfl mn_xf)) ga_nil))))))) fun v1 H1 s1 q1 => ?_
    have t1 := (Same.refl H).trans s1
    replace q_first := (mn_lf mn_gr1) _ _ _ s1 q_first
    replace q_second := (mn_lf mn_gr2) _ _ _ s1 q_second
    replace q_third := (mn_lf mn_gr3) _ _ _ s1 q_third
    have q_found := q1
    refine g_asg (g_cat (g_varP rfl q_found (mn_lf (by repeat' first | exact mn_nil | apply mn_cons | exact mn_i | exact mn_xp | exact mn_xf | exact mn_xn | exact mn_gr1 | exact mn_gr2 | exact mn_gr3 | apply mn_lf))) (g_lst (ga_cons (g_fld T.x_BadScript T.n_BadScript (g_ix (n := 6) rfl q_first rfl mn_xf)) (ga_cons (g_fld T.x_BadWord T.n_BadWord (g_ix (n := 7) rfl q_first rfl mn_xf)) (ga_cons (g_fld T.x_BadValue T.n_BadValue (g_ix (n := 8) rfl q_first rfl mn_xf)) (ga_cons (g_fld T.x_BadEntry T.n_BadEntry (g_ix (n := 9) rfl q_first rfl mn_xf)) (ga_cons (g_fld T.x_BadInput T.n_BadInput (g_ix (n := 10) rfl q_first rfl mn_xf)) ga_nil)))))) (by repeat' first | exact mn_nil | apply mn_cons | exact mn_i | exact mn_xp | exact mn_xf | exact mn_xn | exact mn_gr1 | exact mn_gr2 | exact mn_gr3 | apply mn_lf) (by repeat' first | exact mn_nil | apply mn_cons | exact mn_i | exact mn_xp | exact mn_xf | exact mn_xn | exact mn_gr1 | exact mn_gr2 | exact mn_gr3 | apply mn_lf)) fun v2 H2 s2 q2 => ?_
    have t2 := t1.trans s2
    replace q_first := (mn_lf mn_gr1) _ _ _ s2 q_first
    replace q_second := (mn_lf mn_gr2) _ _ _ s2 q_second
    replace q_third := (mn_lf mn_gr3) _ _ _ s2 q_third
    have q_found := q2
    refine g_asg (g_cat (g_varP rfl q_found (mn_lf (by repeat' first | exact mn_nil | apply mn_cons | exact mn_i | exact mn_xp | exact mn_xf | exact mn_xn | exact mn_gr1 | exact mn_gr2 | exact mn_gr3 | apply mn_lf))) (g_lst (ga_cons (g_fld T.x_NotRunning T.n_NotRunning (g_ix (n := 1) rfl q_second rfl mn_xf)) (ga_cons (g_fld T.x_NotSupervisor T.n_NotSupervisor (g_ix (n := 2) rfl q_second rfl mn_xf)) (ga_cons (g_fld T.x_NotWorker T.n_NotWorker (g_ix (n := 3) rfl q_second rfl mn_xf)) ga_nil)))) (by repeat' first | exact mn_nil | apply mn_cons | exact mn_i | exact mn_xp | exact mn_xf | exact mn_xn | exact mn_gr1 | exact mn_gr2 | exact mn_gr3 | apply mn_lf) (by repeat' first | exact mn_nil | apply mn_cons | exact mn_i | exact mn_xp | exact mn_xf | exact mn_xn | exact mn_gr1 | exact mn_gr2 | exact mn_gr3 | apply mn_lf)) fun v3 H3 s3 q3 => ?_
    have t3 := t2.trans s3
    replace q_first := (mn_lf mn_gr1) _ _ _ s3 q_first
    replace q_second := (mn_lf mn_gr2) _ _ _ s3 q_second
    replace q_third := (mn_lf mn_gr3) _ _ _ s3 q_third
    have q_found := q3
    refine g_ret (g_cat (g_varP rfl q_found (mn_lf (by repeat' first | exact mn_nil | apply mn_cons | exact mn_i | exact mn_xp | exact mn_xf | exact mn_xn | exact mn_gr1 | exact mn_gr2 | exact mn_gr3 | apply mn_lf))) (g_lst (ga_cons (g_fld T.x_NoPlace T.n_NoPlace (g_ix (n := 0) rfl q_third rfl mn_xf)) (ga_cons (g_fld T.x_NoMessage T.n_NoMessage (g_ix (n := 1) rfl q_third rfl mn_xf)) (ga_cons (g_fld T.x_NoEntry T.n_NoEntry (g_ix (n := 2) rfl q_third rfl mn_xf)) ga_nil)))) (by repeat' first | exact mn_nil | apply mn_cons | exact mn_i | exact mn_xp | exact mn_xf | exact mn_xn | exact mn_gr1 | exact mn_gr2 | exact mn_gr3 | apply mn_lf) (by repeat' first | exact mn_nil | apply mn_cons | exact mn_i | exact mn_xp | exact mn_xf | exact mn_xn | exact mn_gr1 | exact mn_gr2 | exact mn_gr3 | apply mn_lf)) fun v4 H4 s4 q4 => ?_
    exact k _ _ (t3.trans s4) q4
end
end W87

set_option Elab.async false
set_option linter.all false
set_option maxRecDepth 100000
set_option maxHeartbeats 4000000
namespace W87
open PySem PySem.Spec PyProof.Rows L2 WXE WXG WEv WRd WLf
def spRight (K : PySem.W.Frag) : Sp := fun vs H Q _ => ∃ v y, vs = [v] ∧ Made K y v H ∧ ∀ H', Same H H' → Q (.bl true) H'
def st0 (i : Nat) : Nat := [0, 11, 16, 19].getD i 0
def ln0 (i : Nat) : Nat := [11, 5, 3].getD i 0
theorem fam0 : ∀ i, i < 3 → ∀ j, j < ln0 i → exFam.getD (st0 i + j) 9 = i ∧ st0 i + j < 19 ∧ st0 (i + 1) = st0 i + ln0 i := by decide
theorem made_cut {K : PySem.W.Frag} {y v : V} {H : Hp} (h : Made K y v H) : ∃ p xs, v = .ref p ∧ H p = some (.lst xs) ∧ xs.length = 3 ∧ ∀ i g, xs[i]? = some g → LF ((List.range' (st0 i) (ln0 i)).map (XP K y)) g H := by
  obtain ⟨p, xs, rfl, hp, fa⟩ := h
  obtain ⟨a, b, c, rfl, qa, qb, qc⟩ := Fa.three fa
  refine ⟨p, _, rfl, hp, rfl, fun i g e => ?_⟩
  match i, e with
  | 0, e =>
    cases e
    exact qa
  | 1, e =>
    cases e
    exact qb
  | 2, e =>
    cases e
    exact qc
  | n + 3, e => cases e
theorem xp_at {K : PySem.W.Frag} {y v : V} {H : Hp} {n : Nat} (h : XP K y n v H) : ∃ e, v = .ref e ∧ XAt H e (exC K n) := by
  unfold XP at h
  generalize exFld.getD n none = fo at h
  cases fo with
  | none =>
    obtain ⟨e, rfl, h⟩ := h
    exact ⟨e, rfl, .inl h⟩
  | some f =>
    obtain ⟨e, dx, rfl, h1, h2⟩ := h
    exact ⟨e, rfl, .inr ⟨dx, _, h1, h2⟩⟩
theorem bs3 : ∀ i, i < 3 → (List.range 3).map (fun j : Nat => V.bl (decide (V.int (i : Nat) = V.int (0 + (j : Nat))))) = [decide (i = 0), decide (i = 1), decide (i = 2)].map V.bl := by decide
theorem bs19 (n : Nat) : (List.range 19).map (fun j : Nat => V.bl (decide (V.int (0 + (j : Nat)) = V.int (n : Nat)))) = ((List.range 19).map fun j => decide (n = j)).map V.bl := by
  rw [List.map_map]
  refine List.map_congr_left fun j _ => ?_
  simp only [Function.comp_apply, V.int.injEq, V.bl.injEq, decide_eq_decide]
  omega
section
variable {P : Program} {w : World} {K : PySem.W.Frag} {mg : Str → Option Value} {base : Heap}
theorem ok_families_right (T : Env K mg) : FnOk P w K mg base CX0 2 (He.fAd K d_L_families_right.at_) T.fd_L_families_right ["made"] (spRight K) := by
  have G_L_kinds : FnOk P w K mg base CX0 1 _ _ _ _ := ok_kinds T
  refine T.F_L_families_right.ok sc_L_families_right (fun vs H Q E h => ?_) (fun cdv A outer s H vs Q E hr h => ?_)
  · obtain ⟨v, y, rfl, _⟩ := h
    rfl
  · have nd := sc_L_families_right.nd
    obtain ⟨v, y, rfl, hm, k⟩ := h
    refine ⟨_, PSs.nox (pss_cons (ps_set (i := 1) nd rfl (Or.inr rfl) pe_int)
 (pss_cons (ps_for PassesOwn.never rfl (pi_enum (by rfl) T.b_enumerate (pa_cons (pv 0) pa_nil)) (pg_tup rfl (pgs_cons (pg_name (i := 2) nd rfl (Or.inr rfl)) (pgs_cons (pg_name (i := 3) nd rfl (Or.inl rfl)) pgs_nil)))
  (pss_one (ps_for PassesOwn.never rfl (pi_list (pv 3)) (pg_name (i := 4) nd rfl (Or.inl rfl))
  (pss_cons (ps_set (i := 5) nd rfl (Or.inl rfl) (pe_lst (pa_cons (pe_callB call_xis (by rfl) T.b_isinstance (by decide +kernel) (pa_cons (pv 4) (pa_cons (pe_globR (by rfl) T.g_PlanError) pa_nil))) (pa_cons (pe_callB call_xis (by rfl) T.b_isinstance (by decide +kernel) (pa_cons (pv 4) (pa_cons (pe_globR (by rfl) T.g_TreeError) pa_nil))) (pa_cons (pe_callB call_xis (by rfl) T.b_isinstance (by decide +kernel) (pa_cons (pv 4) (pa_cons (pe_globR (by rfl) T.g_AbsentError) pa_nil))) pa_nil)))))
 (pss_cons (ps_set (i := 6) nd rfl (Or.inl rfl) (pe_lst (pa_cons (pe_callB call_xis (by rfl) T.b_isinstance (by decide +kernel) (pa_cons (pv 4) (pa_cons (pe_bltnT (n := "ValueError") (by rfl) T.b_ValueError (by decide +kernel)) pa_nil))) (pa_cons (pe_callB call_xis (by rfl) T.b_isinstance (by decide +kernel) (pa_cons (pv 4) (pa_cons (pe_bltnT (n := "RuntimeError") (by rfl) T.b_RuntimeError (by decide +kernel)) pa_nil))) (pa_cons (pe_callB call_xis (by rfl) T.b_isinstance (by decide +kernel) (pa_cons (pv 4) (pa_cons (pe_bltnT (n := "LookupError") (by rfl) T.b_LookupError (by decide +kernel)) pa_nil))) pa_nil)))))
 (pss_cons (ps_if (PW.pt (pw_or (pt_cmpR (op_neD hr.units) (pv 5) (pe_lc (own := [("j", 7)]) (by rfl) nd (pi_range1 (by rfl) T.b_range (pa_cons pe_int pa_nil)) (blkOk_by (N := ["made", "at", "k", "group", "error", "bases", "other", "j"]) (sc := defScope s_L_families_right) (by decide +kernel)) (fun _ _ _ _ _ => (pg_name (i := 7) nd rfl (Or.inl rfl))) (fun _ _ _ _ _ => pts_nil) (fun _ _ _ _ _ => (pe_cmpR op_eq (pv 2) (pv 7) (nomark _)))) (nomark _)) (pw_or1 (pt_cmpR (op_neD hr.units) (pv 6) (pv 5) (nomark _)))))
  (pss_one (ps_ret pe_bl))
  pss_nil)
 (pss_cons (ps_if (pt_cmpR (op_neD hr.units) (pe_call G_L_kinds (hr.mono (by decide)) (by rfl) T.g__law_kinds T.F_L_kinds.kp T.bi_L_kinds .nil pass0 (pa_cons (pv 4) pa_nil)) (pe_lc (own := [("j", 7)]) (by rfl) nd (pi_range1 (by rfl) T.b_range (pa_cons pe_int pa_nil)) (blkOk_by (N := ["made", "at", "k", "group", "error", "bases", "other", "j"]) (sc := defScope s_L_families_right) (by decide +kernel)) (fun _ _ _ _ _ => (pg_name (i := 7) nd rfl (Or.inl rfl))) (fun _ _ _ _ _ => pts_nil) (fun _ _ _ _ _ => (pe_cmpR op_eq (pv 7) (pv 1) (nomark _)))) (nomark _))
  (pss_one (ps_ret pe_bl))
  pss_nil)
 (pss_cons (ps_if (pt_val (pe_callB call_xis (by rfl) T.b_isinstance (by decide +kernel) (pa_cons (pv 4) (pa_cons (pe_tup (pa_cons (pe_bltnT (n := "KeyError") (by rfl) T.b_KeyError (by decide +kernel)) (pa_cons (pe_bltnT (n := "IndexError") (by rfl) T.b_IndexError (by decide +kernel)) pa_nil))) pa_nil))))
  (pss_one (ps_ret pe_bl))
  pss_nil)
 (pss_one (ps_set (i := 1) nd rfl (Or.inr rfl) (pe_op op_add (pv 1) pe_int)))))))))))
 (pss_one (ps_ret (pe_cmpR op_eq (pv 1) pe_int (nomark _)))))), ?_⟩
    obtain ⟨p, xs, rfl, hp, hxs, hgr⟩ := made_cut hm
    refine st_asg ev_c ?_
    refine ⟨_, rfl, p, xs, rfl, .of hp, ?_⟩
    refine for_it (walk_enum (xs := xs)) (fun i σ H' => ∃ a2 a3 a4 a5 a6 a7, σ = [some (.ref p), some (.int (st0 i : Nat)), a2, a3, a4, a5, a6, a7] ∧ Same H H') ⟨_, _, _, _, _, _, rfl, Same.refl H⟩ (fun i σ H1 _ q => ?_) (fun i x σ H1 H2 hi q y => ?_) (fun σ H1 q => ?_)
    · obtain ⟨_, _, _, _, _, _, _, s1⟩ := q
      exact .of (s1 _ _ hp)
    · obtain ⟨a2, a3, a4, a5, a6, a7, rfl, s1⟩ := q
      obtain ⟨t0, u, g, rfl, ht, rfl, eu, eg⟩ := y
      cases eu
      rw [hxs] at hi
      obtain ⟨l, ys, rfl, hl, fa⟩ := hgr i g eg
      have s2 : Same H (upd H1 t0 (.tup [.int (i : Nat), .ref l])) := s1.trans (same_new ht)
      refine ⟨t0, _, rfl, .of upd_same, rfl, _, _, rfl, _, _, rfl, rfl, ?_⟩
      generalize upd H1 t0 (.tup [.int (i : Nat), .ref l]) = H2 at s2
      have ly : ys.length = ln0 i := by
        have := fa.len
        rw [List.length_map, List.length_range'] at this
        exact this
      refine ⟨_, rfl, l, rfl, ⟨ys, .of (s2 _ _ hl)⟩, ?_⟩
      refine for_it (walk_list (xs := ys)) (fun j σ H' => ∃ a4 a5 a6 a7, σ = [some (.ref p), some (.int (st0 i + j : Nat)), some (.int (i : Nat)), some (.ref l), a4, a5, a6, a7] ∧ Same H H') ⟨_, _, _, _, rfl, s2⟩ (fun j σ H1 _ q => ?_) (fun j x σ H1 H2 hj q y => ?_) (fun σ H1 q => ?_)
      · obtain ⟨_, _, _, _, _, s1⟩ := q
        exact .of (s1 _ _ hl)
      · obtain ⟨b4, b5, b6, b7, rfl, s3⟩ := q
        obtain ⟨rfl, hx⟩ := y
        rw [ly] at hj
        obtain ⟨hf, hn, _⟩ := fam0 i hi j hj
        obtain ⟨x', hx', px⟩ := fa.get (n := j) (P := XP K y (st0 i + j)) (by rw [List.getElem?_map, List.getElem?_range' (by exact hj)]; simp)
        rw [hx] at hx'
        cases hx'
        obtain ⟨e, rfl, hat⟩ := xp_at px
        replace hat := mv_xat _ _ _ s3 hat
        generalize hnn : st0 i + j = n at hf hn hat ⊢
        obtain ⟨_, _, _, _, hT⟩ := T.xall n hn
        have kb := fun j hj => T.isb n j hn hj
        have kt := fun j hj => T.ist n j hn hj
        rw [hf] at kb kt
        show tSeq _ _ _ _ _
        refine g_asg (g_lst (ga_cons (g_xis rfl hat hT ref_cls (kb 0 (by decide))) (ga_cons (g_xis rfl hat hT ref_cls (kb 1 (by decide))) (ga_cons (g_xis rfl hat hT ref_cls (kb 2 (by decide))) ga_nil)))) fun v5 H3 s4 q5 => ?_
        replace hat := mv_xat _ _ _ s4 hat
        refine g_asg (g_lst (ga_cons (g_xis rfl hat hT ty_cls (kt 0 (by decide))) (ga_cons (g_xis rfl hat hT ty_cls (kt 1 (by decide))) (ga_cons (g_xis rfl hat hT ty_cls (kt 2 (by decide))) ga_nil)))) fun v6 H4 s5 q6 => ?_
        replace hat := mv_xat _ _ _ s5 hat
        have q5' : LF (([decide (i = 0), decide (i = 1), decide (i = 2)].map V.bl).map Is) v5 H4 := mn_lf mn_is _ _ _ s5 q5
        have q6' : LF (([decide (i = 0), decide (i = 1), decide (i = 2)].map V.bl).map Is) v6 H4 := q6
        refine s_no (et_or0 (et_ne (bs := [decide (i = 0), decide (i = 1), decide (i = 2)]) (g_varP rfl q5' (mn_lf mn_is)) (g_eq (g_lcr (m := 3) (v := 7) (fun j => .bl (decide (V.int (i : Nat) = V.int (0 + (j : Nat))))) (by decide) fun j H1 _ _ => ev_op (ev_var rfl) (ev_var rfl) fun Q q => ⟨rfl, q⟩) (bs3 i hi)) rfl)
          (et_ne (bs := [decide (i = 0), decide (i = 1), decide (i = 2)]) (g_varP rfl q6' (mn_lf mn_is)) (g_varP rfl q5' (mn_lf mn_is)) rfl)) fun H5 s6 => ?_
        replace hat := mv_xat _ _ _ s6 hat
        refine s_no (et_ne (bs := (List.range 19).map fun j => decide (n = j)) (g_eq (g_call1 (P := LF (((List.range 19).map fun j => V.bl (decide (n = j))).map Is)) (x := .ref e) (g_var rfl) (fun H1 s Q k => ⟨e, n, rfl, hn, mv_xat _ _ _ s hat, fun v' H' s' p => k v' H' s' p⟩) (mn_lf mn_is)) (by rw [List.map_map]; rfl))
          (g_eq (g_lcr (m := 19) (v := 7) (fun j => .bl (decide (V.int (0 + (j : Nat)) = V.int (n : Nat)))) (by decide) fun j H1 _ _ => ev_op (ev_var rfl) (ev_var rfl) fun Q q => ⟨rfl, q⟩) (bs19 n)) rfl) fun H6 s7 => ?_
        replace hat := mv_xat _ _ _ s7 hat
        refine s_no (et_val (g_xis2 rfl hat hT (T.iso n hn))) fun H7 s8 => ?_
        refine st_asg (ev_i0 (ev_var rfl) ev_c) ?_
        have z : (n : Int) + 1 = ((st0 i + (j + 1) : Nat) : Int) := by omega
        rw [z]
        exact ⟨some (.ref e), some v5, some v6, b7, rfl, ((((s3.trans s4).trans s5).trans s6).trans s7).trans s8⟩
      · obtain ⟨b4, b5, b6, b7, rfl, s3⟩ := q
        rw [ly, ← (fam0 i hi 0 (by match i, hi with | 0, _ => decide | 1, _ => decide | 2, _ => decide)).2.2]
        exact ⟨_, _, _, _, _, _, rfl, s3⟩
    · obtain ⟨a2, a3, a4, a5, a6, a7, rfl, s1⟩ := q
      rw [hxs]
      exact st_ret (ev_op (v := .bl true) (ev_var rfl) ev_c fun Q q => ⟨rfl, q⟩) (k _ s1)
end
end W87

set_option Elab.async false
set_option linter.all false
set_option maxRecDepth 100000
set_option maxHeartbeats 4000000
namespace W87
open PySem PySem.Spec PyProof.Rows L2 WXE WXG WEv WRd WLf
def spLaw (K : PySem.W.Frag) : Sp := fun vs H Q _ => ∃ (a : Addr) (ns : List Int), vs = [.ref a] ∧ SqL K H a (ns.map V.int) ∧ ns.length ≤ 63 ∧ ∀ H', Q (.bl true) H'
def TupP (xs : List V) : HP V := fun v H => ∃ p, v = .ref p ∧ H p = some (.tup xs)
def EmpD : HP V := fun v H => ∃ p, v = .ref p ∧ H p = some (.dK [])
def DI : List (HP V) := [Is (.int 0), Is (.int 7), Is (.int (-1)), Is (.int (10 ^ 30)), Is .non, Is (.str ""), Is (.str "root"), TupP [], TupP [.int 1, .int 2], LF [Is (.int 3)], EmpD, Is (.bl true)]
def DD : List PyData := [.int 0, .int 7, .int (-1), .int (10 ^ 30), .none, .str "", .str "root", .tuple [], .tuple [.int 1, .int 2], .list [.int 3, .int 1], .dict [], .bool true]
theorem mn_tup {xs : List V} : Mn (TupP xs) := fun _ _ _ s ⟨p, e, h⟩ => ⟨p, e, s _ _ h⟩
theorem mn_emp : Mn EmpD := fun _ _ _ s ⟨p, e, h⟩ => ⟨p, e, s _ _ h⟩
theorem DI_all {C : HP V → Prop} (h0 : ∀ x, C (Is x)) (h1 : ∀ xs, C (TupP xs)) (h2 : C (LF [Is (.int 3)])) (h3 : C EmpD) : ∀ {j : Nat} {P : HP V}, DI[j]? = some P → C P := by
  intro j P e
  have : ∀ Q ∈ DI, C Q := by
    unfold DI
    simp only [List.forall_mem_cons, List.not_mem_nil, false_implies, implies_true, and_true]
    exact ⟨h0 _, h0 _, h0 _, h0 _, h0 _, h0 _, h0 _, h1 _, h1 _, h2, h3, h0 _⟩
  exact this P (List.mem_of_getElem? e)
theorem mn_di {j : Nat} {P : HP V} (e : DI[j]? = some P) : Mn P := DI_all (C := Mn) (fun _ => mn_i) (fun _ => mn_tup) (mn_lf (mn_is (ys := [.int 3]))) mn_emp e
/-- all but the source as it was: the items too -/
theorem di_but {j : Nat} {P : HP V} (e : DI[j]? = some P) : ∀ {v : V} {H H' : Hp} {m : Addr} {i : Nat}, SrcAt H m i → But m H H' → P v H → P v H' := by
  intro v H H' m i hS hb
  obtain ⟨c, cs, n, r, k, hm, _⟩ := hS
  refine DI_all (C := fun P => P v H → P v H') (fun x h => h) (fun xs h => ?_) (fun h => ?_) (fun h => ?_) e
  · obtain ⟨p, rfl, hp⟩ := h
    exact ⟨p, rfl, hb _ _ hp fun z => by rw [z, hm] at hp; cases hp⟩
  · obtain ⟨p, xs, rfl, hp, fa⟩ := h
    refine ⟨p, xs, rfl, hb _ _ hp (fun z => by rw [z, hm] at hp; cases hp), ?_⟩
    have := fa.is (ys := [.int 3])
    rw [this]
    exact ⟨rfl, trivial⟩
  · obtain ⟨p, rfl, hp⟩ := h
    exact ⟨p, rfl, hb _ _ hp fun z => by rw [z, hm] at hp; cases hp⟩
theorem mn_src {H H' : Hp} {m : Addr} {i : Nat} (s : Same H H') (h : SrcAt H m i) : SrcAt H' m i := by
  obtain ⟨c, cs, n, r, k, h1, h2, h3⟩ := h
  exact ⟨c, cs, n, r, k, s _ _ h1, s _ _ h2, h3⟩
/-- what a value is to repr, isinstance -/
def NonL (K : PySem.W.Frag) (v : V) (H : Hp) : Prop := ∃ d t, d ∈ DD ∧ Dq K H v d ∧ TyX K H v t ∧ PySem.W.kitOne K t (.type "list") = some false
theorem nonl_of {K : PySem.W.Frag} {j : Nat} {P : HP V} {v : V} {H : Hp} (e : DI[j]? = some P) (h : P v H) : NonL K v H ∨ ∃ p, v = .ref p ∧ H p = some (.lst [.int 3]) := by
  have i0 : ∀ i : Int, PyData.int i ∈ DD → NonL K (.int i) H := fun i m => ⟨.int i, _, m, .int i, .base (.int i), kit_ty (by decide +kernel)⟩
  match j, e with
  | 0, e => cases e; cases h; exact .inl (i0 _ (by unfold DD; simp))
  | 1, e => cases e; cases h; exact .inl (i0 _ (by unfold DD; simp))
  | 2, e => cases e; cases h; exact .inl (i0 _ (by unfold DD; simp))
  | 3, e => cases e; cases h; exact .inl (i0 _ (by unfold DD; simp))
  | 4, e => cases e; cases h; exact .inl ⟨.none, _, by unfold DD; simp, .non, .base .non, kit_ty (by decide +kernel)⟩
  | 5, e => cases e; cases h; exact .inl ⟨.str "", _, by unfold DD; simp, .str _, .base (.str _), kit_ty (by decide +kernel)⟩
  | 6, e => cases e; cases h; exact .inl ⟨.str "root", _, by unfold DD; simp, .str _, .base (.str _), kit_ty (by decide +kernel)⟩
  | 7, e =>
    cases e
    obtain ⟨p, rfl, hp⟩ := h
    exact .inl ⟨.tuple [], _, by unfold DD; simp, .tup (.of hp) .nil, .base (.tup hp), kit_ty (by decide +kernel)⟩
  | 8, e =>
    cases e
    obtain ⟨p, rfl, hp⟩ := h
    exact .inl ⟨.tuple [.int 1, .int 2], _, by unfold DD; simp, .tup (.of hp) (.cons (.int _) (.cons (.int _) .nil)), .base (.tup hp), kit_ty (by decide +kernel)⟩
  | 9, e =>
    cases e
    obtain ⟨p, xs, rfl, hp, fa⟩ := h
    rw [fa.is (ys := [.int 3])] at hp
    exact .inr ⟨p, rfl, hp⟩
  | 10, e =>
    cases e
    obtain ⟨p, rfl, hp⟩ := h
    exact .inl ⟨.dict [], _, by unfold DD; simp, .emp hp, .base (.dK hp), kit_ty (by decide +kernel)⟩
  | 11, e => cases e; cases h; exact .inl ⟨.bool true, _, by unfold DD; simp, .bl _, .base (.bl _), kit_ty (by decide +kernel)⟩
  | n + 12, e => cases e
mutual
theorem Dq.same {K : PySem.W.Frag} {H H' : Hp} (s : Same H H') : ∀ {v : V} {d : PyData}, Dq K H v d → Dq K H' v d
  | _, _, .non => .non
  | _, _, .bl b => .bl b
  | _, _, .int i => .int i
  | _, _, .str x => .str x
  | _, _, .lst h g => .lst (s.seq h) (DqAll.same s g)
  | _, _, .tup h g => .tup (by
      rcases h with h | h
      · rcases h with h | ⟨o, h⟩
        · exact .inl (.inl (s _ _ h))
        · exact .inl (.inr ⟨o, s _ _ h⟩)
      · exact .inr h) (DqAll.same s g)
  | _, _, .emp h => .emp (s _ _ h)
theorem DqAll.same {K : PySem.W.Frag} {H H' : Hp} (s : Same H H') : ∀ {vs : List V} {ds : List PyData}, DqAll K H vs ds → DqAll K H' vs ds
  | _, _, .nil => .nil
  | _, _, .cons h g => .cons (Dq.same s h) (DqAll.same s g)
end
theorem shows : ∀ d ∈ DD, (PyData.list (List.replicate 17 d)).showable = true ∧ (PyData.list (List.replicate 17 d)).depth ≤ 60 ∧ (PyData.list (List.replicate 17 d)).shown.length ≤ sizeLine := by decide +kernel
theorem dq_rep {K : PySem.W.Frag} {H : Hp} {v : V} {d : PyData} (h : Dq K H v d) : ∀ n, DqAll K H (List.replicate n v) (List.replicate n d)
  | 0 => .nil
  | n + 1 => .cons h (dq_rep h n)
/-- repr of a list of 17 the same -/
theorem g_shown {K : PySem.W.Frag} {te : TE} {σ : L2.St} {H : Hp} {v : V} {d : PyData} (hd : Dq K H v d) (hm : d ∈ DD) (h : G te σ H (LF ((List.replicate 17 v).map Is))) : G (tCB (rRepr K) (tCons te tNil)) σ H (Is (.str (PyData.list (List.replicate 17 d)).shown)) := ⟨fun H1 e Q q =>
  h.ev H1 e _ fun x H2 s2 px => by
    obtain ⟨p, xs, rfl, hp, fa⟩ := px
    obtain rfl := fa.is
    obtain ⟨h1, h2, h3⟩ := shows d hm
    exact ⟨p, _, rfl, .lst (.of hp) (dq_rep (Dq.same (e.trans s2) hd) 17), h1, h2, h3, q _ _ s2 rfl⟩, mn_i⟩
theorem g_rep {σ : L2.St} {H : Hp} {v : V} {i : Nat} (h : σ[i]? = some (some v)) : G (tOp rRep (tLst (tCons (tVar i) tNil)) (tC (.int 17))) σ H (LF ((List.replicate 17 v).map Is)) := ⟨fun H1 e Q q =>
  ⟨v, h, (by decide : 1 ≤ sizeLine), fun p hp => ⟨p, 17, [v], rfl, rfl, upd_same, by decide, by decide, (by decide : 17 ≤ sizeLine), fun r hr => q _ _ ((same_new hp).trans (same_new hr)) ⟨r, _, rfl, upd_same, by
    have : ∀ ys : List V, Fa (ys.map Is) ys (upd (upd H1 p (.lst [v])) r (.lst (List.replicate (17 : Int).toNat [v]).flatten)) := fun ys => by
      induction ys with
      | nil => trivial
      | cons y ys ih => exact ⟨rfl, ih⟩
    exact this (List.replicate 17 v)⟩⟩⟩, mn_lf mn_is⟩
theorem g_neg {σ : L2.St} {H : Hp} {n : Int} : G (tUn (rU fun i => .int (-i)) (tC (.int n))) σ H (Is (.int (-n))) := ⟨fun H1 _ _ q => ⟨n, rfl, q _ H1 (Same.refl H1) rfl⟩, mn_i⟩
theorem g_tup0 {σ : L2.St} {H : Hp} : G (tTup tNil) σ H (TupP []) := ⟨fun H1 _ _ q => ⟨Nat.zero_le _, fun p hp => q _ _ (same_new hp) ⟨p, rfl, upd_same⟩⟩, mn_tup⟩
theorem g_tup2 {σ : L2.St} {H : Hp} {x y : V} : G (tTup (tCons (tC x) (tCons (tC y) tNil))) σ H (TupP [x, y]) := ⟨fun H1 _ _ q => ⟨(by decide : 2 ≤ sizeLine), fun p hp => q _ _ (same_new hp) ⟨p, rfl, upd_same⟩⟩, mn_tup⟩
theorem g_emp {σ : L2.St} {H : Hp} : G tDNewK σ H EmpD := ⟨fun H1 _ _ q => fun p hp => q _ _ (same_new hp) ⟨p, rfl, upd_same⟩, mn_emp⟩
theorem fa_get' : ∀ {Ps : List (HP V)} {vs : List V} {H : Hp} {n : Nat} {v : V}, Fa Ps vs H → vs[n]? = some v → ∃ P, Ps[n]? = some P ∧ P v H
  | _ :: _, _ :: _, _, 0, _, h, e => ⟨_, rfl, by cases e; exact h.1⟩
  | _ :: _, _ :: _, _, n + 1, _, h, e => fa_get' (n := n) h.2 e
  | [], _ :: _, _, _, _, h, _ => h.elim
  | [], [], _, _, _, _, e => by cases e
  | _ :: _, [], _, _, _, h, _ => h.elim
theorem et_neS {ta tb : TE} {σ : L2.St} {H : Hp} {x : Str} (ha : G ta σ H (Is (.str x))) (hb : G tb σ H (Is (.str x))) : EvT (tTest (tOp rNe ta tb)) σ H false := fun H1 e _ q =>
  ha.ev H1 e _ fun a H2 s2 pa => hb.ev H2 (e.trans s2) _ fun c H3 s3 pc => by
    obtain rfl : a = .str x := pa
    obtain rfl : c = .str x := pc
    exact ⟨rfl, false, by simp, q _ (s2.trans s3)⟩
theorem et_not {tt : TT} {σ : L2.St} {H : Hp} {b : Bool} (h : EvT tt σ H b) : EvT (tNot tt) σ H (!b) := fun H1 e _ q => h H1 e _ fun H2 s => q H2 s
theorem law_tail {K : PySem.W.Frag} {D : Ends} {σ : L2.St} {H4 : Hp} {v v4 : V} {d : PyData} (h3 : σ[3]? = some (some v)) (h4 : σ[4]? = some (some v4)) (hmd : Made K v v4 H4) (hd : d ∈ DD) (hq : Dq K H4 v d) (hn : ∀ H', Same H4 H' → D.nx σ H') :
    tSeq (tIfS (tOr (tTest (tOp rNe (tCB (rRepr K) (tCons (tCall (spStored K) [] E0 (tCons (tVar 4) tNil)) tNil)) (tCB (rRepr K) (tCons (tOp rRep (tLst (tCons (tVar 3) tNil)) (tC (.int 17))) tNil))))
        (tTest (tOp rNe (tCB (rRepr K) (tCons (tCall spNamed [] E0 (tCons (tVar 3) tNil)) tNil)) (tCB (rRepr K) (tCons (tOp rRep (tLst (tCons (tVar 3) tNil)) (tC (.int 17))) tNil))))) (tRet (tC (.bl false))) tNext)
      (tIfS (tNot (tB (tCall (spRight K) [] E0 (tCons (tVar 4) tNil)))) (tRet (tC (.bl false))) tNext) D σ H4 := by
  refine s_no (et_or0 (et_neS (g_shown hq hd (g_call1 (g_var h4) (fun H1 s Q k => ⟨v4, v, rfl, mn_made _ _ _ s hmd, k⟩) (mn_lf mn_is))) (g_shown hq hd (g_rep h3))) (et_neS (g_shown hq hd (g_call1 (g_var h3) (fun H1 s Q k => ⟨v, rfl, k⟩) (mn_lf mn_is))) (g_shown hq hd (g_rep h3)))) fun H5 s5 => ?_
  refine s_no (et_not (b := true) (et_val (g_call1 (P := Is (.bl true)) (g_var h4) (fun H1 s Q k => ⟨v4, v, rfl, mn_made _ _ _ s (mn_made _ _ _ s5 hmd), fun H' s' => k _ H' s' rfl⟩) mn_i))) fun H6 s6 => ?_
  exact hn H6 (s5.trans s6)
/-- what was made stands where only the list of one is another -/
theorem xp_but {K : PySem.W.Frag} {y v : V} {n : Nat} {H H' : Hp} {p : Addr} {zs : List V} (hp : H p = some (.lst zs)) (hb : But p H H') (h : XP K y n v H) : XP K y n v H' := by
  have ne : ∀ {a : Addr} {o : HO}, H a = some o → (∀ us, o ≠ .lst us) → H' a = some o := fun {a o} ha hno => hb _ _ ha fun z => by
    rw [z, hp] at ha
    cases ha
    exact hno _ rfl
  unfold XP at h ⊢
  generalize exFld.getD n none = fo at h ⊢
  cases fo with
  | none =>
    obtain ⟨e, rfl, h⟩ := h
    exact ⟨e, rfl, ne h fun us z => nomatch z⟩
  | some f =>
    obtain ⟨e, dx, rfl, h1, h2⟩ := h
    exact ⟨e, dx, rfl, ne h1 (fun us z => nomatch z), ne h2 (fun us z => nomatch z)⟩
theorem fa_but {H H' : Hp} : ∀ {Ps : List (HP V)} {vs : List V}, (∀ P ∈ Ps, ∀ v, P v H → P v H') → Fa Ps vs H → Fa Ps vs H'
  | [], [], _, _ => trivial
  | _ :: _, _ :: _, k, h => ⟨k _ List.mem_cons_self _ h.1, fa_but (fun P m => k P (List.mem_cons_of_mem _ m)) h.2⟩
  | [], _ :: _, _, h => h.elim
  | _ :: _, [], _, h => h.elim
/-- lists whose first is an object -/
theorem lf_but {H H' : Hp} {p : Addr} {i : Int} {zs : List V} {P : HP V} {Ps : List (HP V)} (hp : H p = some (.lst (.int i :: zs))) (hb : But p H H') (hr : ∀ v, P v H → ∃ a, v = .ref a) (k : ∀ Q ∈ P :: Ps, ∀ v, Q v H → Q v H') {v : V} (h : LF (P :: Ps) v H) : LF (P :: Ps) v H' := by
  obtain ⟨q, xs, rfl, hq, fa⟩ := h
  refine ⟨q, xs, rfl, hb _ _ hq fun z => ?_, fa_but k fa⟩
  rw [z, hp] at hq
  cases hq
  obtain ⟨a, e⟩ := hr _ fa.1
  cases e
theorem xp_ref {K : PySem.W.Frag} {y : V} {n : Nat} {H : Hp} (v : V) (h : XP K y n v H) : ∃ a, v = .ref a := by
  obtain ⟨e, q, _⟩ := xp_at h
  exact ⟨e, q⟩
theorem made_but {K : PySem.W.Frag} {y v : V} {H H' : Hp} {p : Addr} {i : Int} {zs : List V} (hp : H p = some (.lst (.int i :: zs))) (hb : But p H H') (h : Made K y v H) : Made K y v H' := by
  have gr : ∀ Ns : List Nat, ∀ Q ∈ Ns.map (XP K y), ∀ v, Q v H → Q v H' := fun Ns Q m v hv => by
    obtain ⟨n, _, rfl⟩ := List.mem_map.mp m
    exact xp_but hp hb hv
  refine lf_but hp hb (fun v ⟨q, _, e, _⟩ => ⟨q, e⟩) (fun Q m v hv => ?_) h
  simp only [List.mem_cons, List.not_mem_nil, or_false] at m
  rcases m with rfl | rfl | rfl
  · exact lf_but hp hb xp_ref (gr [0, 1, 2, 3, 4, 5, 6, 7, 8, 9, 10]) hv
  · exact lf_but hp hb xp_ref (gr [11, 12, 13, 14, 15]) hv
  · exact lf_but hp hb xp_ref (gr [16, 17, 18]) hv
section
variable {P : Program} {w : World} {K : PySem.W.Frag} {mg : Str → Option Value} {base : Heap}
theorem ok_law (T : Env K mg) : FnG P w K mg base CX0 4 (He.fAd K d_law.at_) T.fd_law ["cells"] (spLaw K) := by
  have G_L_source : FnOk P w K mg base CX0 1 _ _ _ _ := ok_source T
  have G_L_pick : FnOk P w K mg base CX0 2 _ _ _ _ := ok_pick T
  have G_L_made : FnOk P w K mg base CX0 3 _ _ _ _ := ok_made T
  have G_L_stored : FnOk P w K mg base CX0 1 _ _ _ _ := ok_stored T
  have G_L_named : FnOk P w K mg base CX0 3 _ _ _ _ := ok_named T
  have G_L_families_right : FnOk P w K mg base CX0 2 _ _ _ _ := ok_families_right T
  refine FnG.of T.F_law sc_law (fun vs H Q E h => ?_) (fun cdv A outer s H vs Q E hr hgd h => ?_)
  · obtain ⟨a, ns, rfl, _⟩ := h
    rfl
  · have nd := sc_law.nd
    obtain ⟨a, ns, rfl, hS, hl, k⟩ := h
    refine ⟨_, PSs.nox (pss_cons (ps_set (i := 1) nd rfl (Or.inl rfl) (pe_call G_L_source (hr.mono (by decide)) (by rfl) T.g__law_source T.F_L_source.kp T.bi_L_source .nil pass0 (pa_cons (pv 0) pa_nil)))
 (pss_cons (ps_for PassesOwn.never rfl (pi_range1 (by rfl) T.b_range (pa_cons pe_int pa_nil)) (pg_name (i := 2) nd rfl (Or.inl rfl))
  (pss_cons (ps_set (i := 3) nd rfl (Or.inl rfl) (pe_call G_L_pick (hr.mono (by decide)) (by rfl) T.g__law_pick T.F_L_pick.kp T.bi_L_pick .nil pass0 (pa_cons (pv 1) (pa_cons (pe_lst (pa_cons pe_int (pa_cons pe_int (pa_cons (pe_un un_neg pe_int) (pa_cons (pe_op op_pow pe_int pe_int) (pa_cons pe_non (pa_cons pe_str (pa_cons pe_str (pa_cons (pe_tup pa_nil) (pa_cons (pe_tup (pa_cons pe_int (pa_cons pe_int pa_nil))) (pa_cons (pe_lst (pa_cons pe_int pa_nil)) (pa_cons pe_dnewK (pa_cons pe_bl pa_nil))))))))))))) pa_nil))))
 (pss_cons (ps_set (i := 4) nd rfl (Or.inl rfl) (pe_call G_L_made (hr.mono (by decide)) (by rfl) T.g__law_made T.F_L_made.kp T.bi_L_made .nil pass0 (pa_cons (pv 3) pa_nil)))
 (pss_cons (ps_if (pt_val (pe_callB call_isi (by rfl) T.b_isinstance (by decide +kernel) (pa_cons (pv 3) (pa_cons (pe_bltnT (n := "list") (by rfl) T.b_list (by decide +kernel)) pa_nil))))
  (pss_one (ps_expr (pe_bm PySem.F.plainAttrs_list PySem.F.slot_list_append PySem.F.type_list_append mt_append (pv 3) (pa_cons (pe_callB call_len_seq (by rfl) T.b_len (by decide +kernel) (pa_cons (pv 3) pa_nil)) pa_nil))))
  pss_nil)
 (pss_cons (ps_if (PW.pt (pw_or (pt_cmpR op_ne (pe_callB (call_reprQ T.sys hgd hr.units) (by rfl) T.b_repr (by decide +kernel) (pa_cons (pe_call G_L_stored (hr.mono (by decide)) (by rfl) T.g__law_stored T.F_L_stored.kp T.bi_L_stored .nil pass0 (pa_cons (pv 4) pa_nil)) pa_nil)) (pe_callB (call_reprQ T.sys hgd hr.units) (by rfl) T.b_repr (by decide +kernel) (pa_cons (pe_op op_rep (pe_lst (pa_cons (pv 3) pa_nil)) pe_int) pa_nil)) (nomark _)) (pw_or1 (pt_cmpR op_ne (pe_callB (call_reprQ T.sys hgd hr.units) (by rfl) T.b_repr (by decide +kernel) (pa_cons (pe_call G_L_named (hr.mono (by decide)) (by rfl) T.g__law_named T.F_L_named.kp T.bi_L_named .nil pass0 (pa_cons (pv 3) pa_nil)) pa_nil)) (pe_callB (call_reprQ T.sys hgd hr.units) (by rfl) T.b_repr (by decide +kernel) (pa_cons (pe_op op_rep (pe_lst (pa_cons (pv 3) pa_nil)) pe_int) pa_nil)) (nomark _)))))
  (pss_one (ps_ret pe_bl))
  pss_nil)
 (pss_one (ps_if (pt_not (pt_val (pe_call G_L_families_right (hr.mono (by decide)) (by rfl) T.g__law_families_right T.F_L_families_right.kp T.bi_L_families_right .nil pass0 (pa_cons (pv 4) pa_nil))))
  (pss_one (ps_ret pe_bl))
  pss_nil)))))))
 (pss_one (ps_ret pe_bl)))), ?_⟩
    refine ⟨_, rfl, a, ns, rfl, hS, hl, fun m H1 hm s1 hsrc => ?_⟩
    refine ⟨3, rfl, by decide, by decide, ?_⟩
    refine for_range (fun i σ H' => ∃ a2 a3 a4, σ = [some (.ref a), some (.ref m), a2, a3, a4] ∧ SrcAt H' m i) ⟨_, _, _, rfl, hsrc⟩ (fun i σ H1 hi q => ?_) (fun σ H1 q => k H1)
    obtain ⟨a2, a3, a4, rfl, hsrc⟩ := q
    refine ⟨_, rfl, ?_⟩
    refine (g_lst (ga_cons g_c (ga_cons g_c (ga_cons g_neg (ga_cons (ev_g fun _ _ => ev_iI ev_c ev_c ⟨by decide, by decide, by decide⟩) (ga_cons g_c (ga_cons g_c (ga_cons g_c (ga_cons g_tup0 (ga_cons g_tup2 (ga_cons (g_lst (ga_cons g_c ga_nil)) (ga_cons g_emp (ga_cons g_c ga_nil))))))))))))).ev H1 (Same.refl _) _ fun v2 H2 s2 q2 => ?_
    obtain ⟨l, xs, rfl, hl2, fa⟩ := q2
    replace hsrc := mn_src s2 hsrc
    refine ⟨m, l, xs, i, rfl, hl2, fun z => ?_, ?_, hsrc, by omega, fun z => ?_, fun j v H3 hj hb hsrc3 => ?_⟩
    · have := fa.len
      rw [z] at this
      cases this
    · rw [fa.len]
      decide
    · obtain ⟨_, _, _, _, _, h1, _⟩ := hsrc
      rw [z, h1] at hl2
      cases hl2
    obtain ⟨Pj, hPj, pv⟩ := fa_get' fa hj
    replace pv := di_but hPj hsrc hb pv
    refine g_asg (g_call1 (g_var rfl) (fun H1 s Q k => ⟨v, rfl, k⟩) mn_made) fun v4 H4 s4 hmd => ?_
    replace pv := mn_di hPj _ _ _ s4 pv
    replace hsrc3 := mn_src s4 hsrc3
    dsimp only
    rcases nonl_of hPj pv with ⟨d, t, hd, hq, ht, hk⟩ | ⟨p, rfl, hp⟩
    · refine st_if (b := false) (fun Q q => ⟨_, rfl, v, .ty "list", t, .type "list", false, rfl, .ty _, ht, hk, false, rfl, q⟩) ?_
      exact law_tail rfl rfl hmd hd hq fun H' s' => ⟨_, _, _, rfl, mn_src s' hsrc3⟩
    · refine st_if (b := true) (fun Q q => ⟨_, rfl, .ref p, .ty "list", .type "list", .type "list", true, rfl, .ty _, .base (.lst hp), kit_ty (by decide +kernel), true, rfl, q⟩) ?_
      refine ⟨_, rfl, .inl ⟨rfl, _, .of hp⟩, _, rfl, p, [.int 3], rfl, .inl (.of hp), p, [.int 3], .int 1, rfl, rfl, hp, by decide, ?_⟩
      have bb : But p H4 (upd H4 p (.lst [.int 3, .int 1])) := fun b o e hne => by rw [upd_ne hne]; exact e
      refine law_tail (d := .list [.int 3, .int 1]) rfl rfl (made_but hp bb hmd) (by unfold DD; simp) (.lst (.of upd_same) (.cons (.int _) (.cons (.int _) .nil))) fun H' s' => ⟨_, _, _, rfl, mn_src s' ?_⟩
      obtain ⟨c, cs, n, r, kk, h1, h2, h3, h4⟩ := hsrc3
      have hm' := bb _ _ h1 (fun z => by
        rw [z, hp] at h1
        cases h1)
      by_cases z : c = p
      · rw [z] at hm'
        exact ⟨p, [3, 1], n, r, kk, hm', upd_same, by decide, by decide, h4.2⟩
      · exact ⟨c, cs, n, r, kk, hm', bb _ _ h2 z, h3, h4⟩
end
end W87

set_option Elab.async false
set_option linter.all false
set_option maxRecDepth 100000
set_option maxHeartbeats 0
namespace W87
open PySem PySem.Spec PyProof.Rows L2 WXE WXG WEv WRd WLf
theorem facts {P : Program} {w : World} {K : PySem.W.Frag} {h : Heap} {mg : Str → Option Value} {f : Addr} (X : K.In h) (G : h.Ns mainGlobals mg) (hfa : mg ("law" : Str) = some (.ref f)) (c : WHd.SaysW chk fns K) :
    ∃ fd : FuncData, (∀ (s : Shared) (v : Value), BindsTo s fd ⟨[v], []⟩ [("cells", v)]) ∧ ∀ base : Heap, K.In base → base.Ns mainGlobals mg → FnG P w K mg base CX0 4 f fd ["cells"] (spLaw K) := by
  obtain ⟨T⟩ := env_of X G c
  have e := hfa.symm.trans T.g_law
  have ef : f = He.fAd K d_law.at_ := by
    injection e with e
    injection e
  subst ef
  have b := FunD.bindsA (ps := ["cells"]) T.F_law fun _ _ _ _ _ _ us hl => match us, hl with | [_], _ => rfl
  exact ⟨T.fd_law, fun s v => b s [v] rfl, fun base _ _ => ok_law T⟩
end W87
open PySem PySem.W PySem.Calls PyProof.Rows
theorem PySem.Challenge.cw_watchtree_k87_errors_by_hand_holds : PySem.Challenge.rw_watchtree_k87_errors_by_hand.Holds := by
  w_on; o_law
  refine HandSHeadRun.head_any (r := OpenLaw.row PySem.Challenge.rw_watchtree_k87_errors_by_hand) (q := view (OpenLaw.row PySem.Challenge.rw_watchtree_k87_errors_by_hand).prog [32]) (H := W87.hk) (ob := W87.ob) (M := 6000) (loose := W87.loose) (d := HandSHeadRun.topDef (OpenLaw.row PySem.Challenge.rw_watchtree_k87_errors_by_hand).prog 32) (kwd := []) W87.ob_eq
    (by kernel_rfl) (fun s => by kernel_rfl) W87.run (by kernel_rfl) (by kernel_rfl) (by kernel_rfl) (by rfl) (by first | assumption | decide +kernel) (by decide +kernel) ⟨rfl, rfl, rfl, rfl, rfl, by decide +kernel⟩ ?hw ?hc
  case hw => w_witness2
  case hc =>
    refine WXG.walk_G (l := PySem.Challenge.rw_watchtree_k87_errors_by_hand) (n := 63) (k := 4) (x := "cells") (CX := L2.CX0) rfl (by decide) (by kernel_rfl) ⟨rfl, by decide, by decide⟩ ?F (fun _ _ _ _ z => z)
    intro w mg fa h Y G hmg0
    obtain ⟨K, KX, c⟩ := Y
    have hmg : mg ("law" : PySem.Str) = some (.ref fa) := by
      have e : (HandSHeadRun.topDef (OpenLaw.row PySem.Challenge.rw_watchtree_k87_errors_by_hand).prog 32).name = ("law" : PySem.Str) := by kernel_rfl
      rw [← e]
      exact hmg0
    obtain ⟨fd, hb, hF⟩ := W87.facts (P := (PySem.Challenge.rw_watchtree_k87_errors_by_hand).prog) (w := w) KX G hmg c
    exact ⟨K, fd, W87.spLaw K, KX, hb, fun H a ns hl _ hS => ⟨a, ns, rfl, hS, hl, fun _ => rfl⟩, hF⟩
