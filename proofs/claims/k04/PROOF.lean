import PyProof.Rows.All
import Wide.All
import OpenK.AllK
import Wide.FinOn
import HandS.ForMost
import HandS.Exc
import HandS.Defaults
import HandS.HeadHook1
import HandS.HeadHook2
import HandS.HeadHook3
import HandS.HeadHook4
import HandS.HeadNt
import PySem.Challenge.RW_drawstate_k04_whole_scripts_step_by_step
import KE.KExcInit
import HandS.ExcInit
import HandS.ExcCtx
import HandS.ClsMeth
import HandS.Property
import HandS.IsInst
import HandS.Lambda
import HandS.Flow
import KE.KOpsOwn
import PyProof.ReprRoads
import PyProof.ReprLen
import HandS.List
import HandS.Hot
import HandS.HotCalls
import HandS.Comp
import HandS.ExcIs
import HandS.ExcField
import HandS.Head0
import HandS.Head1
import HandS.Head2
import KE.KStateDown
import HandS.Words
import HandS.WordsList
import HandS.WordsExc
import PyProof.EqLayable
import PyProof.P3Eq
import HandS.Dict
import HandS.GenBody
import HandS.GenYield
import HandS.GenCall
import HandS.GenList
import PyProof.GenComp
import HandS.TupAny
import HandS.Walk
import HandS.HeadWalk
import HandS.NestedK
set_option Elab.async false
set_option linter.all false
set_option maxRecDepth 100000
set_option maxHeartbeats 4000000
/-! The text by places. -/
namespace L2.Lw
open PySem
abbrev prg : Program := PySem.Challenge.pw_drawstate_k04_whole_scripts_step_by_step
abbrev rwl : PySem.W.OpenLaw := PySem.Challenge.rw_drawstate_k04_whole_scripts_step_by_step
def top (i : Nat) : Stmt := prg.main.body.getD i (.Pass ⟨0, 0, 0, 0⟩)
abbrev sIniState : Stmt := inClass (top 2) 0
abbrev sIniSteps : Stmt := inClass (top 3) 0
abbrev sIniSeed : Stmt := inClass (top 4) 0
abbrev sIniExh : Stmt := inClass (top 6) 0
abbrev sIsInteger : Stmt := top 11
abbrev sIsWord : Stmt := top 12
abbrev sNeedSteps : Stmt := top 17
abbrev sNeedMany : Stmt := top 18
abbrev sIsScript : Stmt := top 20
abbrev sNeedState : Stmt := top 21
abbrev sAfter : Stmt := top 22
abbrev sBefore : Stmt := top 23
abbrev sInit : Stmt := inClass (top 24) 1
abbrev sNextWord : Stmt := inClass (top 24) 2
abbrev sWords : Stmt := inClass (top 24) 3
abbrev sState : Stmt := inClass (top 24) 4
abbrev sLeft : Stmt := inClass (top 24) 6
abbrev sSetState : Stmt := inClass (top 24) 7
abbrev sJump : Stmt := inClass (top 24) 8
abbrev sBack : Stmt := inClass (top 24) 9
abbrev sAhead : Stmt := inClass (top 24) 10
abbrev sBehind : Stmt := inClass (top 24) 11
abbrev sRsh : Stmt := inClass (top 24) 12
abbrev sLsh : Stmt := inClass (top 24) 13
abbrev sCopy : Stmt := inClass (top 24) 14
abbrev sSame : Stmt := inClass (top 24) 15
abbrev sAtState : Stmt := inClass (top 24) 16
abbrev sSeeded : Stmt := inClass (top 24) 17
abbrev sStAfter : Stmt := inClass (top 24) 18
abbrev sMixed : Stmt := top 26
abbrev sDraw : Stmt := top 27
abbrev sDigit : Stmt := top 28
abbrev sTold : Stmt := top 29
abbrev sSteps : Stmt := top 30
abbrev sIsSteps : Stmt := top 31
abbrev sMoved : Stmt := top 32
abbrev sNewRight : Stmt := top 33
abbrev sCallRight : Stmt := top 34
abbrev sLaw : Stmt := top 35
/-! ### addresses by names -/
section
variable (K : PySem.W.Frag)
abbrev aC : Addr := He.ga K "Scripted"
abbrev aState : Addr := He.ga K "BadState"
abbrev aSteps : Addr := He.ga K "BadSteps"
abbrev aSeed : Addr := He.ga K "BadSeed"
abbrev aExh : Addr := He.ga K "Exhausted"
abbrev aDraw : Addr := He.ga K "DrawError"
abbrev aShort : Addr := He.ga K "Shortage"
/-- a method of Scripted -/
abbrev aM (m : Str) : Addr := He.ma K (aC K) m
/-- the def behind a property, a classmethod, a staticmethod of Scripted -/
abbrev aW (T : String) (m : Str) : Addr := He5.wf K (aC K) T m
end
end L2.Lw

set_option maxHeartbeats 4000000
/-! Own errors whose __init__ calls the base's __init__ with a text and stores one field: made, in the dialect that knows the context to be None. -/
namespace L2.Lw
open PySem PySem.Spec PyProof.Rows

/-- what the written part says of such an error class -/
structure XB (K : PySem.W.Frag) (C : Addr) (bmB : List Value) (newId : String) : Prop where
  ini : PySem.W.excInitIn K C bmB newId = true
  ovr : PySem.W.excOver K C bmB = true
  dct : PySem.W.hasDictIn K C = true
  sa : PySem.W.findIn K (.ref C) "__setattr__" = some (some (.builtin "object.__setattr__"))
  exC : PySem.W.subIn K (.ref C) (.type "BaseException") = some true
  tyC : PySem.W.typeIn K (.ref C) = some (.type "type")
  kC : PySem.W.keepIn K (.ref C) = true

section
open Builtin Builtin.ObjectAttr
variable {prog : Program} {w : World} {A : Around} {R : Result → Shared → Prop} {hp : Heap} {g : Array GenState} {d : Drawn} {t : Nat} {os : OsState}
/-- the first store of a field into an error without a dict -/
theorem xb_store {K : PySem.W.Frag} {name : Str} {tk : Tok} {v : Value} {x C : Addr} {fv : Array Value} {bmB : List Value} {newId B : String} (T : XB K C bmB newId) (SF : StoreFacts B bmB "object.__setattr__" "object")
    (X : K.In hp) (hx : hp.get? x = some { cls := .ref C, data := .fields fv }) (ha : PySem.W.findIn K (.ref C) name = some none)
    (hq : ∀ h' tk' dx, (∀ b o, b ≠ x → hp.get? b = some o → h'.get? b = some o) → hp.objs.size ≤ dx → dx ≠ x → h'.get? x = some { cls := .ref C, dict := some dx, data := .fields fv } →
      h'.Ns1 dx (fun y => if y = name then some v else none) → R (.ok (.ret .none)) ⟨h', g, d, tk', os⟩) :
    codeAny (model prog w) A (.call (.builtin "object.__setattr__") ⟨[.ref x, .str name tk, v], []⟩) R ⟨hp, g, d, t, os⟩ := by
  have hxs : x ≠ hp.objs.size := Nat.ne_of_lt (Heap.lt_size hx)
  obtain ⟨cd, hcd, hdct⟩ := PySem.W.any_some T.dct
  have hcls : PySem.W.Looks (model prog w) hp (classData C) cd := PySem.W.looks_clsIn X hcd
  refine PySem.W.osa_openX (s := ⟨hp, g, d, t, os⟩) (r := none) (od := none) SF X ⟨hx, rfl, rfl, trivial⟩ T.ovr (NoAttr.taker ha) fun b => ?_
  show wpAny _ _ (storeInOwnDict (.ref x) (.ref C) (.str name tk) name v b) _ _ _
  obtain ⟨nm, bs, mro, ns, qn, hd, sn, sb, ab, col, del⟩ := cd
  dsimp only at hdct
  subst hdct
  unfold storeInOwnDict ownDictForStores
  repeat (first | with_reducible refine PySem.HandSPX.store_in_new ?_ ?_ | with_reducible refine wpAny_loadPart_at hx ?_ | with_reducible refine hcls.at ?_ | wp_step)
  · exact ⟨_, #[], _, (Heap.get?_update_ne _ _ _ _ hxs.symm).trans (Heap.get?_push_at rfl rfl), rfl, fun e he => absurd he (by simp), fun _ => rfl⟩
  · intro h' tk' hn' hs
    have hx1 : (hp.push { cls := .type "dict", data := .dict #[] }).get? x = some { cls := .ref C, data := .fields fv } := Heap.get?_push_of_some _ hx
    refine hq h' tk' hp.objs.size (fun b o hb ho => ?_) (Nat.le_refl _) hxs.symm ?_ hn'
    · exact (hs.2 b (Nat.ne_of_lt (Heap.lt_size ho))).trans ((Heap.get?_update_ne _ _ _ _ hb).trans (Heap.get?_push_of_some _ ho))
    · exact (hs.2 x hxs).trans (Heap.get?_update_self _ hx1 rfl)
end

section
variable {X : Cx} {pins : List (Addr × Obj)} {σ : St} {H : Hp} {s : Shared} {a C dx : Addr} {f : Str} {y : V} {u : Value} {Q : Unit → Shared → Prop} {E : Value → Shared → Prop} {A : Around} {bmB : List Value} {B newId initId : String}
/-- self.f = y, the first one -/
theorem xb_set (T : XB X.K C bmB newId) (SF : StoreFacts B bmB "object.__setattr__" "object") (I : Inv X pins σ H s) (e : H a = some (exo a C none)) (hno : PySem.W.findIn X.K (.ref C) f = some none) (ry : RelV y u)
    (h : ∀ dx s', H dx = none → dx ≠ a → Inv X pins σ (upd (upd H dx (exd dx [(f, y)])) a (exo a C (some dx))) s' → Q () s') : wpAny (model X.prog X.w) A (setAttr (.ref a) f u) Q E s := by
  obtain ⟨t1, ho⟩ := exo_at I.hok e
  obtain ⟨hp, g, d, t, os⟩ := s
  refine PySem.W.set_plain I.kIn (ox := { cls := .ref C, dict := none, data := .fields #[.ref t1, .none, .none, .none, .bool false, .none] }) (od := none) ⟨ho, rfl, rfl, trivial⟩ T.sa ?_
  refine xb_store T SF I.kIn ho hno (fun h' tk' dx k dn dne hx hn => ?_)
  have hnd : H dx = none := I.hok.fresh dn
  have nd : ∀ {b : Addr} {o : Obj}, hp.get? b = some o → b ≠ dx := fun {b o} q => Nat.ne_of_lt (Nat.lt_of_lt_of_le (Heap.lt_size q) dn)
  have na : ∀ {b : Addr}, H b = none → b ≠ a := fun {b} n z => by
    rw [z, e] at n
    cases n
  have un : Un X.fs [] H (upd (upd H dx (exd dx [(f, y)])) a (exo a C (some dx))) hp h' := by
    refine ⟨fun b o q n _ _ => k b o (na n) q, fun b o q n _ _ => ⟨o.slots, k b o (na n) q⟩, fun b o q n _ => ?_, fun b o q _ => ?_, fun b xs q => ?_, fun b o v q => ?_, fun b ps q => ⟨#[], ?_⟩⟩
    · rw [upd_ne (na n), upd_ne (nd q)]; exact n
    · by_cases hb : b = a
      · exact ⟨_, by rw [hb]; exact hx⟩
      · exact ⟨o, k b o hb q⟩
    · rw [upd_ne (at_ne e q exo_tup), upd_ne (ne_of_none q hnd)]; exact q
    · rw [upd_ne (at_ne e q exo_frz), upd_ne (ne_of_none q hnd)]; exact q
    · rw [upd_ne (at_ne e q exo_tbl), upd_ne (ne_of_none q hnd), q]; simp
  refine h dx _ hnd dne (I.un (t' := tk') un fun b o q => ?_)
  by_cases hb : b = a
  · subst hb
    rw [upd_same] at q
    cases q
    exact exo_ok hx
  · rw [upd_ne hb] at q
    by_cases hd : b = dx
    · subst hd
      rw [upd_same] at q
      cases q
      exact exd_ok hn (relO_put (fs := []) ry fun g => True.intro)
    · rw [upd_ne hd] at q
      refine (I.hok b o q).stay (fun c v hc z => k c v ?_ z) (fun c hc => ?_) (fun c xs hc => ?_)
      · rcases hc with hc | hc
        · rw [hc]; exact hb
        · exact at_ne e hc exo_own
      · rw [upd_ne (at_ne e hc exo_own), upd_ne (ne_of_none hc hnd)]; exact hc
      · rw [upd_ne (at_ne e hc exo_tup), upd_ne (ne_of_none hc hnd)]; exact hc
/-- Base.__init__(self, ..): the args are laid anew, nothing of it is told -/
theorem xb_init {us : List Value} {Q : Value → Shared → Prop} (FB : ExcBaseFacts B newId initId bmB) (T : XB X.K C bmB newId) (I : Inv X pins σ H s) (e : H a = some (exo a C none)) (hl : us.length ≤ sizeLine) (h : ∀ s', Inv X pins σ H s' → Q .none s') :
    wpAny (model X.prog X.w) A (call (.builtin initId) (.ref a :: us)) Q E s := by
  obtain ⟨nm, N, qn, bs, bm, hdct, sn, sub, ab, col, dd, k0, k1, k2, k3, k5, hC, hT⟩ := PySem.W.excInit_of I.kIn T.ini
  obtain ⟨t1, ho⟩ := exo_at I.hok e
  obtain ⟨hp, g, d, t, os⟩ := s
  refine wpAny_call (PySem.HandSPX.init_base FB hT hC ho hl fun h' t2 k hx => ?_)
  have J := I.write (t' := t) (x := a) (e := a) (o := exo a C none) (by rw [e]; exact True.intro) (.inl rfl) k ⟨_, hx⟩ (exo_ok hx)
  have eu : upd H a (exo a C none) = H := by
    funext b
    by_cases hb : b = a
    · rw [hb, upd_same, e]
    · rw [upd_ne hb]
  rw [eu] at J
  exact h _ J
end

/-! ### readings and rules -/
/-- Base.__init__(self, ..) through the name of an own class D -/
def tXI (K : PySem.W.Frag) (bmB : List Value) (newId : String) (ta : TA) : TE := fun σ H Q => ta σ H fun vs H1 => ∃ (a C : Addr) (ws : List V), vs = .ref a :: ws ∧ ws.length ≤ 1000 ∧ XB K C bmB newId ∧ H1 a = some (exo a C none) ∧ Q .non H1
/-- self.f = e, the first store -/
def tXS (K : PySem.W.Frag) (bmB : List Value) (newId : String) (f : Str) (to te : TE) : TS := fun D σ H => te σ H fun y H1 => to σ H1 fun x H2 => ∃ a C : Addr, x = .ref a ∧ XB K C bmB newId ∧ PySem.W.findIn K (.ref C) f = some none ∧
  H2 a = some (exo a C none) ∧ ∀ dx, H2 dx = none → dx ≠ a → D.nx σ (upd (upd H2 dx (exd dx [(f, y)])) a (exo a C (some dx)))
section
variable {X : Cx} {o e : Expr} {es : List Expr} {to te : TE} {ta : TA} {f : Str} {p p' p1 p2 pos : Pos} {D : Addr} {x : Str} {bmB : List Value} {B newId initId : String}
theorem pe_xinit {pl : Sem Bool} (FB : ExcBaseFacts B newId initId bmB) (hg : Gl X x) (hm : X.mg x = some (.ref D)) (r : ClX.CRead X.K D (.type "type")) (hv : PySem.W.findCls X.K (.ref D) (.type "type") "__init__" = some (.val (.builtin initId))) (ha : PA X (e :: es) ta)
    (hid : PySem.W.handedIn (.builtin initId) = true := by decide +kernel)
    (hdb : (x == ("__debug__" : Str)) = false := by decide)
    (hc : eval (.Call (.Attribute (.Name x p1) "__init__" p2) (e :: es) [] pos) X.env = (do
      let ov ← eval (.Name x p1) X.env
      standAt p2.atName
      let (f, first) ← holding [ov] (getMethod ov "__init__" pl)
      callWith pos f first (backTo pos (starEach (e :: es) X.env)) (backToKw pos (keywordEach [] X.env))) := by rfl)
    (he : starEach (e :: es) X.env = (false, eval e X.env) :: starEach es X.env := by rfl) (hpl : (backTo pos (starEach es X.env)).any (·.1) = false := by rfl) :
    PE X (.Call (.Attribute (.Name x p1) "__init__" p2) (e :: es) [] pos) (tXI X.K bmB newId ta) := by
  refine ⟨fun pins s σ H Q I h => ?_⟩
  refine PySem.W.methodCall_KW (ld_glob I hg hm ?_ hdb) hc
  refine PySem.W.method_cls I.kIn r.ga (PySem.W.cls_value I.kIn r.rd hv hid ?_)
  show wpAny _ _ (callWith pos (Value.builtin initId) [] (backTo pos (starEach (e :: es) X.env)) []) _ _ _
  refine PyProof.Rows.callWith_method1 (thn (ha.run pos pins _ σ H _ (I.tok _) h) fun us s1 ⟨vs, H1, I1, r1, a, C, ws, ev, hl, T, ea, q⟩ => ?_) he hpl
  subst ev
  cases r1 with
  | @cons _ u0 _ ur ra rw' =>
    obtain rfl : u0 = Value.ref a := ra
    have hlen : ur.length ≤ sizeLine := by
      rw [← Paired.length rw', sizeLine_eq]
      omega
    exact xb_init FB T I1 ea hlen fun s' J => ⟨.non, H1, J, rfl, q⟩
theorem ps_xset (SF : StoreFacts B bmB "object.__setattr__" "object") (ho : PE X o to) (he : PE X e te) (hs : swapsWith e (some (.Attribute o f p')) pos.line X.env = pure false := by rfl) : PS X (.Assign [.Attribute o f p'] e pos) (tXS X.K bmB newId f to te) := by
  refine ⟨fun pins s σ H D I h => ?_⟩
  refine plainObj_wpAny_Assign_Attribute (thn (he.run pins s σ H _ I h) fun v s1 ⟨y, H1, I1, r1, q1⟩ => thn (ho.run pins s1 σ H1 _ I1 q1) fun u s2 ⟨x, H2, I2, r2, a, C, ex, T, hno, ea, q⟩ => ?_) hs
  subst ex
  obtain rfl : u = Value.ref a := r2
  exact xb_set T SF I2 ea hno r1 fun dx s' n ne J => ⟨σ, _, J, q dx n ne⟩
end

/-- the promise of such an __init__(self, given) -/
def spX (C : Addr) (f : Str) : Sp := fun vs H Q _ => ∃ (a : Addr) (v : V), vs = [.ref a, v] ∧ H a = some (exo a C none) ∧ ∀ d, H d = none → d ≠ a → Q .non (upd (upd H d (exd d [(f, v)])) a (exo a C (some d)))
/-- C(e) -/
def tMkX (C : Addr) (f : Str) (te : TE) : St → Hp → XK → Prop := fun σ H Q => te σ H fun v H1 => ∀ d, H1 d = none → Q (.ref C) (some d) (upd H1 d (.xd [(f, v)]))
section
variable {X : Cx} {e : Expr} {te : TE} {f x : Str} {p pos : Pos} {C fI : Addr} {k : Nat} {fd : FuncData} {ps : List Str} {bmB : List Value} {B newId initId : String}
theorem pmk_x (FB : ExcBaseFacts B newId initId bmB) (T : XB X.K C bmB newId) (iC : PySem.W.findIn X.K (.ref C) "__init__" = some (some (.ref fI))) (tI : PySem.W.typeIn X.K (.ref fI) = some (.type "function"))
    (F1 : FnOk X.prog X.w X.K X.mg X.base CX0 k fI fd ps (spX C f)) (hr : Room (k + 1) X.A) (hb : Binds X.K fd ps []) (hg : Gl X x) (hm : X.mg x = some (.ref C)) (he : PE X e te)
    (hdb : (x == ("__debug__" : Str)) = false := by decide) (hs : starEach [e] X.env = (false, eval e X.env) :: starEach [] X.env := by rfl) :
    L2N.PMk X (.Call (.Name x p) [e] [] pos) (tMkX C f te) := by
  intro pins s σ H Q I h
  refine wpAny_Call_Name_kw (ld_glob I hg hm ?_ hdb)
  refine PySem.W.callWith_K (h₀ := X.base) I.ok.mod.kin T.kC ?_ hs (by rfl)
  rw [hs]
  show wpAny _ _ (spliced ((false, eval e X.env) :: backTo pos (starEach [] X.env))) _ _ s
  refine Calls.spliced_cons (thn (he.run pins s σ H _ I h) fun u s1 ⟨v, H1, I1, rv, q1⟩ => ?_)
  refine Calls.spliced_nil ⟨I1.kIn, ?_⟩
  show wpAny _ _ (call (.ref C) [u]) _ _ _
  obtain ⟨nm, N, qn, bs, bm, hdct, sn, sub, ab, col, dd, k0, k1, k2, k3, k5, hC, hT⟩ := PySem.W.excInit_of I1.kIn T.ini
  obtain ⟨hp, g, dr, tk, os⟩ := s1
  have hsz : hp.objs.size ≤ hp.objs.size + 1 := Nat.le_succ _
  have hn : H1 (hp.objs.size + 1) = none := I1.hok.fresh hsz
  have kk : ∀ b o, hp.get? b = some o → ((hp.push (PySem.W.kdv_tup [u])).push (PySem.HandSPX.excO C hp.objs.size)).get? b = some o := fun b o e => Heap.get?_push_of_some _ (Heap.get?_push_of_some _ e)
  have hget : ((hp.push (PySem.W.kdv_tup [u])).push (PySem.HandSPX.excO C hp.objs.size)).get? (hp.objs.size + 1) = some (PySem.HandSPX.excO C hp.objs.size) := by heap_get
  have I2 : Inv X pins σ (upd H1 (hp.objs.size + 1) (exo (hp.objs.size + 1) C none)) ⟨(hp.push (PySem.W.kdv_tup [u])).push (PySem.HandSPX.excO C hp.objs.size), g, dr, tk, os⟩ :=
    I1.laid (t' := tk) kk hsz (exo_ok hget)
  have r2 : Vals [V.ref (hp.objs.size + 1), v] [Value.ref (hp.objs.size + 1), u] := .cons rfl (.cons rv .nil)
  -- what is wanted behind __init__
  have hsp : spX C f [.ref (hp.objs.size + 1), v] (upd H1 (hp.objs.size + 1) (exo (hp.objs.size + 1) C none)) (fun r H2 => r = .non ∧ ∃ d : Addr, H2 (hp.objs.size + 1) = some (exo (hp.objs.size + 1) C (some d)) ∧ H2 d = some (exd d [(f, v)]) ∧
      H1 d = none ∧ upd (del H2 (hp.objs.size + 1)) d (.xd [(f, v)]) = upd H1 d (.xd [(f, v)])) (fun _ _ _ => False) := by
    refine ⟨_, _, rfl, upd_same, fun d hd hne => ⟨rfl, d, upd_same, by rw [upd_ne hne, upd_same], ?_, ?_⟩⟩
    · rw [upd_ne hne] at hd; exact hd
    · funext b
      by_cases h1 : b = d
      · subst h1; rw [upd_same, upd_same]
      · rw [upd_ne h1, upd_ne h1]
        by_cases h2 : b = hp.objs.size + 1
        · subst h2; rw [del_same]; exact hn.symm
        · rw [del_ne h2, upd_ne h2, upd_ne h1, upd_ne h2]
  have hl : (([Value.ref (hp.objs.size + 1), u] : List Value) ++ []).length = ps.length := by
    have e := F1.len _ _ _ _ hsp
    rw [List.append_nil]
    exact e
  have b2 := hb _ [Value.ref (hp.objs.size + 1), u] I2.kIn hl
  rw [List.append_nil] at b2
  refine wpAny_call (PySem.HandSPX.call_own FB hT hC (PySem.W.looks_findIn I1.kIn iC) (fun self => PySem.W.bind_fn I1.kIn self tI) (by show 1 ≤ sizeLine; rw [sizeLine_eq]; omega)
    (codeAny_mono (F1.run _ X.stack _ _ ⟨[Value.ref (hp.objs.size + 1), u], []⟩ [Value.ref (hp.objs.size + 1), u] _ _ (fun _ _ _ => False) (hr.make C [u] []) (I2.env0.make C [u] []) b2 r2 hsp) fun r s' hq' => ?_))
  cases r with
  | error er => exact (show False from hq').elim
  | ok fl =>
    cases fl with
    | ret u' =>
      obtain ⟨v', H2, os2, bare2, un2, hok2, rv', ev, d, ea, ed, hd1, eH⟩ := hq'
      subst ev
      obtain ⟨h2, g2, d2, t2, os'⟩ := s'
      obtain ⟨t0, G, J, kG, ge, hoe, na⟩ := mk_end0 (d2 := d2) (t2 := t2) I1 hsz kk un2 hok2 os2 bare2 ea ed hd1
      rw [eH] at J na
      refine ⟨rv', hp.objs.size + 1, _, _, ⟨G, g2, d2, t2, os'⟩, _, .ref C, some d, rfl, J, kG, ge, hoe, ⟨rfl, rfl, fun vs hv => ?_⟩, rfl, rfl, na, rfl, bare2, raises_own T.exC T.tyC, q1 d hd1⟩
      cases hv
      rfl
    | next => exact False.elim hq'
    | brk => exact False.elim hq'
    | cont => exact False.elim hq'
end
end L2.Lw

set_option maxHeartbeats 4000000
/-! Own rules: o.f as a part of a tuple target, a staticmethod off its class, cls(..), o >> n by an own method, promises that know the guards. -/
namespace L2.Lw
open PySem PySem.Spec PyProof.Rows

/-! ### o.f = .. as a target -/
def gFld (K : PySem.W.Frag) (to : TE) (f : Str) : TG := fun v σ H Q => to σ H fun x H1 => ∃ a C dx fs, x = .ref a ∧ H1 a = some (.ins C dx fs) ∧ Cls K C ∧ NoAttr K C f ∧ fs.length < 1000 ∧ Q σ (upd H1 a (.ins C dx (putF f v fs)))
theorem pg_fld {X : Cx} {o : Expr} {f : Str} {pos : Pos} {to : TE} (ho : PE X o to)
    (ha : ∀ v, assign (.Attribute o f pos) X.env v = (do
      let ov ← holding [v] (eval o X.env)
      standAt pos.atName
      holding [v, ov] (setAttr ov f v)
      release [v, ov] []) := by intro _; rfl) : PG X (.Attribute o f pos) (gFld X.K to f) := by
  refine ⟨fun pins s σ H v u Q I r h => ?_⟩
  rw [ha]
  refine wpAny_bind (wpAny_holding (thn (ho.run pins s σ H _ I h) fun ov s1 ⟨x, H1, I1, r1, a, C, dx, fs, ex, ea, c, n, hl, q1⟩ => ?_))
  subst ex
  obtain rfl : ov = Value.ref a := r1
  refine wpAny_bind (wpAny_standAt (wpAny_bind (wpAny_holding (setattr_ok I1 ea c n hl r fun s3 I3 => ?_))))
  exact wpAny_release ⟨σ, _, I3, q1⟩

/-! ### a promise that knows what guards stand around (none) -/
structure FnG (P : Program) (w : World) (K : PySem.W.Frag) (mg : Str → Option Value) (base : Heap) (CX : CXT) (k : Nat) (f : Addr) (fd : FuncData) (ps : List Str) (sp : Sp) : Prop where
  len : ∀ vs H Q E, sp vs H Q E → vs.length = ps.length
  run : ∀ (A : Around) (outer : List Env) (s : Shared) (H : Hp) (args : Args) (us : List Value) (vs : List V) (Q : VK) (E : XK), A.guards = some [] → Room k A → Env0 P w K mg base A outer s H → BindsTo s fd args (ps.zip us) → Vals vs us → sp vs H Q E →
    codeAny (model P w) A (.call (.ref f) args) (CR CX outer P w H s Q E) s
theorem guards_deeper {A : Around} {env : Env} (h : A.guards = some []) : (A.deeper env).guards = some [] := by
  first
    | exact h
    | (show (A.deeper env).guards = some []; simp [Around.deeper, Around.over, h])
section
variable {P : Program} {w : World} {K : PySem.W.Frag} {mg : Str → Option Value} {base : Heap}
theorem FunD.okG {CX : CXT} {x qual : Str} {params : Arguments} {body : List Stmt} {scope : Scope} {dvs : List V} {kws : List (Str × V)} {f : Addr} {fd : FuncData} {N ps : List Str} {k : Nat} {sp : Sp} (F : FunD K x qual params body scope dvs kws f fd) (S : FnScope N ps scope)
    (len : ∀ vs H Q E, sp vs H Q E → vs.length = ps.length)
    (hbody : ∀ (cdv : Value) (A : Around) (outer : List Env) (s : Shared) (H : Hp) (vs : List V) (Q : VK) (E : XK), fd.code = cdv → A.guards = some [] → Room k (A.deeper (envOfC qual scope s.heap.objs.size f cdv)) → sp vs H Q E →
      ∃ t, PSs (cxOf CX P w K mg base N qual scope f cdv A outer s H E) body t ∧ t { nx := fun _ H' => Q .non H', rt := Q } (start N vs) H) : FnG P w K mg base CX (k + 1) f fd ps sp := by
  obtain ⟨oc, od, dV, kV, doc, pm, an, cdv, ct, osl, rfl, lk, hcd, _, _⟩ := F.ex
  refine ⟨len, fun A outer s H args us vs Q E hg hr e0 hb r hsp => ?_⟩
  exact LamX.run_ofS lk hcd S hr e0 hb r (len _ _ _ _ hsp) fun hr' => hbody cdv A outer s H vs Q E rfl hg hr' hsp
end
section
variable {X : Cx} {CX : CXT} {k : Nat} {f C : Addr} {fd : FuncData} {ps : List Str} {sp : Sp} {dvs : List V} {ds : List Value} {E : XK} {x m : Str} {p pos apos : Pos} {e o : Expr} {es : List Expr} {ta : TE} {t : TA}
theorem run_fnG {pins : List (Addr × Obj)} {σ : St} {H : Hp} {s : Shared} {Q : VK} {us : List Value} {vs : List V} (F : FnG X.prog X.w X.K X.mg X.base CX k f fd ps sp) (hg : X.A.guards = some []) (hr : Room k X.A) (hb : Binds X.K fd ps ds) (hd : Vals dvs ds) (hx : Passes CX X E)
    (I : Inv X pins σ H s) (r : Vals vs us) (h : sp (vs ++ dvs) H Q E) : wpAny (model X.prog X.w) X.A (call (.ref f) us) (EP X pins σ Q) X.xe s := by
  have r2 : Vals (vs ++ dvs) (us ++ ds) := r.append hd
  have hl : (us ++ ds).length = ps.length := r2.length.symm.trans (F.len _ _ _ _ h)
  refine wpAny_call (codeAny_mono (F.run X.A X.stack s H ⟨us, []⟩ (us ++ ds) (vs ++ dvs) Q E hg hr I.env0 (hb s us I.kIn hl) r2 h) fun r s' hq => ?_)
  cases r with
  | error e => exact hx pins σ H s e s' I hq
  | ok fl =>
    cases fl with
    | ret u => exact I.after hq
    | next => exact False.elim hq
    | brk => exact False.elim hq
    | cont => exact False.elim hq
theorem pe_callG (F : FnG X.prog X.w X.K X.mg X.base CX k f fd ps sp) (hgu : X.A.guards = some []) (hr : Room k X.A) (hg : Gl X x) (hm : X.mg x = some (.ref f)) (hk : PySem.W.keepIn X.K (.ref f) = true) (hb : Binds X.K fd ps ds) (hd : Vals dvs ds) (hx : Passes CX X E)
    (ha : PA X (e :: es) t) (hdb : (x == ("__debug__" : Str)) = false := by decide) (he : starEach (e :: es) X.env = (false, eval e X.env) :: starEach es X.env := by rfl) (hpl : (backTo pos (starEach es X.env)).any (·.1) = false := by rfl) :
    PE X (.Call (.Name x p) (e :: es) [] pos) (tCall sp dvs E t) := by
  refine ⟨fun pins s σ H Q I h => ?_⟩
  refine wpAny_Call_Name_kw (ld_glob I hg hm ?_ hdb)
  refine PySem.W.callWith_K (h₀ := X.base) I.ok.mod.kin hk (thn (ha.run pos pins s σ H _ I h) fun us s1 ⟨vs, H1, I1, r, q⟩ => ⟨I1.kIn, ?_⟩) he hpl
  exact run_fnG F hgu hr hb hd hx I1 r q

/-! ### a staticmethod, read off its class -/
structure SMet (K : PySem.W.Frag) (C : Addr) (mc : Value) (m : Str) (p g : Addr) : Prop where
  at_ : PySem.W.findCls K (.ref C) mc m = some (.get (.builtin "staticmethod.__get__") (.ref p) .none (.ref C))
  rc : ∃ rest, PySem.W.recIn K p "staticmethod" = some (.ref g :: rest)
  kp : PySem.W.keepIn K (.ref g) = true
def tSMeth (C : Addr) (sp : Sp) (E : XK) (ta : TE) (t : TA) : TE := fun σ H Q => ta σ H fun x H1 => x = .ref C ∧ t σ H1 fun vs H2 => sp vs H2 Q E
theorem pe_smeth {g q : Addr} {mc : Value} {pl : Sem Bool} (he : PE X o ta) (r : ClX.CRead X.K C mc) (c : SMet X.K C mc m q g) (F : FnR X.prog X.w X.K X.mg X.base CX k g sp) (hr : Room k X.A) (hx : Passes CX X E) (ha : PA X (e :: es) t)
    (hst : starEach (e :: es) X.env = (false, eval e X.env) :: starEach es X.env := by rfl) (hpl : (backTo pos (starEach es X.env)).any (·.1) = false := by rfl)
    (ht : eval (.Call (.Attribute o m apos) (e :: es) [] pos) X.env = (do
      let ov ← eval o X.env
      standAt apos.atName
      let (f, first) ← holding [ov] (getMethod ov m pl)
      callWith pos f first (backTo pos (starEach (e :: es) X.env)) (backToKw pos (keywordEach [] X.env))) := by rfl) :
    PE X (.Call (.Attribute o m apos) (e :: es) [] pos) (tSMeth C sp E ta t) := by
  refine ⟨fun pins s σ H Q I h => ?_⟩
  refine PySem.W.methodCall_KW (pl := pl) (thn (he.run pins s σ H _ I h) fun u s1 ⟨x, H1, I1, rx, ex, q1⟩ => ?_) ht
  subst ex
  obtain rfl : u = Value.ref C := rx
  obtain ⟨rest, hp⟩ := c.rc
  refine PySem.W.method_cls I1.kIn r.ga (PySem.W.cls_bind I1.kIn r.rd c.at_ (wpAny_call (PySem.W.sm_get (s := { s1 with toks := s1.toks + 1 }) I1.kIn hp ?_)))
  refine PySem.W.handed_on rfl ?_
  have I2 := I1.tok (s1.toks + 1)
  refine PySem.W.callWith_K (h₀ := X.base) I.ok.mod.kin c.kp (thn (ha.run pos pins _ σ H1 _ I2 q1) fun us s3 ⟨vs, H2, I3, rv, q2⟩ => ⟨I3.kIn, ?_⟩) hst hpl
  exact wpAny_call (run_fnR F hr hx I3 rv q2)

/-! ### cls(..): the name holds the class -/
theorem pe_makeL {i : Nat} (M : Mk X.K C f) (F : FnOk X.prog X.w X.K X.mg X.base CX k f fd ps sp) (hr : Room (k + 1) X.A) (hN : X.N[i]? = some x) (hv : Vis X.env.scope x) (hb : Binds X.K fd ps ds) (hd : Vals dvs ds) (hx : Passes CX X E)
    (ha : PA X (e :: es) t) (hdb : (x == ("__debug__" : Str)) = false := by decide) (hcd : (x == ("__classdict__" : Str)) = false := by decide)
    (he : starEach (e :: es) X.env = (false, eval e X.env) :: starEach es X.env := by rfl) (hpl : (backTo pos (starEach es X.env)).any (·.1) = false := by rfl) :
    PE X (.Call (.Name x p) (e :: es) [] pos) (fun σ H Q => σ[i]? = some (some (.ref C)) ∧ tMake C sp dvs E t σ H Q) := by
  refine ⟨fun pins s σ H Q I h => ?_⟩
  obtain ⟨hs, ht⟩ := h
  refine wpAny_Call_Name_kw (thn ((pe_var (pos := p) hN hv hdb hcd).run pins s σ H (fun v H1 => v = .ref C ∧ H1 = H) I ⟨.ref C, hs, rfl, rfl⟩) fun u s1 ⟨v, H1, I1, r1, q1⟩ => ?_)
  obtain ⟨rfl, rfl⟩ := q1
  obtain rfl : u = Value.ref C := r1
  refine PySem.W.callWith_K (h₀ := X.base) I.ok.mod.kin M.kp (thn (ha.run pos pins s1 σ _ _ I1 ht) fun us s2 ⟨vs, H2, I2, r, q⟩ => ⟨I2.kIn, ?_⟩) he hpl
  exact run_make M F hr hb hd hx I2 r q
end

/-! ### o op y by an own method, y an int, a bool, None or a text -/
def Scl : V → Prop
  | .int _ | .bl _ | .non | .str _ => True
  | _ => False
structure OpT (K : PySem.W.Frag) (C : Addr) (nm T : String) : Prop where
  h1 : ∃ fo, PySem.W.findIn K (.type T) (PySem.dunder nm) = some fo
  h2 : ∃ ro, PySem.W.findIn K (.type T) (PySem.dunderR nm) = some ro
  sub : PySem.W.subIn K (.type T) (.ref C) = some false
structure OpF (K : PySem.W.Frag) (C f : Addr) (nm : String) : Prop where
  fst : PySem.W.selfFirst K C = true
  m : PySem.W.findIn K (.ref C) (PySem.dunder nm) = some (some (.ref f))
  fn : PySem.W.isFn K (.ref f) = true
  rr : PySem.W.findIn K (.ref C) (PySem.dunderR nm) = some none
  int : OpT K C nm "int"
  bl : OpT K C nm "bool"
  non : OpT K C nm "NoneType"
  str : OpT K C nm "str"
section
variable {X : Cx} {CX : CXT} {k : Nat} {f C : Addr} {fd : FuncData} {ps : List Str} {sp : Sp} {E : XK} {pos : Pos} {a b : Expr} {ta tb : TE}
theorem relV_back {v : V} {u : Value} {Q : Value → Shared → Prop} {s : Shared} (r : RelV v u) (q : Q u s) : PySem.W.CmpBack Q u s := by
  cases v with
  | non => cases (show u = Value.none from r); exact q
  | bl y => cases (show u = Value.bool y from r); exact q
  | int i => obtain ⟨t, e⟩ := (show ∃ t, u = Value.int i t from r); cases e; exact q
  | str y => obtain ⟨t, e⟩ := (show ∃ t, u = Value.str y t from r); cases e; exact q
  | byt y => obtain ⟨t, e⟩ := (show ∃ t, u = Value.bytes y t from r); cases e; exact q
  | flt y => obtain ⟨t, e⟩ := (show ∃ t, u = Value.float y t from r); cases e; exact q
  | ref a => cases (show u = Value.ref a from r); exact q
  | ty n => cases (show u = Value.type n from r); exact q
theorem pe_ownop {op : Operator} (O : OpF X.K C f op.info.2) (F : FnOk X.prog X.w X.K X.mg X.base CX k f fd ps sp) (hr : Room k X.A) (hb : Binds X.K fd ps []) (hx : Passes CX X E) (ha : PE X a ta) (hb' : PE X b tb) :
    PE X (.BinOp a op b pos) (fun σ H Q => ta σ H fun x H1 => tb σ H1 fun y H2 => ∃ c dx fs, x = .ref c ∧ H2 c = some (.ins C dx fs) ∧ Scl y ∧ sp [x, y] H2 Q E) := by
  refine ⟨fun pins s σ H Q I h => ?_⟩
  refine wpAny_BinOp (binT ha hb' I h fun v u s2 x y H2 I2 rx ry q => ?_)
  obtain ⟨c, dx, fs, ex, ec, sc, q⟩ := q
  subst ex
  obtain rfl : v = Value.ref c := rx
  obtain ⟨mA, Ob, _, _, _, _⟩ := ins_get I2.hok ec
  obtain ⟨od, J, _⟩ := Ob.look
  obtain ⟨m0, fr⟩ := I2.fr
  have go : wpAny (model X.prog X.w) X.A (call (.ref f) [.ref c, u]) (PySem.W.CmpBack (EP X pins σ Q)) X.xe s2 := by
    have z := run_fn (us := [.ref c, u]) (vs := [.ref c, y]) F hr hb .nil hx I2 (.cons rfl (.cons ry .nil)) q
    exact thn z fun u' s' hv => by
      obtain ⟨v', H', I', r', q'⟩ := hv
      exact relV_back r' ⟨v', H', I', r', q'⟩
  have fin : ∀ {T : String}, OpT X.K C op.info.2 T → typeOf u = pure (.type T) → wpAny (model X.prog X.w) X.A (binaryOp op (.ref c) u) (EP X pins σ Q) X.xe s2 := fun {T} o hT => by
    obtain ⟨fo, h1⟩ := o.h1
    obtain ⟨ro, h2⟩ := o.h2
    exact PySem.W.ksp_binT fr I2.ok.mod.kin J hT O.fst O.m O.fn O.rr (.inl rfl) h1 h2 o.sub go
  cases y with
  | int i => obtain ⟨t, e⟩ := (show ∃ t, u = Value.int i t from ry); cases e; exact fin O.int rfl
  | bl y => cases (show u = Value.bool y from ry); exact fin O.bl rfl
  | non => cases (show u = Value.none from ry); exact fin O.non rfl
  | str y => obtain ⟨t, e⟩ := (show ∃ t, u = Value.str y t from ry); cases e; exact fin O.str rfl
  | _ => exact sc.elim
end
end L2.Lw

set_option maxHeartbeats 4000000
/-! repr of data: none, bools, ints, texts, tuples of them. -/
namespace L2.Lw
open PySem PySem.Spec PyProof.Rows

/-- data that repr can show here -/
structure Sh (d : PyData) : Prop where
  sh : d.showable = true
  nd : d.hasDict = false
  dp : d.depth ≤ 8
  sz : d.shown.length ≤ sizeLine
def rRepr (K : PySem.W.Frag) : List V → Hp → VK → Prop := fun xs H Q => ∃ v d, xs = [v] ∧ Dp K H v d ∧ Sh d ∧ Q (.str d.shown) H
theorem call_repr {X : Cx} (hg : X.A.guards = some []) (hu : X.A.units + 20 < cLine) : CallR X (.builtin "repr") (rRepr X.K) := by
  intro pins s σ H xs us Q I r h
  obtain ⟨v, d, rfl, hd, hs, q⟩ := h
  obtain ⟨u, rfl, ru⟩ := vals1 r
  obtain ⟨as, rd⟩ := Dp.reads I d v u hd ru
  have hdp := hs.dp
  cases hd with
  | non =>
    obtain rfl : u = Value.none := ru
    exact PySem.P.repr_of_none ⟨.str _, H, I.tok _, ⟨_, rfl⟩, q⟩
  | bl b =>
    obtain rfl : u = Value.bool b := ru
    refine PySem.P.repr_of_bool ⟨.str _, H, I.tok _, ⟨_, rfl⟩, ?_⟩
    have e : PyData.shown (.bool b) = (if b then Str.ofString "True" else Str.ofString "False") := by
      simp only [PyData.shown]
      try (cases b <;> rfl)
    rw [← e]
    exact q
  | int i =>
    obtain ⟨t, rfl⟩ := ru
    have z : i.natAbs.log2 < 1920 := by
      have := hs.sh
      simpa only [PyData.showable, decide_eq_true_eq] using this
    exact PySem.P.repr_of_int z ⟨.str _, H, I.tok _, ⟨_, rfl⟩, q⟩
  | str x =>
    obtain ⟨t, rfl⟩ := ru
    exact PySem.P.repr_of_str (hsz := hs.sz) ⟨.str _, H, I.tok _, ⟨_, rfl⟩, q⟩
  | lst h1 h2 =>
    obtain rfl := ru
    exact repr_of_reads' rd hs.sh (PyData.noDict_hsm hs.nd) hg (by omega) (fun _ _ e => e) (fun h' u tk hk => ⟨.str _, H, I.kept hk, ⟨_, rfl⟩, q⟩) hs.sz
  | tup h1 h2 =>
    obtain rfl := ru
    exact repr_of_reads' rd hs.sh (PyData.noDict_hsm hs.nd) hg (by omega) (fun _ _ e => e) (fun h' u tk hk => ⟨.str _, H, I.kept hk, ⟨_, rfl⟩, q⟩) hs.sz

/-- the same of a scalar, whatever guards stand -/
def rReprS (K : PySem.W.Frag) : List V → Hp → VK → Prop := fun xs H Q => ∃ v d, xs = [v] ∧ (∀ a, v ≠ .ref a) ∧ Dp K H v d ∧ Sh d ∧ Q (.str d.shown) H
theorem call_reprS {X : Cx} : CallR X (.builtin "repr") (rReprS X.K) := by
  intro pins s σ H xs us Q I r h
  obtain ⟨v, d, rfl, hv, hd, hs, q⟩ := h
  obtain ⟨u, rfl, ru⟩ := vals1 r
  cases hd with
  | non =>
    obtain rfl : u = Value.none := ru
    exact PySem.P.repr_of_none ⟨.str _, H, I.tok _, ⟨_, rfl⟩, q⟩
  | bl b =>
    obtain rfl : u = Value.bool b := ru
    refine PySem.P.repr_of_bool ⟨.str _, H, I.tok _, ⟨_, rfl⟩, ?_⟩
    have e : PyData.shown (.bool b) = (if b then Str.ofString "True" else Str.ofString "False") := by
      simp only [PyData.shown]
      try (cases b <;> rfl)
    rw [← e]
    exact q
  | int i =>
    obtain ⟨t, rfl⟩ := ru
    have z : i.natAbs.log2 < 1920 := by
      have := hs.sh
      simpa only [PyData.showable, decide_eq_true_eq] using this
    exact PySem.P.repr_of_int z ⟨.str _, H, I.tok _, ⟨_, rfl⟩, q⟩
  | str x =>
    obtain ⟨t, rfl⟩ := ru
    exact PySem.P.repr_of_str (hsz := hs.sz) ⟨.str _, H, I.tok _, ⟨_, rfl⟩, q⟩
  | lst h1 h2 => exact absurd rfl (hv _)
  | tup h1 h2 => exact absurd rfl (hv _)

/-! ### what is small -/
def smI (i : Int) : Prop := i.natAbs < 2 ^ 70
theorem smI_len {i : Int} (h : smI i) : (PyData.shown (.int i)).length ≤ 80 := by
  have hz : i.natAbs.log2 < 70 := by
    by_cases h0 : i.natAbs = 0
    · rw [h0]; decide
    · exact (Nat.log2_lt h0).mpr h
  have e := int_text_length_le (k := 70) (by decide) hz
  show (Str.ofString (toString i)).length ≤ 80
  rw [PySem.ofString_length]
  omega
theorem smI_log {i : Int} (h : smI i) : i.natAbs.log2 < 70 := by
  by_cases h0 : i.natAbs = 0
  · rw [h0]; decide
  · exact (Nat.log2_lt h0).mpr h
/-- a scalar that is small -/
def smD : PyData → Prop
  | .none | .bool _ => True
  | .int i => smI i
  | _ => False
theorem smD_facts : ∀ {d : PyData}, smD d → d.showable = true ∧ d.hasDict = false ∧ d.depth = 0 ∧ d.leavesShort 80 = true ∧ d.weight ≤ 100
  | .none, _ => ⟨rfl, rfl, rfl, rfl, Nat.zero_le _⟩
  | .bool _, _ => ⟨rfl, rfl, rfl, rfl, Nat.zero_le _⟩
  | .int i, h => by
    have h1 := smI_len h
    have h2 := smI_log h
    refine ⟨by simp only [PyData.showable, decide_eq_true_eq]; omega, rfl, rfl, by simp only [PyData.leavesShort, decide_eq_true_eq]; exact h1, ?_⟩
    show (if i == 0 then 0 else i.natAbs.log2 + 1) ≤ 100
    split <;> omega
theorem smAll_facts : ∀ {ds : List PyData}, (∀ d ∈ ds, smD d) → PyData.showableAll ds = true ∧ PyData.hasDictAll ds = false ∧ PyData.depthAll ds = 0 ∧ PyData.leavesShortAll 80 ds = true ∧ PyData.weightAll ds ≤ 101 * ds.length
  | [], _ => ⟨rfl, rfl, rfl, rfl, Nat.zero_le _⟩
  | d :: ds, h => by
    obtain ⟨a1, a2, a3, a4, a5⟩ := smD_facts (h d List.mem_cons_self)
    obtain ⟨b1, b2, b3, b4, b5⟩ := smAll_facts (ds := ds) fun x hx => h x (List.mem_cons_of_mem _ hx)
    refine ⟨by simp [PyData.showableAll, a1, b1], by simp [PyData.hasDictAll, a2, b2], by simp [PyData.depthAll, a3, b3], by simp [PyData.leavesShortAll, a4, b4], ?_⟩
    simp only [PyData.weightAll, List.length_cons]
    omega
theorem sh_sm {d : PyData} (h : smD d) : Sh d := by
  obtain ⟨a1, a2, a3, a4, a5⟩ := smD_facts h
  refine ⟨a1, a2, by omega, ?_⟩
  have e := PyData.shown_le 80 (by decide) d a4
  rw [sizeLine_eq]
  omega
theorem sh_one : Sh (.str "1") := ⟨rfl, rfl, by decide, by rw [sizeLine_eq]; decide +kernel⟩
theorem sh_tup {ds : List PyData} (h : ∀ d ∈ ds, smD d) (hl : ds.length ≤ 100) : Sh (.tuple ds) := by
  obtain ⟨b1, b2, b3, b4, b5⟩ := smAll_facts h
  refine ⟨by simpa [PyData.showable] using b1, by simpa [PyData.hasDict] using b2, by simp [PyData.depth, b3], ?_⟩
  have e := PyData.shown_le 80 (by decide) (.tuple ds) (by simpa [PyData.leavesShort] using b4)
  have e2 : (PyData.tuple ds).weight = PyData.weightAll ds := rfl
  rw [sizeLine_eq]
  omega
theorem sh_state {ds : List PyData} {p : PyData} (h : ∀ d ∈ ds, smD d) (hl : ds.length ≤ 100) (hp : smD p) : Sh (.tuple [.tuple ds, p]) := by
  obtain ⟨b1, b2, b3, b4, b5⟩ := smAll_facts h
  obtain ⟨a1, a2, a3, a4, a5⟩ := smD_facts hp
  refine ⟨by simp [PyData.showable, PyData.showableAll, a1, b1], by simp [PyData.hasDict, PyData.hasDictAll, a2, b2], by simp [PyData.depth, PyData.depthAll, a3, b3], ?_⟩
  have e := PyData.shown_le 80 (by decide) (.tuple [.tuple ds, p]) (by simp [PyData.leavesShort, PyData.leavesShortAll, a4, b4])
  have e2 : (PyData.tuple [.tuple ds, p]).weight = PyData.weightAll ds + 1 + (p.weight + 1 + 0) := rfl
  rw [sizeLine_eq]
  omega
end L2.Lw

set_option maxHeartbeats 4000000
/-! A list comprehension over a list of tuples, within an except suite. -/
namespace L2.Lw
open PySem PySem.Spec PyProof.Rows HotX

section
variable {prog : Program} {w : World} {A : Around} {E : Value → Shared → Prop} {s : Shared}
theorem next_list_end_hot {it l x1 : Addr} {i : Nat} {items : Array Value} {Q : Option Value → Shared → Prop} (hot : HotAt A x1 s.heap)
    (hit : s.heap.IsListIter it l i) (hl : s.heap.IsList l items) (hx : items[i]? = none)
    (hQ : ∀ h', Heap.ExtBut it s.heap h' → Q none { s with heap := h' }) : wpAny (model prog w) A (pyNext (.ref it)) Q E s := by
  obtain ⟨hh, o1, vs1, h1, d1, c1⟩ := hot
  obtain ⟨o, ho, hc, hd⟩ := id hit
  have hne : it ≠ x1 := fun z => by
    rw [← z, ho] at h1
    cases h1
    rw [hd] at d1
    cases d1
    simp at c1
  obtain ⟨ol, hol, _, nl, hdl⟩ := hl
  unfold pyNext
  refine wpAny_bind (wpAny_attempt (wpAny_callSpecial?_slot (name := Str.ofString "__next__") hit.typeIs slot_listiter_next
    (wpAny_call_entry slot_listiter_next hit.typeIs entry_listiter_next ?_ (args_listiter_next _))))
  show wpAny _ _ (field (.ref it) 0 >>= _) _ _ s
  refine wpAny_bind (wpAny_field ho hd (x := .ref l) rfl ?_)
  show wpAny _ _ (if (Value.ref l == Value.none) = true then _ else _) _ _ s
  rw [if_neg (show ¬ ((Value.ref l == Value.none) = true) from Bool.false_ne_true)]
  show wpAny _ _ (field (.ref it) 1 >>= _) _ _ s
  refine wpAny_bind (wpAny_field ho hd (x := .int i 0) rfl ?_)
  show wpAny _ _ (seqItems? (.ref l) >>= _) _ _ s
  refine wpAny_bind (wpAny_seqItems hol hdl ?_)
  simp only [Int.toNat_natCast, hx]
  refine wpAny_bind (wpAny_rule (wpAny_bind (wpAny_setField ho hd (by simp) ?_)))
  show wpAny _ _ (newExc (.type "StopIteration") [] >>= _) _ _ _
  refine wpAny_bind ?_
  simp only [newExc, newTuple]
  refine wpAny_bind (wpAny_newObj_type ?_ (by size_fits))
  refine wpAny_bind (m := firstArgMember _ _) (wpAny_of_eq (a := Value.none) (by first | rfl | (simp only [firstArgMember]; rfl)) ?_)
  refine wpAny_newObj_type ?_ (by size_fits)
  have g1 : ∀ f, (s.heap.update it f).get? x1 = some o1 := fun f => (Heap.get?_update_other _ _ hne).trans h1
  refine raiseNew_hot ⟨hh, o1, vs1, Heap.get?_push_of_some _ (Heap.get?_push_of_some _ (g1 _)), d1, c1⟩ (Nat.ne_of_lt (Heap.lt_size (Heap.get?_push_of_some _ (g1 _)))) (Heap.get?_push_size _ rfl) rfl (by first | (simp; done) | (simp; omega) | (simp only [Array.size_append]; simp; omega)) ?_
  refine wpAny_bind (wpAny_isInstance (T := "StopIteration") (b := true) ⟨_, Heap.get?_update_self _ (Heap.get?_push_size _ rfl) rfl, rfl⟩ isSubtype_stop ?_)
  refine wpAny_pure (hQ _ fun b o hb e => ?_)
  have e2 := (Heap.SameBut.update (h := s.heap) (a := it) (Obj.mapFields (·.setIfInBounds 0 Value.none))).extBut b o hb e
  rw [Heap.get?_update_other _ _ (Nat.ne_of_gt (Heap.lt_size (Heap.get?_push_of_some _ e2)))]
  exact Heap.get?_push_of_some _ (Heap.get?_push_of_some _ e2)
theorem next_tuple_end_hot {it t x1 : Addr} {i : Nat} {items : Array Value} {Q : Option Value → Shared → Prop} (hot : HotAt A x1 s.heap)
    (hit : IsTupIter s.heap it t i) (ht : IsTup s.heap t items) (hx : items[i]? = none)
    (hQ : ∀ h', Heap.ExtBut it s.heap h' → Q none { s with heap := h' }) : wpAny (model prog w) A (pyNext (.ref it)) Q E s := by
  obtain ⟨hh, o1, vs1, h1, d1, c1⟩ := hot
  obtain ⟨o, ho, hc, hd⟩ := id hit
  have hne : it ≠ x1 := fun z => by
    rw [← z, ho] at h1
    cases h1
    rw [hd] at d1
    cases d1
    simp at c1
  obtain ⟨ol, hol, _, nl, hdl⟩ := ht
  unfold pyNext
  refine wpAny_bind (wpAny_attempt (wpAny_callSpecial?_slot (name := Str.ofString "__next__") hit.typeIs slot_tupleiter_next
    (wpAny_call_entry slot_tupleiter_next hit.typeIs entry_tupleiter_next ?_ (args_tupleiter_next _))))
  show wpAny _ _ (field (.ref it) 0 >>= _) _ _ s
  refine wpAny_bind (wpAny_field ho hd (x := .ref t) rfl ?_)
  show wpAny _ _ (if (Value.ref t == Value.none) = true then _ else _) _ _ s
  rw [if_neg (show ¬ ((Value.ref t == Value.none) = true) from Bool.false_ne_true)]
  show wpAny _ _ (field (.ref it) 1 >>= _) _ _ s
  refine wpAny_bind (wpAny_field ho hd (x := .int i 0) rfl ?_)
  show wpAny _ _ (seqItems? (.ref t) >>= _) _ _ s
  refine wpAny_bind (wpAny_seqItems hol hdl ?_)
  simp only [Int.toNat_natCast, hx]
  refine wpAny_bind (wpAny_rule (wpAny_bind (wpAny_setField ho hd (by simp) ?_)))
  show wpAny _ _ (newExc (.type "StopIteration") [] >>= _) _ _ _
  refine wpAny_bind ?_
  simp only [newExc, newTuple]
  refine wpAny_bind (wpAny_newObj_type ?_ (by size_fits))
  refine wpAny_bind (m := firstArgMember _ _) (wpAny_of_eq (a := Value.none) (by first | rfl | (simp only [firstArgMember]; rfl)) ?_)
  refine wpAny_newObj_type ?_ (by size_fits)
  have g1 : ∀ f, (s.heap.update it f).get? x1 = some o1 := fun f => (Heap.get?_update_other _ _ hne).trans h1
  refine raiseNew_hot ⟨hh, o1, vs1, Heap.get?_push_of_some _ (Heap.get?_push_of_some _ (g1 _)), d1, c1⟩ (Nat.ne_of_lt (Heap.lt_size (Heap.get?_push_of_some _ (g1 _)))) (Heap.get?_push_size _ rfl) rfl (by first | (simp; done) | (simp; omega) | (simp only [Array.size_append]; simp; omega)) ?_
  refine wpAny_bind (wpAny_isInstance (T := "StopIteration") (b := true) ⟨_, Heap.get?_update_self _ (Heap.get?_push_size _ rfl) rfl, rfl⟩ isSubtype_stop ?_)
  refine wpAny_pure (hQ _ fun b o hb e => ?_)
  have e2 := (Heap.SameBut.update (h := s.heap) (a := it) (Obj.mapFields (·.setIfInBounds 0 Value.none))).extBut b o hb e
  rw [Heap.get?_update_other _ _ (Nat.ne_of_gt (Heap.lt_size (Heap.get?_push_of_some _ e2)))]
  exact Heap.get?_push_of_some _ (Heap.get?_push_of_some _ e2)
theorem unpackItems_hot {t x1 : Addr} {items : Array Value} {Q : List Value → Shared → Prop} (hot : HotAt A x1 s.heap) (ht : IsTup s.heap t items)
    (hQ : ∀ h', Heap.ExtBut s.heap.objs.size s.heap h' → Q items.toList { s with heap := h' }) : wpAny (model prog w) A (unpackItems (.ref t) items.size none) Q E s := by
  have hlt : t ≠ s.heap.objs.size := by obtain ⟨o, ho, _⟩ := ht; exact Nat.ne_of_lt (Heap.lt_size ho)
  unfold unpackItems
  refine wpAny_bind ?_
  · unfold notIterableAtAll
    refine wpAny_bind (wpAny_specialOf ht.typeIs slot_tuple_iter.lookup ?_)
    refine wpAny_pure ?_
    simp only [Bool.false_eq_true, if_false]
    refine wpAny_bind (wpAny_holding (iter_tuple ht ?_))
    refine wpAny_bind (wpAny_holding (draw_tuple hlt items.size 0 _ _ ⟨_, Heap.get?_push_size _ rfl, rfl, rfl⟩ (ht.push _) (by omega) fun h₁ hit₁ hs₁ => ?_))
    have hall : List.take items.size (List.drop 0 items.toList) = items.toList := by
      rw [List.drop_zero]; exact List.take_of_length_le (by simp)
    rw [hall]
    rw [if_neg (by simp)]
    have ht₁ : IsTup h₁ t items := (ht.push _).extBut hs₁.extBut hlt
    obtain ⟨hh, o1, vs1, h1, d1, c1⟩ := hot
    have hot1 : HotAt A x1 h₁ := ⟨hh, o1, vs1, hs₁.extBut _ _ (Nat.ne_of_lt (Heap.lt_size h1)) (Heap.get?_push_of_some _ h1), d1, c1⟩
    refine wpAny_bind (wpAny_holding (next_tuple_end_hot hot1 hit₁ ht₁ (by simp) fun h₂ he₂ => ?_))
    simp only [Option.isSome_none, Bool.false_eq_true, if_false]
    refine wpAny_pure (hQ h₂ fun b o hb e => he₂ b o hb (hs₁.extBut b o hb (Heap.get?_push_of_some _ e)))
theorem assign_Tuple_hot {env : Env} {elts : List Expr} {k} {pos : Pos} {t x1 : Addr} {items : Array Value} {Q : Unit → Shared → Prop} (hot : HotAt A x1 s.heap) (ht : IsTup s.heap t items)
    (hn : (assignEach elts env).length = items.size) (hstar : (assignEach elts env).findIdx? (·.1) = none)
    (h : ∀ h', Heap.ExtBut s.heap.objs.size s.heap h' → wpAny (model prog w) A (assignInOrder ((assignEach elts env).map (·.2)) items.toList) Q E { s with heap := h' }) :
    wpAny (model prog w) A (assign (.Tuple elts k pos) env (.ref t)) Q E s := by
  rw [assign_Tuple]
  refine wpAny_bind (wpAny_standAt ?_)
  unfold unpack
  rw [hn, hstar]
  exact wpAny_bind (wpAny_holding (unpackItems_hot hot ht h))
end

/-- wherever the context stands, an exception is handled, its context None -/
def HotW (X : Cx) : Prop := ∀ (pins : List (Addr × Obj)) (σ : St) (H : Hp) (s : Shared), Inv X pins σ H s → ∃ x1, HotAt X.A x1 s.heap
theorem hotW_of {X : Cx} (c : L2H.HotC X) : HotW X := fun _ _ _ _ I => c.at I
theorem pg_tupH {X : Cx} {pos : Pos} {es : List Expr} {k : Nat} {t : TGs} {n : Nat} (hc : HotW X) (h : PGs X es t)
    (hn : (assignEach es X.env).length = n := by rfl) (hst : (assignEach es X.env).findIdx? (·.1) = none := by rfl) : PG X (.Tuple es k pos) (gTup X.K n t) := by
  refine ⟨fun pins s σ H v u Q I r hw => ?_⟩
  obtain ⟨a, xs, e1, hq, hl, hw⟩ := hw
  subst e1
  cases r
  obtain ⟨its, rv, ht, hz⟩ := I.tuple hq
  obtain ⟨x1, hot⟩ := hc _ _ _ _ I
  refine assign_Tuple_hot hot ht (by simp [hn, ← hl, rv.length]) hst fun h' hx => ?_
  have I1 : Inv X pins σ H { s with heap := h' } := I.kept (t' := s.toks) fun b o e => hx b o (Nat.ne_of_lt (Heap.lt_size e)) e
  exact h.run pins _ σ H xs _ Q I1 (by simpa using rv) hw

structure TurnW (P : Program) (w : World) (K : PySem.W.Frag) (tg : Expr) (J : It) (fp : List Addr) (it : Addr) (tn : Nat → Heap → Prop) : Prop where
  mem : it ∈ fp
  obj : ∀ i h, tn i h → ∀ b ∈ fp, ∃ o, h.get? b = some o ∧ ∀ v, o.data ≠ .cell v
  keep : ∀ i h h', tn i h → (∀ b ∈ fp, ∀ o, h.get? b = some o → h'.get? b = some o) → tn i h'
  item : ∀ (X : Cx), X.prog = P → X.w = w → X.K = K → HotW X → ∀ (i : Nat) (pins : List (Addr × Obj)) (s : Shared) (σ : St) (H : Hp) (E : Value → Shared → Prop), Inv X pins σ H s → (∀ b ∈ fp, FpOk X pins H b) → tn i s.heap → J.go i H →
    wpAny (model P w) X.A (pyNext (.ref it)) (fun r s1 => ∃ u, r = some u ∧
      wpAny (model P w) X.A (letOwnedTupleGo tg (.ref it) u) (fun _ s2 => ∃ x H', Inv X pins σ H' s2 ∧ RelV x u ∧ J.yld i H x H' ∧ tn (i + 1) s2.heap ∧ ∀ b ∈ fp, H' b = none) E s1) E s
  done : ∀ (X : Cx), X.prog = P → X.w = w → X.K = K → HotW X → ∀ (i : Nat) (pins : List (Addr × Obj)) (s : Shared) (σ : St) (H : Hp) (E : Value → Shared → Prop), Inv X pins σ H s → (∀ b ∈ fp, FpOk X pins H b) → tn i s.heap → J.stop i H →
    wpAny (model P w) X.A (pyNext (.ref it)) (fun r s1 => r = none ∧ Inv X pins σ H s1) E s
  self : ∀ (A : Around) (i : Nat) (s : Shared) (Q : Value → Shared → Prop) (E : Value → Shared → Prop), tn i s.heap → Q (.ref it) s → wpAny (model P w) A (pyIter (.ref it)) Q E s
theorem turn_listW {P : Program} {w : World} {K : PySem.W.Frag} {tg : Expr} (a it : Addr) : TurnW P w K tg (Itl K a) [it] it (fun i h => h.IsListIter it a i) where
  mem := by simp
  obj := fun i h st b hb => by
    have e : b = it := by simpa using hb
    subst e
    obtain ⟨o, e, c, d⟩ := st
    exact ⟨o, e, fun v z => by rw [d] at z; cases z⟩
  keep := fun i h h' st k => st.at fun o e => k it (by simp) o e
  item := by
    intro X hP hw hK hc i pins s σ H E I hf st hg
    subst hP hw hK
    obtain ⟨xs, x, hq, hx⟩ := hg
    obtain ⟨its, rv, p, hz⟩ := I.list hq
    obtain ⟨u, hu, ru⟩ := rv.get hx
    obtain ⟨f0, f1, f2, f3, f4, f5⟩ := hf it (by simp)
    refine wpAny_pyNext_list_item st p.isList (x := u) (by simpa using hu) fun h' st' sb => ?_
    have I1 : Inv X pins σ H { s with heap := h' } := I.turned (t' := s.toks) (fun b o hb e => (sb.2 b hb).trans e) f0 f1 f3 f4 f5
    obtain ⟨o, e, c, d⟩ := id st'
    exact ⟨u, rfl, go_of (s := { s with heap := h' }) e c d (by decide) ⟨x, H, I1, ru, ⟨rfl, fun ys hy => by rw [I.list_inj hy hq]; exact hx⟩, st', fun b hb => (hf b hb).1⟩⟩
  done := by
    intro X hP hw hK hc i pins s σ H E I hf st hg
    subst hP hw hK
    obtain ⟨xs, hq, hx⟩ := hg
    obtain ⟨its, rv, p, hz⟩ := I.list hq
    obtain ⟨f0, f1, f2, f3, f4, f5⟩ := hf it (by simp)
    have hl := rv.length
    obtain ⟨x1, hot⟩ := hc _ _ _ _ I
    exact next_list_end_hot hot st p.isList (by simp; omega) fun h' eb => ⟨rfl, I.turned (t' := s.toks) (fun b o hb e => eb b o hb e) f0 f1 f3 f4 f5⟩
  self := fun _ _ _ _ _ st h => wpAny_pyIter_listiter st h
def PIEW (X : Cx) (pins : List (Addr × Obj)) (σ : St) (tg : Expr) (R : It → Hp → Prop) (itv : Value) (s2 : Shared) : Prop :=
  ∃ (it : Addr) (fp : List Addr) (tn : Nat → Heap → Prop) (J : It) (H' : Hp), itv = .ref it ∧ Inv X pins σ H' s2 ∧ TurnW X.prog X.w X.K tg J fp it tn ∧ tn 0 s2.heap ∧ (∀ b ∈ fp, FpOk X pins H' b) ∧ R J H'
structure PIW (X : Cx) (tg iter : Expr) (wi : TI) : Prop where
  run : ∀ (pins : List (Addr × Obj)) (s : Shared) (σ : St) (H : Hp) (R : It → Hp → Prop), Inv X pins σ H s → wi σ H R →
    wpAny (model X.prog X.w) X.A (eval iter X.env) (fun v s1 => wpAny (model X.prog X.w) X.A (pyIter v) (PIEW X pins σ tg R) X.xe s1) X.xe s
theorem pi_listW {X : Cx} {tg l : Expr} {tl : TE} (hl : PE X l tl) : PIW X tg l (iList X.K tl) := by
  refine ⟨fun pins s σ H R I h => ?_⟩
  refine thn (hl.run pins s σ H _ I h) fun v s1 ⟨x, H1, I1, r1, q1⟩ => ?_
  obtain ⟨a, e, ⟨xs, hq⟩, q⟩ := q1
  subst e
  cases r1
  obtain ⟨its, rv, p, hz⟩ := I1.list hq
  refine wpAny_pyIter_list p.isList ?_
  refine ⟨s1.heap.objs.size, [s1.heap.objs.size], _, _, H1, rfl, I1.kept (t' := s1.toks) fun b o e => Heap.get?_push_of_some _ e, turn_listW a _, ⟨_, Heap.get?_push_size _ rfl, rfl, rfl⟩, fun b hb => ?_, q⟩
  have e : b = s1.heap.objs.size := by simpa using hb
  subst e
  exact I1.fpOk (Nat.le_refl _) (I1.hok.fresh (Nat.le_refl _))

section
variable {X : Cx}
theorem lc_coreW {pins : List (Addr × Obj)} {s : Shared} {σ : St} {H : Hp} {Q : VK} {elt tg iter : Expr} {ifs : List Expr} {scope : Scope} {own : List (Str × Nat)} {pos pos' : Pos} {wi : TI} {g : TG} {tt : TT} {te : TE} {use : Option (Value → Sem Unit)} {Qf : Value → Shared → Prop}
    (hc : L2H.HotC X) (hN : X.N.Nodup) (I : Inv X pins σ H s) (hi : PIW X tg iter wi) (ok : BlkOk X.N X.env.scope scope own)
    (hg : ∀ (s : Shared) (H : Hp) (C : Addr) (cl : List (Str × Addr)) (fp : List Addr), HotW (X.blk s H scope (compEnvC scope cl C X.env) fp) → PG (X.blk s H scope (compEnvC scope cl C X.env) fp) tg g)
    (ht : ∀ (s : Shared) (H : Hp) (C : Addr) (cl : List (Str × Addr)) (fp : List Addr), PTs (X.blk s H scope (compEnvC scope cl C X.env) fp) ifs tt)
    (he : ∀ (s : Shared) (H : Hp) (C : Addr) (cl : List (Str × Addr)) (fp : List Addr), PE (X.blk s H scope (compEnvC scope cl C X.env) fp) elt te) (hs : ∀ x, foldedSetIterable iter X.env x = pure x)
    (h : tLc wi g tt te (own.map (·.2)) σ H Q)
    (hRR : ∀ D C s' m H', Inv X pins σ H' s' → Q (.ref D) H' → s'.heap.Ns C m → FpOk X pins H' C → compPost (model X.prog X.w) X.A X.xe use Qf (.ref D) C (.ok .next) s') :
    wpAny (model X.prog X.w) X.A (comprehension (.ListComp elt [⟨tg, iter, ifs, 0⟩] scope pos) scope X.env pos' (newList []) false (eval iter X.env) use) Qf X.xe s := by
  have hfree : ∀ y ∈ scope.names, y.2 = .free → ∃ c, X.env.cells.lookup y.1 = some c := fun y hy e => by
    rcases ok.free y hy e with k | k
    · exact I.ok.has _ (.inl k)
    · exact I.ok.has _ (.inr k)
  refine wpAny_comprehension_free (use := use) rfl hs (closure_ok hfree) ok.kind (fun y hy e => by rw [ok.uniq y hy, e])
    (thn (hi.run pins s σ H _ I h) fun xv s1 hx => thn hx fun itv s2 h2 => ?_)
  obtain ⟨it, fp, tn, J, H2, e, I2, T, st2, f2, q⟩ := h2
  subst e
  refine wpAny_newObj_type (newEnv_comp ?_) (by show 0 ≤ sizeLine; decide)
  generalize hD : s2.heap.objs.size = D
  have hDn : H2 D = none := I2.hok.fresh (Nat.le_of_eq hD)
  obtain ⟨W, ⟨m0, w0⟩, turn⟩ := q D hDn
  -- the new list
  generalize hs3 : ({ s2 with heap := s2.heap.push { cls := .type "list", data := .seq ([] : List Value).toArray } } : Shared) = s3
  have I3 : Inv X pins σ (upd H2 D (.lst [])) s3 := by
    rw [← hs3]
    refine I2.laid (t' := s2.toks) (fun b o e => Heap.get?_push_of_some _ e) (Nat.le_of_eq hD) ⟨Nat.zero_le _, [], 0, .nil, ?_⟩
    rw [← hD]
    exact Heap.get?_push_size _ rfl
  have h3 : s3.heap = s2.heap.push { cls := .type "list", data := .seq ([] : List Value).toArray } := by rw [← hs3]
  have sz : ∀ b ∈ fp, b < s2.heap.objs.size := fun b hb => by
    obtain ⟨o, e, _⟩ := T.obj _ _ st2 b hb
    exact Heap.lt_size e
  have f3 : ∀ b ∈ fp, FpOk X pins (upd H2 D (.lst [])) b ∧ b < s3.heap.objs.size := fun b hb => by
    have hlt := sz b hb
    refine ⟨⟨?_, (f2 b hb).2⟩, by rw [h3, Heap.size_push]; exact Nat.lt_succ_of_lt hlt⟩
    rw [upd_ne (by rw [← hD]; exact Nat.ne_of_lt hlt)]
    exact (f2 b hb).1
  have st3 : tn 0 s3.heap := T.keep _ _ _ st2 fun b _ o e => by rw [h3]; exact Heap.get?_push_of_some _ e
  have I4 := block_start I3 ok hN f3
  have hotB : HotW (X.blk s3 (upd H2 D (.lst [])) scope (compEnvC scope (cellsFrom (s3.heap.objs.size + 1) scope.names (cloFrom X.env.cells scope.names [])) s3.heap.objs.size X.env) fp) := by
    intro pins' σ' H' s' I'
    obtain ⟨p, ⟨hh, v1, e1, c1⟩, hp⟩ := hc
    have P1 := I3.pin p (List.mem_append_left _ hp)
    have nst : p.1 ∉ frs X.stack := fun hm => (List.mem_cons.mp (I3.stkSub p.1 hm)).elim P1.2.2.1 P1.2.2.2.1
    have nfp : p.1 ∉ fp := fun hm => (f3 p.1 hm).1.2.2.2.2.2 p (List.mem_append_left _ hp) rfl
    exact ⟨p.1, hh, p.2, v1, I'.base.keep p.1 p.2 P1.1 P1.2.1 nst nfp, e1, c1⟩
  have pg := hg s3 (upd H2 D (.lst [])) s3.heap.objs.size (cellsFrom (s3.heap.objs.size + 1) scope.names (cloFrom X.env.cells scope.names [])) fp hotB
  have pt := ht s3 (upd H2 D (.lst [])) s3.heap.objs.size (cellsFrom (s3.heap.objs.size + 1) scope.names (cloFrom X.env.cells scope.names [])) fp
  have pe := he s3 (upd H2 D (.lst [])) s3.heap.objs.size (cellsFrom (s3.heap.objs.size + 1) scope.names (cloFrom X.env.cells scope.names [])) fp
  show codeAny _ _ (.compStart (.ListComp elt [⟨tg, iter, ifs, 0⟩] scope pos) 0 (.ref it) (.ref D) (compEnvC scope (cellsFrom (s3.heap.objs.size + 1) scope.names (cloFrom X.env.cells scope.names [])) s3.heap.objs.size X.env)) (compPost (model X.prog X.w) X.A X.xe use Qf (.ref D) s3.heap.objs.size) { s3 with heap := pushCells (s3.heap.push { cls := .type "dict", data := .dict #[] }) scope.names }
  have nfp : ∀ b ∈ fp, (upd H2 D (.lst [])) b = none := fun b hb => (f3 b hb).1.1
  generalize hce : compEnvC scope (cellsFrom (s3.heap.objs.size + 1) scope.names (cloFrom X.env.cells scope.names [])) s3.heap.objs.size X.env = ce at I4 pg pt pe hotB ⊢
  have cL : ce.locals = s3.heap.objs.size := by subst hce; rfl
  generalize hH3 : upd H2 D (.lst []) = H3 at I3 I4 pg pt pe w0 nfp f3 hotB
  generalize hs4 : ({ s3 with heap := pushCells (s3.heap.push { cls := .type "dict", data := .dict #[] }) scope.names } : Shared) = s4 at I4 ⊢
  have st4 : tn 0 s4.heap := T.keep _ _ _ st3 fun b _ o e => by rw [← hs4]; exact pushCells_keeps _ _ _ _ (Heap.get?_push_of_some _ e)
  have stat : ∀ {σ' : St} {H' : Hp} {s' : Shared}, Inv (X.blk s3 H3 scope ce fp) [] σ' H' s' → (∀ b ∈ fp, H' b = none) → ∀ b ∈ fp, FpOk (X.blk s3 H3 scope ce fp) [] H' b := fun {σ' H' s'} I' hn b hb =>
    ⟨hn b hb, (I'.ok.exf b hb).1, I'.ok.exfs b hb, .inl hb, fun x c e => (I'.ok.exf b hb).2 x c e, fun p hp => absurd (show p ∈ ([] : List (Addr × Obj)) ++ [] from hp) (by simp)⟩
  have loop : codeAny (model X.prog X.w) X.A (.compLoop (.ListComp elt [⟨tg, iter, ifs, 0⟩] scope pos) 0 (.ref it) (.ref D) ce) (compPost (model X.prog X.w) X.A X.xe use Qf (.ref D) s3.heap.objs.size) s4 := by
    refine compLoop_any (fun n s' => ∃ i H', Inv (X.blk s3 H3 scope ce fp) [] (wipe σ (own.map (·.2))) H' s' ∧ tn i s'.heap ∧ (∀ b ∈ fp, H' b = none) ∧ W i n H') ?_ m0 ⟨0, H3, I4, st4, nfp, w0⟩
    rintro n s5 ⟨i, H5, I5, st5, n5, w5⟩
    rcases turn i n H5 w5 with ⟨stop, qq⟩ | ⟨go, Nx, hNx, step⟩
    · have td := T.done (X.blk s3 H3 scope ce fp) rfl rfl rfl hotB i [] s5 _ H5 (fun _ _ => False) I5 (stat I5 n5) st5 stop
      refine thnF td fun r s6 ⟨hr, I6⟩ => ?_
      subst hr
      -- back in the def's context
      have I7 : Inv X pins σ H5 s6 := I3.call' (ch := fp) I6.os I6.base I6.hok I6.bare fun b hb => ⟨(f3 b hb).1.2.2.2.1, (f3 b hb).1.2.1, (f3 b hb).1.2.2.2.2.1, (f3 b hb).1.2.2.2.2.2⟩
      have nC : H5 s3.heap.objs.size = none := by
        have z : H5 ce.locals = none := I6.free
        rw [cL] at z
        exact z
      obtain ⟨m, hn, _⟩ := I6.loc
      have hn : s6.heap.Ns ce.locals m := hn
      rw [cL] at hn
      exact hRR D s3.heap.objs.size s6 m H5 I7 qq hn (I3.fpOk (Nat.le_refl _) nC)
    · have ti := T.item (X.blk s3 H3 scope ce fp) rfl rfl rfl hotB i [] s5 _ H5 (fun _ _ => False) I5 (stat I5 n5) st5 go
      refine thnF ti fun r s6 ⟨u, hr, h6⟩ => ?_
      subst hr
      refine thnF h6 fun _ s7 ⟨x, H7, I7, r7, y7, st7, n7⟩ => ?_
      have I7' := I7.pinned (stat I7 n7) (T.obj _ _ st7)
      refine thnF (pg.run _ s7 _ H7 x u _ I7' r7 (step x H7 y7)) fun _ s8 ⟨σ8, H8, I8, hw8, q8⟩ => ?_
      refine thnF (pt.run _ s8 σ8 H8 _ I8 q8) fun b s9 ⟨H9, I9, q9⟩ => ?_
      -- the turn's end
      have fin : ∀ {s' : Shared} {H' : Hp}, Inv (X.blk s3 H3 scope ce fp) ([] ++ pinsAt fp s7.heap) σ8 H' s' → Nx H' → ∃ m, m < n ∧ ∃ i H', Inv (X.blk s3 H3 scope ce fp) [] (wipe σ (own.map (·.2))) H' s' ∧ tn i s'.heap ∧ (∀ b ∈ fp, H' b = none) ∧ W i m H' := fun {s' H'} I' nx => by
        obtain ⟨m', hm, w'⟩ := hNx H' nx
        have pin' : ∀ b ∈ fp, ∀ o, s7.heap.get? b = some o → s'.heap.get? b = some o ∧ H' b = none := fun b hb o e =>
          let z := I'.pin (b, o) (List.mem_append_right _ (List.mem_append_right _ (mem_pinsAt hb e)))
          ⟨z.1, z.2.1⟩
        have hl : (wipe σ (own.map (·.2))).length = σ8.length := by rw [← hw8, wipe_length]
        refine ⟨m', hm, i + 1, H', (I'.unpinned (pins := [])).weak hl (fun j v e => ?_), T.keep _ _ _ st7 fun b hb o e => (pin' b hb o e).1, fun b hb => ?_, w'⟩
        · rw [← hw8] at e
          exact (wipe_some e).1
        · obtain ⟨o, e, _⟩ := T.obj _ _ st7 b hb
          exact (pin' b hb o e).2
      cases b with
      | false =>
        simp only [Bool.false_eq_true, if_false] at q9 ⊢
        exact fin I9 q9
      | true =>
        simp only [if_true] at q9 ⊢
        refine thnF (pe.run _ s9 σ8 H9 _ I9 q9) fun z s10 ⟨yv, H10, I10, r10, acc, hD10, hz10, nx⟩ => ?_
        exact app_ok (X := X.blk s3 H3 scope ce fp) I10 hD10 hz10 r10 fun s11 I11 => fin I11 nx
  exact codeAny_compStart_list loop (T.self X.A 0 _ _ _ st4 loop)
theorem pe_lcW {elt tg iter : Expr} {ifs : List Expr} {scope : Scope} {own : List (Str × Nat)} {pos : Pos} {wi : TI} {g : TG} {tt : TT} {te : TE} (hc : L2H.HotC X) (hN : X.N.Nodup) (hi : PIW X tg iter wi) (ok : BlkOk X.N X.env.scope scope own)
    (hg : ∀ (s : Shared) (H : Hp) (C : Addr) (cl : List (Str × Addr)) (fp : List Addr), HotW (X.blk s H scope (compEnvC scope cl C X.env) fp) → PG (X.blk s H scope (compEnvC scope cl C X.env) fp) tg g)
    (ht : ∀ (s : Shared) (H : Hp) (C : Addr) (cl : List (Str × Addr)) (fp : List Addr), PTs (X.blk s H scope (compEnvC scope cl C X.env) fp) ifs tt)
    (he : ∀ (s : Shared) (H : Hp) (C : Addr) (cl : List (Str × Addr)) (fp : List Addr), PE (X.blk s H scope (compEnvC scope cl C X.env) fp) elt te) (hs : ∀ x, foldedSetIterable iter X.env x = pure x := by intro _; rfl) :
    PE X (.ListComp elt [⟨tg, iter, ifs, 0⟩] scope pos) (tLc wi g tt te (own.map (·.2))) := by
  refine ⟨fun pins s σ H Q I h => ?_⟩
  rw [eval_ListComp]
  refine lc_coreW hc hN I hi ok hg ht he hs h fun D C s' m H' I' q hn f => ⟨m, hn, fun h'' sb => ?_⟩
  obtain ⟨f0, f1, f2, f3, f4, f5⟩ := f
  exact ⟨.ref D, H', I'.turned (t' := s'.toks) (fun b o hb e => (sb.2 b hb).trans e) f0 f1 f3 f4 f5, rfl, q⟩
end
end L2.Lw

set_option maxHeartbeats 4000000
/-! try: body, except x as n: .., except y as n: .. (the context of what is caught is None); isinstance of a caught error that has a dict. -/
namespace L2.Lw
open PySem PySem.Spec PyProof.Rows

def wManyA (K : PySem.W.Frag) (i : Nat) (Wout : WX) (D : Ends) : List (Value × (Addr → Value → Option Addr → TS)) → WX
  | [] => Wout
  | (c, ts) :: l => fun cls d σ H => ∃ b, PySem.W.exmOne K cls c = some b ∧
      (b = true → ∀ a, H a = none → ts a cls d { nx := fun σ' H' => D.nx (σ'.set i none) H', rt := D.rt, bk := fun σ' H' => D.bk (σ'.set i none) H', ct := fun σ' H' => D.ct (σ'.set i none) H' } (σ.set i (some (.ref a))) H) ∧
      (b = false → wManyA K i Wout D l cls d σ H)
inductive HdsA (X : Cx) (n : Str) : List ExceptHandler → List (Value × (Addr → Value → Option Addr → TS)) → Prop
  | nil : HdsA X n [] []
  | cons {x : Str} {c : Value} {ts : Addr → Value → Option Addr → TS} {b₀ : Stmt} {suite : List Stmt} {np pos' : Pos} {hds : List ExceptHandler} {l : List (Value × (Addr → Value → Option Addr → TS))} (hc : Names X x c)
      (hsu : ∀ (a : Addr) (oe : Obj) (cls : Value) (d : Option Addr) (pn : List (Addr × Obj)), L2N.Zn cls d oe → (∃ vs, oe.data = .fields vs ∧ 2 < vs.size) → PSs (X.suite a ((a, oe) :: pn)) (b₀ :: suite) (ts a cls d)) (r : HdsA X n hds l) :
      HdsA X n (.ExceptHandler (some (.Name x np)) (some n) (b₀ :: suite) pos' :: hds) ((c, ts) :: l)
section
variable {X : Cx} {n : Str} {i : Nat} {body : List Stmt} {h₀ : ExceptHandler} {hds : List ExceptHandler} {l : List (Value × (Addr → Value → Option Addr → TS))} {pos : Pos} {tb : WX → TS} {Wout : WX}
theorem ps_try_manyA (hs : X.stack = X.env :: X.outer) (hf : X.env.frame = some X.env.locals) (hN : X.N.Nodup) (hi : X.N[i]? = some n) (hln : X.env.kindOf n = some .local) (tk : L2N.Takes X Wout)
    (hb : ∀ (W : WX) (pn : List (Addr × Obj)) (xe : Value → Shared → Prop), L2N.Takes (X.tr pn xe) W → PassesOwn (model X.prog X.w) X.A X.env xe → PSs (X.tr pn xe) body (tb W))
    (hh : HdsA X n (h₀ :: hds) l) : PS X (.Try body (h₀ :: hds) [] [] pos) (fun D σ H => tb (wManyA X.K i Wout D l) D σ H) := by
  refine ⟨fun pins s σ H D I h => ?_⟩
  have ok := I.ok
  have hfr : X.A.frames = some (X.env :: X.outer) := by rw [ok.frames, hs]
  have hloc : Loc X.env.scope n := .inl hln
  refine wpAny_Try_except ?_
  refine wpAny_mono ((hb (wManyA X.K i Wout D l) (X.pn ++ pins) (fun e s₁ => wpAny (model X.prog X.w) X.A (noteFrame e X.env) (fun _ s₂ => wpAny (model X.prog X.w) X.A (setFlight e none) (fun _ s₃ =>
    wpAny (model X.prog X.w) X.A (handleBy e X.env (h₀ :: hds)) (SP X pins D) X.xe s₃) X.xe s₂) X.xe s₁) (fun u s' xx => ?_) PassesOwn.looking).run [] s σ H D (I.toTry _) h) (fun f s1 hsp => ?_) (fun e s1 he => he)
  · -- the catch
    obtain ⟨a, B, sI, pins', σ', H', cls, d, rfl, J', nb, up, sky, na, os, ag, w⟩ := xx
    have J : Inv X pins σ' H' sI := J'.ofTry ok
    have sky' : Sky B (X.env :: X.outer) a (L2N.Zn cls d) X.env.locals s'.heap := by rw [← hs]; exact sky
    show wpAny (model X.prog X.w) X.A (noteFrame (.ref a) X.env) _ _ _
    refine L2N.Sky.land L2N.Zn.steady hfr hf sky' fun h3 fl3 up3 => ?_
    have J3 : Inv X pins σ' H' { s' with heap := h3 } := J.landed nb fl3.1 (up.trans up3) os ag
    obtain ⟨oe3, vs3, he3, hz3, hd3⟩ := fl3.there
    have notFr : ∀ {h : Heap} {o : Obj} {vs : Array Value}, h.FunFrames B (X.env :: X.outer) → h.get? a = some o → o.data = .fields vs → a ∉ frs (X.env :: X.outer) := fun {h o vs} ff e dd hm => by
      obtain ⟨_, o', e', hnf⟩ := ff.mem hm
      rw [e] at e'; cases e'
      exact hnf _ dd
    have nfr := notFr fl3.2.2.1 he3 hd3
    have nL : a ≠ X.env.locals := fun z => nfr (List.mem_filterMap.mpr ⟨X.env, List.mem_cons_self, by rw [hf, z]⟩)
    have nF : a ∉ X.fs := fun hm => by
      obtain ⟨e, he, q⟩ := List.mem_filterMap.mp hm
      exact nfr (List.mem_filterMap.mpr ⟨e, List.mem_cons_of_mem _ he, q⟩)
    have S3 := J3.suite he3 hd3 na nL nF
    have go : ∀ {hds' : List ExceptHandler} {l' : List (Value × (Addr → Value → Option Addr → TS))}, HdsA X n hds' l' → wManyA X.K i Wout D l' cls d σ' H' →
        wpAny (model X.prog X.w) X.A (handleBy (.ref a) X.env hds') (SP X pins D) X.xe { s' with heap := h3 } := by
      intro hds' l' hk
      induction hk with
      | nil =>
        intro w
        refine wpAny_handleBy_nil ?_
        obtain ⟨k1, k2, k3, oe, vs, T, oT, ts', he, hz, hd, h1, hr⟩ := id fl3
        unfold PySem.passOn
        refine wpAny_bind (wpAny_field he hd h1 ?_)
        rw [if_neg (show ¬ ((Value.ref T == Value.none) = true) from by simp)]
        have fin : wpAny (model X.prog X.w) X.A (setFlight (.ref a) X.env.frame) (fun _ s4 => wpAny (model X.prog X.w) X.A (throw (.ref a) : Sem Flow) (SP X pins D) X.xe s4) X.xe { s' with heap := h3 } := by
          rw [hf]
          refine HandSPX.setFlight_upZ fl3 fun h4 hh4 up4 => wpAny_throw (tk _ _ ?_)
          exact ⟨a, B, sI, pins, σ', H', cls, d, rfl, J, nb, (up.trans up3).trans up4, .inr (.inr (by rw [hs]; exact hh4)), na, os, ag, w⟩
        first
          | exact wpAny_bind (wpAny_pure (wpAny_bind fin))
          | exact wpAny_bind fin
      | @cons x c ts b₀ suite np pos' hds2 l2 hc hsu r ih =>
        intro w
        obtain ⟨b, hb1, hyes, hno⟩ := w
        refine wpAny_handleBy_cons (codeAny_handlers_test ?_) (by intro q; cases q)
        have LT : PySem.W.Looks (model X.prog X.w) h3 (typeOf (.ref a)) cls := fun A Q E s k q => wpAny_typeOf_ref (k _ _ he3) (by rw [hz3.1]; exact q)
        have LM := PySem.W.exm_one (M := model X.prog X.w) (J3.kIn) LT hb1
        have test : ∀ {Q : Value → Shared → Prop} {E : Value → Shared → Prop}, Q c { s' with heap := h3 } → wpAny (model X.prog X.w) (X.A.mark (some (.ref a))) (eval (.Name x np) X.env) Q E { s' with heap := h3 } := fun {Q E} q => by
          obtain ⟨hg, hdbg, hm | ⟨hm, hv, hnn⟩⟩ := hc
          · exact ld_glob (X := X.suite a ((a, oe3) :: (X.pn ++ pins))) S3 hg hm q hdbg
          · exact ld_blt (X := X.suite a ((a, oe3) :: (X.pn ++ pins))) S3 hg hm hv q hnn hdbg
        refine test (LM.here ?_)
        cases b with
        | true =>
          refine codeAny_handlers_suite_as ?_
          refine HandSPX.lands_againZ fl3 fun h4 fl4 up4 => ?_
          have J4 : Inv X pins σ' H' { s' with heap := h4 } := J.landed nb fl4.1 ((up.trans up3).trans up4) os ag
          obtain ⟨oe4, vs4, he4, hz4, hd4⟩ := fl4.there
          have S4 := J4.suite he4 hd4 na nL nF
          refine store_ok (X := X.suite a ((a, oe4) :: (X.pn ++ pins))) (v := .ref a) S4 hN hi hloc rfl (fun s5 S5 => ?_) (.inr hln)
          have h2 := (Array.getElem?_eq_some_iff.mp (hz4.2.2 vs4 hd4)).1
          refine wpAny_mono ((hsu a oe4 cls d (X.pn ++ pins) hz4 ⟨_, hd4, h2⟩).run [] s5 _ H' _ S5 (hyes rfl a na)) (fun f s6 hsp => ?_) (fun _ _ z => False.elim z)
          have end_ : ∀ {σ6 : St} {H6 : Hp} {Q : Shared → Prop}, Inv (X.suite a ((a, oe4) :: (X.pn ++ pins))) [] σ6 H6 s6 → (∀ s7, Inv X pins (σ6.set i none) H6 s7 → Q s7) →
              wpAny (model X.prog X.w) X.A (do bindName X.env n .none; unbindBehindTheSuite X.env n pos') (fun _ s7 => Q s7) X.xe s6 := fun {σ6 H6 Q} S6 hq => gone_ok (S6.unsuite ok) hN hi hln hq
          cases f with
          | next =>
            obtain ⟨σ6, H6, S6, q6⟩ := hsp
            exact end_ S6 fun s7 J7 => ⟨_, _, J7, q6⟩
          | brk =>
            obtain ⟨σ6, H6, S6, q6⟩ := hsp
            exact end_ S6 fun s7 J7 => ⟨_, _, J7, q6⟩
          | cont =>
            obtain ⟨σ6, H6, S6, q6⟩ := hsp
            exact end_ S6 fun s7 J7 => ⟨_, _, J7, q6⟩
          | ret u =>
            obtain ⟨v6, σ6, H6, S6, r6, q6⟩ := hsp
            exact end_ S6 fun s7 J7 => ⟨_, _, _, J7, r6, q6⟩
        | false =>
          show wpAny _ X.A (handleBy (.ref a) X.env hds2) _ _ _
          exact ih (hno rfl)
    exact go hh w
  · cases f with
    | next =>
      obtain ⟨σ', H', J', q⟩ := hsp
      exact wpAny_execs_nil ⟨σ', H', J'.ofTry ok, q⟩
    | brk =>
      obtain ⟨σ', H', J', q⟩ := hsp
      exact ⟨σ', H', J'.ofTry ok, q⟩
    | cont =>
      obtain ⟨σ', H', J', q⟩ := hsp
      exact ⟨σ', H', J'.ofTry ok, q⟩
    | ret u =>
      obtain ⟨v, σ', H', J', r, q⟩ := hsp
      exact ⟨v, σ', H', J'.ofTry ok, r, q⟩
/-- the suite is hot -/
theorem suite_hot {a : Addr} {oe : Obj} {cls : Value} {d : Option Addr} {pn : List (Addr × Obj)} (hz : L2N.Zn cls d oe) (hf : ∃ vs, oe.data = .fields vs ∧ 2 < vs.size) : L2H.HotC (X.suite a ((a, oe) :: pn)) := by
  obtain ⟨vs, hd, _⟩ := hf
  exact ⟨(a, oe), ⟨rfl, vs, hd, hz.2.2 vs hd⟩, List.mem_cons_self⟩
end
end L2.Lw

namespace PySem.W
open PySem PySem.Spec PySem.Calls PyProof.Rows
section
variable {prog : Program} {w : World} {A : Around} {E : Value → Shared → Prop} {s : Shared} {K : Frag} {x D : Addr} {ox : Obj} {od : Option Obj}
theorem lw_findData {C : Addr} {name : Str} {a g : Value} (hc : (clsIn K C).isSome = true) (ha : findIn K (.ref C) name = some (some a)) (hg : specialIn K a "__get__" = some (some g)) (ht : takesIn K a = some true) : findObj K C od name = some (.bind g a) := by
  obtain ⟨cd, hc⟩ := Option.isSome_iff_exists.mp hc
  unfold findObj
  rw [hc, Option.bind_some, ha, Option.bind_some]
  simp [hg, ht]
theorem lw_classE {Q : Option Value → Shared → Prop} (hga : findIn K (.ref D) "__getattribute__" = some (some (.builtin "BaseException.__getattribute__"))) (hgt : findIn K (.ref D) "__getattr__" = some none) (hsub : subIn K (.ref D) (.type "BaseException") = some true)
    (hdct : hasDictIn K D = true) (ha : findIn K (.ref D) "__class__" = some (some (.builtin "object.__class__")))
    (hn : specialIn K (.builtin "object.__class__") "__get__" = some (some (.builtin "getset_descriptor.__get__"))) (htk : takesIn K (.builtin "object.__class__") = some true) (hm : mroIn K D (.type "object") = some true)
    (X : K.In s.heap) (I : InstAt s.heap x ox D od) (h : Q (some (.ref D)) { s with toks := s.toks + 1 }) : wpAny (model prog w) A (getAttr? (.ref x) "__class__") Q E s := by
  have hf : findObj K D od "__class__" = some (.bind (.builtin "getset_descriptor.__get__") (.builtin "object.__class__")) := lw_findData (by obtain ⟨cd, hc, _⟩ := any_some hdct; rw [hc]; rfl) ha hn htk
  obtain ⟨hp, g, d, t, os⟩ := s
  have L0 := I.type (M := model prog w)
  have L1 := looks_findIn (M := model prog w) X hga
  have L2 := looks_findIn (M := model prog w) X hgt
  have L3 := looks_find (M := model prog w) X I hf
  have sub : Looks (model prog w) hp (isInstance (.ref x) (.type "BaseException")) true := L0.andThen (looks_subIn X hsub)
  have hx0 : (false && onTheHeap (Value.builtin "BaseException.__getattribute__")) = false := rfl
  have hx2 : (Value.builtin "BaseException.__getattribute__" == Value.builtin "object.__getattribute__") = false := by decide +kernel
  have hx1 : (onTheHeap (Value.ref D) && Value.builtin "BaseException.__getattribute__" == Value.builtin "object.__getattribute__") = false := by rw [hx2]; rfl
  unfold getAttr? getAttrBy? getAttrBy
  refine wpAny_bind (wpAny_mkText (wpAny_bind (wpAny_attempt (wpAny_holding (wpAny_bind (L0.at (wpAny_bind (L1.at ?_))))))))
  show wpAny _ _ (if (onTheHeap (Value.ref D) && Value.builtin "BaseException.__getattribute__" == Value.builtin "object.__getattribute__") = true then _ else _) _ _ _
  rw [hx1, if_neg Bool.false_ne_true]
  unfold getAttrByItsOwn hookBefore
  refine wpAny_bind ?_
  rw [if_pos (show onTheHeap (Value.ref D) = true from rfl)]
  refine L2.at ?_
  refine wpAny_bind (wpAny_attempt (wpAny_holding ?_))
  unfold callGetattribute
  rw [hx0, if_neg Bool.false_ne_true]
  unfold boundAndCalled
  rw [PySem.F.excAttr_ValueError.ga.bind (.ref x)]
  refine wpAny_bind (wpAny_pure ?_)
  show wpAny _ _ (call (.builtin "BaseException.__getattribute__") [.ref x, .str "__class__" t]) _ _ _
  refine wpAny_call (codeAny_call_builtin PySem.F.excAttr_ValueError.ga.plain PySem.F.entry_bexc_ga ?_)
  refine @check_slot (model prog w) _ _ ⟨hp, g, d, t + 1, os⟩ "BaseException.__getattribute__" "BaseException" "__getattribute__" (.ref x) [.str "__class__" t] [] _ (by decide +kernel) (by decide +kernel) sub (PySem.F.args_bexc_ga (.ref x) (.str "__class__" t)) ?_
  unfold Builtin.«object.__getattribute__»
  refine wpAny_bind (wpAny_of_eq (a := ((Value.ref x : Value), [Value.str "__class__" t])) (by first | rfl | (simp only [slotArgs]; rfl)) ?_)
  refine wpAny_bind (wpAny_pure (wpAny_bind (L0.at (wpAny_bind (L3.at ?_)))))
  show wpAny _ _ (holding [Value.builtin "object.__class__"] (call (.builtin "getset_descriptor.__get__") [.builtin "object.__class__", .ref x, .ref D]) >>= ret) _ _ _
  refine wpAny_bind (wpAny_holding (wpAny_call (class_get (s := ⟨hp, g, d, t + 1, os⟩) (ox := ox) (od := od) X I hm ?_)))
  refine wpAny_pure ?_
  show wpAny _ _ (handedOut (.ref D)) _ _ _
  rw [handedOut_of (v := .ref D) rfl]
  first
    | exact wpAny_pure (wpAny_pure h)
    | exact wpAny_pure h
    | exact wpAny_pure (wpAny_bind (wpAny_pure (wpAny_pure h)))
theorem lw_kitx (hga : findIn K (.ref D) "__getattribute__" = some (some (.builtin "BaseException.__getattribute__"))) (hgt : findIn K (.ref D) "__getattr__" = some none) (hsub : subIn K (.ref D) (.type "BaseException") = some true) (hdct : hasDictIn K D = true) (ha : findIn K (.ref D) "__class__" = some (some (.builtin "object.__class__")))
    (hn : specialIn K (.builtin "object.__class__") "__get__" = some (some (.builtin "getset_descriptor.__get__"))) (htk : takesIn K (.builtin "object.__class__") = some true) (hm : mroIn K D (.type "object") = some true) :
    KitX K (.ref x) (.ref D) (fun h => InstAt h x ox D od) where
  ty := fun _ _ _ I => I.type
  it := fun _ _ X _ => by
    obtain ⟨cdD, hcD, _⟩ := any_some hdct
    unfold clsIn at hcD
    split at hcD
    · rename_i c' d' cd' sl' ho
      intro A' Q' E' s' k q
      unfold isType loadHead
      exact wpAny_bind (wpAny_loadPart (k _ _ (X _ _ ho)) (wpAny_pure q))
    · cases hcD
  ne := fun h tp dd its n sl X htp => by
    obtain ⟨cdD, hcD, _⟩ := any_some hdct
    refine Bool.eq_false_iff.mpr fun q => ?_
    have e : D = tp := Value.ref.inj (beq_iff_eq.mp q)
    subst e
    unfold clsIn at hcD
    split at hcD
    · rename_i c' d' cd' sl' ho
      have z := (X _ _ ho).symm.trans htp
      cases z
    · cases hcD
  ca := fun X I k => lw_classE hga hgt hsub hdct ha hn htk hm X I k
end
end PySem.W
namespace L2.Lw
open PySem PySem.Spec PyProof.Rows
/-- isinstance(e, c), e the exception that the suite holds, its dict at dd -/
def rIsD (K : PySem.W.Frag) (cls : Value) (d : Option Addr) (a : Addr) : List V → Hp → VK → Prop := fun xs H Q => ∃ (D dd : Addr) (fs : List (Str × V)) (c : V) (cv : Value) (b : Bool), cls = .ref D ∧ d = some dd ∧ H dd = some (.xd fs) ∧ ExcC K D ∧
  xs = [.ref a, c] ∧ (∀ u, RelV c u → u = cv) ∧ PySem.W.kitOne K (.ref D) cv = some b ∧ Q (.bl b) H
theorem call_isD {X : Cx} {a : Addr} {oe : Obj} {cls : Value} {d : Option Addr} {pn : List (Addr × Obj)} (hz : Zc cls d oe) (hf : ∃ vs, oe.data = .fields vs) : CallR (X.suite a ((a, oe) :: pn)) (.builtin "isinstance") (rIsD X.K cls d a) := by
  intro pins s σ H xs us Q I r h
  obtain ⟨D, dd, fs, c, cv, b, ecl, ed, hdd, C, rfl, hcv, e, q⟩ := h
  subst ecl
  subst ed
  cases r with
  | cons rx rr =>
    cases rr with
    | cons rt rr =>
      cases rr
      cases rx
      have ec := hcv _ rt
      subst ec
      obtain ⟨hget, _⟩ := I.pin (a, oe) (List.mem_append.mpr (.inl List.mem_cons_self))
      obtain ⟨vs, hv⟩ := hf
      obtain ⟨mA, hns, hr⟩ := I.hok dd _ hdd
      obtain ⟨od, ho, hl⟩ := lookIn_ns hns
      have J : PySem.W.InstAt s.heap a oe D (some od) := ⟨hget, hz.1, by unfold PySem.W.notCls; rw [hv] <;> rfl, by rw [hz.2]; exact ho⟩
      exact PySem.W.kia_one (PySem.W.lw_kitx C.hg C.hk C.hs C.hd C.ha C.hn C.ht C.hm) I.kIn J e (fun z => nomatch z) fun tk => ⟨.bl b, H, I.kept (t' := tk) fun _ _ z => z, rfl, q⟩
end L2.Lw

set_option maxHeartbeats 4000000
/-! What is true of the written part, as one Bool over K and as a structure. -/
namespace L2.Lw
open PySem PySem.Spec PyProof.Rows He

abbrev gloNames : List Str := ["is_integer", "is_word", "need_steps", "need_many", "is_script", "need_script_state", "script_after", "script_before", "Scripted", "BadState", "BadSteps", "BadSeed", "Exhausted", "DrawError", "Shortage",
  "_law_mixed", "_law_draw", "_law_digit", "_law_told", "_law_steps", "_law_is_steps", "_law_moved", "_law_new_right", "_law_call_right", "law"]
abbrev freeNames : List Str := ["isinstance", "int", "bool", "tuple", "len", "all", "range", "repr", "list", "enumerate", "sum"]
abbrev methNames : List Str := ["next_word", "words", "set_state", "jump", "back", "ahead", "behind", "copy", "same_state"]
abbrev vT : Value := .type "type"
abbrev leTail : List Value := [.type "LookupError", .type "Exception", .type "BaseException", .type "object"]

/-! ### the facts as Bools -/
section
variable (K : PySem.W.Frag)
def intB (x : Str) (i : Int) : Bool := (Fa.int x i).ok K
def propB (m : Str) : Bool := eqO (PySem.W.findIn K (.ref (aC K)) m) (some (some (.ref (aM K m)))) && (eqO (PySem.W.specialIn K (.ref (aM K m)) "__get__") (some (some (.builtin "property.__get__"))) && (decide (PySem.W.takesIn K (.ref (aM K m)) = some true) &&
  (match PySem.W.recIn K (aM K m) "property" with
    | some (.ref _ :: _) => true
    | _ => false)))
def creadB (C : Addr) : Bool := PySem.W.readsIn K C vT && eqO (PySem.W.specialIn K (.ref C) "__getattribute__") (some (some (.builtin "type.__getattribute__")))
def cmB (m : Str) : Bool := He5.wrapB K (aC K) "classmethod" "classmethod.__get__" m && PySem.W.fnIn K (aW K "classmethod" m)
def smB (m : Str) : Bool := He5.wrapB K (aC K) "staticmethod" "staticmethod.__get__" m && PySem.W.keepIn K (.ref (aW K "staticmethod" m))
def someB {α : Type} (o : Option α) : Bool := o.isSome
def opTB (nm T : String) : Bool := (PySem.W.findIn K (.type T) (PySem.dunder nm)).isSome && ((PySem.W.findIn K (.type T) (PySem.dunderR nm)).isSome && decide (PySem.W.subIn K (.type T) (.ref (aC K)) = some false))
def opFB (nm : String) (m : Str) : Bool := PySem.W.selfFirst K (aC K) && (eqO (PySem.W.findIn K (.ref (aC K)) (PySem.dunder nm)) (some (some (.ref (aM K m)))) && (PySem.W.isFn K (.ref (aM K m)) && (eqO (PySem.W.findIn K (.ref (aC K)) (PySem.dunderR nm)) (some none) &&
  (opTB K nm "int" && (opTB K nm "bool" && (opTB K nm "NoneType" && opTB K nm "str"))))))
def xbB (C : Addr) (bmB : List Value) (newId : String) : Bool := PySem.W.excInitIn K C bmB newId && (PySem.W.excOver K C bmB && (PySem.W.hasDictIn K C && (eqO (PySem.W.findIn K (.ref C) "__setattr__") (some (some (.builtin "object.__setattr__"))) &&
  (decide (PySem.W.subIn K (.ref C) (.type "BaseException") = some true) && (decide (PySem.W.typeIn K (.ref C) = some (.type "type")) && PySem.W.keepIn K (.ref C))))))
def iniB (C : Addr) : Bool := eqO (PySem.W.findIn K (.ref C) "__init__") (some (some (.ref (He.ma K C "__init__")))) && decide (PySem.W.typeIn K (.ref (He.ma K C "__init__")) = some (.type "function"))
def excCB (D : Addr) : Bool := eqO (PySem.W.findIn K (.ref D) "__getattribute__") (some (some (.builtin "BaseException.__getattribute__"))) && (eqO (PySem.W.findIn K (.ref D) "__getattr__") (some none) && (decide (PySem.W.subIn K (.ref D) (.type "BaseException") = some true) && (PySem.W.hasDictIn K D &&
  (eqO (PySem.W.findIn K (.ref D) "__class__") (some (some (.builtin "object.__class__"))) && decide (PySem.W.mroIn K D (.type "object") = some true)))))
def noB (C : Addr) (f : Str) : Bool := eqO (PySem.W.findIn K (.ref C) f) (some none)
def exmB (C D : Addr) (b : Bool) : Bool := decide (PySem.W.exmOne K (.ref C) (.ref D) = some b)
def kitKB (t c : Value) (b : Bool) : Bool := decide (PySem.W.kitOne K t c = some b)
def fcB (C : Addr) (id : String) : Bool := match PySem.W.findCls K (.ref C) vT "__init__" with
  | some (.val (.builtin i)) => decide (i = id)
  | _ => false
/-- a def's table of code objects -/
def tbA (x : Str) : Addr := (He.cT K (x, none)).2
def partsB : List Bool := [
  gloNames.all (fun x => (Fa.glo x).ok K),
  freeNames.all (fun x => (Fa.free x).ok K),
  intB K "WORDS" 4294967296, intB K "MOST_STEPS" 18446744073709551616, intB K "MOST_WORDS" 1000000, intB K "MOST_SCRIPT" 10000,
  (Fa.cls "Scripted").ok K, noB K (aC K) "s1_script", noB K (aC K) "s1_place", (Fa.mkr "Scripted").ok K,
  methNames.all (fun m => (Fa.meth "Scripted" m).ok K),
  propB K "state", propB K "left", creadB K (aC K), cmB K "at_state", cmB K "seeded", smB K "state_after",
  opFB K "rshift" "__rshift__", opFB K "lshift" "__lshift__",
  eqO (PySem.W.findIn K (.ref (aC K)) "__class__") (some (some (.builtin "object.__class__"))),
  eqO (PySem.W.specialIn K (.builtin "object.__class__") "__get__") (some (some (.builtin "getset_descriptor.__get__"))),
  decide (PySem.W.takesIn K (.builtin "object.__class__") = some true),
  decide (PySem.W.mroIn K (aC K) (.type "object") = some true),
  kitKB K (.ref (aC K)) (.ref (aC K)) true, kitKB K (.type "tuple") (.ref (aC K)) false,
  xbB K (aState K) HandSPX.veTail "ValueError.__new__", xbB K (aSteps K) HandSPX.veTail "ValueError.__new__", xbB K (aSeed K) HandSPX.veTail "ValueError.__new__", xbB K (aExh K) leTail "LookupError.__new__",
  iniB K (aState K), iniB K (aSteps K), iniB K (aSeed K), iniB K (aExh K),
  excCB K (aState K), excCB K (aSteps K), excCB K (aSeed K), excCB K (aExh K),
  noB K (aState K) "given", noB K (aSteps K) "given", noB K (aSeed K) "given", noB K (aExh K) "missing",
  exmB K (aState K) (aDraw K) true, exmB K (aSteps K) (aDraw K) true, exmB K (aSeed K) (aDraw K) true, exmB K (aExh K) (aDraw K) false, exmB K (aExh K) (aShort K) true,
  kitKB K (.ref (aState K)) (.ref (aSteps K)) false, kitKB K (.ref (aState K)) (.ref (aState K)) true, kitKB K (.ref (aState K)) (.ref (aSeed K)) false,
  kitKB K (.ref (aSteps K)) (.ref (aSteps K)) true, kitKB K (.ref (aSteps K)) (.ref (aState K)) false, kitKB K (.ref (aSteps K)) (.ref (aSeed K)) false,
  kitKB K (.ref (aSeed K)) (.ref (aSteps K)) false, kitKB K (.ref (aSeed K)) (.ref (aState K)) false, kitKB K (.ref (aSeed K)) (.ref (aSeed K)) true,
  kitKB K (.ref (aExh K)) (.ref (aExh K)) true,
  creadB K (aDraw K), creadB K (aShort K), fcB K (aDraw K) "ValueError.__init__", fcB K (aShort K) "LookupError.__init__",
  !decide (tbA K "_law_new_right" = tbA K "_law_call_right"), !decide (tbA K "_law_new_right" = tbA K "law"), !decide (tbA K "_law_call_right" = tbA K "law")]
def factsB : Bool := (partsB K).all id
end

/-! ### the structure -/
theorem dec_ok {α : Prop} [Decidable α] (h : decide α = true) : α := of_decide_eq_true h
section
variable {K : PySem.W.Frag}
theorem prop_ok {m : Str} (h : propB K m = true) : PropOf K (aC K) m (aM K m) (aW K "property" m) := by
  obtain ⟨h1, h⟩ := ba h
  obtain ⟨h2, h⟩ := ba h
  obtain ⟨h3, h4⟩ := ba h
  refine ⟨eqO_ok h1, eqO_ok h2, dec_ok h3, ?_⟩
  show ∃ rest, PySem.W.recIn K (aM K m) "property" = some (.ref (He5.wf K (aC K) "property" m) :: rest)
  unfold He5.wf
  split at h4
  · rename_i f r e
    exact ⟨r, by rw [e]⟩
  · cases h4
theorem cread_ok {C : Addr} (h : creadB K C = true) : ClX.CRead K C vT := by
  obtain ⟨h1, h2⟩ := ba h
  exact ⟨h1, eqO_ok h2⟩
theorem cm_ok {m : Str} (h : cmB K m = true) : ClX.CMet K (aC K) vT m (aM K m) (aW K "classmethod" m) := by
  obtain ⟨h1, h2⟩ := ba h
  exact He5.cmet_of h1 h2
theorem sm_ok {m : Str} (h : smB K m = true) : SMet K (aC K) vT m (aM K m) (aW K "staticmethod" m) := by
  obtain ⟨h1, h2⟩ := ba h
  obtain ⟨h3, h4⟩ := He5.wrapB_ok h1
  exact ⟨h3, h4, h2⟩
theorem opT_ok {nm T : String} (h : opTB K nm T = true) : OpT K (aC K) nm T := by
  obtain ⟨h1, h⟩ := ba h
  obtain ⟨h2, h3⟩ := ba h
  exact ⟨Option.isSome_iff_exists.mp h1, Option.isSome_iff_exists.mp h2, dec_ok h3⟩
theorem opF_ok {nm : String} {m : Str} (h : opFB K nm m = true) : OpF K (aC K) (aM K m) nm := by
  obtain ⟨h1, h⟩ := ba h
  obtain ⟨h2, h⟩ := ba h
  obtain ⟨h3, h⟩ := ba h
  obtain ⟨h4, h⟩ := ba h
  obtain ⟨h5, h⟩ := ba h
  obtain ⟨h6, h⟩ := ba h
  obtain ⟨h7, h8⟩ := ba h
  exact ⟨h1, eqO_ok h2, h3, eqO_ok h4, opT_ok h5, opT_ok h6, opT_ok h7, opT_ok h8⟩
theorem xb_ok {C : Addr} {bmB : List Value} {newId : String} (h : xbB K C bmB newId = true) : XB K C bmB newId := by
  obtain ⟨h1, h⟩ := ba h
  obtain ⟨h2, h⟩ := ba h
  obtain ⟨h3, h⟩ := ba h
  obtain ⟨h4, h⟩ := ba h
  obtain ⟨h5, h⟩ := ba h
  obtain ⟨h6, h7⟩ := ba h
  exact ⟨h1, h2, h3, eqO_ok h4, dec_ok h5, dec_ok h6, h7⟩
end
/-- what is known of the class of an own error -/
structure ErrC (K : PySem.W.Frag) (C : Addr) (bmB : List Value) (newId : String) (f : Str) : Prop where
  xb : XB K C bmB newId
  ini : PySem.W.findIn K (.ref C) "__init__" = some (some (.ref (He.ma K C "__init__")))
  tyI : PySem.W.typeIn K (.ref (He.ma K C "__init__")) = some (.type "function")
  ec : ExcC K C
  xf : XfC K C
  no : PySem.W.findIn K (.ref C) f = some none
structure Txt (K : PySem.W.Frag) (mg : Str → Option Value) : Prop where
  g : ∀ x ∈ gloNames, mg x = some (.ref (He.ga K x))
  z : ∀ x ∈ freeNames, mg x = none
  iW : ∃ t, mg "WORDS" = some (.int 4294967296 t)
  iS : ∃ t, mg "MOST_STEPS" = some (.int 18446744073709551616 t)
  iM : ∃ t, mg "MOST_WORDS" = some (.int 1000000 t)
  iC : ∃ t, mg "MOST_SCRIPT" = some (.int 10000 t)
  cl : Cls K (aC K)
  n1 : NoAttr K (aC K) "s1_script"
  n2 : NoAttr K (aC K) "s1_place"
  mkC : Mk K (aC K) (aM K "__init__")
  me : ∀ m ∈ methNames, Meth K (aC K) m (aM K m)
  pSt : PropOf K (aC K) "state" (aM K "state") (aW K "property" "state")
  pLe : PropOf K (aC K) "left" (aM K "left") (aW K "property" "left")
  cr : ClX.CRead K (aC K) vT
  cAt : ClX.CMet K (aC K) vT "at_state" (aM K "at_state") (aW K "classmethod" "at_state")
  cSd : ClX.CMet K (aC K) vT "seeded" (aM K "seeded") (aW K "classmethod" "seeded")
  sSA : SMet K (aC K) vT "state_after" (aM K "state_after") (aW K "staticmethod" "state_after")
  oR : OpF K (aC K) (aM K "__rshift__") "rshift"
  oL : OpF K (aC K) (aM K "__lshift__") "lshift"
  k1 : PySem.W.findIn K (.ref (aC K)) "__class__" = some (some (.builtin "object.__class__"))
  k2 : PySem.W.specialIn K (.builtin "object.__class__") "__get__" = some (some (.builtin "getset_descriptor.__get__"))
  k3 : PySem.W.takesIn K (.builtin "object.__class__") = some true
  k4 : PySem.W.mroIn K (aC K) (.type "object") = some true
  kSS : PySem.W.kitOne K (.ref (aC K)) (.ref (aC K)) = some true
  kTS : PySem.W.kitOne K (.type "tuple") (.ref (aC K)) = some false
  eT : ErrC K (aState K) HandSPX.veTail "ValueError.__new__" "given"
  eS : ErrC K (aSteps K) HandSPX.veTail "ValueError.__new__" "given"
  eD : ErrC K (aSeed K) HandSPX.veTail "ValueError.__new__" "given"
  eX : ErrC K (aExh K) leTail "LookupError.__new__" "missing"
  mT : PySem.W.exmOne K (.ref (aState K)) (.ref (aDraw K)) = some true
  mS : PySem.W.exmOne K (.ref (aSteps K)) (.ref (aDraw K)) = some true
  mD : PySem.W.exmOne K (.ref (aSeed K)) (.ref (aDraw K)) = some true
  mX : PySem.W.exmOne K (.ref (aExh K)) (.ref (aDraw K)) = some false
  mXS : PySem.W.exmOne K (.ref (aExh K)) (.ref (aShort K)) = some true
  kTs : PySem.W.kitOne K (.ref (aState K)) (.ref (aSteps K)) = some false
  kTt : PySem.W.kitOne K (.ref (aState K)) (.ref (aState K)) = some true
  kTd : PySem.W.kitOne K (.ref (aState K)) (.ref (aSeed K)) = some false
  kSs : PySem.W.kitOne K (.ref (aSteps K)) (.ref (aSteps K)) = some true
  kSt : PySem.W.kitOne K (.ref (aSteps K)) (.ref (aState K)) = some false
  kSd : PySem.W.kitOne K (.ref (aSteps K)) (.ref (aSeed K)) = some false
  kDs : PySem.W.kitOne K (.ref (aSeed K)) (.ref (aSteps K)) = some false
  kDt : PySem.W.kitOne K (.ref (aSeed K)) (.ref (aState K)) = some false
  kDd : PySem.W.kitOne K (.ref (aSeed K)) (.ref (aSeed K)) = some true
  kXx : PySem.W.kitOne K (.ref (aExh K)) (.ref (aExh K)) = some true
  crD : ClX.CRead K (aDraw K) vT
  crS : ClX.CRead K (aShort K) vT
  fD : PySem.W.findCls K (.ref (aDraw K)) vT "__init__" = some (.val (.builtin "ValueError.__init__"))
  fS : PySem.W.findCls K (.ref (aShort K)) vT "__init__" = some (.val (.builtin "LookupError.__init__"))
  d12 : tbA K "_law_new_right" ≠ tbA K "_law_call_right"
  d13 : tbA K "_law_new_right" ≠ tbA K "law"
  d23 : tbA K "_law_call_right" ≠ tbA K "law"
theorem err_ok {K : PySem.W.Frag} {C : Addr} {bmB : List Value} {newId : String} {f : Str} (k2 : PySem.W.specialIn K (.builtin "object.__class__") "__get__" = some (some (.builtin "getset_descriptor.__get__"))) (k3 : PySem.W.takesIn K (.builtin "object.__class__") = some true)
    (h1 : xbB K C bmB newId = true) (h2 : iniB K C = true) (h3 : excCB K C = true) (h4 : noB K C f = true) : ErrC K C bmB newId f := by
  obtain ⟨i1, i2⟩ := ba h2
  obtain ⟨e1, h3⟩ := ba h3
  obtain ⟨e2, h3⟩ := ba h3
  obtain ⟨e3, h3⟩ := ba h3
  obtain ⟨e4, h3⟩ := ba h3
  obtain ⟨e5, e6⟩ := ba h3
  exact ⟨xb_ok h1, eqO_ok i1, dec_ok i2, ⟨eqO_ok e1, eqO_ok e2, dec_ok e3, e4, eqO_ok e5, k2, k3, dec_ok e6⟩, ⟨eqO_ok e1, eqO_ok e2, dec_ok e3, e4⟩, eqO_ok h4⟩
theorem fc_ok {K : PySem.W.Frag} {C : Addr} {id : String} (h : fcB K C id = true) : PySem.W.findCls K (.ref C) vT "__init__" = some (.val (.builtin id)) := by
  unfold fcB at h
  split at h
  · rename_i i e
    rw [e, dec_ok h]
  · cases h
theorem txt_of {K : PySem.W.Frag} {h : Heap} {mg : Str → Option Value} (X : K.In h) (G : h.Ns mainGlobals mg) (c : factsB K = true) : Txt K mg := by
  have f : ∀ (i : Nat) (b : Bool), (partsB K)[i]? = some b → b = true := fun i b e => List.all_eq_true.mp c b (List.mem_of_getElem? e)
  have k2 : PySem.W.specialIn K (.builtin "object.__class__") "__get__" = some (some (.builtin "getset_descriptor.__get__")) := eqO_ok (f 20 _ rfl)
  have k3 : PySem.W.takesIn K (.builtin "object.__class__") = some true := dec_ok (f 21 _ rfl)
  exact {
    g := fun x hx => glo_ok X G (List.all_eq_true.mp (f 0 _ rfl) x hx)
    z := fun x hx => free_ok X G (List.all_eq_true.mp (f 1 _ rfl) x hx)
    iW := int_ok X G (f 2 _ rfl)
    iS := int_ok X G (f 3 _ rfl)
    iM := int_ok X G (f 4 _ rfl)
    iC := int_ok X G (f 5 _ rfl)
    cl := cls_ok (x := "Scripted") (f 6 _ rfl)
    n1 := eqO_ok (f 7 _ rfl)
    n2 := eqO_ok (f 8 _ rfl)
    mkC := mkr_ok (x := "Scripted") (f 9 _ rfl)
    me := fun m hm => meth_ok (x := "Scripted") (List.all_eq_true.mp (f 10 _ rfl) m hm)
    pSt := prop_ok (f 11 _ rfl)
    pLe := prop_ok (f 12 _ rfl)
    cr := cread_ok (f 13 _ rfl)
    cAt := cm_ok (f 14 _ rfl)
    cSd := cm_ok (f 15 _ rfl)
    sSA := sm_ok (f 16 _ rfl)
    oR := opF_ok (f 17 _ rfl)
    oL := opF_ok (f 18 _ rfl)
    k1 := eqO_ok (f 19 _ rfl)
    k2 := k2
    k3 := k3
    k4 := dec_ok (f 22 _ rfl)
    kSS := dec_ok (f 23 _ rfl)
    kTS := dec_ok (f 24 _ rfl)
    eT := err_ok k2 k3 (f 25 _ rfl) (f 29 _ rfl) (f 33 _ rfl) (f 37 _ rfl)
    eS := err_ok k2 k3 (f 26 _ rfl) (f 30 _ rfl) (f 34 _ rfl) (f 38 _ rfl)
    eD := err_ok k2 k3 (f 27 _ rfl) (f 31 _ rfl) (f 35 _ rfl) (f 39 _ rfl)
    eX := err_ok k2 k3 (f 28 _ rfl) (f 32 _ rfl) (f 36 _ rfl) (f 40 _ rfl)
    mT := dec_ok (f 41 _ rfl)
    mS := dec_ok (f 42 _ rfl)
    mD := dec_ok (f 43 _ rfl)
    mX := dec_ok (f 44 _ rfl)
    mXS := dec_ok (f 45 _ rfl)
    kTs := dec_ok (f 46 _ rfl)
    kTt := dec_ok (f 47 _ rfl)
    kTd := dec_ok (f 48 _ rfl)
    kSs := dec_ok (f 49 _ rfl)
    kSt := dec_ok (f 50 _ rfl)
    kSd := dec_ok (f 51 _ rfl)
    kDs := dec_ok (f 52 _ rfl)
    kDt := dec_ok (f 53 _ rfl)
    kDd := dec_ok (f 54 _ rfl)
    kXx := dec_ok (f 55 _ rfl)
    crD := cread_ok (f 56 _ rfl)
    crS := cread_ok (f 57 _ rfl)
    fD := fc_ok (f 58 _ rfl)
    fS := fc_ok (f 59 _ rfl)
    d12 := fun z => by
      have q := f 60 _ rfl
      rw [decide_eq_true z] at q
      cases q
    d13 := fun z => by
      have q := f 61 _ rfl
      rw [decide_eq_true z] at q
      cases q
    d23 := fun z => by
      have q := f 62 _ rfl
      rw [decide_eq_true z] at q
      cases q }
end L2.Lw

set_option maxHeartbeats 0
/-! The head: the defs by their places, one kernel run. -/
namespace L2.Lw
open PySem PySem.W PySem.Calls PyProof.Rows He
abbrev R : PySem.W.OpenRow := OpenLaw.row rwl
abbrev qv : Program := view R.prog [35]
def mkF (a : PySem.W.Frag → Addr) (name qual : PySem.Str) (st : Stmt) (dfl : List He.Dv := []) : He5.DefA := ⟨a, name, qual, defArgs st, defBody st, defScope st, dfl, []⟩
def mkG (x : PySem.Str) (st : Stmt) : He5.DefA := mkF (fun K => He.ga K x) x x st
def mkM (m q : PySem.Str) (st : Stmt) (dfl : List He.Dv := []) : He5.DefA := mkF (fun K => aM K m) m q st dfl
def fns : List He5.DefA := [
  mkG "is_integer" sIsInteger, mkG "is_word" sIsWord, mkG "need_steps" sNeedSteps, mkG "need_many" sNeedMany, mkG "is_script" sIsScript, mkG "need_script_state" sNeedState, mkG "script_after" sAfter, mkG "script_before" sBefore,
  mkM "__init__" "Scripted.__init__" sInit [.int 0], mkM "next_word" "Scripted.next_word" sNextWord, mkM "words" "Scripted.words" sWords, mkF (fun K => aW K "property" "state") "state" "Scripted.state" sState, mkF (fun K => aW K "property" "left") "left" "Scripted.left" sLeft,
  mkM "set_state" "Scripted.set_state" sSetState, mkM "jump" "Scripted.jump" sJump, mkM "back" "Scripted.back" sBack, mkM "ahead" "Scripted.ahead" sAhead, mkM "behind" "Scripted.behind" sBehind, mkM "__rshift__" "Scripted.__rshift__" sRsh, mkM "__lshift__" "Scripted.__lshift__" sLsh,
  mkM "copy" "Scripted.copy" sCopy, mkM "same_state" "Scripted.same_state" sSame, mkF (fun K => aW K "classmethod" "at_state") "at_state" "Scripted.at_state" sAtState, mkF (fun K => aW K "classmethod" "seeded") "seeded" "Scripted.seeded" sSeeded, mkF (fun K => aW K "staticmethod" "state_after") "state_after" "Scripted.state_after" sStAfter,
  mkF (fun K => He.ma K (aState K) "__init__") "__init__" "BadState.__init__" sIniState, mkF (fun K => He.ma K (aSteps K) "__init__") "__init__" "BadSteps.__init__" sIniSteps, mkF (fun K => He.ma K (aSeed K) "__init__") "__init__" "BadSeed.__init__" sIniSeed, mkF (fun K => He.ma K (aExh K) "__init__") "__init__" "Exhausted.__init__" sIniExh,
  mkG "_law_mixed" sMixed, mkG "_law_draw" sDraw, mkG "_law_digit" sDigit, mkG "_law_told" sTold, mkG "_law_steps" sSteps, mkG "_law_is_steps" sIsSteps, mkG "_law_moved" sMoved, mkG "_law_new_right" sNewRight, mkG "_law_call_right" sCallRight, mkG "law" sLaw]
def tf : List He.Defn := [("_law_new_right", none), ("_law_call_right", none), ("law", none)]
abbrev AlL : Type := Bool × List He5.FnW
def obsK (g : Addr → Option Obj) (K : PySem.W.Frag) : AlL := ((factsB K && (fns.all fun d => d.ok K)) && tabsB g tf K, fns.map fun d => He5.fnA K (d.at_ K))
def obsL (n : Nat) (g : Addr → Option Obj) : AlL := obsK g (frT g (He5.asA g n))
def valL : AlL := (true, fns.map He5.DefA.val)
structure SaysL (h : Heap) (K : PySem.W.Frag) : Prop where
  facts : factsB K = true
  defs : ∀ (i : Nat) (d : He5.DefA), fns[i]? = some d → ∃ fd, FunD K d.name d.qual d.params d.body d.scope (d.dvs K) (d.kws K) (d.at_ K) fd
  hd : ∀ p ∈ tf, PySem.W.codeHdIn K (cT K p).1 (cT K p).2 = true
  out : ∀ p ∈ tf, K.lookup (cT K p).2 = none
  empty : ∀ p ∈ tf, h.get? (cT K p).2 = some { cls := .none, data := .fields #[] }
theorem saysL_of {n : Nat} {h : Heap} (e : obsL n h.get? = valL) : SaysL h (frT h.get? (He5.asA h.get? n)) := by
  generalize hK : frT h.get? (He5.asA h.get? n) = K at e
  have e0 : obsK h.get? K = valL := by rw [← hK]; exact e
  have e1 : ((factsB K && (fns.all fun d => d.ok K)) && tabsB h.get? tf K) = true := congrArg (fun z : AlL => z.1) e0
  have e2 : (fns.map fun d => He5.fnA K (d.at_ K)) = fns.map He5.DefA.val := congrArg (fun z : AlL => z.2) e0
  obtain ⟨h1, h2⟩ := ba e1
  obtain ⟨h3, h4⟩ := ba h1
  have key : ∀ p ∈ tf, PySem.W.codeHdIn K (cT K p).1 (cT K p).2 = true ∧ ∃ o, h.get? (cT K p).2 = some o ∧ emptyTab o = true := fun p hp => by
    obtain ⟨h5, h6⟩ := ba (List.all_eq_true.mp h2 p hp)
    refine ⟨h5, ?_⟩
    cases q : h.get? (cT K p).2 with
    | none =>
      rw [q] at h6
      cases h6
    | some o =>
      rw [q] at h6
      exact ⟨o, rfl, h6⟩
  refine ⟨h3, fun i d hi => ?_, fun p hp => (key p hp).1, fun p hp => ?_, fun p hp => ?_⟩
  · have e3 : (fns.map fun d => He5.fnA K (d.at_ K))[i]? = (fns.map He5.DefA.val)[i]? := by rw [e2]
    rw [List.getElem?_map, List.getElem?_map, hi] at e3
    exact He5.DefA.funD (Option.some.inj e3) (List.all_eq_true.mp h4 d (List.mem_of_getElem? hi))
  · obtain ⟨_, o, q, z⟩ := key p hp
    rw [← hK] at q ⊢
    exact frT_none q z
  · obtain ⟨_, o, q, z⟩ := key p hp
    rw [q, emptyTab_eq z]
def hookL (n : Nat) : PySem.W.Hook where
  α := AlL
  obs := fun s => obsL n s.heap.get?
  val := fun _ => valL
  says := fun _ h => ∃ K : PySem.W.Frag, K.In h ∧ SaysL h K
  of := fun _ _ e => ⟨_, frT_in, saysL_of e⟩
  keeps := fun _ _ _ ⟨K, hK, c⟩ k => ⟨K, PySem.W.Frag.In.keeps hK k, ⟨c.facts, c.defs, c.hd, c.out, fun p hp => k _ _ (c.empty p hp)⟩⟩
theorem obsL_eq {n : Nat} {g : Addr → Option Obj} {s : Shared} (h : ∀ a, g a = s.heap.get? a) : obsL n g = (hookL n).obs s := by
  have e : g = s.heap.get? := funext h
  rw [e] <;> rfl
def nG : Nat := 5
abbrev hkL : PySem.W.Hook := hookL nG
def obT (s : PySem.W.SharedT) : AlL := obsL nG (HandSHeadRun.getT s)
theorem obT_eq (s : PySem.W.SharedT) : obT s = hkL.obs s.abs := obsL_eq (HandSHeadRun.getT_eq s)
def loose : List PySem.Str := ["DrawError", "BadState", "BadSteps", "BadSeed", "Shortage", "Exhausted", "RunError", "Unsteady", "WORDS", "is_integer", "is_word", "MOST_STEPS", "MOST_WORDS", "MOST_SCRIPT", "need_steps", "need_many", "Source", "is_script", "need_script_state", "script_after", "script_before", "Scripted", "_law_mixed", "_law_draw", "_law_digit", "_law_told", "_law_steps", "_law_is_steps", "_law_moved", "_law_new_right", "_law_call_right"]
theorem run (w : World) : HandSHeadRun.RunEq R qv hkL obT 6000 loose w := by
  intro os
  kernel_rfl
end L2.Lw

set_option maxHeartbeats 4000000
/-! The plain defs and the errors' __init__. -/
namespace L2.Lw
open PySem PySem.Spec PyProof.Rows

/-! ### words -/
abbrev FnF (K : PySem.W.Frag) (x q : Str) (st : Stmt) (f : Addr) (fd : FuncData) : Prop := FunD K x q (defArgs st) (defBody st) (defScope st) [] [] f fd
abbrev FnB (P : Program) (w : World) (K : PySem.W.Frag) (mg : Str → Option Value) (base : Heap) (CX : CXT) (k : Nat) (f : Addr) (ps : List Str) (sp : Sp) : Prop :=
  ∃ fd, FnOk P w K mg base CX k f fd ps sp ∧ Binds K fd ps [] ∧ PySem.W.keepIn K (.ref f) = true
theorem fnB_imp {P : Program} {w : World} {K : PySem.W.Frag} {mg : Str → Option Value} {base : Heap} {CX : CXT} {k : Nat} {f : Addr} {ps : List Str} {sp sp' : Sp} (F : FnB P w K mg base CX k f ps sp) (h : ∀ vs H Q E, sp' vs H Q E → sp vs H Q E) : FnB P w K mg base CX k f ps sp' := by
  obtain ⟨fd, G, b⟩ := F
  exact ⟨fd, G.imp h, b⟩
def isI : V → Bool
  | .int _ => true
  | _ => false
def tyS : V → String
  | .int _ => "int"
  | .bl _ => "bool"
  | .non => "NoneType"
  | _ => "str"
theorem ty_scl {K : PySem.W.Frag} {H : Hp} : ∀ {v : V}, Scl v → TyX K H v (.type (tyS v))
  | .int i, _ => .base (.int i)
  | .bl b, _ => .base (.bl b)
  | .non, _ => .base .non
  | .str x, _ => .base (.str x)
  | .byt _, h => h.elim
  | .flt _, h => h.elim
  | .ref _, h => h.elim
  | .ty _, h => h.elim
def isIB : V → Bool
  | .int _ => true
  | .bl _ => true
  | _ => false
def isB : V → Bool
  | .bl _ => true
  | _ => false
theorem kit_int {K : PySem.W.Frag} : ∀ {v : V}, Scl v → PySem.W.kitOne K (.type (tyS v)) (.type "int") = some (isIB v)
  | .int i, _ => kit_ty (show kitB "int" "int" = some true by decide +kernel)
  | .bl b, _ => kit_ty (show kitB "bool" "int" = some true by decide +kernel)
  | .non, _ => kit_ty (show kitB "NoneType" "int" = some false by decide +kernel)
  | .str x, _ => kit_ty (show kitB "str" "int" = some false by decide +kernel)
  | .byt _, h => h.elim
  | .flt _, h => h.elim
  | .ref _, h => h.elim
  | .ty _, h => h.elim
theorem kit_bool {K : PySem.W.Frag} : ∀ {v : V}, Scl v → PySem.W.kitOne K (.type (tyS v)) (.type "bool") = some (isB v)
  | .int i, _ => kit_ty (show kitB "int" "bool" = some false by decide +kernel)
  | .bl b, _ => kit_ty (show kitB "bool" "bool" = some true by decide +kernel)
  | .non, _ => kit_ty (show kitB "NoneType" "bool" = some false by decide +kernel)
  | .str x, _ => kit_ty (show kitB "str" "bool" = some false by decide +kernel)
  | .byt _, h => h.elim
  | .flt _, h => h.elim
  | .ref _, h => h.elim
  | .ty _, h => h.elim
theorem isI_and (v : V) : (isIB v && !isB v) = isI v := by cases v <;> rfl
/-- the two tests of a whole number, as a value -/
theorem isint_end {v : V} {H : Hp} {Q : VK} (q : Q (.bl (isI v)) H) : ∃ c, V.bl (isIB v) = .bl c ∧ if c = true then (∃ c2, V.bl (isB v) = .bl c2 ∧ Q (.bl (!c2)) H) else Q (.bl false) H := by
  refine ⟨_, rfl, ?_⟩
  cases v with
  | int i => exact ⟨_, rfl, q⟩
  | bl b => exact ⟨_, rfl, q⟩
  | _ => exact q
theorem bt_isinstance : bootBuiltins "isinstance" = some (.builtin "isinstance") := by decide +kernel
theorem bt_int : bootBuiltins "int" = some (.type "int") := by decide +kernel
theorem bt_bool : bootBuiltins "bool" = some (.type "bool") := by decide +kernel
theorem bt_tuple : bootBuiltins "tuple" = some (.type "tuple") := by decide +kernel
theorem bt_list : bootBuiltins "list" = some (.type "list") := by decide +kernel
theorem bt_len : bootBuiltins "len" = some (.builtin "len") := by decide +kernel
theorem bt_all : bootBuiltins "all" = some (.builtin "all") := by decide +kernel
theorem bt_repr : bootBuiltins "repr" = some (.builtin "repr") := by decide +kernel
theorem bt_sum : bootBuiltins "sum" = some (.builtin "sum") := by decide +kernel
theorem bt_range : bootBuiltins "range" = some (.type "range") := by decide +kernel
theorem bt_enumerate : bootBuiltins "enumerate" = some (.type "enumerate") := by decide +kernel

section
variable {P : Program} {w : World} {K : PySem.W.Frag} {mg : Str → Option Value} {base : Heap} {f : Addr} {fd : FuncData}

/-! ### the errors -/
theorem scE : FnScope ["self", "given"] ["self", "given"] (defScope sIniState) := ⟨rfl, rfl, rfl, by decide +kernel, rfl, by decide +kernel, by decide +kernel⟩
theorem scE2 : FnScope ["self", "given"] ["self", "given"] (defScope sIniSteps) := ⟨rfl, rfl, rfl, by decide +kernel, rfl, by decide +kernel, by decide +kernel⟩
theorem scE3 : FnScope ["self", "given"] ["self", "given"] (defScope sIniSeed) := ⟨rfl, rfl, rfl, by decide +kernel, rfl, by decide +kernel, by decide +kernel⟩
theorem scE4 : FnScope ["self", "missing"] ["self", "missing"] (defScope sIniExh) := ⟨rfl, rfl, rfl, by decide +kernel, rfl, by decide +kernel, by decide +kernel⟩
theorem ok_iniT (F : FnF K "__init__" "BadState.__init__" sIniState f fd) (T : Txt K mg) : FnB P w K mg base CX0 1 f ["self", "given"] (spX (aState K) "given") := by
  refine ⟨fd, F.ok scE (fun vs H Q E h => ?_) (fun cdv A outer s H vs Q E hr h => ?_), F.bindsN fun _ _ _ _ _ _ us hl => match us, hl with | [_, _], _ => rfl, F.kp⟩
  · obtain ⟨a, v, rfl, _⟩ := h
    rfl
  · obtain ⟨a, v, rfl, ea, hq⟩ := h
    refine ⟨_, PSs.nox (pss_cons (ps_expr (pe_xinit PySem.F.excBase_ValueError rfl (T.g "DrawError" (by decide +kernel)) T.crD T.fD (pa_cons (pv 0) (pa_cons pe_str pa_nil)))) (pss_one (ps_xset (newId := "ValueError.__new__") PySem.F.store_ValueError (pv 0) (pv 1)))), ?_⟩
    refine ⟨_, rfl, a, aState K, [_], rfl, by decide, T.eT.xb, ea, ?_⟩
    exact ⟨_, rfl, _, rfl, a, aState K, rfl, T.eT.xb, T.eT.no, ea, hq⟩
theorem ok_iniS (F : FnF K "__init__" "BadSteps.__init__" sIniSteps f fd) (T : Txt K mg) : FnB P w K mg base CX0 1 f ["self", "given"] (spX (aSteps K) "given") := by
  refine ⟨fd, F.ok scE2 (fun vs H Q E h => ?_) (fun cdv A outer s H vs Q E hr h => ?_), F.bindsN fun _ _ _ _ _ _ us hl => match us, hl with | [_, _], _ => rfl, F.kp⟩
  · obtain ⟨a, v, rfl, _⟩ := h
    rfl
  · obtain ⟨a, v, rfl, ea, hq⟩ := h
    refine ⟨_, PSs.nox (pss_cons (ps_expr (pe_xinit PySem.F.excBase_ValueError rfl (T.g "DrawError" (by decide +kernel)) T.crD T.fD (pa_cons (pv 0) (pa_cons pe_str pa_nil)))) (pss_one (ps_xset (newId := "ValueError.__new__") PySem.F.store_ValueError (pv 0) (pv 1)))), ?_⟩
    refine ⟨_, rfl, a, aSteps K, [_], rfl, by decide, T.eS.xb, ea, ?_⟩
    exact ⟨_, rfl, _, rfl, a, aSteps K, rfl, T.eS.xb, T.eS.no, ea, hq⟩
theorem ok_iniD (F : FnF K "__init__" "BadSeed.__init__" sIniSeed f fd) (T : Txt K mg) : FnB P w K mg base CX0 1 f ["self", "given"] (spX (aSeed K) "given") := by
  refine ⟨fd, F.ok scE3 (fun vs H Q E h => ?_) (fun cdv A outer s H vs Q E hr h => ?_), F.bindsN fun _ _ _ _ _ _ us hl => match us, hl with | [_, _], _ => rfl, F.kp⟩
  · obtain ⟨a, v, rfl, _⟩ := h
    rfl
  · obtain ⟨a, v, rfl, ea, hq⟩ := h
    refine ⟨_, PSs.nox (pss_cons (ps_expr (pe_xinit PySem.F.excBase_ValueError rfl (T.g "DrawError" (by decide +kernel)) T.crD T.fD (pa_cons (pv 0) (pa_cons pe_str pa_nil)))) (pss_one (ps_xset (newId := "ValueError.__new__") PySem.F.store_ValueError (pv 0) (pv 1)))), ?_⟩
    refine ⟨_, rfl, a, aSeed K, [_], rfl, by decide, T.eD.xb, ea, ?_⟩
    exact ⟨_, rfl, _, rfl, a, aSeed K, rfl, T.eD.xb, T.eD.no, ea, hq⟩
theorem ok_iniX (F : FnF K "__init__" "Exhausted.__init__" sIniExh f fd) (T : Txt K mg) : FnB P w K mg base CX0 1 f ["self", "missing"] (spX (aExh K) "missing") := by
  refine ⟨fd, F.ok scE4 (fun vs H Q E h => ?_) (fun cdv A outer s H vs Q E hr h => ?_), F.bindsN fun _ _ _ _ _ _ us hl => match us, hl with | [_, _], _ => rfl, F.kp⟩
  · obtain ⟨a, v, rfl, _⟩ := h
    rfl
  · obtain ⟨a, v, rfl, ea, hq⟩ := h
    refine ⟨_, PSs.nox (pss_cons (ps_expr (pe_xinit PySem.F.excBase_LookupError rfl (T.g "Shortage" (by decide +kernel)) T.crS T.fS (pa_cons (pv 0) (pa_cons pe_str pa_nil)))) (pss_one (ps_xset (newId := "LookupError.__new__") PySem.F.store_LookupError (pv 0) (pv 1)))), ?_⟩
    refine ⟨_, rfl, a, aExh K, [_], rfl, by decide, T.eX.xb, ea, ?_⟩
    exact ⟨_, rfl, _, rfl, a, aExh K, rfl, T.eX.xb, T.eX.no, ea, hq⟩

/-! ### is_integer, is_word -/
def spIsInt : Sp := fun vs H Q _ => ∃ v, vs = [v] ∧ Scl v ∧ Q (.bl (isI v)) H
theorem scII : FnScope ["value"] ["value"] (defScope sIsInteger) := ⟨rfl, rfl, rfl, by decide +kernel, rfl, by decide +kernel, by decide +kernel⟩
theorem ok_isInt (F : FnF K "is_integer" "is_integer" sIsInteger f fd) (T : Txt K mg) : FnB P w K mg base CX0 1 f ["value"] spIsInt := by
  refine ⟨fd, F.ok scII (fun vs H Q E h => ?_) (fun cdv A outer s H vs Q E hr h => ?_), F.bindsN fun _ _ _ _ _ _ us hl => match us, hl with | [_], _ => rfl, F.kp⟩
  · obtain ⟨v, rfl, _⟩ := h
    rfl
  · obtain ⟨v, rfl, hs, hq⟩ := h
    have zi : mg "isinstance" = none := T.z "isinstance" (by decide +kernel)
    have z1 : mg "int" = none := T.z "int" (by decide +kernel)
    have z2 : mg "bool" = none := T.z "bool" (by decide +kernel)
    refine ⟨_, PSs.nox (pss_one (ps_ret (pe_and (pe_callB call_isi rfl zi bt_isinstance (pa_cons (pv 0) (pa_cons (pe_bltn rfl z1 bt_int (v := .ty "int") rfl) pa_nil)))
      (pe_one (pe_not (pe_callB call_isi rfl zi bt_isinstance (pa_cons (pv 0) (pa_cons (pe_bltn rfl z2 bt_bool (v := .ty "bool") rfl) pa_nil)))))))), ?_⟩
    refine ⟨_, rfl, v, .ty "int", .type (tyS v), .type "int", isIB v, rfl, .ty "int", ty_scl hs, kit_int hs, ?_⟩
    refine ⟨_, rfl, ?_⟩
    have two : isIB v = true → (∃ c2, V.bl (isB v) = .bl c2 ∧ Q (.bl (!c2)) H) := fun e => ⟨_, rfl, by
      have z : (!isB v) = isI v := by rw [← isI_and, e]; rfl
      rw [z]
      exact hq⟩
    cases e : isIB v with
    | true => exact iteT ⟨_, rfl, v, .ty "bool", .type (tyS v), .type "bool", isB v, rfl, .ty "bool", ty_scl hs, kit_bool hs, two e⟩
    | false =>
      refine iteF ?_
      have z : isI v = false := by rw [← isI_and, e]; rfl
      rw [← z]
      exact hq
end
end L2.Lw

set_option maxHeartbeats 4000000
/-! is_word .. script_before. -/
namespace L2.Lw
open PySem PySem.Spec PyProof.Rows

theorem takes0N {X : Cx} : L2N.Takes X (fun _ _ _ _ => False) := fun _ _ x => by
  obtain ⟨_, _, _, _, _, _, _, _, _, _, _, _, _, _, _, _, z⟩ := x
  exact z.elim
/-- a call that may raise, where it does not -/
theorem passN {X : Cx} : Passes (L2N.CX X.prog X.w) X E0 := L2N.passes_call takes0N fun _ _ _ _ h => h
def stB : V → Bool
  | .int i => decide (0 ≤ i) && decide (i ≤ 18446744073709551616)
  | _ => false
def plB (n : Nat) : V → Bool
  | .int i => decide (0 ≤ i) && decide (i ≤ n)
  | _ => false
structure OkW (ws : List Int) : Prop where
  w : ∀ x ∈ ws, 0 ≤ x ∧ x < 4294967296
  l : ws.length ≤ 12
abbrev Tw (H : Hp) (t : Addr) (ws : List Int) : Prop := H t = some (.tup (ws.map V.int))
/-- Q of every later heap -/
abbrev Later (H : Hp) (Q : Hp → Prop) : Prop := ∀ H', Same H H' → Q H'
/-- an own error with one field, made behind H -/
abbrev Err (C : Addr) (f : Str) (v : V) (H : Hp) (E : XK) : Prop := ∀ H' d, Same H H' → H' d = none → E (.ref C) (some d) (upd H' d (.xd [(f, v)]))

section
variable {P : Program} {w : World} {K : PySem.W.Frag} {mg : Str → Option Value} {base : Heap} {f : Addr} {fd : FuncData}

def spIsWord : Sp := fun vs H Q _ => ∃ i : Int, vs = [.int i] ∧ Q (.bl (decide (0 ≤ i) && decide (i < 4294967296))) H
theorem scIW : FnScope ["value"] ["value"] (defScope sIsWord) := ⟨rfl, rfl, rfl, by decide +kernel, rfl, by decide +kernel, by decide +kernel⟩
theorem ok_isWord (F : FnF K "is_word" "is_word" sIsWord f fd) (T : Txt K mg) (G : FnB P w K mg base CX0 1 (He.ga K "is_integer") ["value"] spIsInt) : FnB P w K mg base CX0 2 f ["value"] spIsWord := by
  obtain ⟨fg, G, bg, kg⟩ := G
  obtain ⟨t, iW⟩ := T.iW
  refine ⟨fd, F.ok scIW (fun vs H Q E h => ?_) (fun cdv A outer s H vs Q E hr h => ?_), F.bindsN fun _ _ _ _ _ _ us hl => match us, hl with | [_], _ => rfl, F.kp⟩
  · obtain ⟨v, rfl, _⟩ := h
    rfl
  · obtain ⟨i, rfl, hq⟩ := h
    refine ⟨_, PSs.nox (pss_one (ps_ret (pe_and (pe_call G hr rfl (T.g "is_integer" (by decide +kernel)) kg bg .nil pass0 (pa_cons (pv 0) pa_nil)) (pe_one (pe_chain op_le op_lt pe_int (pv 0) (pe_glob (v := .int 4294967296) rfl iW ⟨t, rfl⟩)))))), ?_⟩
    refine ⟨_, rfl, _, rfl, True.intro, _, rfl, iteT ⟨_, rfl, _, _, rfl, rfl, _, rfl, ?_⟩⟩
    by_cases h0 : 0 ≤ i
    · rw [decide_eq_true h0] at hq ⊢
      exact iteT ⟨_, _, rfl, rfl, hq⟩
    · rw [decide_eq_false h0] at hq ⊢
      exact iteF hq

def spNeed (K : PySem.W.Frag) : Sp := fun vs H Q E => ∃ v, vs = [v] ∧ Scl v ∧ (stB v = true → Q .non H) ∧ (stB v = false → Err (aSteps K) "given" v H E)
theorem scNS : FnScope ["steps"] ["steps"] (defScope sNeedSteps) := ⟨rfl, rfl, rfl, by decide +kernel, rfl, by decide +kernel, by decide +kernel⟩
theorem ok_needSteps (F : FnF K "need_steps" "need_steps" sNeedSteps f fd) (T : Txt K mg) (G : FnB P w K mg base CX0 1 (He.ga K "is_integer") ["value"] spIsInt) (GE : FnB P w K mg base CX0 1 (He.ma K (aSteps K) "__init__") ["self", "given"] (spX (aSteps K) "given")) :
    FnB P w K mg base (L2N.CX P w) 3 f ["steps"] (spNeed K) := by
  obtain ⟨fg, G, bg, kg⟩ := G
  obtain ⟨fe, GE, be, ke⟩ := GE
  obtain ⟨t, iS⟩ := T.iS
  refine ⟨fd, F.ok scNS (fun vs H Q E h => ?_) (fun cdv A outer s H vs Q E hr h => ?_), F.bindsN fun _ _ _ _ _ _ us hl => match us, hl with | [_], _ => rfl, F.kp⟩
  · obtain ⟨v, rfl, _⟩ := h
    rfl
  · obtain ⟨v, rfl, hs, hy, hn⟩ := h
    have hr1 : Room 1 _ := hr.mono (by decide)
    refine ⟨_, pss_one (ps_if (PW.pt (pw_or (pt_not (pt_val (pe_call G hr1 rfl (T.g "is_integer" (by decide +kernel)) kg bg .nil pass0 (pa_cons (pv 0) pa_nil))))
        (pw_or1 (pt_not (pt_chain op_le op_le pe_int (pv 0) (pe_glob (v := .int 18446744073709551616) rfl iS ⟨t, rfl⟩))))))
      (pss_one (L2N.ps_raise rfl (L2N.takes_of rfl rfl rfl rfl) (pmk_x PySem.F.excBase_ValueError T.eS.xb T.eS.ini T.eS.tyI GE hr be rfl (T.g "BadSteps" (by decide +kernel)) (pv 0)))) pss_nil), ?_⟩
    have bad : stB v = false → ∃ v', (start ["steps"] [v])[0]? = some (some v') ∧ ∀ d, H d = none → E (.ref (aSteps K)) (some d) (upd H d (.xd [("given", v')])) := fun z => ⟨v, rfl, fun d hd => hn z H d (Same.refl H) hd⟩
    refine ⟨_, rfl, _, rfl, hs, _, rfl, ?_⟩
    cases v with
    | int i =>
      refine iteF ⟨_, rfl, _, _, rfl, rfl, _, rfl, ?_⟩
      by_cases h0 : 0 ≤ i
      · rw [decide_eq_true h0]
        refine iteT ⟨_, _, rfl, rfl, _, rfl, ?_⟩
        by_cases h1 : i ≤ 18446744073709551616
        · rw [decide_eq_true h1]
          exact iteF (hy (by simp [stB, h0, h1]))
        · rw [decide_eq_false h1]
          exact iteT (bad (by simp [stB, h1]))
      · rw [decide_eq_false h0]
        refine iteF ⟨_, rfl, ?_⟩
        exact iteT (bad (by simp [stB, h0]))
    | bl b => exact iteT (iteT (bad rfl))
    | non => exact iteT (iteT (bad rfl))
    | str x => exact iteT (iteT (bad rfl))
    | _ => exact hs.elim

def spMany : Sp := fun vs H Q _ => ∃ i : Int, vs = [.int i] ∧ 0 ≤ i ∧ i ≤ 1000000 ∧ Q .non H
theorem scNM : FnScope ["many"] ["many"] (defScope sNeedMany) := ⟨rfl, rfl, rfl, by decide +kernel, rfl, by decide +kernel, by decide +kernel⟩
theorem ok_needMany (F : FnF K "need_many" "need_many" sNeedMany f fd) (T : Txt K mg) (G : FnB P w K mg base CX0 1 (He.ga K "is_integer") ["value"] spIsInt) : FnB P w K mg base CX0 2 f ["many"] spMany := by
  obtain ⟨fg, G, bg, kg⟩ := G
  obtain ⟨t, iM⟩ := T.iM
  refine ⟨fd, F.ok scNM (fun vs H Q E h => ?_) (fun cdv A outer s H vs Q E hr h => ?_), F.bindsN fun _ _ _ _ _ _ us hl => match us, hl with | [_], _ => rfl, F.kp⟩
  · obtain ⟨v, rfl, _⟩ := h
    rfl
  · obtain ⟨i, rfl, h0, h1, hq⟩ := h
    refine ⟨_, PSs.nox (pss_one (ps_if (PW.pt (pw_or (pt_not (pt_val (pe_call G hr rfl (T.g "is_integer" (by decide +kernel)) kg bg .nil pass0 (pa_cons (pv 0) pa_nil))))
        (pw_or1 (pt_not (pt_chain op_le op_le pe_int (pv 0) (pe_glob (v := .int 1000000) rfl iM ⟨t, rfl⟩)))))) pss_never pss_nil)), ?_⟩
    refine ⟨_, rfl, _, rfl, True.intro, _, rfl, iteF ⟨_, rfl, _, _, rfl, rfl, _, rfl, ?_⟩⟩
    rw [decide_eq_true h0]
    refine iteT ⟨_, _, rfl, rfl, _, rfl, ?_⟩
    rw [decide_eq_true h1]
    exact iteF hq

def spAfter (K : PySem.W.Frag) : Sp := fun vs H Q E => ∃ (t : Addr) (ws : List Int) (p k : Int), vs = [.ref t, .int p, .int k] ∧ Tw H t ws ∧ (p + k ≤ ws.length → Q (.int (p + k)) H) ∧ (¬ p + k ≤ ws.length → Err (aExh K) "missing" (.int (p + k - ws.length)) H E)
theorem scAf : FnScope ["script", "place", "steps"] ["script", "place", "steps"] (defScope sAfter) := ⟨rfl, rfl, rfl, by decide +kernel, rfl, by decide +kernel, by decide +kernel⟩
theorem ok_after (F : FnF K "script_after" "script_after" sAfter f fd) (T : Txt K mg) (GE : FnB P w K mg base CX0 1 (He.ma K (aExh K) "__init__") ["self", "missing"] (spX (aExh K) "missing")) :
    FnB P w K mg base (L2N.CX P w) 3 f ["script", "place", "steps"] (spAfter K) := by
  obtain ⟨fe, GE, be, ke⟩ := GE
  have zl : mg "len" = none := T.z "len" (by decide +kernel)
  refine ⟨fd, F.ok scAf (fun vs H Q E h => ?_) (fun cdv A outer s H vs Q E hr h => ?_), F.bindsN fun _ _ _ _ _ _ us hl => match us, hl with | [_, _, _], _ => rfl, F.kp⟩
  · obtain ⟨t, ws, p, k, rfl, _⟩ := h
    rfl
  · obtain ⟨t, ws, p, k, rfl, ht, hy, hn⟩ := h
    refine ⟨_, pss_cons (ps_if (pt_cmpR op_gt (pe_op op_add (pv 1) (pv 2)) (pe_callB call_len_seq rfl zl bt_len (pa_cons (pv 0) pa_nil)) (nomark _))
      (pss_one (L2N.ps_raise rfl (L2N.takes_of rfl rfl rfl rfl) (pmk_x PySem.F.excBase_LookupError T.eX.xb T.eX.ini T.eX.tyI GE hr be rfl (T.g "Exhausted" (by decide +kernel))
        (pe_op op_sub (pe_op op_add (pv 1) (pv 2)) (pe_callB call_len_seq rfl zl bt_len (pa_cons (pv 0) pa_nil)))))) pss_nil)
      (pss_one (ps_ret (pe_op op_add (pv 1) (pv 2)))), ?_⟩
    have hl : ((ws.map V.int).length : Int) = ws.length := by simp
    refine ⟨_, rfl, _, rfl, _, _, rfl, rfl, _, rfl, t, _, rfl, .inr (.of ht), _, _, rfl, rfl, _, rfl, ?_⟩
    rw [hl]
    by_cases c : p + k ≤ ws.length
    · rw [decide_eq_false (by omega)]
      exact iteF ⟨_, rfl, _, rfl, _, _, rfl, rfl, hy c⟩
    · rw [decide_eq_true (by omega)]
      refine iteT ⟨_, rfl, _, rfl, _, _, rfl, rfl, _, rfl, t, _, rfl, .inr (.of ht), _, _, rfl, rfl, fun d hd => ?_⟩
      rw [hl]
      exact hn c H d (Same.refl H) hd

def spBefore (K : PySem.W.Frag) : Sp := fun vs H Q E => ∃ (p k : Int), vs = [.int p, .int k] ∧ (k ≤ p → Q (.int (p - k)) H) ∧ (¬ k ≤ p → Err (aSteps K) "given" (.int k) H E)
theorem scBf : FnScope ["place", "steps"] ["place", "steps"] (defScope sBefore) := ⟨rfl, rfl, rfl, by decide +kernel, rfl, by decide +kernel, by decide +kernel⟩
theorem ok_before (F : FnF K "script_before" "script_before" sBefore f fd) (T : Txt K mg) (GE : FnB P w K mg base CX0 1 (He.ma K (aSteps K) "__init__") ["self", "given"] (spX (aSteps K) "given")) :
    FnB P w K mg base (L2N.CX P w) 3 f ["place", "steps"] (spBefore K) := by
  obtain ⟨fe, GE, be, ke⟩ := GE
  refine ⟨fd, F.ok scBf (fun vs H Q E h => ?_) (fun cdv A outer s H vs Q E hr h => ?_), F.bindsN fun _ _ _ _ _ _ us hl => match us, hl with | [_, _], _ => rfl, F.kp⟩
  · obtain ⟨p, k, rfl, _⟩ := h
    rfl
  · obtain ⟨p, k, rfl, hy, hn⟩ := h
    refine ⟨_, pss_cons (ps_if (pt_cmpR op_gt (pv 1) (pv 0) (nomark _))
      (pss_one (L2N.ps_raise rfl (L2N.takes_of rfl rfl rfl rfl) (pmk_x PySem.F.excBase_ValueError T.eS.xb T.eS.ini T.eS.tyI GE hr be rfl (T.g "BadSteps" (by decide +kernel)) (pv 1)))) pss_nil)
      (pss_one (ps_ret (pe_op op_sub (pv 0) (pv 1)))), ?_⟩
    refine ⟨_, rfl, _, rfl, _, _, rfl, rfl, _, rfl, ?_⟩
    by_cases c : k ≤ p
    · rw [decide_eq_false (by omega)]
      exact iteF ⟨_, rfl, _, rfl, _, _, rfl, rfl, hy c⟩
    · rw [decide_eq_true (by omega)]
      exact iteT ⟨_, rfl, fun d hd => hn c H d (Same.refl H) hd⟩
end
end L2.Lw

set_option maxHeartbeats 4000000
/-! is_script, need_script_state. -/
namespace L2.Lw
open PySem PySem.Spec PyProof.Rows
section
variable {P : Program} {w : World} {K : PySem.W.Frag} {mg : Str → Option Value} {base : Heap} {f : Addr} {fd : FuncData}

theorem kitTT {K : PySem.W.Frag} : PySem.W.kitOne K (.type "tuple") (.type "tuple") = some true := kit_ty (show kitB "tuple" "tuple" = some true by decide +kernel)
def spIsScript : Sp := fun vs H Q _ => ∃ (t : Addr) (ws : List Int), vs = [.ref t] ∧ Tw H t ws ∧ OkW ws ∧ Later H fun H' => Q (.bl true) H'
theorem scIS : FnScope ["value", "word"] ["value"] (defScope sIsScript) := ⟨rfl, rfl, rfl, by decide +kernel, rfl, by decide +kernel, by decide +kernel⟩
theorem ok_isScript (F : FnF K "is_script" "is_script" sIsScript f fd) (T : Txt K mg) (G : FnB P w K mg base CX0 2 (He.ga K "is_word") ["value"] spIsWord) : FnB P w K mg base CX0 3 f ["value"] spIsScript := by
  obtain ⟨fg, G, bg, kg⟩ := G
  obtain ⟨tc, iC⟩ := T.iC
  have zi : mg "isinstance" = none := T.z "isinstance" (by decide +kernel)
  have zt : mg "tuple" = none := T.z "tuple" (by decide +kernel)
  have zl : mg "len" = none := T.z "len" (by decide +kernel)
  have za : mg "all" = none := T.z "all" (by decide +kernel)
  refine ⟨fd, F.ok scIS (fun vs H Q E h => ?_) (fun cdv A outer s H vs Q E hr h => ?_), F.bindsN fun _ _ _ _ _ _ us hl => match us, hl with | [_], _ => rfl, F.kp⟩
  · obtain ⟨t, ws, rfl, _⟩ := h
    rfl
  · obtain ⟨t, ws, rfl, ht, ok, hq⟩ := h
    refine ⟨_, PSs.nox (pss_one (ps_ret (pe_and (pe_callB call_isi rfl zi bt_isinstance (pa_cons (pv 0) (pa_cons (pe_bltn rfl zt bt_tuple (v := .ty "tuple") rfl) pa_nil)))
      (pe_and (pe_cmpR op_le (pe_callB call_len_seq rfl zl bt_len (pa_cons (pv 0) pa_nil)) (pe_glob (v := .int 10000) rfl iC ⟨tc, rfl⟩) (nomark _))
      (pe_one (pe_callB (cr_all rfl) rfl za bt_all (pa_cons (pe_lc (own := [("word", 1)]) (g := gName 1) (tt := tYes) rfl scIS.nd (pi_tup (pv 0)) (blkOk_by (N := ["value", "word"]) (sc := defScope sIsScript) (by decide +kernel))
        (fun _ _ _ _ _ => pg_name (i := 1) scIS.nd rfl (Or.inl rfl)) (fun _ _ _ _ _ => pts_nil) (fun _ _ _ _ _ => pe_call G hr rfl (T.g "is_word" (by decide +kernel)) kg bg .nil pass0 (pa_cons (pv 1) pa_nil))) pa_nil))))))), ?_⟩
    have hl : ws.length ≤ 12 := ok.l
    refine ⟨_, rfl, _, .ty "tuple", .type "tuple", .type "tuple", true, rfl, .ty "tuple", .base (.tup ht), kitTT, _, rfl, iteT ?_⟩
    refine ⟨_, rfl, t, _, rfl, .inr (.of ht), _, _, rfl, rfl, _, rfl, ?_⟩
    have e : ((ws.map V.int).length : Int) ≤ 10000 := by rw [List.length_map]; omega
    rw [decide_eq_true e]
    refine iteT ⟨_, rfl, t, rfl, ⟨_, .of ht⟩, fun D hD => ?_⟩
    refine lc_tup (xs := ws.map V.int) (fun i H' => Same H H' ∧ H' D = some (.lst ((List.replicate i true).map V.bl))) ⟨fun b o q => by rw [upd_ne (ne_of_none q hD)]; exact q, by rw [upd_same]; rfl⟩ (fun i H' _ hp => .of (hp.1 _ _ ht)) ?_ ?_
    · intro i x H' hx hp
      obtain ⟨hS, hD'⟩ := hp
      rw [List.getElem?_map] at hx
      cases hw : ws[i]? with
      | none => rw [hw] at hx; cases hx
      | some z =>
        rw [hw] at hx
        obtain rfl : V.int z = x := Option.some.inj hx
        obtain ⟨z0, z1⟩ := ok.w z (List.mem_of_getElem? hw)
        have hi : i < ws.length := (List.getElem?_eq_some_iff.mp hw).1
        refine ⟨rfl, ⟨_, rfl, _, rfl, _, hD', ?_, ?_, ?_⟩⟩
        · rw [List.length_map, List.length_replicate]
          exact small1000 (by omega)
        · intro b o q
          rw [upd_ne (ne_of_none q hD)]
          exact hS b o q
        · rw [upd_same, decide_eq_true z0, decide_eq_true z1, List.replicate_succ', List.map_append]
          rfl
    · intro H' hp
      obtain ⟨hS, hD'⟩ := hp
      refine ⟨D, List.replicate (ws.map V.int).length true, rfl, .of hD', ?_⟩
      have e : (List.replicate (ws.map V.int).length true).all id = true := by simp
      rw [e]
      exact hq H' hS

/-- what need_script_state says of (t, p) -/
def spState (K : PySem.W.Frag) : Sp := fun vs H Q E => ∃ (s t : Addr) (ws : List Int) (p : V), vs = [.ref s] ∧ H s = some (.tup [.ref t, p]) ∧ Tw H t ws ∧ OkW ws ∧ Scl p ∧ (plB ws.length p = true → Later H fun H' => Q .non H') ∧ (plB ws.length p = false → Err (aState K) "given" (.ref s) H E)
theorem scST : FnScope ["state"] ["state"] (defScope sNeedState) := ⟨rfl, rfl, rfl, by decide +kernel, rfl, by decide +kernel, by decide +kernel⟩
theorem ok_needState (F : FnF K "need_script_state" "need_script_state" sNeedState f fd) (T : Txt K mg) (G : FnB P w K mg base CX0 1 (He.ga K "is_integer") ["value"] spIsInt) (GS : FnB P w K mg base CX0 3 (He.ga K "is_script") ["value"] spIsScript)
    (GE : FnB P w K mg base CX0 1 (He.ma K (aState K) "__init__") ["self", "given"] (spX (aState K) "given")) : FnB P w K mg base (L2N.CX P w) 4 f ["state"] (spState K) := by
  obtain ⟨fg, G, bg, kg⟩ := G
  obtain ⟨fs, GS, bs, ks⟩ := GS
  obtain ⟨fe, GE, be, ke⟩ := GE
  have zi : mg "isinstance" = none := T.z "isinstance" (by decide +kernel)
  have zt : mg "tuple" = none := T.z "tuple" (by decide +kernel)
  have zl : mg "len" = none := T.z "len" (by decide +kernel)
  refine ⟨fd, F.ok scST (fun vs H Q E h => ?_) (fun cdv A outer s H vs Q E hr h => ?_), F.bindsN fun _ _ _ _ _ _ us hl => match us, hl with | [_], _ => rfl, F.kp⟩
  · obtain ⟨s, t, ws, p, rfl, _⟩ := h
    rfl
  · obtain ⟨s, t, ws, p, rfl, es, ht, ok, hp, hy, hn⟩ := h
    have hr1 : Room 1 _ := hr.mono (by decide)
    have hr2 : Room 2 _ := hr.mono (by decide)
    refine ⟨_, pss_cons (ps_if (PW.pt (pw_or (pt_not (pt_val (pe_callB call_isi rfl zi bt_isinstance (pa_cons (pv 0) (pa_cons (pe_bltn rfl zt bt_tuple (v := .ty "tuple") rfl) pa_nil)))))
        (pw_or (pt_cmpR op_ne (pe_callB call_len_seq rfl zl bt_len (pa_cons (pv 0) pa_nil)) pe_int (nomark _))
        (pw_or (pt_not (pt_val (pe_call GS hr rfl (T.g "is_script" (by decide +kernel)) ks bs .nil pass0 (pa_cons (pe_ix ix_tup (pv 0) pe_int (fun _ _ => rfl)) pa_nil))))
        (pw_or1 (pt_not (pt_val (pe_call G hr1 rfl (T.g "is_integer" (by decide +kernel)) kg bg .nil pass0 (pa_cons (pe_ix ix_tup (pv 0) pe_int (fun _ _ => rfl)) pa_nil)))))))))
      (pss_one (L2N.ps_raise rfl (L2N.takes_of rfl rfl rfl rfl) (pmk_x PySem.F.excBase_ValueError T.eT.xb T.eT.ini T.eT.tyI GE hr2 be rfl (T.g "BadState" (by decide +kernel)) (pv 0)))) pss_nil)
      (pss_one (ps_if (pt_not (pt_chain op_le op_le pe_int (pe_ix ix_tup (pv 0) pe_int (fun _ _ => rfl)) (pe_callB call_len_seq rfl zl bt_len (pa_cons (pe_ix ix_tup (pv 0) pe_int (fun _ _ => rfl)) pa_nil))))
      (pss_one (L2N.ps_raise rfl (L2N.takes_of rfl rfl rfl rfl) (pmk_x PySem.F.excBase_ValueError T.eT.xb T.eT.ini T.eT.tyI GE hr2 be rfl (T.g "BadState" (by decide +kernel)) (pv 0)))) pss_nil)), ?_⟩
    refine ⟨_, rfl, _, .ty "tuple", .type "tuple", .type "tuple", true, rfl, .ty "tuple", .base (.tup es), kitTT, _, rfl, iteF ?_⟩
    refine ⟨_, rfl, s, _, rfl, .inr (.of es), rfl, _, rfl, iteNS rfl ?_⟩
    refine ⟨_, rfl, s, _, 0, _, rfl, rfl, .of es, rfl, t, ws, rfl, ht, ok, fun H1 S1 => ⟨_, rfl, iteF ?_⟩⟩
    refine ⟨_, rfl, s, _, 1, _, rfl, rfl, .of (S1 _ _ es), rfl, p, rfl, hp, _, rfl, ?_⟩
    have bad : plB ws.length p = false → ∀ d, H1 d = none → E (.ref (aState K)) (some d) (upd H1 d (.xd [("given", .ref s)])) := fun z d hd => hn z H1 d S1 hd
    cases p with
    | int i =>
      refine iteF ?_
      refine ⟨_, rfl, s, _, 1, _, rfl, rfl, .of (S1 _ _ es), rfl, _, _, rfl, rfl, _, rfl, ?_⟩
      have hl : ((ws.map V.int).length : Int) = ws.length := by simp
      by_cases h0 : 0 ≤ i
      · rw [decide_eq_true h0]
        refine iteT ⟨_, rfl, s, _, 0, _, rfl, rfl, .of (S1 _ _ es), rfl, t, _, rfl, .inr (.of (S1 _ _ ht)), _, _, rfl, rfl, _, rfl, ?_⟩
        rw [hl]
        by_cases h1 : i ≤ ws.length
        · rw [decide_eq_true h1]
          exact iteF (hy (by simp [plB, h0, h1]) H1 S1)
        · rw [decide_eq_false h1]
          exact iteT ⟨_, rfl, bad (by simp [plB, h1])⟩
      · rw [decide_eq_false h0]
        refine iteF ⟨_, rfl, ?_⟩
        exact iteT ⟨_, rfl, bad (by simp [plB, h0])⟩
    | bl b => exact iteT ⟨_, rfl, bad rfl⟩
    | non => exact iteT ⟨_, rfl, bad rfl⟩
    | str x => exact iteT ⟨_, rfl, bad rfl⟩
    | _ => exact hp.elim
end
end L2.Lw

set_option maxHeartbeats 4000000
/-! shown texts as data: their points are points. -/
namespace L2.Lw
open PySem PySem.Spec PyProof.Rows
theorem so_mem {x : Str} (h : ∀ c ∈ x.cps.toList, c < 0x110000) : PyData.strOk x = true := by
  unfold PyData.strOk
  rw [Array.all_eq_true]
  intro i hi
  exact decide_eq_true (h _ (by simp))
theorem mem_so {x : Str} (h : PyData.strOk x = true) : ∀ c ∈ x.cps.toList, c < 0x110000 := by
  unfold PyData.strOk at h
  rw [Array.all_eq_true] at h
  intro c hc
  obtain ⟨i, hi, e⟩ := List.mem_iff_getElem.mp hc
  have := h i (by simpa using hi)
  rw [← e]
  simpa using this
theorem so_app {x y : Str} (hx : PyData.strOk x = true) (hy : PyData.strOk y = true) : PyData.strOk (x ++ y) = true := by
  refine so_mem fun c hc => ?_
  have e : (x ++ y).cps.toList = x.cps.toList ++ y.cps.toList := by
    show (x.cps ++ y.cps).toList = _
    simp
  rw [e] at hc
  rcases List.mem_append.mp hc with h | h
  · exact mem_so hx c h
  · exact mem_so hy c h
theorem so_of (s : String) : PyData.strOk (Str.ofString s) = true := by
  refine so_mem fun c hc => ?_
  rw [Str.ofString_eq_toList] at hc
  have hc : c ∈ s.toList.map Char.toNat := by simpa using hc
  obtain ⟨k, _, e⟩ := List.mem_map.mp hc
  rw [← e]
  have h := k.valid
  have ht : k.toNat = k.val.toNat := rfl
  rw [ht]
  simp only [UInt32.isValidChar, Nat.isValidChar] at h
  omega
theorem so_join {sep : Str} (hs : PyData.strOk sep = true) : ∀ {l : List Str}, (∀ x ∈ l, PyData.strOk x = true) → PyData.strOk (Str.join sep l) = true
  | [], _ => by
    show PyData.strOk Str.empty = true
    exact so_mem fun c hc => by cases hc
  | [x], h => h x (by simp)
  | x :: y :: r, h => by
    show PyData.strOk (x ++ sep ++ Str.join sep (y :: r)) = true
    exact so_app (so_app (h x (by simp)) hs) (so_join hs fun z hz => h z (List.mem_cons_of_mem _ hz))
theorem so_tup {l : List Str} (h : ∀ x ∈ l, PyData.strOk x = true) : PyData.strOk (tupleText l) = true := by
  unfold tupleText
  refine so_app (so_app (so_of _) (so_join (so_of _) h)) ?_
  split <;> exact so_of _
theorem so_sm : ∀ {d : PyData}, smD d → PyData.strOk d.shown = true
  | .none, _ => by simp only [PyData.shown]; exact so_of _
  | .bool b, _ => by
    simp only [PyData.shown]
    cases b <;> exact so_of _
  | .int i, _ => by simp only [PyData.shown]; exact so_of _
theorem so_all : ∀ {ds : List PyData}, (∀ d ∈ ds, PyData.strOk d.shown = true) → ∀ x ∈ PyData.shownAll ds, PyData.strOk x = true
  | [], _, x, hx => by simp [PyData.shownAll] at hx
  | d :: ds, h, x, hx => by
    simp only [PyData.shownAll, List.mem_cons] at hx
    rcases hx with e | hx
    · rw [e]
      exact h d (by simp)
    · exact so_all (fun z hz => h z (List.mem_cons_of_mem _ hz)) x hx
theorem so_tuple {ds : List PyData} (h : ∀ d ∈ ds, PyData.strOk d.shown = true) : PyData.strOk (PyData.tuple ds).shown = true := by
  simp only [PyData.shown]
  exact so_tup (so_all h)
theorem so_one : PyData.strOk (PyData.str "1").shown = true := by decide +kernel
/-- data that can be compared -/
theorem shaped_of {d : PyData} (h : d.canLay0 = true) (hd : d.depth ≤ 64) : SeqAt.shaped d = true := Bool.and_eq_true_iff.mpr ⟨h, decide_eq_true hd⟩
theorem cl_ints : ∀ ws : List Int, PyData.canLayAll0 (ws.map PyData.int) = true
  | [] => rfl
  | w :: ws => by
    rw [List.map_cons, PyData.canLayAll0, cl_ints ws]
    rfl
theorem dp_ints : ∀ ws : List Int, PyData.depthAll (ws.map PyData.int) = 0
  | [] => rfl
  | w :: ws => by
    rw [List.map_cons, PyData.depthAll, dp_ints ws]
    rfl
abbrev dW (ws : List Int) : PyData := .tuple (ws.map .int)
theorem dW_cl (ws : List Int) : (dW ws).canLay0 = true := cl_ints ws
theorem dW_dp (ws : List Int) : (dW ws).depth = 1 := by
  show PyData.depthAll (ws.map .int) + 1 = 1
  rw [dp_ints]
theorem dW_sh (ws : List Int) : SeqAt.shaped (dW ws) = true := shaped_of (dW_cl ws) (by rw [dW_dp]; decide)
abbrev eqvR {d : PyData} (h : SeqAt.shaped d = true) : PyData.eqv d d = true := PySem.SeqAt.eqv_refl d (SeqAt.canLay_of_shaped h)
theorem dpAll_ints {K : PySem.W.Frag} {H : Hp} : ∀ ws : List Int, DpAll K H (ws.map V.int) (ws.map PyData.int)
  | [] => .nil
  | w :: ws => .cons (.int w) (dpAll_ints ws)
theorem dp_tw {K : PySem.W.Frag} {H : Hp} {t : Addr} {ws : List Int} (h : H t = some (.tup (ws.map V.int))) : Dp K H (.ref t) (dW ws) := .tup (.of h) (dpAll_ints ws)
end L2.Lw

set_option maxHeartbeats 4000000
/-! Scripted: __init__, next_word, state, left, set_state, jump, back. -/
namespace L2.Lw
open PySem PySem.Spec PyProof.Rows
abbrev fl (t : Addr) (p : Int) : List (Str × V) := [("s1_script", .ref t), ("s1_place", .int p)]
/-- a source over the words ws (the tuple at t), at place p -/
structure Src (K : PySem.W.Frag) (H : Hp) (a dx t : Addr) (ws : List Int) (p : Int) : Prop where
  ob : H a = some (.ins (aC K) dx (fl t p))
  tw : Tw H t ws
  ok : OkW ws
  p0 : 0 ≤ p
  p1 : p ≤ ws.length
abbrev atP (K : PySem.W.Frag) (a dx t : Addr) (p : Int) (H : Hp) : Hp := upd H a (.ins (aC K) dx (fl t p))
theorem Src.same {K : PySem.W.Frag} {H H' : Hp} {a dx t : Addr} {ws : List Int} {p : Int} (s : Src K H a dx t ws p) (h : Same H H') : Src K H' a dx t ws p := ⟨h _ _ s.ob, h _ _ s.tw, s.ok, s.p0, s.p1⟩
theorem Src.ne {K : PySem.W.Frag} {H : Hp} {a dx t : Addr} {ws : List Int} {p : Int} (s : Src K H a dx t ws p) : t ≠ a := ne_of s.tw s.ob (by intro z; cases z)
theorem Src.move {K : PySem.W.Frag} {H : Hp} {a dx t : Addr} {ws : List Int} {p q : Int} (s : Src K H a dx t ws p) (h0 : 0 ≤ q) (h1 : q ≤ ws.length) : Src K (atP K a dx t q H) a dx t ws q :=
  ⟨upd_same, by show upd H a _ t = _; rw [upd_ne s.ne]; exact s.tw, s.ok, h0, h1⟩
theorem at12 {P : Program} {l : Nat} (h : l ≤ 12) : l ≤ sizeLine := by rw [sizeLine_eq]; omega

section
variable {P : Program} {w : World} {K : PySem.W.Frag} {mg : Str → Option Value} {base : Heap} {f : Addr} {fd : FuncData}

def spInit (K : PySem.W.Frag) : Sp := fun vs H Q _ => ∃ (a dx t : Addr) (ws : List Int) (p : Int), vs = [.ref a, .ref t, .int p] ∧ H a = some (.ins (aC K) dx []) ∧ Tw H t ws ∧ OkW ws ∧ 0 ≤ p ∧ p ≤ ws.length ∧ Later H fun H' => Q .non (atP K a dx t p H')
theorem scIn : FnScope ["self", "script", "place"] ["self", "script", "place"] (defScope sInit) := ⟨rfl, rfl, rfl, by decide +kernel, rfl, by decide +kernel, by decide +kernel⟩
theorem ok_init {kws : List (Str × V)} (F : FunD K "__init__" "Scripted.__init__" (defArgs sInit) (defBody sInit) (defScope sInit) [.int 0] kws f fd) (T : Txt K mg) (GS : FnB P w K mg base CX0 3 (He.ga K "is_script") ["value"] spIsScript)
    (GN : FnB P w K mg base (L2N.CX P w) 4 (He.ga K "need_script_state") ["state"] (spState K)) : FnB P w K mg base CX0 5 f ["self", "script", "place"] (spInit K) := by
  obtain ⟨fs, GS, bs, ks⟩ := GS
  obtain ⟨fn, GN, bn, kn⟩ := GN
  have bF : Binds K fd ["self", "script", "place"] [] := by
    obtain ⟨ds, hd, hb⟩ := F.binds1 (ps := ["self", "script", "place"]) 3 1 (by decide) rfl (fun T kV doc pm an cdv ct us its hu hi => match us, its, hu, hi with
      | [_, _, _], [_], _, _ => ⟨_, rfl, rfl⟩)
    cases hd
    exact hb
  refine ⟨fd, F.ok scIn (fun vs H Q E h => ?_) (fun cdv A outer s H vs Q E hr h => ?_), bF, F.kp⟩
  · obtain ⟨a, dx, t, ws, p, rfl, _⟩ := h
    rfl
  · obtain ⟨a, dx, t, ws, p, rfl, ea, ht, ok, h0, h1, hq⟩ := h
    refine ⟨_, PSs.nox (pss_cons (ps_if (pt_not (pt_val (pe_call GS (hr.mono (by decide)) rfl (T.g "is_script" (by decide +kernel)) ks bs .nil pass0 (pa_cons (pv 1) pa_nil)))) pss_never pss_nil)
      (pss_cons (ps_expr (pe_call GN hr rfl (T.g "need_script_state" (by decide +kernel)) kn bn .nil passN (pa_cons (pe_tup (pa_cons (pv 1) (pa_cons (pv 2) pa_nil))) pa_nil)))
      (pss_cons (ps_fld (pv 0) (pv 1) rfl) (pss_one (ps_fld (pv 0) (pv 2) rfl))))), ?_⟩
    refine ⟨_, rfl, t, ws, rfl, ht, ok, fun H1 S1 => ⟨_, rfl, iteF ?_⟩⟩
    refine ⟨_, rfl, _, rfl, (by show 2 ≤ sizeLine; decide), fun s0 hs0 => ⟨s0, t, ws, .int p, rfl, upd_same, ?_, ok, True.intro, fun _ H2 S2 => ?_, fun z => ?_⟩⟩
    · show upd H1 s0 _ t = _
      rw [upd_ne (ne_of_none (S1 _ _ ht) hs0)]
      exact S1 _ _ ht
    · have S3 : Same H H2 := fun b o e => S2 b o (by rw [upd_ne (ne_of_none (S1 _ _ e) hs0)]; exact S1 _ _ e)
      refine ⟨_, rfl, _, rfl, a, aC K, dx, [], rfl, S3 _ _ ea, T.cl, T.n1, by decide, ?_⟩
      refine ⟨_, rfl, _, rfl, a, aC K, dx, _, rfl, upd_same, T.cl, T.n2, by show 1 < 1000; decide, ?_⟩
      show Q .non _
      rw [upd_upd]
      exact hq H2 S3
    · have : plB ws.length (.int p) = true := by simp [plB, h0, h1]
      rw [this] at z
      cases z

def spNext (K : PySem.W.Frag) : Sp := fun vs H Q E => ∃ (a dx t : Addr) (ws : List Int) (p : Int), vs = [.ref a] ∧ Src K H a dx t ws p ∧ (∀ z, ws[p.toNat]? = some z → Q (.int z) (atP K a dx t (p + 1) H)) ∧ (¬ p < ws.length → Err (aExh K) "missing" (.int 1) H E)
theorem scNW : FnScope ["self", "place"] ["self"] (defScope sNextWord) := ⟨rfl, rfl, rfl, by decide +kernel, rfl, by decide +kernel, by decide +kernel⟩
theorem ok_next (F : FnF K "next_word" "Scripted.next_word" sNextWord f fd) (T : Txt K mg) (GA : FnB P w K mg base (L2N.CX P w) 3 (He.ga K "script_after") ["script", "place", "steps"] (spAfter K)) : FnB P w K mg base (L2N.CX P w) 4 f ["self"] (spNext K) := by
  obtain ⟨fa, GA, ba, ka⟩ := GA
  refine ⟨fd, F.ok scNW (fun vs H Q E h => ?_) (fun cdv A outer s H vs Q E hr h => ?_), F.bindsN fun _ _ _ _ _ _ us hl => match us, hl with | [_], _ => rfl, F.kp⟩
  · obtain ⟨a, dx, t, ws, p, rfl, _⟩ := h
    rfl
  · obtain ⟨a, dx, t, ws, p, rfl, sr, hy, hn⟩ := h
    refine ⟨_, pss_cons (ps_set (i := 1) scNW.nd rfl (Or.inl rfl) (pe_call GA hr rfl (T.g "script_after" (by decide +kernel)) ka ba .nil (L2N.passes_call (L2N.takes_of rfl rfl rfl rfl) fun _ _ _ _ h => h) (pa_cons (pe_fld (pv 0) rfl) (pa_cons (pe_fld (pv 0) rfl) (pa_cons pe_int pa_nil)))))
      (pss_cons (ps_fld (pv 0) (pv 1) rfl) (pss_one (ps_ret (pe_ix ix_tup (pe_fld (pv 0) rfl) (pe_op op_sub (pv 1) pe_int) (fun _ _ => rfl))))), ?_⟩
    refine ⟨_, rfl, a, aC K, dx, _, _, rfl, sr.ob, T.cl, T.n1, rfl, ?_⟩
    refine ⟨_, rfl, a, aC K, dx, _, _, rfl, sr.ob, T.cl, T.n2, rfl, ?_⟩
    refine ⟨t, ws, p, 1, rfl, sr.tw, fun c => ?_, fun c => ?_⟩
    · refine ⟨_, rfl, _, rfl, a, aC K, dx, _, rfl, sr.ob, T.cl, T.n2, by show 2 < 1000; decide, ?_⟩
      refine ⟨_, rfl, a, aC K, dx, _, _, rfl, upd_same, T.cl, T.n1, rfl, ?_⟩
      refine ⟨_, rfl, _, _, rfl, rfl, ?_⟩
      have hp0 := sr.p0
      have hlt : p.toNat < ws.length := by omega
      have hw : ws[p.toNat]? = some ws[p.toNat] := List.getElem?_eq_getElem hlt
      refine ⟨t, ws.map V.int, p + 1 - 1, .int ws[p.toNat], rfl, rfl, .of (sr.move (by omega) c).tw, ?_, hy _ hw⟩
      have e : p + 1 - 1 = ((p.toNat : Nat) : Int) := by omega
      rw [e]
      exact atI_nat (by rw [List.getElem?_map, hw]; rfl)
    · have hp1 := sr.p1
      have e : p + 1 - (ws.length : Int) = 1 := by omega
      rw [e]
      exact hn (by omega)

def spSt (K : PySem.W.Frag) : Sp := fun vs H Q _ => ∃ (a dx t : Addr) (ws : List Int) (p : Int), vs = [.ref a] ∧ Src K H a dx t ws p ∧ ∀ s, H s = none → Q (.ref s) (upd H s (.tup [.ref t, .int p]))
theorem scSt : FnScope ["self"] ["self"] (defScope sState) := ⟨rfl, rfl, rfl, by decide +kernel, rfl, by decide +kernel, by decide +kernel⟩
theorem ok_state (F : FnF K "state" "Scripted.state" sState f fd) (T : Txt K mg) : FnB P w K mg base CX0 1 f ["self"] (spSt K) := by
  refine ⟨fd, F.ok scSt (fun vs H Q E h => ?_) (fun cdv A outer s H vs Q E hr h => ?_), F.bindsN fun _ _ _ _ _ _ us hl => match us, hl with | [_], _ => rfl, F.kp⟩
  · obtain ⟨a, dx, t, ws, p, rfl, _⟩ := h
    rfl
  · obtain ⟨a, dx, t, ws, p, rfl, sr, hq⟩ := h
    refine ⟨_, PSs.nox (pss_one (ps_ret (pe_tup (pa_cons (pe_fld (pv 0) rfl) (pa_cons (pe_fld (pv 0) rfl) pa_nil))))), ?_⟩
    refine ⟨_, rfl, a, aC K, dx, _, _, rfl, sr.ob, T.cl, T.n1, rfl, ?_⟩
    exact ⟨_, rfl, a, aC K, dx, _, _, rfl, sr.ob, T.cl, T.n2, rfl, (by show 2 ≤ sizeLine; decide), fun s hs => hq s hs⟩

def spLeft (K : PySem.W.Frag) : Sp := fun vs H Q _ => ∃ (a dx t : Addr) (ws : List Int) (p : Int), vs = [.ref a] ∧ Src K H a dx t ws p ∧ Q (.int (ws.length - p)) H
theorem scLe : FnScope ["self"] ["self"] (defScope sLeft) := ⟨rfl, rfl, rfl, by decide +kernel, rfl, by decide +kernel, by decide +kernel⟩
theorem ok_left (F : FnF K "left" "Scripted.left" sLeft f fd) (T : Txt K mg) : FnB P w K mg base CX0 1 f ["self"] (spLeft K) := by
  have zl : mg "len" = none := T.z "len" (by decide +kernel)
  refine ⟨fd, F.ok scLe (fun vs H Q E h => ?_) (fun cdv A outer s H vs Q E hr h => ?_), F.bindsN fun _ _ _ _ _ _ us hl => match us, hl with | [_], _ => rfl, F.kp⟩
  · obtain ⟨a, dx, t, ws, p, rfl, _⟩ := h
    rfl
  · obtain ⟨a, dx, t, ws, p, rfl, sr, hq⟩ := h
    refine ⟨_, PSs.nox (pss_one (ps_ret (pe_op op_sub (pe_callB call_len_seq rfl zl bt_len (pa_cons (pe_fld (pv 0) rfl) pa_nil)) (pe_fld (pv 0) rfl)))), ?_⟩
    refine ⟨_, rfl, a, aC K, dx, _, _, rfl, sr.ob, T.cl, T.n1, rfl, ?_⟩
    refine ⟨t, _, rfl, .inr (.of sr.tw), _, rfl, a, aC K, dx, _, _, rfl, sr.ob, T.cl, T.n2, rfl, _, _, rfl, rfl, ?_⟩
    have e : ((ws.map V.int).length : Int) = ws.length := by simp
    rw [e]
    exact hq

def spSet (K : PySem.W.Frag) : Sp := fun vs H Q E => ∃ (a dx t s : Addr) (ws : List Int) (p : Int) (v : V), vs = [.ref a, .ref s] ∧ Src K H a dx t ws p ∧ H s = some (.tup [.ref t, v]) ∧ Scl v ∧ (∀ q, v = .int q → 0 ≤ q → q ≤ ws.length → Later H fun H' => Q .non (atP K a dx t q H')) ∧
  (plB ws.length v = false → Err (aState K) "given" (.ref s) H E)
theorem scSS : FnScope ["self", "state"] ["self", "state"] (defScope sSetState) := ⟨rfl, rfl, rfl, by decide +kernel, rfl, by decide +kernel, by decide +kernel⟩
theorem ok_set (F : FnF K "set_state" "Scripted.set_state" sSetState f fd) (T : Txt K mg) (GN : FnB P w K mg base (L2N.CX P w) 4 (He.ga K "need_script_state") ["state"] (spState K)) : FnB P w K mg base (L2N.CX P w) 5 f ["self", "state"] (spSet K) := by
  obtain ⟨fn, GN, bn, kn⟩ := GN
  refine ⟨fd, F.ok scSS (fun vs H Q E h => ?_) (fun cdv A outer s H vs Q E hr h => ?_), F.bindsN fun _ _ _ _ _ _ us hl => match us, hl with | [_, _], _ => rfl, F.kp⟩
  · obtain ⟨a, dx, t, s, ws, p, v, rfl, _⟩ := h
    rfl
  · obtain ⟨a, dx, t, s, ws, p, v, rfl, sr, es, sv, hy, hn⟩ := h
    refine ⟨_, pss_cons (ps_expr (pe_call GN hr rfl (T.g "need_script_state" (by decide +kernel)) kn bn .nil (L2N.passes_call (L2N.takes_of rfl rfl rfl rfl) fun _ _ _ _ h => h) (pa_cons (pv 1) pa_nil)))
      (pss_one (ps_asg (pv 1) (pg_tup rfl (pgs_cons (pg_fld (pv 0)) (pgs_cons (pg_fld (pv 0)) pgs_nil))))), ?_⟩
    refine ⟨_, rfl, s, t, ws, v, rfl, es, sr.tw, sr.ok, sv, fun c H1 S1 => ?_, fun c => hn c⟩
    have nes : s ≠ a := ne_of es sr.ob (by intro z; cases z)
    refine ⟨_, rfl, s, _, rfl, .of (S1 _ _ es), rfl, _, _, rfl, ?_⟩
    refine ⟨_, rfl, a, aC K, dx, _, rfl, S1 _ _ sr.ob, T.cl, T.n1, by show 2 < 1000; decide, ?_⟩
    refine ⟨_, _, rfl, ?_⟩
    refine ⟨_, rfl, a, aC K, dx, _, rfl, upd_same, T.cl, T.n2, by show 2 < 1000; decide, rfl, ?_⟩
    rw [upd_upd]
    cases v with
    | int q =>
      have c2 : (decide (0 ≤ q) && decide (q ≤ ws.length)) = true := c
      obtain ⟨c0, c1⟩ := Bool.and_eq_true_iff.mp c2
      exact hy q rfl (of_decide_eq_true c0) (of_decide_eq_true c1) H1 S1
    | _ => cases c

def spJump (K : PySem.W.Frag) : Sp := fun vs H Q E => ∃ (a dx t : Addr) (ws : List Int) (p : Int) (v : V), vs = [.ref a, v] ∧ Src K H a dx t ws p ∧ Scl v ∧ (stB v = false → Err (aSteps K) "given" v H E) ∧
  (∀ k, v = .int k → stB v = true → (p + k ≤ ws.length → Q .non (atP K a dx t (p + k) H)) ∧ (¬ p + k ≤ ws.length → Err (aExh K) "missing" (.int (p + k - ws.length)) H E))
theorem scJu : FnScope ["self", "steps"] ["self", "steps"] (defScope sJump) := ⟨rfl, rfl, rfl, by decide +kernel, rfl, by decide +kernel, by decide +kernel⟩
theorem stB_int {v : V} (h : stB v = true) : ∃ k, v = .int k ∧ 0 ≤ k ∧ k ≤ 18446744073709551616 := by
  cases v with
  | int i =>
    obtain ⟨c0, c1⟩ := Bool.and_eq_true_iff.mp (show (decide (0 ≤ i) && decide (i ≤ 18446744073709551616)) = true from h)
    exact ⟨i, rfl, of_decide_eq_true c0, of_decide_eq_true c1⟩
  | _ => cases h
theorem ok_jump (F : FnF K "jump" "Scripted.jump" sJump f fd) (T : Txt K mg) (GN : FnB P w K mg base (L2N.CX P w) 3 (He.ga K "need_steps") ["steps"] (spNeed K)) (GA : FnB P w K mg base (L2N.CX P w) 3 (He.ga K "script_after") ["script", "place", "steps"] (spAfter K)) :
    FnB P w K mg base (L2N.CX P w) 4 f ["self", "steps"] (spJump K) := by
  obtain ⟨fn, GN, bn, kn⟩ := GN
  obtain ⟨fa, GA, ba, ka⟩ := GA
  refine ⟨fd, F.ok scJu (fun vs H Q E h => ?_) (fun cdv A outer s H vs Q E hr h => ?_), F.bindsN fun _ _ _ _ _ _ us hl => match us, hl with | [_, _], _ => rfl, F.kp⟩
  · obtain ⟨a, dx, t, ws, p, v, rfl, _⟩ := h
    rfl
  · obtain ⟨a, dx, t, ws, p, v, rfl, sr, sv, hn, hy⟩ := h
    refine ⟨_, pss_cons (ps_expr (pe_call GN hr rfl (T.g "need_steps" (by decide +kernel)) kn bn .nil (L2N.passes_call (L2N.takes_of rfl rfl rfl rfl) fun _ _ _ _ h => h) (pa_cons (pv 1) pa_nil)))
      (pss_one (ps_fld (pv 0) (pe_call GA hr rfl (T.g "script_after" (by decide +kernel)) ka ba .nil (L2N.passes_call (L2N.takes_of rfl rfl rfl rfl) fun _ _ _ _ h => h) (pa_cons (pe_fld (pv 0) rfl) (pa_cons (pe_fld (pv 0) rfl) (pa_cons (pv 1) pa_nil)))) rfl)), ?_⟩
    refine ⟨_, rfl, v, rfl, sv, fun c => ?_, hn⟩
    obtain ⟨k, rfl, k0, k1⟩ := stB_int c
    obtain ⟨y1, y2⟩ := hy k rfl c
    refine ⟨_, rfl, a, aC K, dx, _, _, rfl, sr.ob, T.cl, T.n1, rfl, ?_⟩
    refine ⟨_, rfl, a, aC K, dx, _, _, rfl, sr.ob, T.cl, T.n2, rfl, ?_⟩
    refine ⟨_, rfl, t, ws, p, k, rfl, sr.tw, fun c2 => ?_, y2⟩
    exact ⟨_, rfl, a, aC K, dx, _, rfl, sr.ob, T.cl, T.n2, by show 2 < 1000; decide, y1 c2⟩

def spBack (K : PySem.W.Frag) : Sp := fun vs H Q E => ∃ (a dx t : Addr) (ws : List Int) (p : Int) (v : V), vs = [.ref a, v] ∧ Src K H a dx t ws p ∧ Scl v ∧ (stB v = false → Err (aSteps K) "given" v H E) ∧
  (∀ k, v = .int k → stB v = true → (k ≤ p → Q .non (atP K a dx t (p - k) H)) ∧ (¬ k ≤ p → Err (aSteps K) "given" v H E))
theorem scBa : FnScope ["self", "steps"] ["self", "steps"] (defScope sBack) := ⟨rfl, rfl, rfl, by decide +kernel, rfl, by decide +kernel, by decide +kernel⟩
theorem ok_back (F : FnF K "back" "Scripted.back" sBack f fd) (T : Txt K mg) (GN : FnB P w K mg base (L2N.CX P w) 3 (He.ga K "need_steps") ["steps"] (spNeed K)) (GB : FnB P w K mg base (L2N.CX P w) 3 (He.ga K "script_before") ["place", "steps"] (spBefore K)) :
    FnB P w K mg base (L2N.CX P w) 4 f ["self", "steps"] (spBack K) := by
  obtain ⟨fn, GN, bn, kn⟩ := GN
  obtain ⟨fa, GB, bb, kb⟩ := GB
  refine ⟨fd, F.ok scBa (fun vs H Q E h => ?_) (fun cdv A outer s H vs Q E hr h => ?_), F.bindsN fun _ _ _ _ _ _ us hl => match us, hl with | [_, _], _ => rfl, F.kp⟩
  · obtain ⟨a, dx, t, ws, p, v, rfl, _⟩ := h
    rfl
  · obtain ⟨a, dx, t, ws, p, v, rfl, sr, sv, hn, hy⟩ := h
    refine ⟨_, pss_cons (ps_expr (pe_call GN hr rfl (T.g "need_steps" (by decide +kernel)) kn bn .nil (L2N.passes_call (L2N.takes_of rfl rfl rfl rfl) fun _ _ _ _ h => h) (pa_cons (pv 1) pa_nil)))
      (pss_one (ps_fld (pv 0) (pe_call GB hr rfl (T.g "script_before" (by decide +kernel)) kb bb .nil (L2N.passes_call (L2N.takes_of rfl rfl rfl rfl) fun _ _ _ _ h => h) (pa_cons (pe_fld (pv 0) rfl) (pa_cons (pv 1) pa_nil))) rfl)), ?_⟩
    refine ⟨_, rfl, v, rfl, sv, fun c => ?_, hn⟩
    obtain ⟨k, rfl, k0, k1⟩ := stB_int c
    obtain ⟨y1, y2⟩ := hy k rfl c
    refine ⟨_, rfl, a, aC K, dx, _, _, rfl, sr.ob, T.cl, T.n2, rfl, ?_⟩
    refine ⟨_, rfl, p, k, rfl, fun c2 => ?_, y2⟩
    exact ⟨_, rfl, a, aC K, dx, _, rfl, sr.ob, T.cl, T.n2, by show 2 < 1000; decide, y1 c2⟩
end
end L2.Lw

set_option maxHeartbeats 4000000
/-! Scripted: ahead, behind, >>, <<, copy, same_state, at_state, seeded, state_after. -/
namespace L2.Lw
open PySem PySem.Spec PyProof.Rows
/-- a new source -/
abbrev NewS (K : PySem.W.Frag) (H : Hp) (t : Addr) (q : Int) (Q : VK) : Prop := ∀ H' x dx, H x = none → Same H H' → H' x = some (.ins (aC K) dx (fl t q)) → Q (.ref x) H'
theorem same_none {H H' : Hp} {x : Addr} (S : Same H H') (h : H' x = none) : H x = none := by
  cases q : H x with
  | none => rfl
  | some o =>
    rw [S _ _ q] at h
    cases h
theorem made {K : PySem.W.Frag} {H : Hp} {t : Addr} {ws : List Int} {q : Int} {Q : VK} {E : XK} (ht : Tw H t ws) (ok : OkW ws) (h0 : 0 ≤ q) (h1 : q ≤ ws.length) (hq : NewS K H t q Q) :
    ∀ x dx, H x = none → H dx = none → dx ≠ x → spInit K (.ref x :: ([V.ref t, V.int q] ++ [])) (upd (upd H dx (.own x)) x (.ins (aC K) dx [])) (fun v H2 => v = .non ∧ Q (.ref x) H2) E := by
  intro x dx nx nd ne
  refine ⟨x, dx, t, ws, q, rfl, upd_same, ?_, ok, h0, h1, fun H2 S2 => ⟨rfl, hq _ x dx nx (fun b o e => ?_) upd_same⟩⟩
  · show upd _ x _ t = _
    rw [upd_ne (ne_of_none ht nx), upd_ne (ne_of_none ht nd)]
    exact ht
  · show upd H2 x _ b = _
    rw [upd_ne (ne_of_none e nx)]
    exact S2 b o (by rw [upd_ne (ne_of_none e nx), upd_ne (ne_of_none e nd)]; exact e)

section
variable {P : Program} {w : World} {K : PySem.W.Frag} {mg : Str → Option Value} {base : Heap} {f : Addr} {fd : FuncData}

def spAhead (K : PySem.W.Frag) : Sp := fun vs H Q E => ∃ (a dx t : Addr) (ws : List Int) (p : Int) (v : V), vs = [.ref a, v] ∧ Src K H a dx t ws p ∧ Scl v ∧ (stB v = false → Err (aSteps K) "given" v H E) ∧
  (∀ k, v = .int k → stB v = true → (p + k ≤ ws.length → NewS K H t (p + k) Q) ∧ (¬ p + k ≤ ws.length → Err (aExh K) "missing" (.int (p + k - ws.length)) H E))
theorem scAh : FnScope ["self", "steps"] ["self", "steps"] (defScope sAhead) := ⟨rfl, rfl, rfl, by decide +kernel, rfl, by decide +kernel, by decide +kernel⟩
theorem ok_ahead (F : FnF K "ahead" "Scripted.ahead" sAhead f fd) (T : Txt K mg) (GN : FnB P w K mg base (L2N.CX P w) 3 (He.ga K "need_steps") ["steps"] (spNeed K)) (GA : FnB P w K mg base (L2N.CX P w) 3 (He.ga K "script_after") ["script", "place", "steps"] (spAfter K))
    (GI : FnB P w K mg base CX0 5 (aM K "__init__") ["self", "script", "place"] (spInit K)) : FnB P w K mg base (L2N.CX P w) 7 f ["self", "steps"] (spAhead K) := by
  obtain ⟨fn, GN, bn, kn⟩ := GN
  obtain ⟨fa, GA, ba, ka⟩ := GA
  obtain ⟨fi, GI, bi, ki⟩ := GI
  refine ⟨fd, F.ok scAh (fun vs H Q E h => ?_) (fun cdv A outer s H vs Q E hr h => ?_), F.bindsN fun _ _ _ _ _ _ us hl => match us, hl with | [_, _], _ => rfl, F.kp⟩
  · obtain ⟨a, dx, t, ws, p, v, rfl, _⟩ := h
    rfl
  · obtain ⟨a, dx, t, ws, p, v, rfl, sr, sv, hn, hy⟩ := h
    have hr3 : Room 3 _ := hr.mono (by decide)
    refine ⟨_, pss_cons (ps_expr (pe_call GN hr3 rfl (T.g "need_steps" (by decide +kernel)) kn bn .nil (L2N.passes_call (L2N.takes_of rfl rfl rfl rfl) fun _ _ _ _ h => h) (pa_cons (pv 1) pa_nil)))
      (pss_one (ps_ret (pe_make T.mkC GI hr rfl (T.g "Scripted" (by decide +kernel)) bi .nil pass0 (pa_cons (pe_fld (pv 0) rfl) (pa_cons
        (pe_call GA hr3 rfl (T.g "script_after" (by decide +kernel)) ka ba .nil (L2N.passes_call (L2N.takes_of rfl rfl rfl rfl) fun _ _ _ _ h => h) (pa_cons (pe_fld (pv 0) rfl) (pa_cons (pe_fld (pv 0) rfl) (pa_cons (pv 1) pa_nil)))) pa_nil))))), ?_⟩
    refine ⟨_, rfl, v, rfl, sv, fun c => ?_, hn⟩
    obtain ⟨k, rfl, k0, k1⟩ := stB_int c
    obtain ⟨y1, y2⟩ := hy k rfl c
    have hp0 := sr.p0
    refine ⟨_, rfl, a, aC K, dx, _, _, rfl, sr.ob, T.cl, T.n1, rfl, ?_⟩
    refine ⟨_, rfl, a, aC K, dx, _, _, rfl, sr.ob, T.cl, T.n1, rfl, ?_⟩
    refine ⟨_, rfl, a, aC K, dx, _, _, rfl, sr.ob, T.cl, T.n2, rfl, ?_⟩
    exact ⟨_, rfl, t, ws, p, k, rfl, sr.tw, fun c2 => made sr.tw sr.ok (by omega) c2 (y1 c2), y2⟩

def spBehind (K : PySem.W.Frag) : Sp := fun vs H Q E => ∃ (a dx t : Addr) (ws : List Int) (p : Int) (v : V), vs = [.ref a, v] ∧ Src K H a dx t ws p ∧ Scl v ∧ (stB v = false → Err (aSteps K) "given" v H E) ∧
  (∀ k, v = .int k → stB v = true → (k ≤ p → NewS K H t (p - k) Q) ∧ (¬ k ≤ p → Err (aSteps K) "given" v H E))
theorem scBe : FnScope ["self", "steps"] ["self", "steps"] (defScope sBehind) := ⟨rfl, rfl, rfl, by decide +kernel, rfl, by decide +kernel, by decide +kernel⟩
theorem ok_behind (F : FnF K "behind" "Scripted.behind" sBehind f fd) (T : Txt K mg) (GN : FnB P w K mg base (L2N.CX P w) 3 (He.ga K "need_steps") ["steps"] (spNeed K)) (GB : FnB P w K mg base (L2N.CX P w) 3 (He.ga K "script_before") ["place", "steps"] (spBefore K))
    (GI : FnB P w K mg base CX0 5 (aM K "__init__") ["self", "script", "place"] (spInit K)) : FnB P w K mg base (L2N.CX P w) 7 f ["self", "steps"] (spBehind K) := by
  obtain ⟨fn, GN, bn, kn⟩ := GN
  obtain ⟨fa, GB, bb, kb⟩ := GB
  obtain ⟨fi, GI, bi, ki⟩ := GI
  refine ⟨fd, F.ok scBe (fun vs H Q E h => ?_) (fun cdv A outer s H vs Q E hr h => ?_), F.bindsN fun _ _ _ _ _ _ us hl => match us, hl with | [_, _], _ => rfl, F.kp⟩
  · obtain ⟨a, dx, t, ws, p, v, rfl, _⟩ := h
    rfl
  · obtain ⟨a, dx, t, ws, p, v, rfl, sr, sv, hn, hy⟩ := h
    have hr3 : Room 3 _ := hr.mono (by decide)
    refine ⟨_, pss_cons (ps_expr (pe_call GN hr3 rfl (T.g "need_steps" (by decide +kernel)) kn bn .nil (L2N.passes_call (L2N.takes_of rfl rfl rfl rfl) fun _ _ _ _ h => h) (pa_cons (pv 1) pa_nil)))
      (pss_one (ps_ret (pe_make T.mkC GI hr rfl (T.g "Scripted" (by decide +kernel)) bi .nil pass0 (pa_cons (pe_fld (pv 0) rfl) (pa_cons
        (pe_call GB hr3 rfl (T.g "script_before" (by decide +kernel)) kb bb .nil (L2N.passes_call (L2N.takes_of rfl rfl rfl rfl) fun _ _ _ _ h => h) (pa_cons (pe_fld (pv 0) rfl) (pa_cons (pv 1) pa_nil))) pa_nil))))), ?_⟩
    refine ⟨_, rfl, v, rfl, sv, fun c => ?_, hn⟩
    obtain ⟨k, rfl, k0, k1⟩ := stB_int c
    obtain ⟨y1, y2⟩ := hy k rfl c
    have hp1 := sr.p1
    refine ⟨_, rfl, a, aC K, dx, _, _, rfl, sr.ob, T.cl, T.n1, rfl, ?_⟩
    refine ⟨_, rfl, a, aC K, dx, _, _, rfl, sr.ob, T.cl, T.n2, rfl, ?_⟩
    exact ⟨_, rfl, p, k, rfl, fun c2 => made sr.tw sr.ok (by omega) (by omega) (y1 c2), y2⟩

theorem scRs : FnScope ["self", "other"] ["self", "other"] (defScope sRsh) := ⟨rfl, rfl, rfl, by decide +kernel, rfl, by decide +kernel, by decide +kernel⟩
theorem scLs : FnScope ["self", "other"] ["self", "other"] (defScope sLsh) := ⟨rfl, rfl, rfl, by decide +kernel, rfl, by decide +kernel, by decide +kernel⟩
theorem ok_rsh (F : FnF K "__rshift__" "Scripted.__rshift__" sRsh f fd) (T : Txt K mg) (G : FnB P w K mg base (L2N.CX P w) 7 (aM K "ahead") ["self", "steps"] (spAhead K)) : FnB P w K mg base (L2N.CX P w) 8 f ["self", "other"] (spAhead K) := by
  obtain ⟨fg, G, bg, kg⟩ := G
  refine ⟨fd, F.ok scRs (fun vs H Q E h => ?_) (fun cdv A outer s H vs Q E hr h => ?_), F.bindsN fun _ _ _ _ _ _ us hl => match us, hl with | [_, _], _ => rfl, F.kp⟩
  · obtain ⟨a, dx, t, ws, p, v, rfl, _⟩ := h
    rfl
  · have h' := h
    obtain ⟨a, dx, t, ws, p, v, rfl, sr, _⟩ := h
    refine ⟨_, pss_one (ps_ret (pe_meth (pv 0) T.cl (T.me "ahead" (by decide +kernel)) G hr bg .nil (L2N.passes_call (L2N.takes_of rfl rfl rfl rfl) fun _ _ _ _ h => h) (pa_cons (pv 1) pa_nil))), ?_⟩
    exact ⟨_, rfl, a, dx, _, rfl, sr.ob, rfl, _, rfl, h'⟩
theorem ok_lsh (F : FnF K "__lshift__" "Scripted.__lshift__" sLsh f fd) (T : Txt K mg) (G : FnB P w K mg base (L2N.CX P w) 7 (aM K "behind") ["self", "steps"] (spBehind K)) : FnB P w K mg base (L2N.CX P w) 8 f ["self", "other"] (spBehind K) := by
  obtain ⟨fg, G, bg, kg⟩ := G
  refine ⟨fd, F.ok scLs (fun vs H Q E h => ?_) (fun cdv A outer s H vs Q E hr h => ?_), F.bindsN fun _ _ _ _ _ _ us hl => match us, hl with | [_, _], _ => rfl, F.kp⟩
  · obtain ⟨a, dx, t, ws, p, v, rfl, _⟩ := h
    rfl
  · have h' := h
    obtain ⟨a, dx, t, ws, p, v, rfl, sr, _⟩ := h
    refine ⟨_, pss_one (ps_ret (pe_meth (pv 0) T.cl (T.me "behind" (by decide +kernel)) G hr bg .nil (L2N.passes_call (L2N.takes_of rfl rfl rfl rfl) fun _ _ _ _ h => h) (pa_cons (pv 1) pa_nil))), ?_⟩
    exact ⟨_, rfl, a, dx, _, rfl, sr.ob, rfl, _, rfl, h'⟩

def spCopy (K : PySem.W.Frag) : Sp := fun vs H Q _ => ∃ (a dx t : Addr) (ws : List Int) (p : Int), vs = [.ref a] ∧ Src K H a dx t ws p ∧ NewS K H t p Q
theorem scCo : FnScope ["self"] ["self"] (defScope sCopy) := ⟨rfl, rfl, rfl, by decide +kernel, rfl, by decide +kernel, by decide +kernel⟩
theorem ok_copy (F : FnF K "copy" "Scripted.copy" sCopy f fd) (T : Txt K mg) (GI : FnB P w K mg base CX0 5 (aM K "__init__") ["self", "script", "place"] (spInit K)) : FnB P w K mg base CX0 7 f ["self"] (spCopy K) := by
  obtain ⟨fi, GI, bi, ki⟩ := GI
  refine ⟨fd, F.ok scCo (fun vs H Q E h => ?_) (fun cdv A outer s H vs Q E hr h => ?_), F.bindsN fun _ _ _ _ _ _ us hl => match us, hl with | [_], _ => rfl, F.kp⟩
  · obtain ⟨a, dx, t, ws, p, rfl, _⟩ := h
    rfl
  · obtain ⟨a, dx, t, ws, p, rfl, sr, hq⟩ := h
    refine ⟨_, PSs.nox (pss_one (ps_ret (pe_make T.mkC GI hr rfl (T.g "Scripted" (by decide +kernel)) bi .nil pass0 (pa_cons (pe_fld (pv 0) rfl) (pa_cons (pe_fld (pv 0) rfl) pa_nil))))), ?_⟩
    refine ⟨_, rfl, a, aC K, dx, _, _, rfl, sr.ob, T.cl, T.n1, rfl, ?_⟩
    exact ⟨_, rfl, a, aC K, dx, _, _, rfl, sr.ob, T.cl, T.n2, rfl, made sr.tw sr.ok sr.p0 sr.p1 hq⟩

/-- the other is a source over the same tuple, or a tuple -/
def spSame (K : PySem.W.Frag) : Sp := fun vs H Q _ => ∃ (a dx t b : Addr) (ws : List Int) (p : Int), vs = [.ref a, .ref b] ∧ Src K H a dx t ws p ∧
  ((∃ dy q, Src K H b dy t ws q ∧ Q (.bl (decide (p = q))) H) ∨ ∃ xs, H b = some (.tup xs) ∧ Q (.bl false) H)
theorem scSm : FnScope ["self", "other"] ["self", "other"] (defScope sSame) := ⟨rfl, rfl, rfl, by decide +kernel, rfl, by decide +kernel, by decide +kernel⟩
theorem ok_same (F : FnF K "same_state" "Scripted.same_state" sSame f fd) (T : Txt K mg) : FnB P w K mg base CX0 1 f ["self", "other"] (spSame K) := by
  have zi : mg "isinstance" = none := T.z "isinstance" (by decide +kernel)
  refine ⟨fd, F.ok scSm (fun vs H Q E h => ?_) (fun cdv A outer s H vs Q E hr h => ?_), F.bindsN fun _ _ _ _ _ _ us hl => match us, hl with | [_, _], _ => rfl, F.kp⟩
  · obtain ⟨a, dx, t, b, ws, p, rfl, _⟩ := h
    rfl
  · obtain ⟨a, dx, t, b, ws, p, rfl, sr, hq⟩ := h
    refine ⟨_, PSs.nox (pss_cons (ps_if (pt_not (pt_val (pe_callB call_isi rfl zi bt_isinstance (pa_cons (pv 1) (pa_cons (pe_glob (v := .ref (aC K)) rfl (T.g "Scripted" (by decide +kernel)) rfl) pa_nil)))))
      (pss_one (ps_ret pe_bl)) pss_nil)
      (pss_one (ps_ret (pe_and (pe_cmpR (op_eqD hr.units) (pe_fld (pv 0) rfl) (pe_fld (pv 1) rfl) (nomark _)) (pe_one (pe_cmpR op_eq (pe_fld (pv 0) rfl) (pe_fld (pv 1) rfl) (nomark _))))))), ?_⟩
    rcases hq with ⟨dy, q, sb, hq⟩ | ⟨xs, eb, hq⟩
    · refine ⟨_, rfl, .ref b, .ref (aC K), .ref (aC K), .ref (aC K), true, rfl, .own _, .base (.ins sb.ob T.cl T.k1 T.k2 T.k3 T.k4), T.kSS, _, rfl, iteF ?_⟩
      refine ⟨_, rfl, a, aC K, dx, _, _, rfl, sr.ob, T.cl, T.n1, rfl, ?_⟩
      refine ⟨_, rfl, b, aC K, dy, _, _, rfl, sb.ob, T.cl, T.n1, rfl, ?_⟩
      refine ⟨dW ws, dW ws, dp_tw sr.tw, dp_tw sr.tw, dW_sh ws, dW_sh ws, _, rfl, ?_⟩
      rw [eqvR (dW_sh ws)]
      refine iteT ⟨_, rfl, a, aC K, dx, _, _, rfl, sr.ob, T.cl, T.n2, rfl, ?_⟩
      refine ⟨_, rfl, b, aC K, dy, _, _, rfl, sb.ob, T.cl, T.n2, rfl, rfl, ?_⟩
      have e : decide (V.int p = V.int q) = decide (p = q) := by
        by_cases z : p = q
        · rw [decide_eq_true z, z, decide_eq_true rfl]
        · rw [decide_eq_false z, decide_eq_false (fun y => z (V.int.inj y))]
      rw [e]
      exact hq
    · exact ⟨_, rfl, .ref b, .ref (aC K), .type "tuple", .ref (aC K), false, rfl, .own _, .base (.tup eb), T.kTS, _, rfl, iteT hq⟩

def spAt (K : PySem.W.Frag) : Sp := fun vs H Q _ => ∃ (s t : Addr) (ws : List Int) (p : Int), vs = [.ref (aC K), .ref s] ∧ H s = some (.tup [.ref t, .int p]) ∧ Tw H t ws ∧ OkW ws ∧ 0 ≤ p ∧ p ≤ ws.length ∧ NewS K H t p Q
theorem scAt : FnScope ["cls", "state"] ["cls", "state"] (defScope sAtState) := ⟨rfl, rfl, rfl, by decide +kernel, rfl, by decide +kernel, by decide +kernel⟩
theorem ok_at (F : FnF K "at_state" "Scripted.at_state" sAtState f fd) (T : Txt K mg) (GN : FnB P w K mg base (L2N.CX P w) 4 (He.ga K "need_script_state") ["state"] (spState K)) (GI : FnB P w K mg base CX0 5 (aM K "__init__") ["self", "script", "place"] (spInit K)) :
    FnB P w K mg base CX0 7 f ["cls", "state"] (spAt K) := by
  obtain ⟨fn, GN, bn, kn⟩ := GN
  obtain ⟨fi, GI, bi, ki⟩ := GI
  refine ⟨fd, F.ok scAt (fun vs H Q E h => ?_) (fun cdv A outer s H vs Q E hr h => ?_), F.bindsN fun _ _ _ _ _ _ us hl => match us, hl with | [_, _], _ => rfl, F.kp⟩
  · obtain ⟨s, t, ws, p, rfl, _⟩ := h
    rfl
  · obtain ⟨s, t, ws, p, rfl, es, ht, ok, h0, h1, hq⟩ := h
    refine ⟨_, PSs.nox (pss_cons (ps_expr (pe_call GN (hr.mono (by decide)) rfl (T.g "need_script_state" (by decide +kernel)) kn bn .nil passN (pa_cons (pv 1) pa_nil)))
      (pss_one (ps_ret (pe_makeL (i := 0) T.mkC GI hr rfl (.inl rfl) bi .nil pass0 (pa_cons (pe_ix ix_tup (pv 1) pe_int (fun _ _ => rfl)) (pa_cons (pe_ix ix_tup (pv 1) pe_int (fun _ _ => rfl)) pa_nil)))))), ?_⟩
    refine ⟨_, rfl, s, t, ws, .int p, rfl, es, ht, ok, True.intro, fun _ H1 S1 => ?_, fun z => ?_⟩
    · refine ⟨rfl, _, rfl, s, _, 0, _, rfl, rfl, .of (S1 _ _ es), rfl, ?_⟩
      refine ⟨_, rfl, s, _, 1, _, rfl, rfl, .of (S1 _ _ es), rfl, ?_⟩
      exact made (S1 _ _ ht) ok h0 h1 fun H' x dx nx S2 e => hq H' x dx (same_none S1 nx) (S1.trans S2) e
    · have : plB ws.length (.int p) = true := by simp [plB, h0, h1]
      rw [this] at z
      cases z

def spSeed (K : PySem.W.Frag) : Sp := fun vs H Q E => ∃ (v : V), vs = [.ref (aC K), v] ∧ Err (aSeed K) "given" v H E
theorem scSd : FnScope ["cls", "seed"] ["cls", "seed"] (defScope sSeeded) := ⟨rfl, rfl, rfl, by decide +kernel, rfl, by decide +kernel, by decide +kernel⟩
theorem ok_seeded (F : FnF K "seeded" "Scripted.seeded" sSeeded f fd) (T : Txt K mg) (GE : FnB P w K mg base CX0 1 (He.ma K (aSeed K) "__init__") ["self", "given"] (spX (aSeed K) "given")) : FnB P w K mg base (L2N.CX P w) 3 f ["cls", "seed"] (spSeed K) := by
  obtain ⟨fe, GE, be, ke⟩ := GE
  refine ⟨fd, F.ok scSd (fun vs H Q E h => ?_) (fun cdv A outer s H vs Q E hr h => ?_), F.bindsN fun _ _ _ _ _ _ us hl => match us, hl with | [_, _], _ => rfl, F.kp⟩
  · obtain ⟨v, rfl, _⟩ := h
    rfl
  · obtain ⟨v, rfl, hn⟩ := h
    refine ⟨_, pss_one (L2N.ps_raise rfl (L2N.takes_of rfl rfl rfl rfl) (pmk_x PySem.F.excBase_ValueError T.eD.xb T.eD.ini T.eD.tyI GE hr be rfl (T.g "BadSeed" (by decide +kernel)) (pv 1))), ?_⟩
    exact ⟨_, rfl, fun d hd => hn H d (Same.refl H) hd⟩

def spSA (K : PySem.W.Frag) : Sp := fun vs H Q E => ∃ (s t : Addr) (ws : List Int) (p : Int) (v : V), vs = [.ref s, v] ∧ H s = some (.tup [.ref t, .int p]) ∧ Tw H t ws ∧ OkW ws ∧ 0 ≤ p ∧ p ≤ ws.length ∧ Scl v ∧ (stB v = false → Err (aSteps K) "given" v H E) ∧
  (∀ k, v = .int k → stB v = true → (p + k ≤ ws.length → ∀ H' s', Same H H' → H' s' = some (.tup [.ref t, .int (p + k)]) → Q (.ref s') H') ∧ (¬ p + k ≤ ws.length → Err (aExh K) "missing" (.int (p + k - ws.length)) H E))
theorem Err.later {C : Addr} {f : Str} {v : V} {H H' : Hp} {E : XK} (h : Err C f v H E) (S : Same H H') : Err C f v H' E := fun H2 d S2 hd => h H2 d (S.trans S2) hd
theorem scSA : FnScope ["state", "steps"] ["state", "steps"] (defScope sStAfter) := ⟨rfl, rfl, rfl, by decide +kernel, rfl, by decide +kernel, by decide +kernel⟩
theorem ok_stAfter (F : FnF K "state_after" "Scripted.state_after" sStAfter f fd) (T : Txt K mg) (GN : FnB P w K mg base (L2N.CX P w) 4 (He.ga K "need_script_state") ["state"] (spState K)) (GS : FnB P w K mg base (L2N.CX P w) 3 (He.ga K "need_steps") ["steps"] (spNeed K))
    (GA : FnB P w K mg base (L2N.CX P w) 3 (He.ga K "script_after") ["script", "place", "steps"] (spAfter K)) : FnB P w K mg base (L2N.CX P w) 5 f ["state", "steps"] (spSA K) := by
  obtain ⟨fn, GN, bn, kn⟩ := GN
  obtain ⟨fs, GS, bs, ks⟩ := GS
  obtain ⟨fa, GA, ba, ka⟩ := GA
  refine ⟨fd, F.ok scSA (fun vs H Q E h => ?_) (fun cdv A outer s H vs Q E hr h => ?_), F.bindsN fun _ _ _ _ _ _ us hl => match us, hl with | [_, _], _ => rfl, F.kp⟩
  · obtain ⟨s, t, ws, p, v, rfl, _⟩ := h
    rfl
  · obtain ⟨s, t, ws, p, v, rfl, es, ht, ok, h0, h1, sv, hn, hy⟩ := h
    have hr3 : Room 3 _ := hr.mono (by decide)
    refine ⟨_, pss_cons (ps_expr (pe_call GN hr rfl (T.g "need_script_state" (by decide +kernel)) kn bn .nil (L2N.passes_call (L2N.takes_of rfl rfl rfl rfl) fun _ _ _ _ h => h) (pa_cons (pv 0) pa_nil)))
      (pss_cons (ps_expr (pe_call GS hr3 rfl (T.g "need_steps" (by decide +kernel)) ks bs .nil (L2N.passes_call (L2N.takes_of rfl rfl rfl rfl) fun _ _ _ _ h => h) (pa_cons (pv 1) pa_nil)))
      (pss_one (ps_ret (pe_tup (pa_cons (pe_ix ix_tup (pv 0) pe_int (fun _ _ => rfl)) (pa_cons
        (pe_call GA hr3 rfl (T.g "script_after" (by decide +kernel)) ka ba .nil (L2N.passes_call (L2N.takes_of rfl rfl rfl rfl) fun _ _ _ _ h => h)
          (pa_cons (pe_ix ix_tup (pv 0) pe_int (fun _ _ => rfl)) (pa_cons (pe_ix ix_tup (pv 0) pe_int (fun _ _ => rfl)) (pa_cons (pv 1) pa_nil)))) pa_nil)))))), ?_⟩
    refine ⟨_, rfl, s, t, ws, .int p, rfl, es, ht, ok, True.intro, fun _ H1 S1 => ?_, fun z => ?_⟩
    · refine ⟨_, rfl, v, rfl, sv, fun c => ?_, fun c => (hn c).later S1⟩
      obtain ⟨k, rfl, k0, k1⟩ := stB_int c
      obtain ⟨y1, y2⟩ := hy k rfl c
      refine ⟨_, rfl, s, _, 0, _, rfl, rfl, .of (S1 _ _ es), rfl, ?_⟩
      refine ⟨_, rfl, s, _, 0, _, rfl, rfl, .of (S1 _ _ es), rfl, ?_⟩
      refine ⟨_, rfl, s, _, 1, _, rfl, rfl, .of (S1 _ _ es), rfl, ?_⟩
      refine ⟨_, rfl, t, ws, p, k, rfl, S1 _ _ ht, fun c2 => ?_, fun c2 => (y2 c2).later S1⟩
      exact ⟨(by show 2 ≤ sizeLine; decide), fun q hq => y1 c2 _ q (fun b o e => by rw [upd_ne (ne_of_none (S1 _ _ e) hq)]; exact S1 _ _ e) upd_same⟩
    · have : plB ws.length (.int p) = true := by simp [plB, h0, h1]
      rw [this] at z
      cases z
end
end L2.Lw

set_option maxHeartbeats 4000000
/-! The law's defs without lambdas. -/
namespace L2.Lw
open PySem PySem.Spec PyProof.Rows
/-- all but the object at d stays -/
abbrev But (d : Addr) (H H' : Hp) : Prop := ∀ b o, b ≠ d → H b = some o → H' b = some o
theorem Same.but {d : Addr} {H H' : Hp} (s : Same H H') : But d H H' := fun b o _ e => s b o e
theorem But.trans {d : Addr} {H H1 H2 : Hp} (a : But d H H1) (b : But d H1 H2) : But d H H2 := fun c o n e => b c o n (a c o n e)
/-- the draw's dict -/
abbrev dr (l c u : Int) : List (Key × V) := [(.inr "left", .int l), (.inr "cell", .int c), (.inr "turns", .int u)]
theorem dr_left {l c u : Int} : valV (dr l c u) (.inr "left") = some (.int l) := rfl
theorem dr_cell {l c u : Int} : valV (dr l c u) (.inr "cell") = some (.int c) := rfl
theorem dr_turns {l c u : Int} : valV (dr l c u) (.inr "turns") = some (.int u) := rfl
theorem put_left {l c u l' : Int} : putK (dr l c u) (.inr "left") (.int l') = dr l' c u := rfl
theorem put_turns {l c u u' : Int} : putK (dr l c u) (.inr "turns") (.int u') = dr l c u' := rfl
/-- a place of a list, by an int -/
theorem at_some {xs : List V} {i : Int} (h0 : 0 ≤ i) (h1 : i < xs.length) : ∃ v, atI xs i = some v ∧ v ∈ xs := by
  have hl : i.toNat < xs.length := by omega
  refine ⟨xs[i.toNat], ?_, List.getElem_mem hl⟩
  have e : i = ((i.toNat : Nat) : Int) := by omega
  exact at_of e (List.getElem?_eq_getElem hl)

section
variable {P : Program} {w : World} {K : PySem.W.Frag} {mg : Str → Option Value} {base : Heap} {f : Addr} {fd : FuncData}

def spMixed : Sp := fun vs H Q _ => ∃ (c k : Int), vs = [.int c, .int k] ∧ 0 ≤ k ∧ k ≤ 1000000 ∧ ∀ (r : Int), Later H fun H' => Q (.int r) H'
theorem scMx : FnScope ["_law_cell", "_law_k", "_law_one"] ["_law_cell", "_law_k"] (defScope sMixed) := ⟨rfl, rfl, rfl, by decide +kernel, rfl, by decide +kernel, by decide +kernel⟩
theorem ok_mixed (F : FnF K "_law_mixed" "_law_mixed" sMixed f fd) : FnB P w K mg base CX0 1 f ["_law_cell", "_law_k"] spMixed := by
  refine ⟨fd, F.ok scMx (fun vs H Q E h => ?_) (fun cdv A outer s H vs Q E hr h => ?_), F.bindsN fun _ _ _ _ _ _ us hl => match us, hl with | [_, _], _ => rfl, F.kp⟩
  · obtain ⟨c, k, rfl, _⟩ := h
    rfl
  · obtain ⟨c, k, rfl, k0, k1, hq⟩ := h
    refine ⟨_, PSs.nox (pss_cons (ps_set (i := 2) scMx.nd rfl (Or.inl rfl) (pe_op op_add (pe_op op_add (pe_op op_mod (pv 0) (pe_ix ix_list (pe_lst (pa_cons pe_int (pa_cons pe_int (pa_cons pe_int (pa_cons pe_int pa_nil))))) (pe_op op_mod (pv 1) pe_int) (fun _ _ => rfl)))
        (pe_op op_mul pe_int (pv 1))) pe_int))
      (pss_one (ps_ret (pe_op op_mod (pe_op op_mul (pe_op op_mod (pe_op op_mul (pv 2) (pv 2)) pe_int) pe_int) pe_int)))), ?_⟩
    refine ⟨_, rfl, (by show 4 ≤ sizeLine; decide), fun p hp => ?_⟩
    have hk : 0 ≤ k % 4 ∧ k % 4 < 4 := ⟨Int.emod_nonneg _ (by decide), Int.emod_lt_of_pos _ (by decide)⟩
    refine ⟨_, rfl, _, _, rfl, rfl, (by show (0 : Int) < 4; decide), ?_⟩
    obtain ⟨v, hv, hm⟩ := at_some (xs := [V.int 1000000007, V.int 998244353, V.int 2147483629, V.int 1000000009]) hk.1 (by show k % 4 < 4; exact hk.2)
    have hm2 : ∃ m : Int, v = .int m ∧ 0 < m ∧ m < 2147483648 := by
      simp only [List.mem_cons, List.not_mem_nil, or_false] at hm
      rcases hm with e | e | e | e <;> exact ⟨_, e, by decide, by decide⟩
    obtain ⟨m, rfl, m0, m1⟩ := hm2
    refine ⟨p, _, k % 4, _, rfl, rfl, .of upd_same, hv, ?_⟩
    have hc : 0 ≤ c % m ∧ c % m < m := ⟨Int.emod_nonneg _ (by omega), Int.emod_lt_of_pos _ m0⟩
    refine ⟨_, _, rfl, rfl, m0, _, rfl, _, _, rfl, rfl, .inl ⟨by decide, by decide⟩, _, _, rfl, rfl, _, _, rfl, rfl, ?_⟩
    refine ⟨_, rfl, _, rfl, _, _, rfl, rfl, .inl ⟨by omega, by omega⟩, ?_⟩
    refine ⟨_, _, rfl, rfl, (by show (0 : Int) < 2147483647; decide), _, _, rfl, rfl, .inr ⟨by decide, by decide⟩, _, _, rfl, rfl, (by show (0 : Int) < 2147483647; decide), ?_⟩
    exact hq _ _ fun b o e => by rw [upd_ne (ne_of_none e hp)]; exact e

def spDraw : Sp := fun vs H Q _ => ∃ (c k : Int), vs = [.int c, .int k] ∧ ∀ (l : Int) p, H p = none → Q (.ref p) (upd H p (.dK (dr l c (1000 * k))))
theorem scDr : FnScope ["_law_cell", "_law_k"] ["_law_cell", "_law_k"] (defScope sDraw) := ⟨rfl, rfl, rfl, by decide +kernel, rfl, by decide +kernel, by decide +kernel⟩
theorem ok_draw (F : FnF K "_law_draw" "_law_draw" sDraw f fd) : FnB P w K mg base CX0 1 f ["_law_cell", "_law_k"] spDraw := by
  refine ⟨fd, F.ok scDr (fun vs H Q E h => ?_) (fun cdv A outer s H vs Q E hr h => ?_), F.bindsN fun _ _ _ _ _ _ us hl => match us, hl with | [_, _], _ => rfl, F.kp⟩
  · obtain ⟨c, k, rfl, _⟩ := h
    rfl
  · obtain ⟨c, k, rfl, hq⟩ := h
    refine ⟨_, PSs.nox (pss_one (ps_ret (pe_disp (pps_cons pe_str (pe_ifExp (pt_cmpR op_ge (pv 0) (pe_op op_pow pe_int pe_int) (nomark _)) (pv 0) pe_int) (pps_cons pe_str (pv 0) (pps_cons pe_str (pe_op op_mul pe_int (pv 1)) pps_nil))) rfl rfl (by intro z; cases z) (by decide)))), ?_⟩
    intro p hp
    refine ⟨_, rfl, _, _, rfl, rfl, ⟨by decide, by decide, by decide⟩, _, _, rfl, rfl, _, rfl, ?_⟩
    have fin : ∀ l : Int, (upd H p (.dK [])) p = some (.dK []) ∧ ∃ kvs : List (Key × V), [(V.str "left", V.int l), (V.str "cell", V.int c), (V.str "turns", V.int (1000 * k))] = kvs.map (fun kv => (kV kv.1, kv.2)) ∧ kvs.length ≤ 15 ∧ Q (.ref p) (upd (upd H p (.dK [])) p (.dK (mergeK [] kvs))) := fun l =>
      ⟨upd_same, dr l c (1000 * k), rfl, (by show 3 ≤ 15; decide), by rw [upd_upd]; exact hq l p hp⟩
    refine ite2 (fun _ => ?_) (fun _ => ?_)
    · exact ⟨_, rfl, _, rfl, _, rfl, _, _, rfl, rfl, .inl ⟨by decide, by decide⟩, fin c⟩
    · exact ⟨_, rfl, _, rfl, _, _, rfl, rfl, .inl ⟨by decide, by decide⟩, fin 0⟩

/-- the draw stands at d, its turns at most B -/
def Drw (H : Hp) (d : Addr) (B : Int) : Prop := ∃ l c u : Int, H d = some (.dK (dr l c u)) ∧ 0 ≤ u ∧ u ≤ B
theorem Drw.mono {H : Hp} {d : Addr} {B B' : Int} (h : Drw H d B) (hb : B ≤ B') : Drw H d B' := by
  obtain ⟨l, c, u, e, h0, h1⟩ := h
  exact ⟨l, c, u, e, h0, by omega⟩
def spDigit : Sp := fun vs H Q _ => ∃ (d : Addr) (n B : Int), vs = [.ref d, .int n] ∧ Drw H d B ∧ B ≤ 900000 ∧ 0 < n ∧ n < 1000 ∧ ∀ H' (r : Int), But d H H' → Drw H' d (B + 4) → 0 ≤ r → r < n → Q (.int r) H'
theorem scDg : FnScope ["_law_draw_here", "_law_span", "_law_j", "_law_found"] ["_law_draw_here", "_law_span"] (defScope sDigit) := ⟨rfl, rfl, rfl, by decide +kernel, rfl, by decide +kernel, by decide +kernel⟩
theorem ok_digit (F : FnF K "_law_digit" "_law_digit" sDigit f fd) (T : Txt K mg) (G : FnB P w K mg base CX0 1 (He.ga K "_law_mixed") ["_law_cell", "_law_k"] spMixed) : FnB P w K mg base CX0 2 f ["_law_draw_here", "_law_span"] spDigit := by
  obtain ⟨fg, G, bg, kg⟩ := G
  have zr : mg "range" = none := T.z "range" (by decide +kernel)
  refine ⟨fd, F.ok scDg (fun vs H Q E h => ?_) (fun cdv A outer s H vs Q E hr h => ?_), F.bindsN fun _ _ _ _ _ _ us hl => match us, hl with | [_, _], _ => rfl, F.kp⟩
  · obtain ⟨d, n, B, rfl, _⟩ := h
    rfl
  · obtain ⟨d, n, B, rfl, ⟨l, c, u, ed, u0, u1⟩, hB, n0, n1, hq⟩ := h
    have hu := hu_of hr
    refine ⟨_, PSs.nox (pss_cons (ps_if (pt_cmpR op_eq (pe_dget hu (pv 0) pe_str (fun _ _ => rfl)) pe_int (nomark _))
        (pss_one (ps_for PassesOwn.never rfl (pi_range1 rfl zr (pa_cons pe_int pa_nil)) (pg_name (i := 2) scDg.nd rfl (Or.inl rfl))
          (pss_cons (ps_dput hu (pv 0) pe_str (pe_op op_add (pe_dget hu (pv 0) pe_str (fun _ _ => rfl)) pe_int) rfl)
          (pss_one (ps_dput hu (pv 0) pe_str (pe_op op_add (pe_op op_mul (pe_dget hu (pv 0) pe_str (fun _ _ => rfl)) pe_int)
            (pe_call G hr rfl (T.g "_law_mixed" (by decide +kernel)) kg bg .nil pass0 (pa_cons (pe_dget hu (pv 0) pe_str (fun _ _ => rfl)) (pa_cons (pe_dget hu (pv 0) pe_str (fun _ _ => rfl)) pa_nil)))) rfl))))) pss_nil)
      (pss_cons (ps_set (i := 3) scDg.nd rfl (Or.inl rfl) (pe_op op_mod (pe_dget hu (pv 0) pe_str (fun _ _ => rfl)) (pv 1)))
      (pss_cons (ps_dput hu (pv 0) pe_str (pe_op op_fdiv (pe_dget hu (pv 0) pe_str (fun _ _ => rfl)) (pv 1)) rfl)
      (pss_one (ps_ret (pv 3)))))), ?_⟩
    have tail : ∀ (σ : St) (H1 : Hp), σ.length = 4 → σ[0]? = some (some (.ref d)) → σ[1]? = some (some (.int n)) → But d H H1 → (∃ l1 u1, H1 d = some (.dK (dr l1 c u1)) ∧ 0 ≤ u1 ∧ u1 ≤ B + 4) →
        tSeq (tAsg (tOp (rI (fun _ j => 0 < j) fun i j => .int (i % j)) (tDGet (tVar 0) (tC (.str "left"))) (tVar 1)) (gName 3))
          (tSeq (sDPut (tVar 0) (tC (.str "left")) (tOp (rI CDiv fun i j => .int (i / j)) (tDGet (tVar 0) (tC (.str "left"))) (tVar 1))) (tRet (tVar 3))) { nx := fun _ H' => Q .non H', rt := Q } σ H1 := by
      rintro σ H1 hl h0 h1 hb ⟨l1, u2, e1, v0, v1⟩
      refine ⟨_, h0, d, _, rfl, DGet.k (k := .inr "left") e1, _, h1, _, _, rfl, rfl, n0, ?_⟩
      have g0 : (σ.set 3 (some (V.int (l1 % n))))[0]? = some (some (.ref d)) := by rw [List.getElem?_set_ne (by decide)]; exact h0
      have g1 : (σ.set 3 (some (V.int (l1 % n))))[1]? = some (some (.int n)) := by rw [List.getElem?_set_ne (by decide)]; exact h1
      refine ⟨_, g0, d, _, rfl, DGet.k (k := .inr "left") e1, _, g1, _, _, rfl, rfl, ⟨n0, by omega⟩, ?_⟩
      refine ⟨_, g0, d, _, rfl, DPut.k (k := .inr "left") e1 (by show 3 < sizeLine; decide), ?_⟩
      refine ⟨_, List.getElem?_set_self (by omega), hq _ _ (fun b o n e => by rw [upd_ne n]; exact hb b o n e) ⟨_, c, u2, upd_same, v0, by omega⟩ (Int.emod_nonneg _ (by omega)) (Int.emod_lt_of_pos _ n0)⟩
    refine ⟨_, rfl, d, _, rfl, DGet.k (k := .inr "left") ed, rfl, _, rfl, ?_⟩
    refine ite2 (fun _ => ?_) (fun _ => tail _ _ rfl rfl rfl (fun b o _ e => e) ⟨l, u, ed, u0, by omega⟩)
    refine ⟨4, rfl, by decide, by decide, for_range (n := 4) (fun i σ H1 => σ.length = 4 ∧ σ[0]? = some (some (.ref d)) ∧ σ[1]? = some (some (.int n)) ∧ But d H H1 ∧ ∃ l1 u1, H1 d = some (.dK (dr l1 c u1)) ∧ 0 ≤ u1 ∧ u1 ≤ B + i) ⟨rfl, rfl, rfl, fun b o _ e => e, l, u, ed, u0, by omega⟩ ?_ ?_⟩
    · rintro i σ H1 hi ⟨hl, h0, h1, hb, l1, u2, e1, v0, v1⟩
      have g0 : (σ.set 2 (some (V.int (0 + i))))[0]? = some (some (.ref d)) := by rw [List.getElem?_set_ne (by decide)]; exact h0
      have g1 : (σ.set 2 (some (V.int (0 + i))))[1]? = some (some (.int n)) := by rw [List.getElem?_set_ne (by decide)]; exact h1
      refine ⟨_, g0, d, _, rfl, DGet.k (k := .inr "turns") e1, _, _, rfl, rfl, ?_⟩
      refine ⟨_, g0, d, _, rfl, DPut.k (k := .inr "turns") e1 (by show 3 < sizeLine; decide), ?_⟩
      have e2 : upd H1 d (.dK (putK (dr l1 c u2) (.inr "turns") (.int (u2 + 1)))) d = some (.dK (dr l1 c (u2 + 1))) := upd_same
      refine ⟨_, g0, d, _, rfl, DGet.k (k := .inr "left") e2, _, _, rfl, rfl, .inr ⟨by decide, by decide⟩, ?_⟩
      refine ⟨_, g0, d, _, rfl, DGet.k (k := .inr "cell") e2, _, g0, d, _, rfl, DGet.k (k := .inr "turns") e2, ?_⟩
      refine ⟨c, u2 + 1, rfl, by omega, by omega, fun r H2 S2 => ⟨_, _, rfl, rfl, ?_⟩⟩
      have e3 := S2 _ _ e2
      refine ⟨_, g0, d, _, rfl, DPut.k (k := .inr "left") e3 (by show 3 < sizeLine; decide), ?_⟩
      refine ⟨by rw [List.length_set]; exact hl, g0, g1, fun b o n e => ?_, _, u2 + 1, upd_same, by omega, by omega⟩
      rw [upd_ne n]
      exact S2 b o (by rw [upd_ne n]; exact hb b o n e)
    · rintro σ H1 ⟨hl, h0, h1, hb, l1, u2, e1, v0, v1⟩
      exact tail σ H1 hl h0 h1 hb ⟨l1, u2, e1, v0, by omega⟩
end
end L2.Lw

set_option maxHeartbeats 4000000
/-! _law_steps, _law_is_steps, _law_moved. -/
namespace L2.Lw
open PySem PySem.Spec PyProof.Rows
/-- what _law_steps draws from -/
def StV : V → Prop
  | .int i => smI i
  | .bl _ => True
  | .non => True
  | .str x => x = "1"
  | _ => False
def dOf : V → PyData
  | .int i => .int i
  | .bl b => .bool b
  | .str x => .str x
  | _ => .none
theorem StV.scl : ∀ {v : V}, StV v → Scl v
  | .int _, _ => True.intro
  | .bl _, _ => True.intro
  | .non, _ => True.intro
  | .str _, _ => True.intro
  | .byt _, h => h.elim
  | .flt _, h => h.elim
  | .ref _, h => h.elim
  | .ty _, h => h.elim
theorem StV.dp {K : PySem.W.Frag} {H : Hp} : ∀ {v : V}, StV v → Dp K H v (dOf v)
  | .int _, _ => .int _
  | .bl _, _ => .bl _
  | .non, _ => .non
  | .str _, _ => .str _
  | .byt _, h => h.elim
  | .flt _, h => h.elim
  | .ref _, h => h.elim
  | .ty _, h => h.elim
theorem StV.sh : ∀ {v : V}, StV v → Sh (dOf v) ∧ PyData.strOk (dOf v).shown = true
  | .int i, h => ⟨sh_sm (d := .int i) h, so_sm (d := .int i) h⟩
  | .bl b, _ => ⟨sh_sm (d := .bool b) True.intro, so_sm (d := .bool b) True.intro⟩
  | .non, _ => ⟨sh_sm (d := .none) True.intro, so_sm (d := .none) True.intro⟩
  | .str x, h => by
    have e : x = "1" := h
    subst e
    exact ⟨sh_one, so_one⟩
  | .byt _, h => h.elim
  | .flt _, h => h.elim
  | .ref _, h => h.elim
  | .ty _, h => h.elim
theorem StV.nr : ∀ {v : V}, StV v → ∀ a, v ≠ .ref a
  | .int _, _, _ => fun z => by cases z
  | .bl _, _, _ => fun z => by cases z
  | .non, _, _ => fun z => by cases z
  | .str _, _, _ => fun z => by cases z
  | .byt _, h, _ => h.elim
  | .flt _, h, _ => h.elim
  | .ref _, h, _ => h.elim
  | .ty _, h, _ => h.elim
theorem smI_of {i : Int} (h0 : -(2 ^ 65) ≤ i) (h1 : i ≤ 2 ^ 65) : smI i := by
  unfold smI
  omega
section
variable {P : Program} {w : World} {K : PySem.W.Frag} {mg : Str → Option Value} {base : Heap} {f : Addr} {fd : FuncData}

def spSteps : Sp := fun vs H Q _ => ∃ (d : Addr) (h s B : Int), vs = [.ref d, .int h, .int s] ∧ Drw H d B ∧ B ≤ 900000 ∧ 0 ≤ h ∧ h ≤ 12 ∧ 0 ≤ s ∧ s ≤ 12 ∧ ∀ H' y, StV y → But d H H' → Drw H' d (B + 4) → Q y H'
theorem scSp : FnScope ["_law_draw_here", "_law_here", "_law_size", "_law_some"] ["_law_draw_here", "_law_here", "_law_size"] (defScope sSteps) := ⟨rfl, rfl, rfl, by decide +kernel, rfl, by decide +kernel, by decide +kernel⟩
theorem ok_steps (F : FnF K "_law_steps" "_law_steps" sSteps f fd) (T : Txt K mg) (G : FnB P w K mg base CX0 2 (He.ga K "_law_digit") ["_law_draw_here", "_law_span"] spDigit) : FnB P w K mg base CX0 3 f ["_law_draw_here", "_law_here", "_law_size"] spSteps := by
  obtain ⟨fg, G, bg, kg⟩ := G
  refine ⟨fd, F.ok scSp (fun vs H Q E h => ?_) (fun cdv A outer s H vs Q E hr h => ?_), F.bindsN fun _ _ _ _ _ _ us hl => match us, hl with | [_, _, _], _ => rfl, F.kp⟩
  · obtain ⟨d, h, s, B, rfl, _⟩ := h
    rfl
  · obtain ⟨d, h, s, B, rfl, hd, hB, h0, h1, s0, s1, hq⟩ := h
    refine ⟨_, PSs.nox (pss_cons (ps_set (i := 3) scSp.nd rfl (Or.inl rfl) (pe_lst (pa_cons pe_int (pa_cons pe_int (pa_cons (pe_op op_sub (pv 2) (pv 1)) (pa_cons (pe_op op_add (pe_op op_sub (pv 2) (pv 1)) pe_int) (pa_cons (pv 1) (pa_cons (pe_op op_add (pv 1) pe_int)
        (pa_cons (pe_op op_pow pe_int pe_int) (pa_cons (pe_op op_add (pe_op op_pow pe_int pe_int) pe_int) (pa_cons (pe_un un_neg pe_int) (pa_cons pe_bl (pa_cons pe_non (pa_cons pe_str (pa_cons pe_int pa_nil)))))))))))))))
      (pss_one (ps_ret (pe_ix ix_list (pv 3) (pe_call G hr rfl (T.g "_law_digit" (by decide +kernel)) kg bg .nil pass0 (pa_cons (pv 0) (pa_cons pe_int pa_nil))) (fun _ _ => rfl))))), ?_⟩
    refine ⟨_, rfl, _, rfl, _, _, rfl, rfl, ?_⟩
    refine ⟨_, rfl, _, rfl, _, _, rfl, rfl, _, _, rfl, rfl, ?_⟩
    refine ⟨_, rfl, _, rfl, _, _, rfl, rfl, ?_⟩
    refine ⟨_, _, rfl, rfl, ⟨by decide, by decide, by decide⟩, ?_⟩
    refine ⟨_, _, rfl, rfl, ⟨by decide, by decide, by decide⟩, _, _, rfl, rfl, ?_⟩
    refine ⟨_, rfl, (by show 13 ≤ sizeLine; decide), fun p hp => ?_⟩
    obtain ⟨l, c, u, ed, u0, u1⟩ := hd
    refine ⟨_, rfl, _, rfl, d, 13, B, rfl, ⟨l, c, u, by rw [upd_ne (ne_of_none ed hp)]; exact ed, u0, u1⟩, hB, by decide, by decide, fun H' r hb hd' r0 r1 => ?_⟩
    obtain ⟨v, hv, hm⟩ := at_some (xs := [V.int 0, V.int 1, V.int (s - h), V.int (s - h + 1), V.int h, V.int (h + 1), V.int (2 ^ (64 : Int).toNat), V.int (2 ^ (64 : Int).toNat + 1), V.int (-1), V.bl true, V.non, V.str "1", V.int 3]) r0 (by show r < 13; exact r1)
    have e64 : (2 : Int) ^ (64 : Int).toNat = 18446744073709551616 := by decide
    have hst : StV v := by
      simp only [List.mem_cons, List.not_mem_nil, or_false] at hm
      rcases hm with e | e | e | e | e | e | e | e | e | e | e | e | e
      all_goals first
        | (rw [e]; exact True.intro)
        | (rw [e]; exact rfl)
        | (rw [e]; refine smI_of ?_ ?_ <;> first | (rw [e64]; decide) | omega)
    have npd : p ≠ d := (ne_of_none ed hp).symm
    refine ⟨p, _, r, v, rfl, rfl, .of (hb p _ npd upd_same), hv, ?_⟩
    exact hq H' v hst (fun b o n e => hb b o n (by rw [upd_ne (ne_of_none e hp)]; exact e)) hd'

def spIsSteps : Sp := fun vs H Q _ => ∃ v, vs = [v] ∧ Scl v ∧ Q (.bl (stB v)) H
theorem scIt : FnScope ["_law_steps_here"] ["_law_steps_here"] (defScope sIsSteps) := ⟨rfl, rfl, rfl, by decide +kernel, rfl, by decide +kernel, by decide +kernel⟩
theorem ok_isSteps (F : FnF K "_law_is_steps" "_law_is_steps" sIsSteps f fd) (T : Txt K mg) : FnB P w K mg base CX0 1 f ["_law_steps_here"] spIsSteps := by
  have zi : mg "isinstance" = none := T.z "isinstance" (by decide +kernel)
  have z1 : mg "int" = none := T.z "int" (by decide +kernel)
  have z2 : mg "bool" = none := T.z "bool" (by decide +kernel)
  refine ⟨fd, F.ok scIt (fun vs H Q E h => ?_) (fun cdv A outer s H vs Q E hr h => ?_), F.bindsN fun _ _ _ _ _ _ us hl => match us, hl with | [_], _ => rfl, F.kp⟩
  · obtain ⟨v, rfl, _⟩ := h
    rfl
  · obtain ⟨v, rfl, hs, hq⟩ := h
    refine ⟨_, PSs.nox (pss_one (ps_ret (pe_and (pe_callB call_isi rfl zi bt_isinstance (pa_cons (pv 0) (pa_cons (pe_bltn rfl z1 bt_int (v := .ty "int") rfl) pa_nil)))
      (pe_and (pe_not (pe_callB call_isi rfl zi bt_isinstance (pa_cons (pv 0) (pa_cons (pe_bltn rfl z2 bt_bool (v := .ty "bool") rfl) pa_nil))))
      (pe_one (pe_chain op_le op_le pe_int (pv 0) pe_int)))))), ?_⟩
    refine ⟨_, rfl, v, .ty "int", .type (tyS v), .type "int", isIB v, rfl, .ty "int", ty_scl hs, kit_int hs, ?_⟩
    refine ⟨_, rfl, ?_⟩
    have second : ∀ R : Prop, (if isB v = false then R else Q (.bl false) H) → ∃ (v1 : V), (start ["_law_steps_here"] [v])[0]? = some (some v1) ∧ True := fun _ _ => ⟨v, rfl, True.intro⟩
    cases v with
    | int i =>
      refine iteT ⟨_, rfl, .int i, .ty "bool", .type "int", .type "bool", false, rfl, .ty "bool", ty_scl hs, kit_bool hs, _, rfl, _, rfl, iteT ?_⟩
      refine ⟨_, rfl, _, _, rfl, rfl, _, rfl, ?_⟩
      have hq2 : Q (.bl (decide (0 ≤ i) && decide (i ≤ 18446744073709551616))) H := hq
      by_cases h0 : 0 ≤ i
      · rw [decide_eq_true h0] at hq2 ⊢
        exact iteT ⟨_, _, rfl, rfl, hq2⟩
      · rw [decide_eq_false h0] at hq2 ⊢
        exact iteF hq2
    | bl b => exact iteT ⟨_, rfl, .bl b, .ty "bool", .type "bool", .type "bool", true, rfl, .ty "bool", ty_scl hs, kit_bool hs, _, rfl, _, rfl, iteF hq⟩
    | non => exact iteF hq
    | str x => exact iteF hq
    | _ => exact hs.elim

/-- the two ways out of _law_moved -/
abbrev OutL (H : Hp) (i : Int) (Q : VK) : Prop := ∀ p, H p = none → Q (.ref p) (upd H p (.lst [.int i]))
abbrev OutS (H : Hp) (v : V) (Q : VK) : Prop := ∀ p, H p = none → Q (.ref p) (upd H p (.tup [.str "steps", .str (dOf v).shown]))
abbrev OutX (H : Hp) (m : Int) (Q : VK) : Prop := ∀ p, H p = none → Q (.ref p) (upd H p (.tup [.str "short", .int m]))
def spMoved : Sp := fun vs H Q _ => ∃ (h s : Int) (v : V) (b : Bool), vs = [.int h, .int s, v, .bl b] ∧ StV v ∧ (stB v = false → OutS H v Q) ∧
  (∀ k, v = .int k → stB v = true → (b = true → (k ≤ h → OutL H (h - k) Q) ∧ (¬ k ≤ h → OutS H v Q)) ∧ (b = false → (h + k ≤ s → OutL H (h + k) Q) ∧ (¬ h + k ≤ s → OutX H (h + k - s) Q)))
theorem scMv : FnScope ["_law_here", "_law_size", "_law_steps_here", "_law_is_back"] ["_law_here", "_law_size", "_law_steps_here", "_law_is_back"] (defScope sMoved) := ⟨rfl, rfl, rfl, by decide +kernel, rfl, by decide +kernel, by decide +kernel⟩
theorem ok_moved (F : FnF K "_law_moved" "_law_moved" sMoved f fd) (T : Txt K mg) (G : FnB P w K mg base CX0 1 (He.ga K "_law_is_steps") ["_law_steps_here"] spIsSteps) : FnB P w K mg base CX0 2 f ["_law_here", "_law_size", "_law_steps_here", "_law_is_back"] spMoved := by
  obtain ⟨fg, G, bg, kg⟩ := G
  have zr : mg "repr" = none := T.z "repr" (by decide +kernel)
  refine ⟨fd, F.ok scMv (fun vs H Q E h => ?_) (fun cdv A outer s H vs Q E hr h => ?_), F.bindsN fun _ _ _ _ _ _ us hl => match us, hl with | [_, _, _, _], _ => rfl, F.kp⟩
  · obtain ⟨h, s, v, b, rfl, _⟩ := h
    rfl
  · obtain ⟨h, s, v, b, rfl, sv, hn, hy⟩ := h
    refine ⟨_, PSs.nox (pss_cons (ps_if (pt_not (pt_val (pe_call G hr rfl (T.g "_law_is_steps" (by decide +kernel)) kg bg .nil pass0 (pa_cons (pv 2) pa_nil))))
        (pss_one (ps_ret (pe_tup (pa_cons pe_str (pa_cons (pe_callB call_reprS rfl zr bt_repr (pa_cons (pv 2) pa_nil)) pa_nil))))) pss_nil)
      (pss_cons (ps_if (pt_val (pv 3)) (pss_one (ps_ret (pe_ifExp (pt_cmpR op_le (pv 2) (pv 0) (nomark _)) (pe_lst (pa_cons (pe_op op_sub (pv 0) (pv 2)) pa_nil)) (pe_tup (pa_cons pe_str (pa_cons (pe_callB call_reprS rfl zr bt_repr (pa_cons (pv 2) pa_nil)) pa_nil)))))) pss_nil)
      (pss_one (ps_ret (pe_ifExp (pt_cmpR op_le (pe_op op_add (pv 0) (pv 2)) (pv 1) (nomark _)) (pe_lst (pa_cons (pe_op op_add (pv 0) (pv 2)) pa_nil))
        (pe_tup (pa_cons pe_str (pa_cons (pe_op op_sub (pe_op op_add (pv 0) (pv 2)) (pv 1)) pa_nil)))))))), ?_⟩
    refine ⟨_, rfl, v, rfl, sv.scl, _, rfl, ?_⟩
    cases c : stB v with
    | false => exact iteT ⟨_, rfl, v, dOf v, rfl, sv.nr, sv.dp, sv.sh.1, (by show 2 ≤ sizeLine; decide), fun p hp => hn c p hp⟩
    | true =>
      refine iteF ?_
      obtain ⟨k, rfl, k0, k1⟩ := stB_int c
      obtain ⟨y1, y2⟩ := hy k rfl c
      refine ⟨_, rfl, b, rfl, ?_⟩
      cases b with
      | true =>
        obtain ⟨z1, z2⟩ := y1 rfl
        refine iteT ⟨_, rfl, _, rfl, _, _, rfl, rfl, _, rfl, ?_⟩
        by_cases c2 : k ≤ h
        · rw [decide_eq_true c2]
          exact iteT ⟨_, rfl, _, rfl, _, _, rfl, rfl, (by show 1 ≤ sizeLine; decide), fun p hp => z1 c2 p hp⟩
        · rw [decide_eq_false c2]
          exact iteF ⟨_, rfl, .int k, dOf (.int k), rfl, sv.nr, sv.dp, sv.sh.1, (by show 2 ≤ sizeLine; decide), fun p hp => z2 c2 p hp⟩
      | false =>
        obtain ⟨z1, z2⟩ := y2 rfl
        refine iteF ⟨_, rfl, _, rfl, _, _, rfl, rfl, _, rfl, _, _, rfl, rfl, _, rfl, ?_⟩
        by_cases c2 : h + k ≤ s
        · rw [decide_eq_true c2]
          exact iteT ⟨_, rfl, _, rfl, _, _, rfl, rfl, (by show 1 ≤ sizeLine; decide), fun p hp => z1 c2 p hp⟩
        · rw [decide_eq_false c2]
          exact iteF ⟨_, rfl, _, rfl, _, _, rfl, rfl, _, rfl, _, _, rfl, rfl, (by show 2 ≤ sizeLine; decide), fun p hp => z2 c2 p hp⟩
end
end L2.Lw

set_option maxHeartbeats 4000000
/-! A for loop in a generator's body. -/
namespace PySem
open Sem (wp)
section
variable {M : Model} {A : Around} {R : GenEnd} {Y : Protocol} {n : Nat} {s₀ : Shared} {c : Code} {fs : List Frame} {s : Shared} {env : Env}
  {K : Flow → Sem Fin} {H : Value → Sem Fin} {gd : Bool → Bool} {lv : List Value → List Value}
theorem lw_seg_For {target iter : Expr} {body orelse : List Stmt} {pos : Pos}
    (h : wpAny M (A.over c fs) (eval iter env) (fun x s₁ => wpAny M (A.over c fs) (pyIter x) (fun it s₂ => ∀ p, Seg M A R Y n s₀ (.forLoop target it body orelse env) (M.den (.forLoop target it body orelse env))
      (.ret (fun r => ((match r with | .ok f => (.pure f : Sem Flow) | .error e => .raise e).onRaise fun (x : Value) => do
        if (← field x 1) == Value.none then unsupported "frame.own-activation:exception-without-traceback"
        setFlight x env.frame).wrap K H gd lv) none (gd false) (lv []) c p [] :: fs) s₂) (fun x s' => Seg M A R Y n s₀ c (H x) fs s') s₁) (fun x s' => Seg M A R Y n s₀ c (H x) fs s') s)
    (hs : ∀ x, foldedSetIterable iter env x = pure x) :
    Seg M A R Y n s₀ c ((exec (.For target iter body orelse pos) env).wrap K H gd lv) fs s := by
  rw [exec_For]
  refine seg_bind_wrap (wpAny_standAt ?_)
  refine seg_bind_wrap (wpAny_mono h (fun x s₁ h₁ => ?_) fun _ _ h' => h')
  refine seg_bind_wrap (wpAny_of_eq (hs x) ?_)
  refine seg_bind_wrap (wpAny_standAt ?_)
  refine seg_bind_wrap (wpAny_holding (wpAny_mono h₁ (fun it s₂ h₂ => ?_) fun _ _ h' => h'))
  exact seg_call h₂
end
section
variable {prog : Program} {w : World} {A : Around} {R : GenEnd} {Y : Protocol} {n : Nat} {s₀ : Shared} {fs : List Frame} {s : Shared} {env : Env}
/-- an exception in a turn -/
abbrev lwOut (prog : Program) (w : World) (A : Around) (R : GenEnd) (Y : Protocol) (n : Nat) (s₀ : Shared) (c : Code) (fs : List Frame) (env : Env) (x : Value) (s' : Shared) : Prop :=
  Seg (model prog w) A R Y n s₀ c ((do noteFrame x env; theTreesLotGoes x : Sem Unit).bind fun _ => (.raise x : Sem Fin)) fs s'
theorem lw_seg_forLoop {target : Expr} {it : Value} {body orelse : List Stmt}
    (h : wpAny (model prog w) (A.over (.forLoop target it body orelse env) fs) (pyNext it) (fun r s' => match r with
        | none => Seg (model prog w) A R Y n s₀ (.forLoop target it body orelse env) (.pure (.again (.block orelse env))) fs s'
        | some v => wpAny (model prog w) (A.over (.forLoop target it body orelse env) fs) (letOwnedTupleGo target it v) (fun _ s₁ =>
          wpAny (model prog w) (A.over (.forLoop target it body orelse env) fs) (assign target env v) (fun _ s₂ =>
            Seg (model prog w) A R Y n s₀ (.forLoop target it body orelse env) ((execs body env).wrap (fun f => match f with
              | .next | .cont => .pure (.again (.forLoop target it body orelse env))
              | .brk => .pure (.done .next)
              | .ret v => .pure (.done (.ret v))) (fun e => (do noteFrame e env; theTreesLotGoes e : Sem Unit).bind fun _ => (.raise e : Sem Fin)) id id) fs s₂)
            (lwOut prog w A R Y n s₀ (.forLoop target it body orelse env) fs env) s₁) (lwOut prog w A R Y n s₀ (.forLoop target it body orelse env) fs env) s')
      (lwOut prog w A R Y n s₀ (.forLoop target it body orelse env) fs env) s) :
    Seg (model prog w) A R Y n s₀ (.forLoop target it body orelse env) ((model prog w).den (.forLoop target it body orelse env)) fs s := by
  show Seg _ A R Y n s₀ _ ((forTurn target it body orelse env).onRaise (fun x => do noteFrame x env; theTreesLotGoes x)) fs s
  rw [Sem.onRaise_eq_wrap]
  unfold forTurn
  refine seg_bind_wrap (wpAny_standAt ?_)
  refine seg_bind_wrap (wpAny_onRaise (wpAny_mono h (fun r s₁ h₁ => ?_) fun x s' h' => wpAny_standAt h'))
  cases r with
  | none => exact h₁
  | some v =>
    refine seg_bind_wrap (wpAny_mono h₁ (fun _ s₁' h₁' => ?_) fun _ _ h' => h')
    refine seg_bind_wrap (wpAny_mono h₁' (fun _ s₂ h₂ => ?_) fun _ _ h' => h')
    rw [Sem.bind_eq_wrap', Sem.wrap_wrap]
    rw [Sem.wrap_congr (execs body env) _ _ (K' := fun f => match f with
            | .next | .cont => .pure (.again (.forLoop target it body orelse env))
            | .brk => .pure (.done .next)
            | .ret v => .pure (.done (.ret v))) (H' := fun e => (do noteFrame e env; theTreesLotGoes e : Sem Unit).bind fun _ => (.raise e : Sem Fin))
        (fun f => by cases f <;> rfl) (fun e => by rfl)]
    exact h₂
theorem lw_seg_block (h : Seg (model prog w) A R Y n s₀ (.block [] env) (.pure (.done .next)) fs s) : Seg (model prog w) A R Y n s₀ (.block [] env) ((model prog w).den (.block [] env)) fs s := h
end
end PySem
namespace L2.Lw
open PySem PySem.Spec PyProof.Rows
section
variable {X : Cx}
def tGFor (wi : TI) (g : TG) (tb : TGn) : TGn := fun D ys σ H => wi σ H fun J H1 => ∃ W : Nat → Nat → List V → St → Hp → Prop, (∃ m, W 0 m ys σ H1) ∧ ∀ i m ys σ H, W i m ys σ H →
  (J.stop i H ∧ D.nx ys σ H) ∨ (J.go i H ∧ ∃ N : List V → St → Hp → Prop, (∀ ys' σ' H', N ys' σ' H' → ∃ m', m' < m ∧ W (i + 1) m' ys' σ' H') ∧ ∀ x H', J.yld i H x H' → g x σ H' fun σ2 H2 => tb { D with nx := N, ct := N, bk := D.nx } ys σ2 H2)
theorem gs_for {tg iter : Expr} {body : List Stmt} {pos : Pos} {wi : TI} {g : TG} {tb : TGn} (hp : PassesOwn (model X.prog X.w) X.A X.env X.xe) (hc : X.calm = true) (hi : PI X tg iter wi) (hg : PG X tg g) (hb : GSs X body tb)
    (hs : ∀ x, foldedSetIterable iter X.env x = pure x := by intro _; rfl) : GS X (.For tg iter body [] pos) (tGFor wi g tb) := by
  refine ⟨fun A S ip R n ys s₀ c fs K J gd lv s σ H D gc hn k hI ht => ?_⟩
  obtain ⟨acc0, cc0, r0, I0⟩ := hI
  refine lw_seg_For ?_ hs
  rw [gc.over]
  refine wpAny_mono (hi.run _ s σ H _ I0 ht) (fun v s1 h1 => wpAny_mono h1 (fun itv s2 h2 p => ?_) fun x s' hx => k.exc n s₀ x s' hx) fun x s' hx => k.exc n s₀ x s' hx
  obtain ⟨it, fp, tn, JJ, H2, e, I2, T, st2, f2, W, ⟨m0, w0⟩, turn⟩ := h2
  subst e
  have gl := fun (kk : Result → Sem PySem.Fin) => gc_loop (k := kk) (c' := .forLoop tg (.ref it) body [] X.env) (l := lv []) (kp := []) (p := p) gc rfl rfl
  have stat : ∀ {acc : Array Value} {cc : Nat} {H' : Hp}, (∀ b ∈ fp, H' b = none) → ∀ b ∈ fp, FpOk X ((S, lstObj acc cc) :: ip) H' b := fun {acc cc H'} hn b hb => by
    obtain ⟨_, q1, q2, q3, q4, q5⟩ := f2 b hb
    refine ⟨hn b hb, q1, q2, q3, q4, fun p hp => ?_⟩
    rcases List.mem_append.mp hp with hp | hp
    · exact q5 p (List.mem_append_left _ hp)
    · rcases List.mem_cons.mp hp with hp | hp
      · rw [hp]
        exact q5 (S, lstObj acc0 cc0) (List.mem_append_right _ List.mem_cons_self)
      · exact q5 p (List.mem_append_right _ (List.mem_cons_of_mem _ hp))
  have loop : ∀ (m i n : Nat) (ys : List V) (s₀ s : Shared) (σ : St) (H : Hp), n + ys.length = sizeLine → W i m ys σ H → GI X S ip ys σ H s → tn i s.heap → (∀ b ∈ fp, H b = none) →
      Seg (model X.prog X.w) A R (GY X S) n s₀ (.forLoop tg (.ref it) body [] X.env) ((model X.prog X.w).den (.forLoop tg (.ref it) body [] X.env))
        (.ret (fun r => ((match r with | .ok f => (.pure f : Sem Flow) | .error e => .raise e).onRaise (cameBack X.env)).wrap K J gd lv) none (gd false) (lv []) c p [] :: fs) s := by
    intro m
    induction m using Nat.strongRecOn with
    | ind m ih =>
      intro i n ys s₀ s σ H hn w hI st fr
      have ee : ∀ (n : Nat) (s₀ : Shared) (x : Value) (s' : Shared), X.xe x s' → lwOut X.prog X.w A R (GY X S) n s₀ (.forLoop tg (.ref it) body [] X.env)
          (.ret (fun r => ((match r with | .ok f => (.pure f : Sem Flow) | .error e => .raise e).onRaise (cameBack X.env)).wrap K J gd lv) none (gd false) (lv []) c p [] :: fs) X.env x s' := fun n s₀ x s' hx => by
        unfold lwOut
        rw [Sem.bind_eq_wrap]
        refine seg_wrap ?_
        rw [(gl _).over]
        refine wpAny_bind (wpAny_mono (hp x s' hx) (fun _ s'' hcb => wpAny_theTreesLotGoes ?_) fun y s'' hcb => ?_)
        · exact seg_leaf (.error x) (seg_cameBack gc k hcb)
        · exact seg_leaf (.error y) (seg_cameBack gc k hcb)
      obtain ⟨acc, cc, r, I⟩ := hI
      refine lw_seg_forLoop ?_
      rw [(gl _).over]
      rcases turn i m ys σ H w with ⟨stop, qn⟩ | ⟨go, N, hN, step⟩
      · refine wpAny_mono (T.done X rfl rfl rfl hc i _ s σ H X.xe I (stat fr) st stop) (fun rr s4 ⟨hr, I4⟩ => ?_) fun x s' hx => ee n s₀ x s' hx
        subst hr
        refine seg_again rfl (lw_seg_block ?_)
        exact seg_leaf (.ok .next) (k.ok n ys s₀ s4 .next hn ⟨σ, H, ⟨acc, cc, r, I4⟩, qn⟩)
      · refine wpAny_mono (T.item X rfl rfl rfl hc i _ s σ H X.xe I (stat fr) st go) (fun rr s4 ⟨u, hr, h4⟩ => ?_) fun x s' hx => ee n s₀ x s' hx
        subst hr
        refine wpAny_mono h4 (fun _ s5 ⟨x, H5, I5, r5, y5, st5, fr5⟩ => ?_) fun x s' hx => ee n s₀ x s' hx
        have I5' := I5.pinned (stat fr5) (T.obj _ _ st5)
        refine wpAny_mono (hg.run _ s5 σ H5 x u _ I5' r5 (step x H5 y5)) (fun _ s6 ⟨σ6, H6, I6, q6⟩ => ?_) fun x s' hx => ee n s₀ x s' hx
        have gl2 : ∀ kk, GC X S (ip ++ pinsAt fp s5.heap) A (.forLoop tg (.ref it) body [] X.env) (.ret kk none (gd false) (lv []) c p [] :: fs) id := fun kk => by
          obtain ⟨a1, a2, a3, a4, a5, a6, a7⟩ := gl kk
          refine ⟨a1, fun p hp => ?_, a3, a4, a5, a6, a7⟩
          rcases List.mem_append.mp hp with hp | hp
          · exact a2 p hp
          · have hz : p.1 ∈ fp := by
              unfold pinsAt at hp
              obtain ⟨b, hb, e⟩ := List.mem_filterMap.mp hp
              cases q : s5.heap.get? b with
              | none => rw [q] at e; cases e
              | some o => rw [q] at e; cases e; exact hb
            exact fun z => (f2 p.1 hz).2.2.2.2.2 (S, lstObj acc0 cc0) (List.mem_append_right _ List.mem_cons_self) z.symm
        refine hb.run A S (ip ++ pinsAt fp s5.heap) R n ys s₀ _ _ _ _ id id s6 σ6 H6 { D with nx := N, ct := N, bk := D.nx } (gl2 _) hn ⟨fun n' ys' s₀' s7 f hn' hs' => ?_, fun n' s₀' x s3 hx => ee n' s₀' x s3 hx⟩ ⟨acc, cc, r, I6⟩ q6
        have un : ∀ {ys7 : List V} {σ7 : St} {H7 : Hp}, GI X S (ip ++ pinsAt fp s5.heap) ys7 σ7 H7 s7 → GI X S ip ys7 σ7 H7 s7 ∧ tn (i + 1) s7.heap ∧ ∀ b ∈ fp, H7 b = none := fun {ys7 σ7 H7} ⟨acc7, c7, r7, I7⟩ => by
          have pin7 : ∀ b ∈ fp, ∀ o, s5.heap.get? b = some o → s7.heap.get? b = some o ∧ H7 b = none := fun b hb o e =>
            let z := I7.pin (b, o) (List.mem_append_right _ (List.mem_cons_of_mem _ (List.mem_append_right _ (mem_pinsAt hb e))))
            ⟨z.1, z.2.1⟩
          refine ⟨⟨acc7, c7, r7, I7.pins_of fun q hq => I7.pin q (List.mem_append_right _ ?_)⟩, T.keep _ _ _ st5 fun b hb o e => (pin7 b hb o e).1, fun b hb => ?_⟩
          · rcases List.mem_cons.mp hq with e | hq
            · rw [e]; exact List.mem_cons_self
            · exact List.mem_cons_of_mem _ (List.mem_append_left _ hq)
          · obtain ⟨o, e, _⟩ := T.obj _ _ st5 b hb
            exact (pin7 b hb o e).2
        cases f with
        | next =>
          obtain ⟨σ7, H7, I7, n7⟩ := hs'
          obtain ⟨g7, t7, f7⟩ := un I7
          obtain ⟨m', hm, w7⟩ := hN ys' σ7 H7 n7
          exact seg_again rfl (ih m' hm (i + 1) n' ys' s₀' s7 σ7 H7 hn' w7 g7 t7 f7)
        | cont =>
          obtain ⟨σ7, H7, I7, n7⟩ := hs'
          obtain ⟨g7, t7, f7⟩ := un I7
          obtain ⟨m', hm, w7⟩ := hN ys' σ7 H7 n7
          exact seg_again rfl (ih m' hm (i + 1) n' ys' s₀' s7 σ7 H7 hn' w7 g7 t7 f7)
        | brk =>
          obtain ⟨σ7, H7, I7, q7⟩ := hs'
          obtain ⟨g7, t7, f7⟩ := un I7
          exact seg_leaf (.ok .next) (k.ok n' ys' s₀' s7 .next hn' ⟨σ7, H7, g7, q7⟩)
        | ret v =>
          obtain ⟨x7, σ7, H7, I7, r7, q7⟩ := hs'
          obtain ⟨g7, t7, f7⟩ := un I7
          exact seg_leaf (.ok (.ret v)) (k.ok n' ys' s₀' s7 (.ret v) hn' ⟨x7, σ7, H7, g7, r7, q7⟩)
  exact loop m0 0 n ys s₀ s2 σ H2 hn w0 ⟨acc0, cc0, r0, I2⟩ st2 fun b hb => (f2 b hb).1
end
end L2.Lw

set_option maxHeartbeats 4000000
/-! Scripted.words. -/
namespace L2.Lw
open PySem PySem.Spec PyProof.Rows
theorem gfor_range {lo : Int} {n : Nat} {g : TG} {tb : TGn} {D : GEnds} {ys : List V} {σ : St} {H : Hp} (Pv : Nat → List V → St → Hp → Prop) (h0 : Pv 0 ys σ H)
    (hs : ∀ i ys σ H, i < n → Pv i ys σ H → g (.int (lo + i)) σ H fun σ2 H2 => tb { D with nx := Pv (i + 1), ct := Pv (i + 1), bk := D.nx } ys σ2 H2) (hd : ∀ ys σ H, Pv n ys σ H → D.nx ys σ H) :
    ∃ W : Nat → Nat → List V → St → Hp → Prop, (∃ m, W 0 m ys σ H) ∧ ∀ i m ys σ H, W i m ys σ H →
      ((Itr lo n).stop i H ∧ D.nx ys σ H) ∨ ((Itr lo n).go i H ∧ ∃ N : List V → St → Hp → Prop, (∀ ys' σ' H', N ys' σ' H' → ∃ m', m' < m ∧ W (i + 1) m' ys' σ' H') ∧ ∀ x H', (Itr lo n).yld i H x H' → g x σ H' fun σ2 H2 => tb { D with nx := N, ct := N, bk := D.nx } ys σ2 H2) := by
  refine ⟨fun i m ys σ H => m = n - i ∧ i ≤ n ∧ Pv i ys σ H, ⟨n, by simp, Nat.zero_le _, h0⟩, ?_⟩
  rintro i m ys σ H ⟨rfl, hi, p⟩
  by_cases hlt : i < n
  · refine .inr ⟨hlt, Pv (i + 1), fun ys' σ' H' p' => ⟨n - (i + 1), by omega, rfl, hlt, p'⟩, fun x H' y => ?_⟩
    obtain ⟨e, y⟩ := y
    subst e y
    exact hs i ys σ _ hlt p
  · have e : i = n := by omega
    subst e
    exact .inl ⟨Nat.le_refl _, hd ys σ H p⟩
section
variable {P : Program} {w : World} {K : PySem.W.Frag} {mg : Str → Option Value} {base : Heap} {f : Addr} {fd : FuncData}
def spWords (K : PySem.W.Frag) : SpG := fun vs H Q _ => ∃ (a dx t : Addr) (ws : List Int) (p : Int), vs = [.ref a, .int (ws.length - p)] ∧ Src K H a dx t ws p ∧ ∀ H', But a H H' → Q ((ws.drop p.toNat).map V.int) H'
abbrev GFnB (P : Program) (w : World) (K : PySem.W.Frag) (mg : Str → Option Value) (base : Heap) (k : Nat) (f : Addr) (ps : List Str) (sp : SpG) : Prop :=
  ∃ fd, GFn P w K mg base k f fd ps sp ∧ Binds K fd ps [] ∧ PySem.W.keepIn K (.ref f) = true
theorem scWo : GScope ["self", "many", "turn"] ["self", "many"] (defScope sWords) := ⟨rfl, rfl, rfl, by decide +kernel, rfl, by decide +kernel, by decide +kernel⟩
theorem ok_words (F : FnF K "words" "Scripted.words" sWords f fd) (T : Txt K mg) (GM : FnB P w K mg base CX0 2 (He.ga K "need_many") ["many"] spMany) (GN : FnB P w K mg base (L2N.CX P w) 4 (aM K "next_word") ["self"] (spNext K)) : GFnB P w K mg base 5 f ["self", "many"] (spWords K) := by
  obtain ⟨fm, GM, bm, km⟩ := GM
  obtain ⟨fn, GN, bn, kn⟩ := GN
  have zr : mg "range" = none := T.z "range" (by decide +kernel)
  have bF : Binds K fd ["self", "many"] [] := F.bindsN fun _ _ _ _ _ _ us hl => match us, hl with | [_, _], _ => rfl
  refine ⟨fd, ?_, bF, F.kp⟩
  obtain ⟨oc, od, dV, kV, doc, pm, an, cdv, ct, osl, rfl, lk, hcd, _, _⟩ := F.ex
  refine gfn_of lk hcd scWo (fun vs H Q E h => ?_) (fun A outer s H vs Q E pn hr h => ?_)
  · obtain ⟨a, dx, t, ws, p, rfl, _⟩ := h
    rfl
  · obtain ⟨a, dx, t, ws, p, rfl, sr, hq⟩ := h
    have hl : ws.length ≤ 12 := sr.ok.l
    have hp0 := sr.p0
    have hp1 := sr.p1
    refine ⟨_, gss_cons (gs_ps (ps_expr (pe_call GM (hr.mono (by decide)) rfl (T.g "need_many" (by decide +kernel)) km bm .nil pass0 (pa_cons (pv 1) pa_nil))))
      (gss_cons (gs_for owns_gcx rfl (pi_range1 rfl zr (pa_cons (pv 1) pa_nil)) (pg_name (i := 2) scWo.nd rfl (Or.inl rfl))
        (gss_cons (gs_yield (pe_meth0 (pv 0) T.cl (T.me "next_word" (by decide +kernel)) GN hr bn .nil passN)) gss_nil)) gss_nil), ?_⟩
    refine ⟨_, rfl, _, rfl, by omega, by omega, ?_⟩
    refine ⟨_, rfl, _, rfl, by omega, by omega, ?_⟩
    refine gfor_range (n := ((ws.length : Int) - p).toNat) (fun i ys σ H' => σ[0]? = some (some (.ref a)) ∧ But a H H' ∧ H' a = some (.ins (aC K) dx (fl t (p + i))) ∧ ys = ((ws.drop p.toNat).take i).map V.int) ?_ ?_ ?_
    · refine ⟨rfl, fun b o _ e => e, ?_, by simp⟩
      have e : p + ((0 : Nat) : Int) = p := by omega
      rw [e]
      exact sr.ob
    · rintro i ys σ H' hi ⟨h0, hb, ho, hys⟩
      have g0 : (σ.set 2 (some (V.int (0 + i))))[0]? = some (some (.ref a)) := by rw [List.getElem?_set_ne (by decide)]; exact h0
      have ht : Tw H' t ws := hb t _ sr.ne sr.tw
      have sr2 : Src K H' a dx t ws (p + i) := ⟨ho, ht, sr.ok, by omega, by omega⟩
      have hlt : (p + (i : Int)).toNat < ws.length := by omega
      refine ⟨?_, ?_⟩
      · rw [hys, List.length_map]
        have : ((ws.drop p.toNat).take i).length ≤ i := by rw [List.length_take]; omega
        exact small1000 (by omega)
      · refine ⟨_, g0, a, dx, _, rfl, ho, rfl, ?_⟩
        refine ⟨a, dx, t, ws, p + i, rfl, sr2, fun z hz => ?_, fun c => absurd (show p + (i : Int) < ws.length by omega) c⟩
        refine ⟨g0, fun b o n e => by show upd H' a _ b = _; rw [upd_ne n]; exact hb b o n e, ?_, ?_⟩
        · have e : p + ((i + 1 : Nat) : Int) = p + i + 1 := by omega
          rw [e]
          exact upd_same
        · have e1 : (ws.drop p.toNat)[i]? = some z := by
            rw [List.getElem?_drop]
            have e2 : p.toNat + i = (p + (i : Int)).toNat := by omega
            rw [e2]
            exact hz
          rw [hys, List.take_add_one, e1, List.map_append]
          rfl
    · rintro ys σ H' ⟨h0, hb, ho, hys⟩
      have e : ((ws.drop p.toNat).take ((ws.length : Int) - p).toNat) = ws.drop p.toNat := List.take_of_length_le (by rw [List.length_drop]; omega)
      rw [e] at hys
      show Q ys H'
      rw [hys]
      exact hq H' hb
end
end L2.Lw

set_option maxHeartbeats 4000000
/-! The two suites of _law_told. -/
namespace L2.Lw
open PySem PySem.Spec PyProof.Rows
theorem pss_ex {X : Cx} {st : List Stmt} {α : Type} {p : α → Prop} {t : α → TS} (h : ∀ c, p c → PSs X st (t c)) : PSs X st (fun D σ H => ∃ c, p c ∧ t c D σ H) := ⟨fun pins s σ H D I ⟨c, hp, ht⟩ => (h c hp).run pins s σ H D I ht⟩
theorem pss_imp {X : Cx} {st : List Stmt} {t t' : TS} (h : PSs X st t) (hi : ∀ D σ H, t' D σ H → t D σ H) : PSs X st t' := ⟨fun pins s σ H D I ht => h.run pins s σ H D I (hi D σ H ht)⟩
theorem Same.seqT {K : PySem.W.Frag} {H H' : Hp} {a : Addr} {xs : List V} (e : Same H H') (h : SqT K H a xs) : SqT K H' a xs := by
  rcases h with (h | ⟨o, h⟩) | h
  · exact .inl (.inl (e _ _ h))
  · exact .inl (.inr ⟨o, e _ _ h⟩)
  · exact .inr h
mutual
theorem dp_same {K : PySem.W.Frag} {H H' : Hp} (s : Same H H') : ∀ (d : PyData) (v : V), Dp K H v d → Dp K H' v d
  | .none, _, h => by
    cases h
    exact .non
  | .bool b, _, h => by
    cases h
    exact .bl b
  | .int i, _, h => by
    cases h
    exact .int i
  | .str x, _, h => by
    cases h
    exact .str x
  | .list ds, _, h => by
    cases h with
    | lst hs ha => exact .lst (s.seq hs) (dpAll_same s ds _ ha)
  | .tuple ds, _, h => by
    cases h with
    | tup hs ha => exact .tup (Same.seqT s hs) (dpAll_same s ds _ ha)
  | .dict _, _, h => by cases h
theorem dpAll_same {K : PySem.W.Frag} {H H' : Hp} (s : Same H H') : ∀ (ds : List PyData) (vs : List V), DpAll K H vs ds → DpAll K H' vs ds
  | [], _, h => by
    cases h
    exact .nil
  | d :: ds, _, h => by
    cases h with
    | cons h1 h2 => exact .cons (dp_same s d _ h1) (dpAll_same s ds _ h2)
end
theorem same_new {H : Hp} {p : Addr} {o : HO} (h : H p = none) : Same H (upd H p o) := fun b u e => by rw [upd_ne (ne_of_none e h)]; exact e

/-- the own errors over DrawError and what _law_told names them -/
structure Kind (K : PySem.W.Frag) (C : Addr) (kind : Str) : Prop where
  ex : ∃ b1 b2 b3 : Bool, PySem.W.kitOne K (.ref C) (.ref (aSteps K)) = some b1 ∧ PySem.W.kitOne K (.ref C) (.ref (aState K)) = some b2 ∧ PySem.W.kitOne K (.ref C) (.ref (aSeed K)) = some b3 ∧
    (if b1 = true then [V.str "steps"] else []) ++ ((if b2 = true then [V.str "state"] else []) ++ if b3 = true then [V.str "seed"] else []) = [V.str kind]
  err : ErrC K C HandSPX.veTail "ValueError.__new__" "given"
  exm : PySem.W.exmOne K (.ref C) (.ref (aDraw K)) = some true
theorem kind_S {K : PySem.W.Frag} {mg : Str → Option Value} (T : Txt K mg) : Kind K (aSteps K) "steps" := ⟨⟨true, false, false, T.kSs, T.kSt, T.kSd, rfl⟩, T.eS, T.mS⟩
theorem kind_T {K : PySem.W.Frag} {mg : Str → Option Value} (T : Txt K mg) : Kind K (aState K) "state" := ⟨⟨false, true, false, T.kTs, T.kTt, T.kTd, rfl⟩, T.eT, T.mT⟩
theorem kind_D {K : PySem.W.Frag} {mg : Str → Option Value} (T : Txt K mg) : Kind K (aSeed K) "seed" := ⟨⟨false, false, true, T.kDs, T.kDt, T.kDd, rfl⟩, T.eD, T.mD⟩

abbrev nT : List Str := ["_law_call", "_law_found", "e", "_law_kinds", "_law_name", "_law_is_so"]
theorem scTd : FnScope nT ["_law_call"] (defScope sTold) := ⟨rfl, rfl, rfl, by decide +kernel, rfl, by decide +kernel, by decide +kernel⟩
/-- the slots where a suite begins -/
abbrev stS (f a : Addr) : St := [some (.ref f), none, some (.ref a), none, none, none]
/-- what is wanted of an error of one of these classes, behind a text and the given thing's text -/
def OutK (kind : Str) (dt : PyData) (H : Hp) (Q : VK) : Prop := ∀ H2 p, Same H H2 → H2 p = some (.tup [.str kind, .str dt.shown]) → Q (.ref p) H2
def tSuiteD (K : PySem.W.Frag) (cls : Value) (d : Option Addr) (a : Addr) : TS := fun D σ H => ∃ (q : Addr × Str), Kind K q.1 q.2 ∧ ∃ (f dd : Addr) (v : V) (dt : PyData), σ = stS f a ∧ cls = .ref q.1 ∧ d = some dd ∧ H dd = some (.xd [("given", v)]) ∧ Dp K H v dt ∧ Sh dt ∧ OutK q.2 dt H D.rt
def tSuiteX (K : PySem.W.Frag) (cls : Value) (d : Option Addr) (a : Addr) : TS := fun D σ H => ∃ (f dd : Addr) (v : V), σ = stS f a ∧ cls = .ref (aExh K) ∧ d = some dd ∧ H dd = some (.xd [("missing", v)]) ∧ ∀ p, H p = none → D.rt (.ref p) (upd H p (.tup [.str "short", v]))
def hdBody (i : Nat) : List Stmt := match defBody sTold with
  | .Try _ hs _ _ _ :: _ => (match hs.getD i (.ExceptHandler none none [] ⟨0, 0, 0, 0⟩) with
    | .ExceptHandler _ _ b _ => b)
  | _ => []
abbrev XT (P : Program) (w : World) (K : PySem.W.Frag) (mg : Str → Option Value) (base : Heap) (g : Addr) (cdg : Value) (A : Around) (outer : List Env) (s : Shared) (H : Hp) (E : XK) : Cx := (cxOf CX0 P w K mg base nT "_law_told" (defScope sTold) g cdg A outer s H E).nox
section
variable {P : Program} {w : World} {K : PySem.W.Frag} {mg : Str → Option Value} {base : Heap} {g : Addr} {cdg : Value} {A : Around} {outer : List Env} {s : Shared} {H0 : Hp} {E : XK}
theorem suiteX (T : Txt K mg) {a : Addr} {oe : Obj} {cls : Value} {d : Option Addr} {pn : List (Addr × Obj)} (hz : L2N.Zn cls d oe) (hf : ∃ vs, oe.data = .fields vs ∧ 2 < vs.size) :
    PSs ((XT P w K mg base g cdg A outer s H0 E).suite a ((a, oe) :: pn)) (hdBody 1) (tSuiteX K cls d a) := by
  have zi : mg "isinstance" = none := T.z "isinstance" (by decide +kernel)
  have hf' : ∃ vs, oe.data = .fields vs := let ⟨vs, h, _⟩ := hf; ⟨vs, h⟩
  refine pss_imp (pss_one (ps_ret (pe_ifExp (pt_val (pe_callB (call_isD hz.zc hf') rfl zi bt_isinstance (pa_cons (pv 2) (pa_cons (pe_glob (v := .ref (aExh K)) rfl (T.g "Exhausted" (by decide +kernel)) rfl) pa_nil))))
    (pe_tup (pa_cons pe_str (pa_cons (pe_xf T.eX.xf T.eX.no hz.zc hf' (pv 2)) pa_nil))) pe_str))) ?_
  rintro D σ H ⟨f, dd, v, rfl, rfl, rfl, hd, hq⟩
  refine ⟨_, rfl, aExh K, dd, _, .ref (aExh K), .ref (aExh K), true, rfl, rfl, hd, T.eX.ec, rfl, fun u r => r, T.kXx, _, rfl, ?_⟩
  exact iteT ⟨_, rfl, rfl, rfl, dd, _, v, rfl, hd, rfl, (by show 2 ≤ sizeLine; decide), fun p hp => hq p hp⟩
theorem suiteD (T : Txt K mg) (hg : A.guards = some []) (hu : A.units + 200 < cLine) {a : Addr} {oe : Obj} {cls : Value} {d : Option Addr} {pn : List (Addr × Obj)} (hz : L2N.Zn cls d oe) (hf : ∃ vs, oe.data = .fields vs ∧ 2 < vs.size) :
    PSs ((XT P w K mg base g cdg A outer s H0 E).suite a ((a, oe) :: pn)) (hdBody 0) (tSuiteD K cls d a) := by
  have zi : mg "isinstance" = none := T.z "isinstance" (by decide +kernel)
  have zr : mg "repr" = none := T.z "repr" (by decide +kernel)
  have hf' : ∃ vs, oe.data = .fields vs := let ⟨vs, h, _⟩ := hf; ⟨vs, h⟩
  have hg2 : ((XT P w K mg base g cdg A outer s H0 E).suite a ((a, oe) :: pn)).A.guards = some [] := hg
  have hu2 : ((XT P w K mg base g cdg A outer s H0 E).suite a ((a, oe) :: pn)).A.units + 20 < cLine := by
    show A.units + 3 + 20 < cLine
    omega
  refine pss_ex fun q hk => ?_
  obtain ⟨C, kind⟩ := q
  obtain ⟨⟨b1, b2, b3, k1, k2, k3, kk⟩, er, _⟩ := hk
  dsimp only at k1 k2 k3 kk er
  refine pss_imp (pss_cons (ps_set (i := 3) scTd.nd rfl (Or.inl rfl) (pe_lst (pa_cons (pe_tup (pa_cons pe_str (pa_cons (pe_callB (call_isD hz.zc hf') rfl zi bt_isinstance (pa_cons (pv 2) (pa_cons (pe_glob (v := .ref (aSteps K)) rfl (T.g "BadSteps" (by decide +kernel)) rfl) pa_nil))) pa_nil)))
      (pa_cons (pe_tup (pa_cons pe_str (pa_cons (pe_callB (call_isD hz.zc hf') rfl zi bt_isinstance (pa_cons (pv 2) (pa_cons (pe_glob (v := .ref (aState K)) rfl (T.g "BadState" (by decide +kernel)) rfl) pa_nil))) pa_nil))) pa_nil))))
    (pss_cons (ps_expr (pe_bm PySem.F.plainAttrs_list PySem.F.slot_list_append PySem.F.type_list_append mt_append (pv 3) (pa_cons (pe_tup (pa_cons pe_str (pa_cons (pe_callB (call_isD hz.zc hf') rfl zi bt_isinstance (pa_cons (pv 2) (pa_cons (pe_glob (v := .ref (aSeed K)) rfl (T.g "BadSeed" (by decide +kernel)) rfl) pa_nil))) pa_nil))) pa_nil)))
    (pss_one (ps_ret (pe_tup (pa_cons (pe_ix ix_list (pe_op op_cat (pe_lcW (own := [("_law_name", 4), ("_law_is_so", 5)]) (g := gTup K 2 (gCons (gName 4) (gCons (gName 5) gNil))) (tt := tB (tVar 5)) (te := tVar 4) (suite_hot hz hf) scTd.nd (pi_listW (pv 3)) (blkOk_by (N := nT) (sc := defScope sTold) (by decide +kernel))
          (fun _ _ _ _ _ hot => pg_tupH hot (pgs_cons (pg_name (i := 4) scTd.nd rfl (Or.inl rfl)) (pgs_cons (pg_name (i := 5) scTd.nd rfl (Or.inl rfl)) pgs_nil))) (fun _ _ _ _ _ => pts_one (pt_val (pv 5))) (fun _ _ _ _ _ => pv 4))
        (pe_lst (pa_cons pe_str pa_nil))) pe_int (fun _ _ => rfl)) (pa_cons (pe_callB (call_repr hg2 hu2) rfl zr bt_repr (pa_cons (pe_xf er.xf er.no hz.zc hf' (pv 2)) pa_nil)) pa_nil))))))) ?_
  rintro D σ H ⟨f, dd, v, dt, rfl, rfl, rfl, hd, hdp, hsh, hq⟩
  -- ('steps', ..)
  refine ⟨_, rfl, C, dd, _, .ref (aSteps K), .ref (aSteps K), b1, rfl, rfl, hd, er.ec, rfl, fun u r => r, k1, (by show 2 ≤ sizeLine; decide), fun p1 h1 => ?_⟩
  have S1 : Same H (upd H p1 (.tup [.str "steps", .bl b1])) := same_new h1
  refine ⟨_, rfl, C, dd, _, .ref (aState K), .ref (aState K), b2, rfl, rfl, S1 _ _ hd, er.ec, rfl, fun u r => r, k2, (by show 2 ≤ sizeLine; decide), fun p2 h2 => ?_⟩
  generalize hH1 : upd H p1 (.tup [.str "steps", .bl b1]) = H1 at S1 h2 ⊢
  have e1 : H1 p1 = some (.tup [.str "steps", .bl b1]) := by rw [← hH1, upd_same]
  have S2 : Same H1 (upd H1 p2 (.tup [.str "state", .bl b2])) := same_new h2
  refine ⟨(by show 2 ≤ sizeLine; decide), fun l hl => ?_⟩
  generalize hH2 : upd H1 p2 (.tup [.str "state", .bl b2]) = H2 at S2 hl ⊢
  have e2 : H2 p2 = some (.tup [.str "state", .bl b2]) := by rw [← hH2, upd_same]
  -- append
  refine ⟨_, rfl, Or.inl ⟨rfl, _, .of upd_same⟩, ?_⟩
  have S3 : Same H2 (upd H2 l (.lst [.ref p1, .ref p2])) := same_new hl
  refine ⟨_, rfl, C, dd, _, .ref (aSeed K), .ref (aSeed K), b3, rfl, rfl, S3 _ _ (S2 _ _ (S1 _ _ hd)), er.ec, rfl, fun u r => r, k3, (by show 2 ≤ sizeLine; decide), fun p3 h3 => ?_⟩
  have nl : p3 ≠ l := fun z => by
    rw [z, upd_same] at h3
    cases h3
  refine ⟨l, [.ref p1, .ref p2], _, rfl, rfl, by rw [upd_ne (Ne.symm nl), upd_same], (by show 2 < sizeLine; decide), ?_⟩
  -- the heap with the list of three
  have S4 : Same H2 (upd (upd (upd H2 l (.lst [.ref p1, .ref p2])) p3 (.tup [.str "seed", .bl b3])) l (.lst ([.ref p1, .ref p2] ++ [.ref p3]))) := fun b o e => by
    rw [upd_ne (ne_of_none e hl), upd_ne (ne_of_none (S3 _ _ e) h3)]
    exact S3 _ _ e
  have e3 : (upd (upd (upd H2 l (.lst [.ref p1, .ref p2])) p3 (.tup [.str "seed", .bl b3])) l (.lst ([.ref p1, .ref p2] ++ [.ref p3]))) p3 = some (.tup [.str "seed", .bl b3]) := by rw [upd_ne nl, upd_same]
  have el : (upd (upd (upd H2 l (.lst [.ref p1, .ref p2])) p3 (.tup [.str "seed", .bl b3])) l (.lst ([.ref p1, .ref p2] ++ [.ref p3]))) l = some (.lst [.ref p1, .ref p2, .ref p3]) := upd_same
  generalize hH4 : upd (upd (upd H2 l (.lst [.ref p1, .ref p2])) p3 (.tup [.str "seed", .bl b3])) l (.lst ([.ref p1, .ref p2] ++ [.ref p3])) = H4 at S4 e3 el ⊢
  have S04 : Same H H4 := (S1.trans S2).trans S4
  refine ⟨_, rfl, l, rfl, ⟨_, .of el⟩, fun R hR => ?_⟩
  refine lc_list (xs := [.ref p1, .ref p2, .ref p3]) (fun i H' => Same H4 H' ∧ H' R = some (.lst (match i with
    | 0 => []
    | 1 => (if b1 = true then [V.str "steps"] else [])
    | 2 => (if b1 = true then [V.str "steps"] else []) ++ (if b2 = true then [V.str "state"] else [])
    | _ => [V.str kind]))) ⟨same_new hR, upd_same⟩ (fun i H' _ hp => .of (hp.1 _ _ el)) ?_ ?_
  · intro i x H' hx hp
    obtain ⟨hS, hR'⟩ := hp
    have keep : ∀ {y : V} {acc : List V}, Same H4 (upd H' R (.lst acc)) := fun {y acc} b o e => by
      rw [upd_ne (ne_of_none e hR)]
      exact hS b o e
    match i, hx, hR' with
    | 0, hx, hR' =>
      obtain rfl : V.ref p1 = x := Option.some.inj hx
      refine ⟨p1, _, rfl, .of (hS _ _ (S4 _ _ (S2 _ _ e1))), rfl, _, _, rfl, _, _, rfl, rfl, rfl, _, rfl, b1, rfl, ?_⟩
      cases b1 with
      | true => exact ⟨_, rfl, [], hR', by decide, keep (y := .non), upd_same⟩
      | false => exact ⟨hS, hR'⟩
    | 1, hx, hR' =>
      obtain rfl : V.ref p2 = x := Option.some.inj hx
      refine ⟨p2, _, rfl, .of (hS _ _ (S4 _ _ e2)), rfl, _, _, rfl, _, _, rfl, rfl, rfl, _, rfl, b2, rfl, ?_⟩
      cases b2 with
      | true => exact ⟨_, rfl, _, hR', by cases b1 <;> (first | exact (by decide : (0 : Nat) < sizeLine) | exact (by decide : (1 : Nat) < sizeLine) | exact (by decide : (2 : Nat) < sizeLine)), keep (y := .non), upd_same⟩
      | false =>
        refine ⟨hS, ?_⟩
        show H' R = some (.lst ((if b1 = true then [V.str "steps"] else []) ++ []))
        rw [List.append_nil]
        exact hR'
    | 2, hx, hR' =>
      obtain rfl : V.ref p3 = x := Option.some.inj hx
      refine ⟨p3, _, rfl, .of (hS _ _ e3), rfl, _, _, rfl, _, _, rfl, rfl, rfl, _, rfl, b3, rfl, ?_⟩
      cases b3 with
      | true =>
        refine ⟨_, rfl, _, hR', by cases b1 <;> cases b2 <;> (first | exact (by decide : (0 : Nat) < sizeLine) | exact (by decide : (1 : Nat) < sizeLine) | exact (by decide : (2 : Nat) < sizeLine)), keep (y := .non), ?_⟩
        rw [upd_same]
        show some (HO.lst (((if b1 = true then [V.str "steps"] else []) ++ (if b2 = true then [V.str "state"] else [])) ++ [V.str "seed"])) = some (.lst [V.str kind])
        rw [List.append_assoc]
        exact congrArg (fun z => some (HO.lst z)) kk
      | false =>
        refine ⟨hS, ?_⟩
        show H' R = some (.lst [V.str kind])
        rw [← kk]
        show H' R = some (.lst ((if b1 = true then [V.str "steps"] else []) ++ ((if b2 = true then [V.str "state"] else []) ++ [])))
        rw [List.append_nil]
        exact hR'
    | i + 3, hx, _ => simp at hx
  · intro H5 hp
    obtain ⟨S5, hR5⟩ := hp
    have hR5' : H5 R = some (.lst [V.str kind]) := hR5
    refine ⟨(by show 1 ≤ sizeLine; decide), fun p5 h5 => ?_⟩
    have n5 : R ≠ p5 := ne_of_none hR5' h5
    refine ⟨R, p5, [.str kind], [.str "other"], rfl, rfl, by rw [upd_ne n5]; exact hR5', upd_same, (by show 2 ≤ sizeLine; decide), fun p6 h6 => ?_⟩
    have S6 : Same H5 (upd (upd H5 p5 (.lst [.str "other"])) p6 (.lst ([.str kind] ++ [.str "other"]))) := (same_new h5).trans (same_new h6)
    refine ⟨p6, [.str kind, .str "other"], 0, .str kind, rfl, rfl, .of upd_same, rfl, ?_⟩
    have S7 := (S04.trans S5).trans S6
    refine ⟨_, rfl, rfl, rfl, dd, _, v, rfl, S7 _ _ hd, rfl, ?_⟩
    refine ⟨v, dt, rfl, dp_same S7 dt v hdp, hsh, (by show 2 ≤ sizeLine; decide), fun p7 h7 => ?_⟩
    exact hq _ p7 (S7.trans (same_new h7)) upd_same
end
end L2.Lw

set_option maxHeartbeats 4000000
/-! Lambdas handed to _law_told: made (plain, with a default, one of two), called. -/
namespace PySem.W
open PySem PySem.Spec PySem.Calls PyProof.Rows
abbrev lw_fn (qual : Str) (params : Arguments) (body : Expr) (scope : Scope) (cl : List (Str × Addr)) (pm cdv ct dV : Value) : FuncData :=
  { name := "<lambda>", qualname := qual, params, body := .expr body, scope, globals := mainGlobals, closure := cl, defaults := dV, kwdefaults := .none, doc := .none, pyModule := pm, annotations := none, code := cdv, closureTuple := ct, builtins := builtinsNs }
abbrev lw_obj (qual : Str) (params : Arguments) (body : Expr) (scope : Scope) (clos : List (Str × Addr)) (pm cv ctv dV : Value) : Obj :=
  { cls := .type "function", data := .func (lw_fn qual params body scope clos pm cv ctv dV) }
section
variable {M : Model} {A : Around} {E : Value → Shared → Prop} {s : Shared} {qual : Str} {params : Arguments} {body : Expr} {scope : Scope} {env : Env} {c P : Addr} {ps : Array Value} {pos : Pos} {firstLine : Nat} {mg : Str → Option Value}
  {clos : List (Str × Addr)} {Q : Value → Shared → Prop} {dV : Value}
theorem lw_makeTail (hcl : closureFor scope env = pure clos) (hge0 : env.globals = mainGlobals) (hg : s.heap.Ns mainGlobals mg) (hcode : env.code = .ref c) (C : CodeHd s.heap c P) (hP : s.heap.get? P = some (tabObj ps)) (ht : TriplesOk ps.toList)
    (hnf : codeAmong pos ps.toList = none) (hgP : mainGlobals ≠ P) (hb : s.heap.BuiltinsAt mg P)
    (h : ∀ c' ctv h' tk, Heap.ExtBut P s.heap h' → s.heap.objs.size ≤ c' → c' < h'.objs.size → h'.CodeRec (.ref c') qual → h'.get? P = some (tabObj (ps ++ #[rawInt pos.line, rawInt pos.col, .ref c'])) →
      Q (.ref h'.objs.size) { s with heap := h'.push (lw_obj qual params body scope clos ((mg "__name__").getD .none) (.ref c') ctv dV), toks := tk }) :
    wpAny M A (makeTail "<lambda>" qual params (.expr body) scope env dV .none none pos firstLine) Q E s := by
  obtain ⟨bm, ob, hbm, hne0, _, hneP, hbo, hcls, hdict, hdata⟩ := hb
  unfold makeTail
  rw [hcl, hge0]
  refine wpAny_bind (wpAny_pure ?_)
  cases clos with
  | nil =>
    simp only [List.isEmpty_nil, if_true]
    refine wpAny_bind (wpAny_pure ?_)
    refine wpAny_bind (wpAny_functionCodeX hcode (C.code hP ht) (C.tab hP) hnf fun c' h' tk hx hge hlt _ hrec htb _ => ?_)
    have hg' := hg.extBut hx hgP
    refine wpAny_bind (wpAny_builtinsFor hg' hbm hne0 (hx _ _ hneP hbo) hcls hdict hdata ?_)
    refine wpAny_bind (wpAny_nsGet hg' ?_)
    exact wpAny_bind (wpAny_pure (wpAny_newObj_type (h c' .none h' tk hx hge hlt hrec htb.2) (by size_fits)))
  | cons q r =>
    simp only [List.isEmpty_cons, Bool.false_eq_true, if_false]
    refine wpAny_bind (wpAny_newTextTuple ?_)
    refine wpAny_bind (wpAny_functionCodeX hcode ((C.keeps fun b o e => Heap.get?_push_of_some _ e).code (Heap.get?_push_of_some _ hP) ht) ((C.keeps fun b o e => Heap.get?_push_of_some _ e).tab (Heap.get?_push_of_some _ hP)) hnf fun c' h' tk hx hge hlt _ hrec htb _ => ?_)
    have hg' := (hg.push _).extBut hx hgP
    have hx' : Heap.ExtBut P s.heap h' := fun b o hb' e => hx b o hb' (Heap.get?_push_of_some _ e)
    have hge' : s.heap.objs.size ≤ c' := Nat.le_trans (by rw [Heap.size_push]; omega) hge
    refine wpAny_bind (wpAny_builtinsFor hg' hbm hne0 (hx' _ _ hneP hbo) hcls hdict hdata ?_)
    refine wpAny_bind (wpAny_nsGet hg' ?_)
    exact wpAny_bind (wpAny_pure (wpAny_newObj_type (h c' _ h' tk hx' hge' hlt hrec htb.2) (by size_fits)))
theorem lw_makeTailHit {cv : Value} (hcl : closureFor scope env = pure clos) (hge0 : env.globals = mainGlobals) (hg : s.heap.Ns mainGlobals mg) (hcode : env.code = .ref c) (C : CodeHd s.heap c P) (hP : s.heap.get? P = some (tabObj ps)) (ht : TriplesOk ps.toList)
    (hf : codeAmong pos ps.toList = some cv) (hb : s.heap.BuiltinsAt mg P)
    (h : ∀ (ctv : Value) (h' : Heap) (tk : Tok), (∀ b o, s.heap.get? b = some o → h'.get? b = some o) → s.heap.objs.size ≤ h'.objs.size →
      Q (.ref h'.objs.size) { s with heap := h'.push (lw_obj qual params body scope clos ((mg "__name__").getD .none) cv ctv dV), toks := tk }) :
    wpAny M A (makeTail "<lambda>" qual params (.expr body) scope env dV .none none pos firstLine) Q E s := by
  obtain ⟨bm, ob, hbm, hne0, _, hneP, hbo, hcls, hdict, hdata⟩ := hb
  unfold makeTail
  rw [hcl, hge0]
  refine wpAny_bind (wpAny_pure ?_)
  cases clos with
  | nil =>
    simp only [List.isEmpty_nil, if_true]
    refine wpAny_bind (wpAny_pure ?_)
    refine wpAny_bind (wpAny_functionCode_hit hcode (C.code hP ht) hf ?_)
    refine wpAny_bind (wpAny_builtinsFor hg hbm hne0 hbo hcls hdict hdata ?_)
    refine wpAny_bind (wpAny_nsGet hg ?_)
    exact wpAny_bind (wpAny_pure (wpAny_newObj_type (h .none s.heap s.toks (fun _ _ e => e) (Nat.le_refl _)) (by size_fits)))
  | cons q r =>
    simp only [List.isEmpty_cons, Bool.false_eq_true, if_false]
    refine wpAny_bind (wpAny_newTextTuple ?_)
    refine wpAny_bind (wpAny_functionCode_hit hcode ((C.keeps fun b o e => Heap.get?_push_of_some _ e).code (Heap.get?_push_of_some _ hP) ht) hf ?_)
    refine wpAny_bind (wpAny_builtinsFor (hg.push _) hbm hne0 (Heap.get?_push_of_some _ hbo) hcls hdict hdata ?_)
    refine wpAny_bind (wpAny_nsGet (hg.push _) ?_)
    have hsz : ∀ oT : Obj, s.heap.objs.size ≤ (s.heap.push oT).objs.size := fun oT => by rw [Heap.size_push]; omega
    exact wpAny_bind (wpAny_pure (wpAny_newObj_type (h _ _ s.toks (fun b o e => Heap.get?_push_of_some _ e) (hsz _)) (by size_fits)))
theorem lw_makeFunction0 (h : wpAny M A (makeTail "<lambda>" qual params (.expr body) scope env .none .none none pos firstLine) Q E s) : wpAny M A (makeFunction "<lambda>" qual params (.expr body) scope env [] [] [] pos firstLine) Q E s := by
  rw [makeFunction_eq]
  simp only [List.zip_nil_right, List.filterMap_nil, List.isEmpty_nil, if_true, pure_bind]
  exact h
theorem lw_makeFunction1 {v : Value} (h : wpAny M A (makeTail "<lambda>" qual params (.expr body) scope env (.ref s.heap.objs.size) .none none pos firstLine) Q E { s with heap := s.heap.push { cls := .type "tuple", data := .seq [v].toArray } }) :
    wpAny M A (makeFunction "<lambda>" qual params (.expr body) scope env [v] [] [] pos firstLine) Q E s := by
  rw [makeFunction_eq]
  simp only [List.zip_nil_right, List.filterMap_nil, List.isEmpty_nil, List.isEmpty_cons, Bool.false_eq_true, if_false, if_true, pure_bind]
  exact wpAny_bind (wpAny_newTextTuple h)
end
end PySem.W
namespace L2.Lw
open PySem PySem.Spec PyProof.Rows LamX
section
variable {X : Cx} {pins : List (Addr × Obj)} {σ : L2.St} {H : Hp} {s : Shared}
/-- a lambda is made, its defaults dV: its code object is new, or found in the table -/
theorem lam_tail {T : List (Addr × Str)} {c P : Addr} {params : Arguments} {body : Expr} {scope : Scope} {pos : Pos} {fl : Nat} {dV : Value} {E : Value → Shared → Prop} {Q : Value → Shared → Prop} (I : Inv X pins σ H s) (TB : TabB X.base X.mg c P) (hcode : X.env.code = .ref c)
    (hm : (P, X.env.qual ++ "<lambda>") ∈ T) (hu : ∀ p ∈ T, p.1 = P → p.2 = X.env.qual ++ "<lambda>") (hT : Tabs T H) (hfree : ∀ y ∈ scope.names, y.2 = .free → ∃ c, X.env.cells.lookup y.1 = some c)
    (h : ∀ (f c' : Addr) (pm ctv : Value) (H1 : Hp) (s' : Shared), Inv X pins σ H1 s' → ExtN H H1 → Tabs T H1 →
      s'.heap.get? f = some (PySem.W.lw_obj (X.env.qual ++ "<lambda>") params body scope (cloFrom X.env.cells scope.names []) pm (.ref c') ctv dV) → H1 f = none → f ∉ frs X.stack → H1 c' = some (CodeO c' (X.env.qual ++ "<lambda>")) → Q (.ref f) s') :
    wpAny (model X.prog X.w) X.A (makeTail "<lambda>" (X.env.qual ++ "<lambda>") params (.expr body) scope X.env dV .none none pos fl) Q E s := by
  obtain ⟨ps, hP, ht, ha⟩ := hT _ hm
  have bP : s.heap.BuiltinsAt X.mg P := TB.bm.keeps I.bk
  have hP' : s.heap.get? P = some { cls := .none, data := .fields ps } := I.hok P _ hP
  have nofr : ∀ f, s.heap.objs.size ≤ f → f ∉ frs X.stack := fun f hf z => by
    rcases List.mem_cons.mp (I.stkSub _ z) with e | e
    · have h1 := I.lt
      rw [← e] at h1
      exact Nat.lt_irrefl _ (Nat.lt_of_lt_of_le h1 hf)
    · exact I.nofs hf e
  cases hc : codeAmong pos ps.toList with
  | none =>
    refine PySem.W.lw_makeTail (mg := X.mg) (c := c) (P := P) (ps := ps) (closure_ok hfree) I.ok.glob (I.mod.glob.keeps I.bk) hcode (TB.code.keeps I.bk) hP' ht hc TB.gP bP fun c' ctv h' tk hx hge hlt hrec htb => ?_
    obtain ⟨c2, oc, vs, t, e2, hoc, hd, hv⟩ := hrec
    cases e2
    have hsz : s.heap.objs.size ≤ h'.objs.size := Nat.le_trans hge (Nat.le_of_lt hlt)
    have nC : H c' = none := I.hok.fresh hge
    have I1 := inv_table (t' := tk) (more := #[rawInt pos.line, rawInt pos.col, .ref c']) (h' := h'.push (PySem.W.lw_obj (X.env.qual ++ "<lambda>") params body scope (cloFrom X.env.cells scope.names []) ((X.mg "__name__").getD .none) (.ref c') ctv dV)) I hP
      (fun b o hb e => Heap.get?_push_of_some _ (hx b o hb e)) (Heap.get?_push_of_some _ htb) hge ⟨oc, vs, t, Heap.get?_push_of_some _ hoc, hd, hv⟩
    have hE : ExtN H (upd (upd H P (.tbl (ps ++ #[rawInt pos.line, rawInt pos.col, .ref c']))) c' (CodeO c' (X.env.qual ++ "<lambda>"))) := fun b o e n => by
      rw [upd_ne (ne_of_none e nC), upd_ne (fun z => n ps (Option.some.inj (e.symm.trans (by rw [z]; exact hP))))]
      exact e
    have eL : (ps ++ #[rawInt pos.line, rawInt pos.col, .ref c']).toList = ps.toList ++ [rawInt pos.line, rawInt pos.col, .ref c'] := by simp
    refine h h'.objs.size c' ((X.mg "__name__").getD .none) ctv _ _ I1 hE (fun p hp => ?_) (Heap.get?_push_size _ rfl) ?_ (nofr _ hsz) upd_same
    · by_cases hb : p.1 = P
      · rw [hu p hp hb, hb]
        refine ⟨_, by rw [upd_ne (ne_of_none hP nC), upd_same], by rw [eL]; exact PySem.TriplesOk_snoc _ _ _ _ ht, fun p' cv hcv => ?_⟩
        rw [eL] at hcv
        rcases among_app _ ht hcv with z | z
        · obtain ⟨c0, e1, e2⟩ := ha p' cv z
          exact ⟨c0, e1, hE _ _ e2 codeO_ne⟩
        · exact ⟨c', z, upd_same⟩
      · obtain ⟨ps', a1, a2, a3⟩ := hT p hp
        refine ⟨ps', by rw [upd_ne (ne_of_none a1 nC), upd_ne hb]; exact a1, a2, fun p' cv hcv => ?_⟩
        obtain ⟨c0, e1, e2⟩ := a3 p' cv hcv
        exact ⟨c0, e1, hE _ _ e2 codeO_ne⟩
    · have n1 : h'.objs.size ≠ c' := Nat.ne_of_gt hlt
      have n2 : h'.objs.size ≠ P := Nat.ne_of_gt (Nat.lt_of_lt_of_le (Heap.lt_size hP') hsz)
      rw [upd_ne n1, upd_ne n2]
      exact I.hok.fresh hsz
  | some cv =>
    obtain ⟨c', e, hco⟩ := ha pos cv hc
    subst e
    refine PySem.W.lw_makeTailHit (mg := X.mg) (c := c) (P := P) (ps := ps) (closure_ok hfree) I.ok.glob (I.mod.glob.keeps I.bk) hcode (TB.code.keeps I.bk) hP' ht hc bP fun ctv h' tk hx hsz => ?_
    have I1 : Inv X pins σ H { s with heap := h'.push (PySem.W.lw_obj (X.env.qual ++ "<lambda>") params body scope (cloFrom X.env.cells scope.names []) ((X.mg "__name__").getD .none) (.ref c') ctv dV), toks := tk } := I.kept fun b o e => Heap.get?_push_of_some _ (hx b o e)
    exact h h'.objs.size c' ((X.mg "__name__").getD .none) ctv H _ I1 (ExtN.refl H) hT (Heap.get?_push_size _ rfl) (I.hok.fresh hsz) (nofr _ hsz) hco
end
/-! ### the lambda's names: captured ones, globals, and names of its own that the maker has not -/
structure LamL (N : List Str) (sc scope : Scope) : Prop where
  kind : scope.kind = .function
  co : scope.isCoroutine = false
  gen : scope.isGenerator = false
  own : ∀ y ∈ scope.names, y.2 = .local → y.1 ∉ N
  noc : ∀ y ∈ scope.names, y.2 ≠ .cell
  free : ∀ y ∈ scope.names, y.2 = .free → sc.names.lookup y.1 = some .cell ∨ sc.names.lookup y.1 = some .free
def lamLB (N : List Str) (sc scope : Scope) : Bool :=
  decide (scope.kind = .function) && !scope.isCoroutine && !scope.isGenerator && scope.names.all fun y => (!decide (y.2 = .local) || !decide (y.1 ∈ N)) && !decide (y.2 = .cell) && (!decide (y.2 = .free) || decide (sc.names.lookup y.1 = some .cell) || decide (sc.names.lookup y.1 = some .free))
theorem lamL_by {N : List Str} {sc scope : Scope} (h : lamLB N sc scope = true) : LamL N sc scope := by
  unfold lamLB at h
  simp only [Bool.and_eq_true, Bool.or_eq_true, Bool.not_eq_true', decide_eq_true_eq, decide_eq_false_iff_not, List.all_eq_true] at h
  obtain ⟨⟨⟨h1, h2⟩, h3⟩, h4⟩ := h
  refine ⟨h1, h2, h3, fun y hy e => ?_, fun y hy => (h4 y hy).1.2, fun y hy e => ?_⟩
  · rcases (h4 y hy).1.1 with z | z
    · exact absurd e z
    · exact z
  · rcases (h4 y hy).2 with (z | z) | z
    · exact absurd e z
    · exact .inl z
    · exact .inr z
theorem LamL.has {X : Cx} {scope : Scope} (L : LamL X.N X.env.scope scope) (ok : X.Ok) : ∀ y ∈ scope.names, y.2 = .free → ∃ c, X.env.cells.lookup y.1 = some c := fun y hy e => by
  rcases L.free y hy e with k | k
  · exact ok.has _ (.inl k)
  · exact ok.has _ (.inr k)
/-- the context of the lambda's body, its wish by L2N.CX -/
def lamCxN (X : Cx) (A : Around) (outer : List Env) (s : Shared) (H : Hp) (E : XK) (scope : Scope) (f c' : Addr) : Cx :=
  { lamCx X A outer s H E scope f c' with
    xe := fun e s' => wpAny (model X.prog X.w) (A.deeper (lamEnv X scope s.heap.objs.size f c')) (leaving (lamEnv X scope s.heap.objs.size f c') e) (fun _ s'' => L2N.CX X.prog X.w outer H s E e s'') (fun e' s'' => L2N.CX X.prog X.w outer H s E e' s'') s' }
section
variable {X : Cx} {pins : List (Addr × Obj)} {σ : L2.St} {H HZ : Hp} {s s1 : Shared}
theorem lam_startN {A : Around} {outer : List Env} {E : XK} {scope : Scope} {f c' : Addr} {h₁ : Heap} {tk : Nat} {m : Str → Option Value} (I : Inv X pins σ H s) (L : LamL X.N X.env.scope scope) (e0 : Env0 X.prog X.w X.K X.mg X.base A outer s1 HZ) (hd : A.handled = none)
    (un : Un (frs X.stack) [] H HZ s.heap s1.heap) (hns : h₁.Ns s1.heap.objs.size m) (kp : ∀ b o, s1.heap.get? b = some o → h₁.get? b = some o) :
    Inv (lamCxN X A outer s1 HZ E scope f c') [] σ HZ { s1 with heap := h₁, toks := tk } := by
  have hfree := L.has I.ok
  have cm : ∀ {y c}, (cloFrom X.env.cells scope.names []).lookup y = some c → X.env.cells.lookup y = some c := fun {y c} e => by
    rcases cloFrom_mem (PySem.mem_of_lookup e) with hm | ⟨h1, h2⟩
    · cases hm
    · obtain ⟨c1, hc⟩ := hfree _ h1 rfl
      have hc : X.env.cells.lookup y = some c1 := hc
      have e2 : c = c1 := by
        rw [h2, hc] <;> rfl
      rw [e2]
      exact hc
  have look : ∀ {y}, scope.names.lookup y = some .free → ∃ c, (cloFrom X.env.cells scope.names []).lookup y = some c := fun {y} hl => by
    have hy : (y, NameKind.free) ∈ scope.names := PySem.mem_of_lookup hl
    exact mem_lookup (cloFrom_has (cells := X.env.cells) (acc := []) hy)
  have cellK : ∀ {c : Addr} {v : Option Value}, H c = none → s.heap.IsCell c v → h₁.IsCell c v := fun {c v} n ⟨o, ho, hd⟩ => by
    obtain ⟨sl, q⟩ := un.any ho n (by simp)
    exact ⟨_, kp _ _ q, hd⟩
  have noA : ∀ b : Addr, b ∉ (lamCxN X A outer s1 HZ E scope f c').ex := fun b z => absurd (show b ∈ ([] : List Addr) from z) (by simp)
  refine ⟨⟨e0.mod, L.kind, rfl, rfl, Nat.le_refl _, fun y z c e1 e2 => I.ok.inj y z c (cm e1) (cm e2), fun y hy => ?_, fun y c z _ => ?_, fun _ => hd, Around.frames_deeper e0.frames, .inr ⟨rfl, rfl⟩, fun b z => absurd z (noA b), e0.bs, e0.bsz, fun b _ _ => noA b,
      fun b z => absurd z (noA b), e0.funs, e0.frf⟩,
    rfl, e0.bare, Un.kept kp, ⟨_, hns, fun i y v e1 e2 e3 => ?_⟩, fun y c e => ?_, e0.hok.fresh (Nat.le_refl _), fun y c e => ?_, fun q hq => absurd (show q ∈ ([] : List (Addr × Obj)) ++ [] from hq) (by simp), e0.hok.kept kp, I.len⟩
  · have hy : scope.names.lookup y = some .cell ∨ scope.names.lookup y = some .free := hy
    rcases hy with hy | hy
    · exact absurd rfl (L.noc _ (PySem.mem_of_lookup hy))
    · exact look hy
  · have z : false = true := z
    cases z
  · have e3 : Vis scope y := e3
    rcases e3 with k | k | k
    · exact absurd (List.mem_of_getElem? e1) (L.own _ (PySem.mem_of_lookup k) rfl)
    · exact absurd rfl (L.noc _ (PySem.mem_of_lookup k))
    · obtain ⟨m, hn, hl⟩ := I.loc
      have hvis : Vis X.env.scope y := (L.free _ (PySem.mem_of_lookup k) rfl).elim (fun k => .inr (.inl k)) (fun k => .inr (.inr k))
      obtain ⟨w', r, q⟩ := hl i y v e1 e2 hvis
      obtain ⟨c2, h2⟩ := look k
      refine ⟨w', r, .inr ⟨.inr k, c2, h2, ?_⟩⟩
      have c1 := cm h2
      rcases q with ⟨k', _⟩ | ⟨_, c3, e', z⟩
      · have k' : X.env.scope.names.lookup y = some .local := k'
        rcases L.free _ (PySem.mem_of_lookup k) rfl with k2 | k2 <;> rw [show X.env.scope.names.lookup y = _ from k2] at k' <;> cases k'
      · rw [c1] at e'
        cases e'
        exact cellK (I.freeC y _ c1) z
  · obtain ⟨w', z⟩ := I.cell y c (cm e)
    exact ⟨w', cellK (I.freeC y c (cm e)) z⟩
  · obtain ⟨v, o, ho, hd⟩ := I.cell y c (cm e)
    exact un.free c o ho (I.freeC y c (cm e)) (by simp)
/-- x(), in _law_told: Z is its context, entered at s. Pf: what the call leans on -/
theorem pe_actN {g f c' : Addr} {cdg pm ctv dV : Value} {params : Arguments} {body : Expr} {scope : Scope} {k : Nat} {pn : List (Addr × Obj)} {xe : Value → Shared → Prop} {W : WX} {tb : XK → TE} {p1 p2 : Pos} {Pf : Hp → Prop}
    (I : Inv X pins σ H s) (L : LamL X.N X.env.scope scope) (hf : s.heap.get? f = some (PySem.W.lw_obj (X.env.qual ++ "<lambda>") params body scope (cloFrom X.env.cells scope.names []) pm (.ref c') ctv dV)) (hfn : H f = none) (hfr : f ∉ frs X.stack)
    (hbind : ∀ (A : Around) (E : Value → Shared → Prop) (H1 : Hp) (s1 : Shared), HOk X.prog X.w H1 s1.heap → Pf H1 → ∃ binds : List (Str × Value), (∀ y ∈ binds, scope.names.lookup y.1 = some .local) ∧
      ∀ Q : List (Str × Value) → Shared → Prop, Q binds s1 → wpAny (model X.prog X.w) A (bindArgs (PySem.W.lw_fn (X.env.qual ++ "<lambda>") params body scope (cloFrom X.env.cells scope.names []) pm (.ref c') ctv dV) ⟨[], []⟩) Q E s1)
    (tk : L2N.Takes ((XT X.prog X.w X.K X.mg X.base g cdg X.A X.stack s H E0).tr pn xe) W) (hr : Room (k + 1) (X.A.deeper (envOfC "_law_told" (defScope sTold) s.heap.objs.size g cdg)))
    (hbody : ∀ (A : Around) (outer : List Env) (s : Shared) (H : Hp) (E : XK), Room k (A.deeper (lamEnv X scope s.heap.objs.size f c')) → PE (lamCxN X A outer s H E scope f c') body (tb E)) :
    PE ((XT X.prog X.w X.K X.mg X.base g cdg X.A X.stack s H E0).tr pn xe) (.Call (.Name "_law_call" p1) [] [] p2)
      (fun σZ HZ Q => σZ[0]? = some (some (.ref f)) ∧ (HZ c' = some (CodeO c' (X.env.qual ++ "<lambda>")) ∧ Pf HZ) ∧ tb (WE W σZ) σ HZ Q) := by
  refine ⟨fun pinsZ sZ σZ HZ Q IZ h => ?_⟩
  obtain ⟨hs, ⟨hc, hp⟩, ht⟩ := h
  refine wpAny_Call_Name_kw (thn ((pe_var (X := (XT X.prog X.w X.K X.mg X.base g cdg X.A X.stack s H E0).tr pn xe) (pos := p1) (i := 0) (x := "_law_call") rfl (.inl rfl)).run pinsZ sZ σZ HZ (fun v H1 => v = .ref f ∧ H1 = HZ) IZ ⟨.ref f, hs, rfl, rfl⟩) fun u s1 ⟨v, H1, I1, r1, q1⟩ => ?_)
  obtain ⟨ev, eH⟩ := q1
  subst ev
  rw [eH] at I1
  obtain rfl : u = Value.ref f := r1
  have of1 : s1.heap.get? f = some (PySem.W.lw_obj (X.env.qual ++ "<lambda>") params body scope (cloFrom X.env.cells scope.names []) pm (.ref c') ctv dV) := I1.base.keep f _ hf hfn hfr (fun z => nomatch (show f ∈ ([] : List Addr) from z))
  refine PySem.W.callWith_F0 ⟨_, _, _, _, of1⟩ ?_
  have un : Un (frs X.stack) [] H HZ s.heap s1.heap := I1.base
  obtain ⟨⟨oc, vs, t, hoc, hdc, hvc⟩, _, _⟩ := I1.hok c' _ hc
  have rc : codeAny (model X.prog X.w) (X.A.deeper (envOfC "_law_told" (defScope sTold) s.heap.objs.size g cdg)) (.call (.ref f) ⟨[], []⟩) (CR (L2N.CX X.prog X.w) (envOfC "_law_told" (defScope sTold) s.heap.objs.size g cdg :: X.stack) X.prog X.w HZ s1 Q (WE W σZ)) s1 := by
    refine PySem.W.kla_callFunE hr.depth of1 rfl L.co L.gen rfl ⟨c', oc, vs, t, rfl, hoc, hdc, hvc⟩ ?_
    obtain ⟨binds, hl, hb⟩ := hbind _ _ HZ s1 I1.hok hp
    refine hb _ (wpAny_newFunctionEnv (fun y hy => L.noc y hy) hl (fun h₁ hns hsb => ⟨I1.nolimit.fresh _ hsb, ?_⟩) L.kind)
    show codeAny _ _ (.expr body (lamEnv X scope s1.heap.objs.size f c')) _ _
    have kp : ∀ b o, s1.heap.get? b = some o → h₁.get? b = some o := fun b o e => hsb.extBut b o (Nat.ne_of_lt (Heap.lt_size e)) (Heap.get?_push_of_some _ e)
    have J : Inv (lamCxN X (X.A.deeper (envOfC "_law_told" (defScope sTold) s.heap.objs.size g cdg)) (envOfC "_law_told" (defScope sTold) s.heap.objs.size g cdg :: X.stack) s1 HZ (WE W σZ) scope f c') [] σ HZ { s1 with heap := h₁, toks := s1.toks + binds.length } :=
      lam_startN I L I1.env0 hr.hd un hns kp
    refine PySem.W.kla_codeExpr (wpAny_mono ((hbody _ _ s1 HZ (WE W σZ) (hr.deeper _)).run [] _ _ HZ Q J ht) (fun v s' hq => ?_) fun e s' hq => hq)
    obtain ⟨w', H', J', rv, q⟩ := hq
    exact ⟨w', H', J'.os, J'.bare, J'.base, J'.hok, rv, q⟩
  refine wpAny_call (codeAny_mono rc fun r s' hq => ?_)
  cases r with
  | error e => exact L2N.passAt tk σZ pinsZ HZ s1 e s' I1 hq
  | ok fl =>
    cases fl with
    | ret u => exact I1.after hq
    | next => exact False.elim hq
    | brk => exact False.elim hq
    | cont => exact False.elim hq
end
end L2.Lw

set_option maxHeartbeats 4000000
/-! _law_told(lambda: ..). -/
namespace L2.Lw
open PySem PySem.Spec PyProof.Rows LamX
/-! ### what is wanted of the call -/
abbrev DT (Q : VK) : Ends := { nx := fun σ H' => tRet (tLst (tCons (tVar 1) tNil)) { nx := fun _ H' => Q .non H', rt := Q } σ H', rt := Q }
abbrev lT (K : PySem.W.Frag) : List (Value × (Addr → Value → Option Addr → TS)) := [(.ref (aDraw K), fun a cls d => tSuiteD K cls d a), (.ref (aShort K), fun a cls d => tSuiteX K cls d a)]
def ToldE (K : PySem.W.Frag) (Q : VK) (f : Addr) : XK := fun cls d H' => wManyA K 2 (fun _ _ _ _ => False) (DT Q) (lT K) cls d (start nT [.ref f]) H'
def ToldQ (Q : VK) (f : Addr) : VK := fun x H1 => (DT Q).nx ((start nT [.ref f]).set 1 (some x)) H1
theorem told_ret {Q : VK} {f : Addr} {x : V} {H : Hp} (h : ∀ p, H p = none → Q (.ref p) (upd H p (.lst [x]))) : ToldQ Q f x H := ⟨_, rfl, (by show 1 ≤ sizeLine; decide), h⟩
theorem told_kind {K : PySem.W.Frag} {Q : VK} {f C dd : Addr} {kind : Str} {v : V} {dt : PyData} {H : Hp} (hk : Kind K C kind) (hd : H dd = some (.xd [("given", v)])) (hv : Dp K H v dt) (hs : Sh dt) (h : OutK kind dt H Q) : ToldE K Q f (.ref C) (some dd) H :=
  ⟨true, hk.exm, fun _ a _ => ⟨(C, kind), hk, f, dd, v, dt, rfl, rfl, rfl, hd, hv, hs, h⟩, fun z => Bool.noConfusion z⟩
theorem told_exh {K : PySem.W.Frag} {mg : Str → Option Value} (T : Txt K mg) {Q : VK} {f dd : Addr} {v : V} {H : Hp} (hd : H dd = some (.xd [("missing", v)])) (h : ∀ p, H p = none → Q (.ref p) (upd H p (.tup [.str "short", v]))) : ToldE K Q f (.ref (aExh K)) (some dd) H :=
  ⟨false, T.mX, fun z => Bool.noConfusion z, fun _ => ⟨true, T.mXS, fun _ a _ => ⟨f, dd, v, rfl, rfl, rfl, hd, h⟩, fun z => Bool.noConfusion z⟩⟩
/-- the same for Err -/
theorem err_kind {K : PySem.W.Frag} {Q : VK} {f C : Addr} {kind : Str} {v : V} {dt : PyData} {H : Hp} (hk : Kind K C kind) (hv : Dp K H v dt) (hs : Sh dt) (h : OutK kind dt H Q) : Err C "given" v H (ToldE K Q f) := fun H' d S hd =>
  told_kind hk upd_same (dp_same (S.trans (same_new hd)) dt v hv) hs fun H2 p S2 e => h H2 p ((S.trans (same_new hd)).trans S2) e
theorem err_exh {K : PySem.W.Frag} {mg : Str → Option Value} (T : Txt K mg) {Q : VK} {f : Addr} {v : V} {H : Hp} (h : ∀ H2 p, Same H H2 → H2 p = some (.tup [.str "short", v]) → Q (.ref p) H2) : Err (aExh K) "missing" v H (ToldE K Q f) := fun H' d S hd =>
  told_exh T upd_same fun p hp => h _ p ((S.trans (same_new hd)).trans (same_new hp)) upd_same
def TTold (K : PySem.W.Frag) (tl : XK → Hp → VK → Prop) (H : Hp) (Q : VK) : Prop := ∀ f, tl (ToldE K Q f) H (ToldQ Q f)

/-! ### an expression that gives a lambda -/
abbrev TLm := St → Hp → ((XK → Hp → VK → Prop) → Hp → Prop) → Prop
def Acts (X : Cx) (s : Shared) (H : Hp) (f : Addr) (Pf : Hp → Prop) (tl : XK → Hp → VK → Prop) (k : Nat) : Prop :=
  ∀ (g : Addr) (cdg : Value) (W : WX) (pn : List (Addr × Obj)) (xe : Value → Shared → Prop) (p1 p2 : Pos), Room (k + 1) (X.A.deeper (envOfC "_law_told" (defScope sTold) s.heap.objs.size g cdg)) →
    L2N.Takes ((XT X.prog X.w X.K X.mg X.base g cdg X.A X.stack s H E0).tr pn xe) W →
    PE ((XT X.prog X.w X.K X.mg X.base g cdg X.A X.stack s H E0).tr pn xe) (.Call (.Name "_law_call" p1) [] [] p2) (fun σZ HZ Q => σZ[0]? = some (some (.ref f)) ∧ Pf HZ ∧ tl (WE W σZ) HZ Q)
structure PLam (X : Cx) (k : Nat) (e : Expr) (tm : TLm) : Prop where
  run : ∀ (pins : List (Addr × Obj)) (s : Shared) (σ : St) (H : Hp) (Rr : (XK → Hp → VK → Prop) → Hp → Prop) (Q : Value → Shared → Prop), Inv X pins σ H s → tm σ H Rr →
    (∀ f s' H1 tl Pf, Inv X pins σ H1 s' → Pf H1 → Acts X s' H1 f Pf tl k → Rr tl H1 → Q (.ref f) s') → wpAny (model X.prog X.w) X.A (eval e X.env) Q X.xe s
def tLm (T : List (Addr × Str)) (t : XK → TE) : TLm := fun σ H Rr => Tabs T H ∧ ∀ H1, ExtN H H1 → Tabs T H1 → Rr (fun E HZ Q => t E σ HZ Q) H1
section
variable {X : Cx} {T : List (Addr × Str)} {c P : Addr} {params : Arguments} {body : Expr} {scope : Scope} {t : XK → TE} {k : Nat} {pos : Pos}
theorem plam_0 (TB : TabB X.base X.mg c P) (hcode : X.env.code = .ref c) (hmT : (P, X.env.qual ++ "<lambda>") ∈ T) (hu : ∀ p ∈ T, p.1 = P → p.2 = X.env.qual ++ "<lambda>") (L : LamL X.N X.env.scope scope) (hdef : defaultsOf params X.env = ([], []))
    (hbind : ∀ (q : Str) (cl : List (Str × Addr)) (pm cv ctv : Value), bindArgs (PySem.W.lw_fn q params body scope cl pm cv ctv .none) ⟨[], []⟩ = pure [])
    (hbody : ∀ (A : Around) (outer : List Env) (s : Shared) (H : Hp) (E : XK) (f c' : Addr), Room k (A.deeper (lamEnv X scope s.heap.objs.size f c')) → PE (lamCxN X A outer s H E scope f c') body (t E)) : PLam X k (.Lambda params body scope pos) (tLm T t) := by
  refine ⟨fun pins s σ H Rr Q I h hQ => ?_⟩
  obtain ⟨hT, h⟩ := h
  refine PySem.W.kla_eval hdef (PySem.W.lw_makeFunction0 (lam_tail I TB hcode hmT hu hT (L.has I.ok) fun f c' pm ctv H1 s' I1 eN T1 hf hfn hfr hco => ?_))
  refine hQ f s' H1 (fun E HZ Q => t E σ HZ Q) (fun HZ => HZ c' = some (CodeO c' (X.env.qual ++ "<lambda>")) ∧ True) I1 ⟨hco, True.intro⟩ (fun g cdg W pn xe p1 p2 hr tk => ?_) (h H1 eN T1)
  exact pe_actN (Pf := fun _ => True) I1 L hf hfn hfr (fun A E H2 s2 _ _ => ⟨[], fun y hy => absurd hy (by simp), fun Q hq => by rw [hbind]; exact wpAny_pure hq⟩) tk hr (fun A outer s H E hr2 => hbody A outer s H E f c' hr2)
/-- with one default, a written 0 -/
theorem plam_1 {n : Str} {j : Nat} {dp : Pos} (TB : TabB X.base X.mg c P) (hcode : X.env.code = .ref c) (hmT : (P, X.env.qual ++ "<lambda>") ∈ T) (hu : ∀ p ∈ T, p.1 = P → p.2 = X.env.qual ++ "<lambda>") (L : LamL X.N X.env.scope scope)
    (hdef : defaultsOf params X.env = ([eval (.Constant (.int 0) j dp) X.env], []))
    (hbind : ∀ (q : Str) (cl : List (Str × Addr)) (pm cv ctv : Value) (D : Addr), ∃ k, bindArgs (PySem.W.lw_fn q params body scope cl pm cv ctv (.ref D)) ⟨[], []⟩ = seqItems? (.ref D) >>= k ∧ ∀ v, k (some #[v]) = pure [(n, v)])
    (hn : scope.names.lookup n = some .local)
    (hbody : ∀ (A : Around) (outer : List Env) (s : Shared) (H : Hp) (E : XK) (f c' : Addr), Room k (A.deeper (lamEnv X scope s.heap.objs.size f c')) → PE (lamCxN X A outer s H E scope f c') body (t E)) : PLam X k (.Lambda params body scope pos) (tLm T t) := by
  refine ⟨fun pins s σ H Rr Q I h hQ => ?_⟩
  obtain ⟨hT, h⟩ := h
  rw [arm_eval_Lambda, hdef]
  show wpAny _ _ (do let dv ← evalAll [eval (.Constant (.int 0) j dp) X.env]; let kdv ← holding dv (evalAllOpt []); makeFunction "<lambda>" (X.env.qual ++ "<lambda>") params (.expr body) scope X.env dv kdv [] pos pos.line) _ _ _
  refine wpAny_bind (wpAny_evalAll_cons (thn ((pe_int (X := X) (i := 0) (j := j) (pos := dp)).run pins s σ H (fun v H1 => v = .int 0 ∧ H1 = H) I ⟨rfl, rfl⟩) fun u s1 ⟨v, H1, I1, r1, q1⟩ => wpAny_evalAll_nil ?_))
  obtain ⟨ev, eH⟩ := q1
  subst ev
  rw [eH] at I1
  refine wpAny_bind (wpAny_holding (wpAny_pure (PySem.W.lw_makeFunction1 ?_)))
  have hfD : H s1.heap.objs.size = none := I1.hok.fresh (Nat.le_refl _)
  have I2 : Inv X pins σ (upd H s1.heap.objs.size (.tup [.int 0])) { s1 with heap := s1.heap.push { cls := .type "tuple", data := .seq [u].toArray } } :=
    I1.laid (t' := s1.toks) (fun b o e => Heap.get?_push_of_some _ e) (Nat.le_refl _) ⟨by show 1 ≤ sizeLine; decide, [u], .cons r1 .nil, ⟨_, Heap.get?_push_size _ rfl, rfl, _, rfl⟩⟩
  have E1 : ExtN H (upd H s1.heap.objs.size (.tup [.int 0])) := fun b o e _ => by rw [upd_ne (ne_of_none e hfD)]; exact e
  have T1 : Tabs T (upd H s1.heap.objs.size (.tup [.int 0])) := hT.ext fun b o e => by rw [upd_ne (ne_of_none e hfD)]; exact e
  refine lam_tail I2 TB hcode hmT hu T1 (L.has I.ok) fun f c' pm ctv H2 s' I3 eN T2 hf hfn hfr hco => ?_
  have eD : H2 s1.heap.objs.size = some (.tup [.int 0]) := eN _ _ upd_same (fun ps z => by cases z)
  refine hQ f s' H2 (fun E HZ Q => t E σ HZ Q) (fun HZ => HZ c' = some (CodeO c' (X.env.qual ++ "<lambda>")) ∧ HZ s1.heap.objs.size = some (.tup [.int 0])) I3 ⟨hco, eD⟩ (fun g cdg W pn xe p1 p2 hr tk => ?_) (h H2 (E1.trans eN) T2)
  refine pe_actN (Pf := fun HZ => HZ s1.heap.objs.size = some (.tup [.int 0])) I3 L hf hfn hfr (fun A E H3 s3 hok e3 => ?_) tk hr (fun A outer s H E hr2 => hbody A outer s H E f c' hr2)
  obtain ⟨_, its, rv, o, ho, hc, m, hd⟩ := hok _ _ e3
  cases rv with
  | cons rv rn =>
    cases rn
    rename_i v0
    obtain ⟨kk, e4, e5⟩ := hbind (X.env.qual ++ "<lambda>") (cloFrom X.env.cells scope.names []) pm (.ref c') ctv s1.heap.objs.size
    refine ⟨[(n, v0)], fun y hy => ?_, fun Q hq => ?_⟩
    · have ey : y = (n, v0) := by simpa using hy
      rw [ey]
      exact hn
    · rw [e4]
      refine wpAny_bind (wpAny_seqItems ho hd ?_)
      show wpAny _ _ (kk (some #[v0])) _ _ _
      rw [e5]
      exact wpAny_pure hq
theorem plam_if {test a b : Expr} {tt : TT} {ta tb : TLm} (ht : PT X test tt) (ha : PLam X k a ta) (hb : PLam X k b tb) : PLam X k (.IfExp test a b pos) (fun σ H Rr => tt σ H fun c H1 => if c = true then ta σ H1 Rr else tb σ H1 Rr) := by
  refine ⟨fun pins s σ H Rr Q I h hQ => ?_⟩
  refine wpAny_IfExp (thn (ht.run pins s σ H _ I h) fun d s1 ⟨H1, I1, q1⟩ => ?_)
  cases d with
  | true => exact ha.run pins s1 σ H1 Rr Q I1 q1 hQ
  | false => exact hb.run pins s1 σ H1 Rr Q I1 q1 hQ
end
section
variable {X : Cx} {k : Nat} {e : Expr} {tm : TLm} {g : Addr} {fdg : FuncData} {p pos : Pos}
theorem pe_told (F : FnF X.K "_law_told" "_law_told" sTold g fdg) (T : Txt X.K X.mg) (egg : g = He.ga X.K "_law_told") (hgl : Gl X "_law_told") (hgu : X.A.guards = some []) (hr : Room (k + 2) X.A) (he : PLam X k e tm) (hs : starEach [e] X.env = (false, eval e X.env) :: starEach [] X.env := by rfl) :
    PE X (.Call (.Name "_law_told" p) [e] [] pos) (fun σ H Q => tm σ H fun tl H1 => TTold X.K tl H1 Q) := by
  refine ⟨fun pins s σ H Q I h => ?_⟩
  have hm : X.mg "_law_told" = some (.ref g) := by
    rw [egg]
    exact T.g "_law_told" (by decide +kernel)
  have bT : Binds X.K fdg ["_law_call"] [] := F.bindsN fun _ _ _ _ _ _ us hl => match us, hl with | [_], _ => rfl
  obtain ⟨oc, od, dV, kV, doc, pm, an, cdv, ct, osl, rfl, lk, hcd, hD, hK⟩ := F.ex
  refine wpAny_Call_Name_kw (ld_glob I hgl hm ?_ (by decide))
  refine PySem.W.callWith_K (h₀ := X.base) I.ok.mod.kin F.kp ?_ hs (by rfl)
  rw [hs]
  show wpAny _ _ (spliced ((false, eval e X.env) :: backTo pos (starEach [] X.env))) _ _ s
  refine Calls.spliced_cons (he.run pins s σ H (fun tl H1 => TTold X.K tl H1 Q) _ I h fun f s' H1 tl Pf I1 hpf act hR => ?_)
  refine Calls.spliced_nil ⟨I1.kIn, ?_⟩
  have rc : codeAny (model X.prog X.w) X.A (.call (.ref g) ⟨[.ref f], []⟩) (CR CX0 X.stack X.prog X.w H1 s' Q E0) s' := by
    refine run_ofS (N := nT) (ps := ["_law_call"]) (us := [.ref f]) (vs := [.ref f]) lk hcd scTd hr I1.env0 (by have z := bT s' [.ref f] I1.kIn rfl; exact z) (.cons rfl .nil) rfl fun hr' => ?_
    have hu : X.A.units + 200 < cLine := by have := hr.un; omega
    refine ⟨_, PSs.nox (pss_cons (ps_try_manyA (X := XT X.prog X.w X.K X.mg X.base g cdv X.A X.stack s' H1 E0) (i := 2) (n := "e") (Wout := fun _ _ _ _ => False)
        (tb := fun W => tAsg (fun σZ HZ Q => σZ[0]? = some (some (.ref f)) ∧ Pf HZ ∧ tl (WE W σZ) HZ Q) (gName 1)) (l := lT X.K) rfl rfl scTd.nd rfl rfl takes0N
        (fun W pn xe tk _ => pss_one (ps_set (i := 1) scTd.nd rfl (Or.inl rfl) (act g cdv W pn xe _ _ hr' tk)))
        (HdsA.cons ⟨rfl, by decide, .inl (T.g "DrawError" (by decide +kernel))⟩ (fun a oe cls d pn hz hf => suiteD T hgu hu hz hf) (HdsA.cons ⟨rfl, by decide, .inl (T.g "Shortage" (by decide +kernel))⟩ (fun a oe cls d pn hz hf => suiteX T hz hf) HdsA.nil)))
      (pss_one (ps_ret (pe_lst (pa_cons (pv 1) pa_nil))))), ?_⟩
    exact ⟨rfl, hpf, hR f⟩
  refine wpAny_call (codeAny_mono rc fun r s2 hq => ?_)
  cases r with
  | error e => exact (show False from hq).elim
  | ok fl =>
    cases fl with
    | ret u => exact I1.after hq
    | next => exact False.elim hq
    | brk => exact False.elim hq
    | cont => exact False.elim hq
end
end L2.Lw

set_option maxHeartbeats 4000000
/-! _law_new_right. -/
namespace L2.Lw
open PySem PySem.Spec PyProof.Rows LamX

/-! ### what is kept but for the tables -/
theorem ext_tup {H H' : Hp} (e : ExtN H H') {a : Addr} {xs : List V} (h : H a = some (.tup xs)) : H' a = some (.tup xs) := e _ _ h fun ps z => by cases z
theorem ext_lst {H H' : Hp} (e : ExtN H H') {a : Addr} {xs : List V} (h : H a = some (.lst xs)) : H' a = some (.lst xs) := e _ _ h fun ps z => by cases z
theorem ext_ins {H H' : Hp} (e : ExtN H H') {a C dx : Addr} {fs : List (Str × V)} (h : H a = some (.ins C dx fs)) : H' a = some (.ins C dx fs) := e _ _ h fun ps z => by cases z
theorem Src.ext {K : PySem.W.Frag} {H H' : Hp} {a dx t : Addr} {ws : List Int} {p : Int} (s : Src K H a dx t ws p) (h : ExtN H H') : Src K H' a dx t ws p := ⟨ext_ins h s.ob, ext_tup h s.tw, s.ok, s.p0, s.p1⟩
theorem Same.ext {H H' : Hp} (s : Same H H') : ExtN H H' := fun b o e _ => s b o e
theorem ext_seq {K : PySem.W.Frag} {H H' : Hp} {a : Addr} {xs : List V} (e : ExtN H H') (h : SqL K H a xs) : SqL K H' a xs := by
  rcases h with (h | ⟨o, h⟩) | h
  · exact .inl (.inl (ext_lst e h))
  · exact .inl (.inr ⟨o, e _ _ h fun ps z => by cases z⟩)
  · exact .inr h
theorem ext_seqT {K : PySem.W.Frag} {H H' : Hp} {a : Addr} {xs : List V} (e : ExtN H H') (h : SqT K H a xs) : SqT K H' a xs := by
  rcases h with (h | ⟨o, h⟩) | h
  · exact .inl (.inl (ext_tup e h))
  · exact .inl (.inr ⟨o, e _ _ h fun ps z => by cases z⟩)
  · exact .inr h
mutual
theorem dp_ext {K : PySem.W.Frag} {H H' : Hp} (s : ExtN H H') : ∀ (d : PyData) (v : V), Dp K H v d → Dp K H' v d
  | .none, _, h => by
    cases h
    exact .non
  | .bool b, _, h => by
    cases h
    exact .bl b
  | .int i, _, h => by
    cases h
    exact .int i
  | .str x, _, h => by
    cases h
    exact .str x
  | .list ds, _, h => by
    cases h with
    | lst hs ha => exact .lst (ext_seq s hs) (dpAll_ext s ds _ ha)
  | .tuple ds, _, h => by
    cases h with
    | tup hs ha => exact .tup (ext_seqT s hs) (dpAll_ext s ds _ ha)
  | .dict _, _, h => by cases h
theorem dpAll_ext {K : PySem.W.Frag} {H H' : Hp} (s : ExtN H H') : ∀ (ds : List PyData) (vs : List V), DpAll K H vs ds → DpAll K H' vs ds
  | [], _, h => by
    cases h
    exact .nil
  | d :: ds, _, h => by
    cases h with
    | cons h1 h2 => exact .cons (dp_ext s d _ h1) (dpAll_ext s ds _ h2)
end

/-! ### the answers -/
abbrev ansBad (v : V) : PyData := .tuple [.str "steps", .str (dOf v).shown]
def ansD (ws : List Int) (p : Int) (v : V) (b : Bool) : PyData := match v with
  | .int k => if stB v = true then (if b = true then (if k ≤ p then .list [.tuple [dW ws, .int (p - k)]] else ansBad v) else (if p + k ≤ ws.length then .list [.tuple [dW ws, .int (p + k)]] else .tuple [.str "short", .int (p + k - ws.length)])) else ansBad v
  | _ => ansBad v
theorem ans_bad {ws : List Int} {p : Int} {v : V} {b : Bool} (h : stB v = false) : ansD ws p v b = ansBad v := by
  cases v with
  | int k =>
    show (if stB (.int k) = true then _ else _) = _
    rw [h]
    rfl
  | _ => rfl
theorem ans_back {ws : List Int} {p k : Int} (h : stB (.int k) = true) (c : k ≤ p) : ansD ws p (.int k) true = .list [.tuple [dW ws, .int (p - k)]] := by
  show (if stB (.int k) = true then (if true = true then (if k ≤ p then _ else _) else _) else _) = _
  rw [if_pos h, if_pos rfl, if_pos c]
theorem ans_backN {ws : List Int} {p k : Int} (h : stB (.int k) = true) (c : ¬ k ≤ p) : ansD ws p (.int k) true = ansBad (.int k) := by
  show (if stB (.int k) = true then (if true = true then (if k ≤ p then _ else _) else _) else _) = _
  rw [if_pos h, if_pos rfl, if_neg c]
theorem ans_on {ws : List Int} {p k : Int} (h : stB (.int k) = true) (c : p + k ≤ ws.length) : ansD ws p (.int k) false = .list [.tuple [dW ws, .int (p + k)]] := by
  show (if stB (.int k) = true then (if false = true then _ else (if p + k ≤ ws.length then _ else _)) else _) = _
  rw [if_pos h, if_neg Bool.false_ne_true, if_pos c]
theorem ans_onN {ws : List Int} {p k : Int} (h : stB (.int k) = true) (c : ¬ p + k ≤ ws.length) : ansD ws p (.int k) false = .tuple [.str "short", .int (p + k - ws.length)] := by
  show (if stB (.int k) = true then (if false = true then _ else (if p + k ≤ ws.length then _ else _)) else _) = _
  rw [if_pos h, if_neg Bool.false_ne_true, if_neg c]
theorem cl_bad {v : V} (h : StV v) : (ansBad v).canLay0 = true := by
  have e : PyData.canLay0 (ansBad v) = (PyData.strOk "steps" && (PyData.strOk (dOf v).shown && true)) := rfl
  rw [e, h.sh.2, so_of]
  rfl
theorem cl_list (ws : List Int) (i : Int) : (PyData.list [.tuple [dW ws, .int i]]).canLay0 = true := by
  have e : PyData.canLay0 (PyData.list [.tuple [dW ws, .int i]]) = (((dW ws).canLay0 && true) && true) := rfl
  rw [e, dW_cl]
  rfl
theorem cl_short (m : Int) : (PyData.tuple [.str "short", .int m]).canLay0 = true := by
  have e : PyData.canLay0 (PyData.tuple [.str "short", .int m]) = (PyData.strOk "short" && true) := rfl
  rw [e, so_of]
  rfl
theorem dp_list (ws : List Int) (i : Int) : (PyData.list [.tuple [dW ws, .int i]]).depth = 3 := by
  have e : PyData.depth (PyData.list [.tuple [dW ws, .int i]]) = max (max (dW ws).depth (max 0 0) + 1) 0 + 1 := rfl
  rw [e, dW_dp]
  rfl
theorem ans_ok {ws : List Int} {p : Int} {v : V} {b : Bool} (h : StV v) : (ansD ws p v b).canLay0 = true ∧ (ansD ws p v b).depth ≤ 3 := by
  have bad : (ansBad v).canLay0 = true ∧ (ansBad v).depth ≤ 3 := ⟨cl_bad h, by show 1 ≤ 3; decide⟩
  cases c : stB v with
  | false =>
    rw [ans_bad c]
    exact bad
  | true =>
    obtain ⟨k, rfl, _, _⟩ := stB_int c
    cases b with
    | true =>
      by_cases z : k ≤ p
      · rw [ans_back c z]
        exact ⟨cl_list _ _, Nat.le_of_eq (dp_list _ _)⟩
      · rw [ans_backN c z]
        exact bad
    | false =>
      by_cases z : p + k ≤ ws.length
      · rw [ans_on c z]
        exact ⟨cl_list _ _, Nat.le_of_eq (dp_list _ _)⟩
      · rw [ans_onN c z]
        exact ⟨cl_short _, by show 1 ≤ 3; decide⟩
theorem dp_bad {K : PySem.W.Frag} {H : Hp} {p : Addr} {v : V} (h : H p = some (.tup [.str "steps", .str (dOf v).shown])) : Dp K H (.ref p) (ansBad v) := .tup (.of h) (.cons (.str _) (.cons (.str _) .nil))
theorem dp_short {K : PySem.W.Frag} {H : Hp} {p : Addr} {m : Int} (h : H p = some (.tup [.str "short", .int m])) : Dp K H (.ref p) (.tuple [.str "short", .int m]) := .tup (.of h) (.cons (.str _) (.cons (.int _) .nil))
theorem dp_st {K : PySem.W.Frag} {H : Hp} {s t : Addr} {ws : List Int} {i : Int} (h : H s = some (.tup [.ref t, .int i])) (ht : Tw H t ws) : Dp K H (.ref s) (.tuple [dW ws, .int i]) := .tup (.of h) (.cons (dp_tw ht) (.cons (.int _) .nil))
theorem dp_one {K : PySem.W.Frag} {H : Hp} {l : Addr} {v : V} {d : PyData} (h : H l = some (.lst [v])) (hd : Dp K H v d) : Dp K H (.ref l) (.list [d]) := .lst (.of h) (.cons hd .nil)

/-! ### what the lambdas tell -/
/-- it reads so whatever stands at l -/
def Pst (K : PySem.W.Frag) (l : Addr) (r : V) (d : PyData) (H : Hp) : Prop := ∀ o, Dp K (upd H l o) r d
theorem Pst.ext {K : PySem.W.Frag} {l : Addr} {r : V} {d : PyData} {H H' : Hp} (h : Pst K l r d H) (e : ExtN H H') : Pst K l r d H' := fun o => dp_ext (fun b u eb n => by
  by_cases z : b = l
  · rw [z] at eb ⊢
    rw [upd_same] at eb ⊢
    exact eb
  · rw [upd_ne z] at eb ⊢
    exact e b u eb n) d r (h o)
theorem Pst.put {K : PySem.W.Frag} {l : Addr} {r : V} {d : PyData} {H : Hp} {o : HO} (h : Pst K l r d H) : Pst K l r d (upd H l o) := fun o2 => by rw [upd_upd]; exact h o2
theorem Pst.fresh {K : PySem.W.Frag} {l : Addr} {r : V} {d : PyData} {H : Hp} (h : Dp K H r d) (n : H l = none) : Pst K l r d H := fun o => dp_same (same_new n) d r h
theorem Pst.here {K : PySem.W.Frag} {l : Addr} {r : V} {d : PyData} {H : Hp} {o : HO} (h : Pst K l r d H) (e : H l = some o) : Dp K H r d := by
  have z := h o
  have e2 : upd H l o = H := by
    funext b
    by_cases c : b = l
    · rw [c, upd_same, e]
    · rw [upd_ne c]
  rw [e2] at z
  exact z
/-- what is wanted behind: a result that reads as the answer -/
abbrev Ans (K : PySem.W.Frag) (H : Hp) (d : PyData) (Q : VK) : Prop := ∀ H2 r, Same H H2 → Dp K H2 r d → (∀ l xs, H l = some (.lst xs) → Pst K l r d H2) → Q r H2
section
variable {K : PySem.W.Frag} {mg : Str → Option Value} {H : Hp} {a dx t : Addr} {ws : List Int} {p : Int} {v : V} {Q : VK}
theorem pst_one {H' : Hp} {l s : Addr} {q : Int} (S : Same H H') (h : ∀ x y : Unit, H' s = some (.tup [.ref t, .int q]) ∧ Tw H' t ws) (hl : H' l = none) : ∀ l' xs, H l' = some (.lst xs) → Pst K l' (.ref l) (.list [.tuple [dW ws, .int q]]) (upd H' l (.lst [.ref s])) := fun l' xs hx o => by
  obtain ⟨es, et⟩ := h () ()
  have hx' := S _ _ hx
  have n1 : l ≠ l' := (ne_of_none hx' hl).symm
  have n2 : s ≠ l' := ne_of es hx' (by intro z; cases z)
  have n3 : t ≠ l' := ne_of et hx' (by intro z; cases z)
  refine dp_one (l := l) (v := .ref s) (by rw [upd_ne n1, upd_same]) (dp_st (t := t) ?_ ?_)
  · rw [upd_ne n2, upd_ne (ne_of_none es hl)]
    exact es
  · show upd _ l' o t = _
    rw [upd_ne n3, upd_ne (ne_of_none et hl)]
    exact et
/-- the state of a new source, told -/
theorem new_state {q : Int} {f : Addr} (sr : Src K H a dx t ws p) (h0 : 0 ≤ q) (h1 : q ≤ ws.length) (hq : Ans K H (.list [.tuple [dW ws, .int q]]) Q) :
    NewS K H t q (fun x H1 => ∃ a' dx' fs', x = .ref a' ∧ H1 a' = some (.ins (aC K) dx' fs') ∧ spSt K (.ref a' :: []) H1 (ToldQ Q f) E0) := fun H' x dx' _ S e =>
  ⟨x, dx', _, rfl, e, x, dx', t, ws, q, rfl, ⟨e, S _ _ sr.tw, sr.ok, h0, h1⟩, fun s hs => told_ret fun l hl => by
    have S2 : Same H' (upd H' s (.tup [.ref t, .int q])) := same_new hs
    have S3 := same_new (o := .lst [.ref s]) hl
    exact hq _ _ ((S.trans S2).trans S3) (dp_one upd_same (dp_st (S3 _ _ upd_same) (S3 _ _ (S2 _ _ (S _ _ sr.tw))))) (pst_one (S.trans S2) (fun _ _ => ⟨upd_same, S2 _ _ (S _ _ sr.tw)⟩) hl)⟩
theorem out_bad (hq : Ans K H (ansBad v) Q) : OutK "steps" (dOf v) H Q := fun H2 q S e => hq H2 _ S (dp_bad e) fun l xs hl o => dp_bad (by rw [upd_ne (ne_of e (S _ _ hl) (by intro z; cases z))]; exact e)
theorem out_short {m : Int} (hq : Ans K H (.tuple [.str "short", .int m]) Q) : ∀ H2 q, Same H H2 → H2 q = some (.tup [.str "short", .int m]) → Q (.ref q) H2 := fun H2 q S e => hq H2 _ S (dp_short e) fun l xs hl o => dp_short (by rw [upd_ne (ne_of e (S _ _ hl) (by intro z; cases z))]; exact e)
theorem tell_back (T : Txt K mg) (sr : Src K H a dx t ws p) (sv : StV v) (hq : Ans K H (ansD ws p v true) Q) (f : Addr) :
    spBehind K [.ref a, v] H (fun x H1 => ∃ a' dx' fs', x = .ref a' ∧ H1 a' = some (.ins (aC K) dx' fs') ∧ spSt K (.ref a' :: []) H1 (ToldQ Q f) E0) (ToldE K Q f) := by
  refine ⟨a, dx, t, ws, p, v, rfl, sr, sv.scl, fun c => ?_, fun k ev c => ⟨fun le => ?_, fun nle => ?_⟩⟩
  · rw [ans_bad c] at hq
    exact err_kind (kind_S T) sv.dp sv.sh.1 (out_bad hq)
  · subst ev
    rw [ans_back c le] at hq
    obtain ⟨k', e, k0, _⟩ := stB_int c
    cases e
    exact new_state sr (by omega) (by have := sr.p1; omega) hq
  · subst ev
    rw [ans_backN c nle] at hq
    exact err_kind (kind_S T) sv.dp sv.sh.1 (out_bad hq)
theorem tell_on (T : Txt K mg) (sr : Src K H a dx t ws p) (sv : StV v) (hq : Ans K H (ansD ws p v false) Q) (f : Addr) :
    spAhead K [.ref a, v] H (fun x H1 => ∃ a' dx' fs', x = .ref a' ∧ H1 a' = some (.ins (aC K) dx' fs') ∧ spSt K (.ref a' :: []) H1 (ToldQ Q f) E0) (ToldE K Q f) := by
  refine ⟨a, dx, t, ws, p, v, rfl, sr, sv.scl, fun c => ?_, fun k ev c => ⟨fun le => ?_, fun nle => ?_⟩⟩
  · rw [ans_bad c] at hq
    exact err_kind (kind_S T) sv.dp sv.sh.1 (out_bad hq)
  · subst ev
    rw [ans_on c le] at hq
    obtain ⟨k', e, k0, _⟩ := stB_int c
    cases e
    exact new_state sr (by have := sr.p0; omega) le hq
  · subst ev
    rw [ans_onN c nle] at hq
    exact err_exh T (out_short hq)
theorem tell_after (T : Txt K mg) {s : Addr} (es : H s = some (.tup [.ref t, .int p])) (ht : Tw H t ws) (ok : OkW ws) (h0 : 0 ≤ p) (h1 : p ≤ ws.length) (sv : StV v) (hq : Ans K H (ansD ws p v false) Q) (f : Addr) :
    spSA K [.ref s, v] H (ToldQ Q f) (ToldE K Q f) := by
  refine ⟨s, t, ws, p, v, rfl, es, ht, ok, h0, h1, sv.scl, fun c => ?_, fun k ev c => ⟨fun le => ?_, fun nle => ?_⟩⟩
  · rw [ans_bad c] at hq
    exact err_kind (kind_S T) sv.dp sv.sh.1 (out_bad hq)
  · subst ev
    rw [ans_on c le] at hq
    refine fun H' s' S e => told_ret fun l hl => ?_
    have S3 := same_new (o := .lst [.ref s']) hl
    exact hq _ _ (S.trans S3) (dp_one upd_same (dp_st (S3 _ _ e) (S3 _ _ (S _ _ ht)))) (pst_one S (fun _ _ => ⟨e, S _ _ ht⟩) hl)
  · subst ev
    rw [ans_onN c nle] at hq
    exact err_exh T (out_short hq)

/-! ### what is due -/
/-- the thing at pd: what _law_moved gave -/
def Due (K : PySem.W.Frag) (H : Hp) (pd : Addr) (ws : List Int) (p : Int) (v : V) (b : Bool) : Prop :=
  (∃ i, H pd = some (.lst [.int i]) ∧ ansD ws p v b = .list [.tuple [dW ws, .int i]]) ∨ (∃ xs ds, H pd = some (.tup xs) ∧ ansD ws p v b = .tuple ds ∧ Dp K H (.ref pd) (ansD ws p v b))
theorem Due.ext {H' : Hp} {pd : Addr} {b : Bool} (d : Due K H pd ws p v b) (e : ExtN H H') : Due K H' pd ws p v b := by
  rcases d with ⟨i, h1, h2⟩ | ⟨xs, ds, h1, h2, h3⟩
  · exact .inl ⟨i, ext_lst e h1, h2⟩
  · exact .inr ⟨xs, ds, ext_tup e h1, h2, dp_ext e _ _ h3⟩
theorem moved_due {b : Bool} {E : XK} (sv : StV v) (h : ∀ H' pd, Same H H' → Due K H' pd ws p v b → Q (.ref pd) H') : spMoved [.int p, .int ws.length, v, .bl b] H Q E := by
  have bad : ansD ws p v b = ansBad v → OutS H v Q := fun e pd hp => h _ pd (same_new hp) (.inr ⟨_, _, upd_same, e, by rw [e]; exact dp_bad upd_same⟩)
  have ok : ∀ i, ansD ws p v b = .list [.tuple [dW ws, .int i]] → OutL H i Q := fun i e pd hp => h _ pd (same_new hp) (.inl ⟨i, upd_same, e⟩)
  refine ⟨p, ws.length, v, b, rfl, sv, fun c => bad (ans_bad c), fun k ev c => ⟨fun eb => ⟨fun le => ?_, fun nle => ?_⟩, fun eb => ⟨fun le => ?_, fun nle => ?_⟩⟩⟩
  · subst ev eb
    exact ok _ (ans_back c le)
  · subst ev eb
    exact bad (ans_backN c nle)
  · subst ev eb
    exact ok _ (ans_on c le)
  · subst ev eb
    exact fun pd hp => h _ pd (same_new hp) (.inr ⟨_, _, upd_same, ans_onN c nle, by rw [ans_onN c nle]; exact dp_short upd_same⟩)
end
end L2.Lw

set_option maxHeartbeats 4000000
/-! _law_new_right. -/
namespace L2.Lw
open PySem PySem.Spec PyProof.Rows LamX

/-- what is promised of all defs -/
structure Fns (P : Program) (w : World) (K : PySem.W.Frag) (mg : Str → Option Value) (base : Heap) : Prop where
  init : FnB P w K mg base CX0 5 (aM K "__init__") ["self", "script", "place"] (spInit K)
  next : FnB P w K mg base (L2N.CX P w) 4 (aM K "next_word") ["self"] (spNext K)
  words : GFnB P w K mg base 5 (aM K "words") ["self", "many"] (spWords K)
  state : FnB P w K mg base CX0 1 (aW K "property" "state") ["self"] (spSt K)
  left : FnB P w K mg base CX0 1 (aW K "property" "left") ["self"] (spLeft K)
  set : FnB P w K mg base (L2N.CX P w) 5 (aM K "set_state") ["self", "state"] (spSet K)
  jump : FnB P w K mg base (L2N.CX P w) 4 (aM K "jump") ["self", "steps"] (spJump K)
  back : FnB P w K mg base (L2N.CX P w) 4 (aM K "back") ["self", "steps"] (spBack K)
  ahead : FnB P w K mg base (L2N.CX P w) 7 (aM K "ahead") ["self", "steps"] (spAhead K)
  behind : FnB P w K mg base (L2N.CX P w) 7 (aM K "behind") ["self", "steps"] (spBehind K)
  rsh : FnB P w K mg base (L2N.CX P w) 8 (aM K "__rshift__") ["self", "other"] (spAhead K)
  lsh : FnB P w K mg base (L2N.CX P w) 8 (aM K "__lshift__") ["self", "other"] (spBehind K)
  copy : FnB P w K mg base CX0 7 (aM K "copy") ["self"] (spCopy K)
  same : FnB P w K mg base CX0 1 (aM K "same_state") ["self", "other"] (spSame K)
  at_ : FnB P w K mg base CX0 7 (aW K "classmethod" "at_state") ["cls", "state"] (spAt K)
  seeded : FnB P w K mg base (L2N.CX P w) 3 (aW K "classmethod" "seeded") ["cls", "seed"] (spSeed K)
  stAfter : FnB P w K mg base (L2N.CX P w) 5 (aW K "staticmethod" "state_after") ["state", "steps"] (spSA K)
  draw : FnB P w K mg base CX0 1 (He.ga K "_law_draw") ["_law_cell", "_law_k"] spDraw
  digit : FnB P w K mg base CX0 2 (He.ga K "_law_digit") ["_law_draw_here", "_law_span"] spDigit
  steps : FnB P w K mg base CX0 3 (He.ga K "_law_steps") ["_law_draw_here", "_law_here", "_law_size"] spSteps
  moved : FnB P w K mg base CX0 2 (He.ga K "_law_moved") ["_law_here", "_law_size", "_law_steps_here", "_law_is_back"] spMoved
  told : ∃ fd, FnF K "_law_told" "_law_told" sTold (He.ga K "_law_told") fd
abbrev FnGB (P : Program) (w : World) (K : PySem.W.Frag) (mg : Str → Option Value) (base : Heap) (k : Nat) (f : Addr) (ps : List Str) (sp : Sp) : Prop :=
  ∃ fd, FnG P w K mg base CX0 k f fd ps sp ∧ Binds K fd ps [] ∧ PySem.W.keepIn K (.ref f) = true
abbrev lq (x : Str) : Str := (x ++ (".<locals>." : Str)) ++ ("<lambda>" : Str)
abbrev tT (K : PySem.W.Frag) : List (Addr × Str) := [(tbA K "_law_new_right", lq "_law_new_right"), (tbA K "_law_call_right", lq "_law_call_right"), (tbA K "law", lq "law")]

abbrev nN : List Str := ["_law_source", "_law_script", "_law_here", "_law_steps_here", "_law_is_back", "_law_due", "_law_told_here"]
abbrev pN : List Str := ["_law_source", "_law_script", "_law_here", "_law_steps_here", "_law_is_back"]
theorem scNr : FnScope nN pN (defScope sNewRight) := ⟨rfl, rfl, rfl, by decide +kernel, rfl, by decide +kernel, by decide +kernel⟩
theorem kitLL {K : PySem.W.Frag} : PySem.W.kitOne K (.type "list") (.type "list") = some true := kit_ty (show kitB "list" "list" = some true by decide +kernel)
theorem kitTL {K : PySem.W.Frag} : PySem.W.kitOne K (.type "tuple") (.type "list") = some false := kit_ty (show kitB "tuple" "list" = some false by decide +kernel)
section
variable {P : Program} {w : World} {K : PySem.W.Frag} {mg : Str → Option Value} {base : Heap} {f : Addr} {fd : FuncData}
def spNew (K : PySem.W.Frag) : Sp := fun vs H Q _ => ∃ (a dx t : Addr) (ws : List Int) (p : Int) (v : V) (b : Bool), vs = [.ref a, .ref t, .int p, v, .bl b] ∧ Src K H a dx t ws p ∧ StV v ∧ Tabs (tT K) H ∧ ∀ H', ExtN H H' → Tabs (tT K) H' → Q (.bl true) H'
def tNewRet (K : PySem.W.Frag) : TS := fun D σ H => ∃ (a t l pd : Addr) (ws : List Int) (p : Int) (v : V) (b : Bool) (rs : List V), σ = [some (.ref a), some (.ref t), some (.int p), some v, some (.bl b), some (.ref pd), some (.ref l)] ∧ StV v ∧ Tw H t ws ∧ Due K H pd ws p v b ∧ H l = some (.lst rs) ∧
  (∀ r ∈ rs, Dp K H r (ansD ws p v b)) ∧ rs.length ≤ 3 ∧ Tabs (tT K) H ∧ ∀ H', ExtN H H' → Tabs (tT K) H' → D.rt (.bl true) H'
theorem rep_all {K : PySem.W.Frag} {H : Hp} {x : V} {d : PyData} (h : Dp K H x d) : ∀ n : Nat, DpAll K H (List.replicate n [x]).flatten (List.replicate n d)
  | 0 => .nil
  | n + 1 => by
    rw [List.replicate_succ, List.replicate_succ, List.flatten_cons]
    exact .cons h (rep_all h n)
theorem list_all {K : PySem.W.Frag} {H : Hp} {d : PyData} : ∀ {rs : List V}, (∀ r ∈ rs, Dp K H r d) → DpAll K H rs (List.replicate rs.length d)
  | [], _ => .nil
  | r :: rs, h => by
    rw [List.length_cons, List.replicate_succ]
    exact .cons (h r List.mem_cons_self) (list_all fun x hx => h x (List.mem_cons_of_mem _ hx))
theorem rep_sh {d : PyData} (h : d.canLay0 = true ∧ d.depth ≤ 3) (n : Nat) : SeqAt.shaped (.list (List.replicate n d)) = true := by
  have h1 : ∀ n, PyData.canLayAll0 (List.replicate n d) = true := fun n => by
    induction n with
    | zero => rfl
    | succ n ih =>
      rw [List.replicate_succ]
      show (d.canLay0 && PyData.canLayAll0 (List.replicate n d)) = true
      rw [h.1, ih]
      rfl
  have h2 : ∀ n, PyData.depthAll (List.replicate n d) ≤ 3 := fun n => by
    induction n with
    | zero => exact Nat.zero_le _
    | succ n ih =>
      rw [List.replicate_succ]
      show max d.depth (PyData.depthAll (List.replicate n d)) ≤ 3
      exact Nat.max_le.mpr ⟨h.2, ih⟩
  refine shaped_of (h1 n) ?_
  show PyData.depthAll (List.replicate n d) + 1 ≤ 64
  have := h2 n
  omega
theorem new_ret {cdv : Value} {A : Around} {outer : List Env} {s : Shared} {H0 : Hp} {E : XK} (T : Txt K mg) (hun : (A.deeper (envOfC "_law_new_right" (defScope sNewRight) s.heap.objs.size f cdv)).units + 64 < cLine) :
    PSs (cxOf CX0 P w K mg base nN "_law_new_right" (defScope sNewRight) f cdv A outer s H0 E).nox ((defBody sNewRight).drop 2) (tNewRet K) := by
  have zl : mg "len" = none := T.z "len" (by decide +kernel)
  have zi : mg "isinstance" = none := T.z "isinstance" (by decide +kernel)
  have zL : mg "list" = none := T.z "list" (by decide +kernel)
  refine pss_imp (pss_one (ps_ret (pe_cmpR (op_eqD hun) (pv 6) (pe_op op_rep (pe_lst (pa_cons (pe_ifExp (pt_val (pe_callB call_isi rfl zi bt_isinstance (pa_cons (pv 5) (pa_cons (pe_bltn rfl zL bt_list (v := .ty "list") rfl) pa_nil))))
          (pe_lst (pa_cons (pe_tup (pa_cons (pv 1) (pa_cons (pe_ix ix_list (pv 5) pe_int (fun _ _ => rfl)) pa_nil))) pa_nil)) (pv 5)) pa_nil)) (pe_callB call_len_seq rfl zl bt_len (pa_cons (pv 6) pa_nil))) (nomark _)))) ?_
  rintro D σ H ⟨a, t, l, pd, ws, p, v, b, rs, rfl, sv, ht, hd, hl, hr, hn, hT, hq⟩
  -- the right side, with x as the due thing
  have fin : ∀ (H1 : Hp) (x : V), Same H H1 → Dp K H1 x (ansD ws p v b) → ∀ q, H1 q = none → ∃ (u : Addr) (k : Int) (xs : List V), V.ref q = .ref u ∧ V.int rs.length = .int k ∧ (upd H1 q (.lst [x])) u = some (.lst xs) ∧ -(2 ^ 63) ≤ k ∧ k < 2 ^ 63 ∧ xs.length * k.toNat ≤ sizeLine ∧
      ∀ z, (upd H1 q (.lst [x])) z = none → ∃ d e, Dp K (upd (upd H1 q (.lst [x])) z (.lst (List.replicate k.toNat xs).flatten)) (.ref l) d ∧ Dp K (upd (upd H1 q (.lst [x])) z (.lst (List.replicate k.toNat xs).flatten)) (.ref z) e ∧ SeqAt.shaped d = true ∧ SeqAt.shaped e = true ∧
        D.rt (.bl (PyData.eqv d e)) (upd (upd H1 q (.lst [x])) z (.lst (List.replicate k.toNat xs).flatten)) := by
    intro H1 x S1 hx q hqn
    refine ⟨q, rs.length, [x], rfl, rfl, upd_same, by omega, by omega, ?_, fun z hz => ?_⟩
    · have : [x].length * ((rs.length : Int)).toNat ≤ 3 := by simp only [List.length_cons, List.length_nil]; omega
      exact Nat.le_trans this (by decide)
    have ek : ((rs.length : Int)).toNat = rs.length := by omega
    rw [ek]
    have S2 : Same H1 (upd H1 q (.lst [x])) := same_new hqn
    have S3 : Same (upd H1 q (.lst [x])) (upd (upd H1 q (.lst [x])) z (.lst (List.replicate rs.length [x]).flatten)) := same_new hz
    have S := (S1.trans S2).trans S3
    have sh := rep_sh (ans_ok (ws := ws) (p := p) (b := b) sv) rs.length
    refine ⟨.list (List.replicate rs.length (ansD ws p v b)), .list (List.replicate rs.length (ansD ws p v b)), .lst (.of (S _ _ hl)) (list_all fun r hm => dp_same S _ r (hr r hm)), .lst (.of upd_same) (rep_all (dp_same (S2.trans S3) _ x hx) _), sh, sh, ?_⟩
    rw [eqvR sh]
    exact hq _ (Same.ext S) (hT.ext S)
  rcases hd with ⟨i, h1, h2⟩ | ⟨xs, ds, h1, _, h2⟩
  · refine ⟨_, rfl, _, rfl, .ref pd, .ty "list", .type "list", .type "list", true, rfl, .ty "list", .base (.lst h1), kitLL, _, rfl, iteT ?_⟩
    refine ⟨_, rfl, _, rfl, pd, _, 0, _, rfl, rfl, .of h1, rfl, (by show 2 ≤ sizeLine; decide), fun s1 hs1 => ⟨(by show 1 ≤ sizeLine; decide), fun s2 hs2 => ⟨(by show 1 ≤ sizeLine; decide), fun s3 hs3 => ?_⟩⟩⟩
    have S1 : Same H (upd H s1 (.tup [.ref t, .int i])) := same_new hs1
    have S2 := same_new (o := .lst [.ref s1]) hs2
    have S12 := S1.trans S2
    refine ⟨_, rfl, l, rs, rfl, .inl (.of (same_new hs3 _ _ (S12 _ _ hl))), fin _ _ S12 ?_ s3 hs3⟩
    rw [h2]
    exact dp_one upd_same (dp_st (S2 _ _ upd_same) (S12 _ _ ht))
  · refine ⟨_, rfl, _, rfl, .ref pd, .ty "list", .type "tuple", .type "list", false, rfl, .ty "list", .base (.tup h1), kitTL, _, rfl, iteF ?_⟩
    refine ⟨_, rfl, (by show 1 ≤ sizeLine; decide), fun s3 hs3 => ?_⟩
    exact ⟨_, rfl, l, rs, rfl, .inl (.of (same_new hs3 _ _ hl)), fin _ _ (Same.refl H) h2 s3 hs3⟩
/-- a list is written, the tables stay -/
theorem ext_at {H H' : Hp} {l : Addr} {o : HO} (e : ExtN H H') (n : H l = none) : ExtN H (upd H' l o) := fun b u eb k => by
  rw [upd_ne (ne_of_none eb n)]
  exact e b u eb k
theorem tabs_put {T : List (Addr × Str)} {H : Hp} {l : Addr} {o : HO} {xs : List V} (h : Tabs T H) (e : H l = some (.lst xs)) : Tabs T (upd H l o) := fun q hq => by
  obtain ⟨ps, h1, h2, h3⟩ := h q hq
  have ne1 : q.1 ≠ l := ne_of h1 e (by intro z; cases z)
  refine ⟨ps, by rw [upd_ne ne1]; exact h1, h2, fun pos cv hc => ?_⟩
  obtain ⟨c, k1, k2⟩ := h3 pos cv hc
  have ne2 : c ≠ l := ne_of k2 e (by intro z; cases z)
  exact ⟨c, k1, by rw [upd_ne ne2]; exact k2⟩
theorem fnR0 {CX : CXT} {k : Nat} {ps : List Str} {sp : Sp} (F : FnOk P w K mg base CX k f fd ps sp) (hb : Binds K fd ps []) : FnR P w K mg base CX k f sp := (F.raw hb .nil).imp fun vs H Q E h => by rw [List.append_nil]; exact h
theorem ok_newRight (F : FnF K "_law_new_right" "_law_new_right" sNewRight f fd) (T : Txt K mg) (M : Fns P w K mg base) {c1 : Addr} (hc : fd.code = .ref c1) (TB : TabB base mg c1 (tbA K "_law_new_right")) : FnGB P w K mg base 11 f pN (spNew K) := by
  have zl : mg "len" = none := T.z "len" (by decide +kernel)
  have zi : mg "isinstance" = none := T.z "isinstance" (by decide +kernel)
  have zL : mg "list" = none := T.z "list" (by decide +kernel)
  obtain ⟨fb, GB, bb, _⟩ := M.behind
  obtain ⟨fa, GA, ba, _⟩ := M.ahead
  obtain ⟨fr, GR, br, _⟩ := M.rsh
  obtain ⟨fl, GL, bl, _⟩ := M.lsh
  obtain ⟨fs, GS, bs, _⟩ := M.state
  obtain ⟨fe, GE, be, ke⟩ := M.stAfter
  obtain ⟨fm, GM, bm, km⟩ := M.moved
  obtain ⟨ft, FT⟩ := M.told
  have hu : ∀ q ∈ tT K, q.1 = tbA K "_law_new_right" → q.2 = lq "_law_new_right" := by
    intro q hq e
    simp only [List.mem_cons, List.not_mem_nil, or_false] at hq
    rcases hq with z | z | z
    · rw [z]
    · rw [z] at e
      exact absurd e.symm T.d12
    · rw [z] at e
      exact absurd e.symm T.d13
  have hm : (tbA K "_law_new_right", lq "_law_new_right") ∈ tT K := List.mem_cons_self
  have bF : Binds K fd pN [] := F.bindsN fun _ _ _ _ _ _ us hl => match us, hl with | [_, _, _, _, _], _ => rfl
  refine ⟨fd, FunD.okG F scNr (fun vs H Q E h => ?_) (fun cdv A outer s H vs Q E ec hg hr h => ?_), bF, F.kp⟩
  · obtain ⟨a, dx, t, ws, p, v, b, rfl, _⟩ := h
    rfl
  · obtain ⟨a, dx, t, ws, p, v, b, rfl, sr, sv, hT, hq⟩ := h
    have ecd : cdv = .ref c1 := ec.symm.trans hc
    have hun := hr.units
    have tg : mg "_law_told" = some (.ref (He.ga K "_law_told")) := T.g "_law_told" (by decide +kernel)
    refine ⟨_, PSs.nox (pss_cons (ps_set (i := 5) scNr.nd rfl (Or.inl rfl) (pe_call GM (hr.mono (by decide)) rfl (T.g "_law_moved" (by decide +kernel)) km bm .nil pass0 (pa_cons (pv 2) (pa_cons (pe_callB call_len_seq rfl zl bt_len (pa_cons (pv 1) pa_nil)) (pa_cons (pv 3) (pa_cons (pv 4) pa_nil))))))
      (pss_cons (ps_if (pt_val (pv 4))
        (pss_cons (ps_set (i := 6) scNr.nd rfl (Or.inl rfl) (pe_lst (pa_cons (pe_told FT T rfl rfl hg hr (plam_0 (k := 8) TB ecd hm hu (lamL_by (show lamLB nN (defScope sNewRight) _ = true by decide +kernel)) rfl (fun _ _ _ _ _ => rfl) (fun A outer s H E f c' hr2 =>
            pe_prop (pe_meth (pv 0) T.cl (T.me "behind" (by decide +kernel)) GB (hr2.mono (by decide)) bb .nil (L2N.passes_call (L2N.takes_of rfl rfl rfl rfl) fun _ _ _ _ h => h) (pa_cons (pv 3) pa_nil)) T.cl T.pSt GS (hr2.mono (by decide)) bs .nil pass0 rfl))) pa_nil)))
        (pss_one (ps_expr (pe_bm PySem.F.plainAttrs_list PySem.F.slot_list_append PySem.F.type_list_append mt_append (pv 6) (pa_cons (pe_told FT T rfl rfl hg hr (plam_0 (k := 8) TB ecd hm hu (lamL_by (show lamLB nN (defScope sNewRight) _ = true by decide +kernel)) rfl (fun _ _ _ _ _ => rfl) (fun A outer s H E f c' hr2 =>
            pe_prop (pe_ownop T.oL GL (hr2.mono (by decide)) bl (L2N.passes_call (L2N.takes_of rfl rfl rfl rfl) fun _ _ _ _ h => h) (pv 0) (pv 3)) T.cl T.pSt GS (hr2.mono (by decide)) bs .nil pass0 rfl))) pa_nil)))))
        (pss_cons (ps_set (i := 6) scNr.nd rfl (Or.inl rfl) (pe_lst (pa_cons (pe_told FT T rfl rfl hg hr (plam_0 (k := 8) TB ecd hm hu (lamL_by (show lamLB nN (defScope sNewRight) _ = true by decide +kernel)) rfl (fun _ _ _ _ _ => rfl) (fun A outer s H E f c' hr2 =>
            pe_prop (pe_meth (pv 0) T.cl (T.me "ahead" (by decide +kernel)) GA (hr2.mono (by decide)) ba .nil (L2N.passes_call (L2N.takes_of rfl rfl rfl rfl) fun _ _ _ _ h => h) (pa_cons (pv 3) pa_nil)) T.cl T.pSt GS (hr2.mono (by decide)) bs .nil pass0 rfl))) pa_nil)))
        (pss_cons (ps_expr (pe_bm PySem.F.plainAttrs_list PySem.F.slot_list_append PySem.F.type_list_append mt_append (pv 6) (pa_cons (pe_told FT T rfl rfl hg hr (plam_0 (k := 8) TB ecd hm hu (lamL_by (show lamLB nN (defScope sNewRight) _ = true by decide +kernel)) rfl (fun _ _ _ _ _ => rfl) (fun A outer s H E f c' hr2 =>
            pe_prop (pe_ownop T.oR GR (hr2.mono (by decide)) br (L2N.passes_call (L2N.takes_of rfl rfl rfl rfl) fun _ _ _ _ h => h) (pv 0) (pv 3)) T.cl T.pSt GS (hr2.mono (by decide)) bs .nil pass0 rfl))) pa_nil)))
        (pss_one (ps_expr (pe_bm PySem.F.plainAttrs_list PySem.F.slot_list_append PySem.F.type_list_append mt_append (pv 6) (pa_cons (pe_told FT T rfl rfl hg hr (plam_0 (k := 8) TB ecd hm hu (lamL_by (show lamLB nN (defScope sNewRight) _ = true by decide +kernel)) rfl (fun _ _ _ _ _ => rfl) (fun A outer s H E f c' hr2 =>
            pe_smeth (pe_glob (v := .ref (aC K)) rfl (T.g "Scripted" (by decide +kernel)) rfl) T.cr T.sSA (fnR0 GE be) (hr2.mono (by decide)) (L2N.passes_call (L2N.takes_of rfl rfl rfl rfl) fun _ _ _ _ h => h)
              (pa_cons (pe_prop (pv 0) T.cl T.pSt GS (hr2.mono (by decide)) bs .nil pass0 rfl) (pa_cons (pv 3) pa_nil))))) pa_nil)))))))
      (new_ret T hr.units))), ?_⟩
    refine ⟨_, rfl, _, rfl, t, _, rfl, .inr (.of sr.tw), _, rfl, _, rfl, ?_⟩
    have el : ((ws.map V.int).length : Int) = ws.length := by simp
    rw [el]
    refine moved_due (K := K) (E := E0) sv fun H1 pd S1 hd => ?_
    have sr1 := sr.same S1
    have T1 := hT.ext S1
    refine ⟨_, rfl, b, rfl, ?_⟩
    have step : ∀ (H3 H4 : Hp) (l : Addr) (rs : List V), ExtN H1 H3 → H3 l = none → ExtN H3 H4 → H4 l = some (.lst rs) → Tabs (tT K) H4 → (∀ r ∈ rs, Dp K H4 r (ansD ws p v b)) → rs.length ≤ 3 →
        tNewRet K { nx := fun _ H' => Q .non H', rt := Q } [some (.ref a), some (.ref t), some (.int p), some v, some (.bl b), some (.ref pd), some (.ref l)] H4 := by
      intro H3 H4 l rs e1 n e2 hl hT4 hr4 hn
      have e14 := e1.trans e2
      exact ⟨a, t, l, pd, ws, p, v, b, rs, rfl, sv, (sr1.ext e14).tw, hd.ext e14, hl, hr4, hn, hT4, fun H' e3 T3 => hq H' ((Same.ext S1).trans (e14.trans e3)) T3⟩
    cases b with
    | true =>
      refine iteT ⟨T1, fun H2 e2 T2 f1 => ?_⟩
      have sr2 := sr1.ext e2
      refine ⟨_, rfl, a, dx, _, rfl, sr2.ob, rfl, _, rfl, tell_back T sr2 sv (fun H3 r1 S3 hr1 _ => ?_) f1⟩
      refine ⟨(by show 1 ≤ sizeLine; decide), fun l hl => ?_⟩
      have T3 : Tabs (tT K) (upd H3 l (.lst [r1])) := (T2.ext S3).ext (same_new hl)
      have sr3 : Src K (upd H3 l (.lst [r1])) a dx t ws p := (sr2.same S3).same (same_new hl)
      refine ⟨_, rfl, Or.inl ⟨rfl, _, .of upd_same⟩, ⟨T3, fun H4 e4 T4 f2 => ?_⟩⟩
      have sr4 := sr3.ext e4
      refine ⟨_, rfl, _, rfl, a, dx, _, rfl, sr4.ob, sv.scl, tell_back T sr4 sv (fun H5 r2 S5 hr2' pk => ?_) f2⟩
      have l4 : H4 l = some (.lst [r1]) := ext_lst e4 upd_same
      have l5 := S5 _ _ l4
      have p1 : Pst K l r1 (ansD ws p v true) H5 := (((Pst.fresh hr1 hl).put (o := .lst [r1])).ext e4).ext (Same.ext S5)
      have p2 := pk _ _ l4
      refine ⟨l, [r1], r2, rfl, rfl, l5, (by show 1 < sizeLine; decide), ?_⟩
      have E35 : ExtN H3 H5 := ((Same.ext (same_new hl)).trans e4).trans (Same.ext S5)
      exact step H3 _ l [r1, r2] (e2.trans (Same.ext S3)) hl (ext_at E35 hl) upd_same (tabs_put (T4.ext S5) l5) (fun r hm => by
        have hm' : r = r1 ∨ r = r2 := by simpa using hm
        rcases hm' with z | z
        · rw [z]
          exact p1 _
        · rw [z]
          exact p2 _) (by show 2 ≤ 3; decide)
    | false =>
      refine iteF ⟨T1, fun H2 e2 T2 f1 => ?_⟩
      have sr2 := sr1.ext e2
      refine ⟨_, rfl, a, dx, _, rfl, sr2.ob, rfl, _, rfl, tell_on T sr2 sv (fun H3 r1 S3 hr1 _ => ?_) f1⟩
      refine ⟨(by show 1 ≤ sizeLine; decide), fun l hl => ?_⟩
      have T3 : Tabs (tT K) (upd H3 l (.lst [r1])) := (T2.ext S3).ext (same_new hl)
      have sr3 : Src K (upd H3 l (.lst [r1])) a dx t ws p := (sr2.same S3).same (same_new hl)
      refine ⟨_, rfl, Or.inl ⟨rfl, _, .of upd_same⟩, ⟨T3, fun H4 e4 T4 f2 => ?_⟩⟩
      have sr4 := sr3.ext e4
      refine ⟨_, rfl, _, rfl, a, dx, _, rfl, sr4.ob, sv.scl, tell_on T sr4 sv (fun H5 r2 S5 hr2' pk => ?_) f2⟩
      have l4 : H4 l = some (.lst [r1]) := ext_lst e4 upd_same
      have l5 := S5 _ _ l4
      have p1 : Pst K l r1 (ansD ws p v false) H5 := (((Pst.fresh hr1 hl).put (o := .lst [r1])).ext e4).ext (Same.ext S5)
      have p2 := pk _ _ l4
      refine ⟨l, [r1], r2, rfl, rfl, l5, (by show 1 < sizeLine; decide), ?_⟩
      have E35 : ExtN H3 H5 := ((Same.ext (same_new hl)).trans e4).trans (Same.ext S5)
      have E36 : ExtN H3 (upd H5 l (.lst ([r1] ++ [r2]))) := ext_at E35 hl
      have T6 : Tabs (tT K) (upd H5 l (.lst ([r1] ++ [r2]))) := tabs_put (T4.ext S5) l5
      refine ⟨_, rfl, Or.inl ⟨rfl, _, .of upd_same⟩, ⟨T6, fun H7 e7 T7 f3 => ?_⟩⟩
      have sr7 : Src K H7 a dx t ws p := ((sr2.same S3).ext E36).ext e7
      refine ⟨rfl, _, rfl, a, dx, _, rfl, sr7.ob, a, dx, t, ws, p, rfl, sr7, fun s0 hs0 => ⟨_, rfl, ?_⟩⟩
      have S8 : Same H7 (upd H7 s0 (.tup [.ref t, .int p])) := same_new hs0
      refine tell_after T upd_same (S8 _ _ sr7.tw) sr7.ok sr7.p0 sr7.p1 sv (fun H9 r3 S9 _ pk3 => ?_) f3
      have l6 : (upd H5 l (.lst ([r1] ++ [r2]))) l = some (.lst [r1, r2]) := upd_same
      have l8 := S8 _ _ (ext_lst e7 l6)
      have l9 := S9 _ _ l8
      have e69 : ExtN (upd H5 l (.lst ([r1] ++ [r2]))) H9 := (e7.trans (Same.ext S8)).trans (Same.ext S9)
      have q1 : Pst K l r1 (ansD ws p v false) H9 := (p1.put (o := .lst ([r1] ++ [r2]))).ext e69
      have q2 : Pst K l r2 (ansD ws p v false) H9 := (p2.put (o := .lst ([r1] ++ [r2]))).ext e69
      have q3 := pk3 _ _ l8
      refine ⟨l, [r1, r2], r3, rfl, rfl, l9, (by show 2 < sizeLine; decide), ?_⟩
      exact step H3 _ l [r1, r2, r3] (e2.trans (Same.ext S3)) hl (ext_at (E36.trans e69) hl) upd_same (tabs_put ((T7.ext S8).ext S9) l9) (fun r hm => by
        have hm' : r = r1 ∨ r = r2 ∨ r = r3 := by simpa using hm
        rcases hm' with z | z | z
        · rw [z]
          exact q1 _
        · rw [z]
          exact q2 _
        · rw [z]
          exact q3 _) (by show 3 ≤ 3; decide)
end
end L2.Lw

set_option maxHeartbeats 4000000
/-! _law_call_right. -/
namespace L2.Lw
open PySem PySem.Spec PyProof.Rows LamX

/-! ### what a call keeps -/
/-- all but a and the tables -/
def KA (a : Addr) (H H' : Hp) : Prop := ∀ b o, b ≠ a → H b = some o → (∀ ps, o ≠ .tbl ps) → H' b = some o
theorem KA.refl (a : Addr) (H : Hp) : KA a H H := fun _ _ _ e _ => e
theorem KA.trans {a : Addr} {H H1 H2 : Hp} (x : KA a H H1) (y : KA a H1 H2) : KA a H H2 := fun b o n e k => y b o n (x b o n e k) k
theorem KA.ext {a : Addr} {H H' : Hp} (e : ExtN H H') : KA a H H' := fun b o _ eb k => e b o eb k
theorem KA.same {a : Addr} {H H' : Hp} (e : Same H H') : KA a H H' := fun b o _ eb _ => e b o eb
theorem KA.put {a : Addr} {H : Hp} {o : HO} : KA a H (upd H a o) := fun b u n e _ => by rw [upd_ne n]; exact e
/-- all but a, d and the tables -/
def KAD (a d : Addr) (H H' : Hp) : Prop := ∀ b o, b ≠ a → b ≠ d → H b = some o → (∀ ps, o ≠ .tbl ps) → H' b = some o
theorem KAD.trans {a d : Addr} {H H1 H2 : Hp} (x : KAD a d H H1) (y : KAD a d H1 H2) : KAD a d H H2 := fun b o n m e k => y b o n m (x b o n m e k) k
theorem KA.kad {a d : Addr} {H H' : Hp} (x : KA a H H') : KAD a d H H' := fun b o n _ e k => x b o n e k
theorem But.kad {a d : Addr} {H H' : Hp} (x : But d H H') : KAD a d H H' := fun b o _ m e _ => x b o m e
theorem tabs_keep {T : List (Addr × Str)} {H H' : Hp} {l : Addr} {u : HO} (h : Tabs T H) (e : H l = some u) (n : ∀ ps, u ≠ .tbl ps) (m : ∀ c q, u ≠ CodeO c q) (k : ∀ b o, b ≠ l → H b = some o → H' b = some o) : Tabs T H' := fun q hq => by
  obtain ⟨ps, h1, h2, h3⟩ := h q hq
  have ne1 : q.1 ≠ l := fun z => n ps (by rw [z, e] at h1; exact Option.some.inj h1)
  refine ⟨ps, k _ _ ne1 h1, h2, fun pos cv hc => ?_⟩
  obtain ⟨c, k1, k2⟩ := h3 pos cv hc
  have ne2 : c ≠ l := fun z => m c q.2 (by rw [← z] at e; rw [k2] at e; exact (Option.some.inj e).symm)
  exact ⟨c, k1, k _ _ ne2 k2⟩
theorem tabs_ins {T : List (Addr × Str)} {H : Hp} {a C dx : Addr} {fs : List (Str × V)} {o : HO} (h : Tabs T H) (e : H a = some (.ins C dx fs)) : Tabs T (upd H a o) := tabs_keep h e (fun _ z => by cases z) (fun _ _ z => by cases z) fun b u n eb => by rw [upd_ne n]; exact eb
theorem tabs_but {T : List (Addr × Str)} {H H' : Hp} {d : Addr} {B : Int} (h : Tabs T H) (e : Drw H d B) (b : But d H H') : Tabs T H' := by
  obtain ⟨l, c, u, e, _⟩ := e
  exact tabs_keep h e (fun _ z => by cases z) (fun _ _ z => by cases z) b
theorem Src.but {K : PySem.W.Frag} {H H' : Hp} {a dx t d : Addr} {ws : List Int} {p B : Int} (s : Src K H a dx t ws p) (e : Drw H d B) (b : But d H H') : Src K H' a dx t ws p := by
  obtain ⟨l, c, u, e, _⟩ := e
  exact ⟨b _ _ (ne_of s.ob e (by intro z; cases z)) s.ob, b _ _ (ne_of s.tw e (by intro z; cases z)) s.tw, s.ok, s.p0, s.p1⟩
theorem Src.nd {K : PySem.W.Frag} {H : Hp} {a dx t d : Addr} {ws : List Int} {p B : Int} (s : Src K H a dx t ws p) (e : Drw H d B) : d ≠ a := by
  obtain ⟨l, c, u, e, _⟩ := e
  exact ne_of e s.ob (by intro z; cases z)
theorem Drw.ka {H H' : Hp} {a d : Addr} {B : Int} (e : Drw H d B) (n : d ≠ a) (k : KA a H H') : Drw H' d B := by
  obtain ⟨l, c, u, e, h0, h1⟩ := e
  exact ⟨l, c, u, k _ _ n e (fun _ z => by cases z), h0, h1⟩

abbrev cN : List Str := ["_law_draw_here", "_law_source", "_law_script", "_law_here", "_law_way", "_law_told_here", "_law_due", "_law_is_right", "_law_place", "_law_steps_here"]
abbrev pC : List Str := ["_law_draw_here", "_law_source", "_law_script", "_law_here"]
theorem scCr : FnScope cN pC (defScope sCallRight) := ⟨rfl, rfl, rfl, by decide +kernel, rfl, by decide +kernel, by decide +kernel⟩
abbrev sgC (d a t : Addr) (p way : Int) (o5 o6 o7 o8 : Option V) (v : V) : St := [some (.ref d), some (.ref a), some (.ref t), some (.int p), some (.int way), o5, o6, o7, o8, some v]
abbrev ifBody (st : Stmt) : List Stmt := match st with
  | .If _ b _ _ => b
  | _ => []
abbrev stC (i : Nat) : Stmt := (defBody sCallRight).getD i (.Pass ⟨0, 0, 0, 0⟩)
/-- the place after, the tables kept -/
def OutA (K : PySem.W.Frag) (H : Hp) (a dx t : Addr) (ws : List Int) (Q : VK) : Prop := ∀ H' p', KA a H H' → Src K H' a dx t ws p' → Tabs (tT K) H' → Q (.int p') H'
def OutC (K : PySem.W.Frag) (H : Hp) (d a dx t : Addr) (ws : List Int) (B : Int) (Q : VK) : Prop := ∀ H' p', KAD a d H H' → Src K H' a dx t ws p' → Drw H' d B → Tabs (tT K) H' → Q (.int p') H'
theorem OutA.later {K : PySem.W.Frag} {H H1 : Hp} {a dx t : Addr} {ws : List Int} {Q : VK} (h : OutA K H a dx t ws Q) (k : KA a H H1) : OutA K H1 a dx t ws Q := fun H' p' k' s' T' => h H' p' (k.trans k') s' T'
theorem OutC.later {K : PySem.W.Frag} {H H1 : Hp} {d a dx t : Addr} {ws : List Int} {B : Int} {Q : VK} (h : OutC K H d a dx t ws B Q) (k : KAD a d H H1) : OutC K H1 d a dx t ws B Q := fun H' p' k' s' d' T' => h H' p' (k.trans k') s' d' T'
theorem OutC.a {K : PySem.W.Frag} {H : Hp} {d a dx t : Addr} {ws : List Int} {B B' : Int} {Q : VK} (h : OutC K H d a dx t ws B' Q) (e : Drw H d B) (n : d ≠ a) (hb : B ≤ B') : OutA K H a dx t ws Q := fun H' p' k' s' T' => h H' p' k'.kad s' ((e.ka n k').mono hb) T'
theorem dp_li {K : PySem.W.Frag} {H : Hp} {l : Addr} {z : Int} (h : H l = some (.lst [.int z])) : Dp K H (.ref l) (.list [.int z]) := dp_one h (.int z)
theorem dp_ln {K : PySem.W.Frag} {H : Hp} {l : Addr} (h : H l = some (.lst [.non])) : Dp K H (.ref l) (.list [.none]) := dp_one h .non
theorem sh_li (z : Int) : SeqAt.shaped (.list [.int z]) = true := rfl
theorem sh_ln : SeqAt.shaped (.list [.none]) = true := rfl
theorem sh_short (m : Int) : SeqAt.shaped (.tuple [.str "short", .int m]) = true := shaped_of (cl_short m) (by show 1 ≤ 64; decide)

section
variable {P : Program} {w : World} {K : PySem.W.Frag} {mg : Str → Option Value} {base : Heap} {f : Addr} {fd : FuncData} {cdv : Value} {A : Around} {outer : List Env} {s : Shared} {H0 : Hp} {E : XK} {c1 : Addr}
abbrev XC (P : Program) (w : World) (K : PySem.W.Frag) (mg : Str → Option Value) (base : Heap) (f : Addr) (cdv : Value) (A : Around) (outer : List Env) (s : Shared) (H0 : Hp) (E : XK) : Cx := (cxOf CX0 P w K mg base cN "_law_call_right" (defScope sCallRight) f cdv A outer s H0 E).nox
theorem huC {K : PySem.W.Frag} {mg : Str → Option Value} (T : Txt K mg) : ∀ q ∈ tT K, q.1 = tbA K "_law_call_right" → q.2 = lq "_law_call_right" := by
  intro q hq e
  simp only [List.mem_cons, List.not_mem_nil, or_false] at hq
  rcases hq with z | z | z
  · rw [z] at e
    exact absurd e T.d12
  · rw [z]
  · rw [z] at e
    exact absurd e.symm T.d23
theorem hmC : (tbA K "_law_call_right", lq "_law_call_right") ∈ tT K := List.mem_cons_of_mem _ List.mem_cons_self

variable (T : Txt K mg) (M : Fns P w K mg base) (ecd : cdv = .ref c1) (TB : TabB base mg c1 (tbA K "_law_call_right")) (hg : A.guards = some []) (hr : Room 11 (A.deeper (envOfC "_law_call_right" (defScope sCallRight) s.heap.objs.size f cdv)))
include T M ecd TB hg hr

/-! ### next_word -/
def tC0 (K : PySem.W.Frag) : TS := fun D σ H => ∃ (d a dx t : Addr) (ws : List Int) (p way : Int) (v : V), σ = sgC d a t p way none none none none v ∧ Src K H a dx t ws p ∧ Tabs (tT K) H ∧ OutA K H a dx t ws D.rt
theorem c0_ok : PSs (XC P w K mg base f cdv A outer s H0 E) (ifBody (stC 1)) (tC0 K) := by
  have zl : mg "len" = none := T.z "len" (by decide +kernel)
  obtain ⟨fn, GN, bn, _⟩ := M.next
  obtain ⟨ft, FT⟩ := M.told
  have hun := hr.units
  refine pss_imp (pss_cons (ps_set (i := 5) scCr.nd rfl (Or.inl rfl) (pe_told FT T rfl rfl hg (hr.mono (by decide)) (plam_0 (k := 8) TB ecd hmC (huC T) (lamL_by (show lamLB cN (defScope sCallRight) _ = true by decide +kernel)) rfl (fun _ _ _ _ _ => rfl) (fun A outer s H E f c' hr2 =>
      pe_meth0 (pv 1) T.cl (T.me "next_word" (by decide +kernel)) GN (hr2.mono (by decide)) bn .nil (L2N.passes_call (L2N.takes_of rfl rfl rfl rfl) fun _ _ _ _ h => h)))))
    (pss_cons (ps_if (pt_cmpR op_lt (pv 3) (pe_callB call_len_seq rfl zl bt_len (pa_cons (pv 2) pa_nil)) (nomark _))
      (pss_one (ps_ret (pe_ifExp (pt_cmpR (op_eqD hun) (pv 5) (pe_lst (pa_cons (pe_ix ix_tup (pv 2) (pv 3) (fun _ _ => rfl)) pa_nil)) (nomark _)) (pe_op op_add (pv 3) pe_int) pe_non))) pss_nil)
    (pss_one (ps_ret (pe_ifExp (pt_cmpR (op_eqD hun) (pv 5) (pe_tup (pa_cons pe_str (pa_cons pe_int pa_nil))) (nomark _)) (pv 3) pe_non))))) ?_
  rintro D σ H ⟨d, a, dx, t, ws, p, way, v, rfl, sr, hT, hq⟩
  refine ⟨hT, fun H2 e2 T2 f1 => ?_⟩
  have sr2 := sr.ext e2
  have hq2 := hq.later (KA.ext e2)
  have hp0 := sr.p0
  have el : ((ws.map V.int).length : Int) = ws.length := by simp
  refine ⟨_, rfl, a, dx, _, rfl, sr2.ob, rfl, a, dx, t, ws, p, rfl, sr2, fun z hz => ?_, fun nlt => ?_⟩
  · have hlt : p.toNat < ws.length := (List.getElem?_eq_some_iff.mp hz).1
    have lt : p < ws.length := by omega
    refine told_ret fun l hl => ?_
    have srm : Src K (atP K a dx t (p + 1) H2) a dx t ws (p + 1) := sr2.move (by omega) (by omega)
    have S3 := same_new (o := .lst [V.int z]) hl
    have sr3 := srm.same S3
    have T3 : Tabs (tT K) (upd (atP K a dx t (p + 1) H2) l (.lst [.int z])) := (tabs_ins T2 sr2.ob).ext S3
    have k3 : KA a H2 (upd (atP K a dx t (p + 1) H2) l (.lst [.int z])) := KA.put.trans (KA.same S3)
    refine ⟨_, rfl, _, rfl, t, _, rfl, .inr (.of sr3.tw), ?_⟩
    rw [el]
    refine ⟨_, _, rfl, rfl, _, rfl, ?_⟩
    rw [decide_eq_true lt]
    refine iteT ⟨_, rfl, _, rfl, _, rfl, t, ws.map V.int, p, .int z, rfl, rfl, .of sr3.tw, ?_, (by show 1 ≤ sizeLine; decide), fun q hqn => ?_⟩
    · have e : p = ((p.toNat : Nat) : Int) := by omega
      rw [e]
      exact atI_nat (by rw [List.getElem?_map, hz]; rfl)
    · have S4 := same_new (o := .lst [V.int z]) hqn
      refine ⟨_, _, dp_li (S4 _ _ upd_same), dp_li upd_same, sh_li z, sh_li z, _, rfl, ?_⟩
      rw [eqvR (sh_li z)]
      exact iteT ⟨_, rfl, _, _, rfl, rfl, hq2 _ _ (k3.trans (KA.same S4)) (sr3.same S4) (T3.ext S4)⟩
  · refine err_exh T fun H3 r S3 e3 => ?_
    have sr3 := sr2.same S3
    refine ⟨_, rfl, _, rfl, t, _, rfl, .inr (.of sr3.tw), ?_⟩
    rw [el]
    refine ⟨_, _, rfl, rfl, _, rfl, ?_⟩
    rw [decide_eq_false nlt]
    refine iteF ⟨_, rfl, (by show 2 ≤ sizeLine; decide), fun q hqn => ?_⟩
    have S4 := same_new (o := .tup [V.str "short", .int 1]) hqn
    refine ⟨_, _, dp_short (S4 _ _ e3), dp_short upd_same, sh_short 1, sh_short 1, _, rfl, ?_⟩
    rw [eqvR (sh_short 1)]
    exact iteT ⟨_, rfl, hq2 _ _ ((KA.same S3).trans (KA.same S4)) (sr3.same S4) ((T2.ext S3).ext S4)⟩
/-! ### jump, back -/
def tC1e (K : PySem.W.Frag) : TS := fun D σ H => ∃ (d a dx t pd : Addr) (ws : List Int) (p q way : Int) (v r : V) (dd : PyData), σ = sgC d a t p way (some r) (some (.ref pd)) none none v ∧ Src K H a dx t ws q ∧ Tabs (tT K) H ∧ OutA K H a dx t ws D.rt ∧
  ((∃ l, r = .ref l ∧ H l = some (.lst [.non]) ∧ H pd = some (.lst [.int q])) ∨ (∃ xs, H pd = some (.tup xs) ∧ q = p ∧ SeqAt.shaped dd = true ∧ Dp K H r dd ∧ Dp K H (.ref pd) dd))
theorem c1_end : PSs (XC P w K mg base f cdv A outer s H0 E) ((ifBody (stC 2)).drop 2) (tC1e K) := by
  have zi : mg "isinstance" = none := T.z "isinstance" (by decide +kernel)
  have zL : mg "list" = none := T.z "list" (by decide +kernel)
  have hun := hr.units
  refine pss_imp (pss_cons (ps_if (pt_val (pe_callB call_isi rfl zi bt_isinstance (pa_cons (pv 6) (pa_cons (pe_bltn rfl zL bt_list (v := .ty "list") rfl) pa_nil))))
      (pss_one (ps_ret (pe_ifExp (pt_cmpR (op_eqD hun) (pv 5) (pe_lst (pa_cons pe_non pa_nil)) (nomark _)) (pe_ix ix_list (pv 6) pe_int (fun _ _ => rfl)) pe_non))) pss_nil)
    (pss_one (ps_ret (pe_ifExp (pt_cmpR (op_eqD hun) (pv 5) (pv 6) (nomark _)) (pv 3) pe_non)))) ?_
  rintro D σ H ⟨d, a, dx, t, pd, ws, p, q, way, v, r, dd, rfl, sr, hT, hq, hc⟩
  rcases hc with ⟨l, rfl, hl, h1⟩ | ⟨xs, h1, rfl, sh, h2, h3⟩
  · refine ⟨_, rfl, .ref pd, .ty "list", .type "list", .type "list", true, rfl, .ty "list", .base (.lst h1), kitLL, _, rfl, iteT ?_⟩
    refine ⟨_, rfl, (by show 1 ≤ sizeLine; decide), fun z hz => ?_⟩
    have S := same_new (o := .lst [V.non]) hz
    refine ⟨_, _, dp_ln (S _ _ hl), dp_ln upd_same, sh_ln, sh_ln, _, rfl, ?_⟩
    rw [eqvR sh_ln]
    exact iteT ⟨_, rfl, pd, _, 0, _, rfl, rfl, .of (S _ _ h1), rfl, hq _ _ (KA.same S) (sr.same S) (hT.ext S)⟩
  · refine ⟨_, rfl, .ref pd, .ty "list", .type "tuple", .type "list", false, rfl, .ty "list", .base (.tup h1), kitTL, _, rfl, iteF ?_⟩
    refine ⟨_, rfl, _, rfl, dd, dd, h2, h3, sh, sh, _, rfl, ?_⟩
    rw [eqvR sh]
    exact iteT ⟨_, rfl, hq _ _ (KA.refl a H) sr hT⟩
def tC1 (K : PySem.W.Frag) : TS := fun D σ H => ∃ (d a dx t : Addr) (ws : List Int) (p : Int) (v : V) (b : Bool), σ = sgC d a t p (if b = true then 2 else 1) none none none none v ∧ StV v ∧ Src K H a dx t ws p ∧ Tabs (tT K) H ∧ OutA K H a dx t ws D.rt
theorem c1_ok : PSs (XC P w K mg base f cdv A outer s H0 E) (ifBody (stC 2)) (tC1 K) := by
  have zl : mg "len" = none := T.z "len" (by decide +kernel)
  obtain ⟨fj, GJ, bj, _⟩ := M.jump
  obtain ⟨fb, GB, bb, _⟩ := M.back
  obtain ⟨fm, GM, bm, km⟩ := M.moved
  obtain ⟨ft, FT⟩ := M.told
  refine pss_imp (pss_cons (ps_set (i := 6) scCr.nd rfl (Or.inl rfl) (pe_call GM (hr.mono (by decide)) rfl (T.g "_law_moved" (by decide +kernel)) km bm .nil pass0 (pa_cons (pv 3) (pa_cons (pe_callB call_len_seq rfl zl bt_len (pa_cons (pv 2) pa_nil)) (pa_cons (pv 9) (pa_cons (pe_cmpR op_eq (pv 4) pe_int (nomark _)) pa_nil))))))
    (pss_cons (ps_set (i := 5) scCr.nd rfl (Or.inl rfl) (pe_told FT T rfl rfl hg (hr.mono (by decide)) (plam_if (pt_cmpR op_eq (pv 4) pe_int (nomark _))
      (plam_0 (k := 8) TB ecd hmC (huC T) (lamL_by (show lamLB cN (defScope sCallRight) _ = true by decide +kernel)) rfl (fun _ _ _ _ _ => rfl) (fun A outer s H E f c' hr2 =>
        pe_meth (pv 1) T.cl (T.me "jump" (by decide +kernel)) GJ (hr2.mono (by decide)) bj .nil (L2N.passes_call (L2N.takes_of rfl rfl rfl rfl) fun _ _ _ _ h => h) (pa_cons (pv 9) pa_nil)))
      (plam_1 (k := 8) TB ecd hmC (huC T) (lamL_by (show lamLB cN (defScope sCallRight) _ = true by decide +kernel)) rfl (fun _ _ _ _ _ _ => ⟨_, rfl, fun _ => rfl⟩) rfl (fun A outer s H E f c' hr2 =>
        pe_meth (pv 1) T.cl (T.me "back" (by decide +kernel)) GB (hr2.mono (by decide)) bb .nil (L2N.passes_call (L2N.takes_of rfl rfl rfl rfl) fun _ _ _ _ h => h) (pa_cons (pv 9) pa_nil))))))
    (c1_end T M ecd TB hg hr))) ?_
  rintro D σ H ⟨d, a, dx, t, ws, p, v, b, rfl, sv, sr, hT, hq⟩
  have el : ((ws.map V.int).length : Int) = ws.length := by simp
  have e2 : decide (V.int (if b = true then 2 else 1) = V.int 2) = b := by cases b <;> decide
  have e1 : decide (V.int (if b = true then 2 else 1) = V.int 1) = !b := by cases b <;> decide
  refine ⟨_, rfl, _, rfl, t, _, rfl, .inr (.of sr.tw), _, rfl, _, rfl, rfl, ?_⟩
  rw [el, e2]
  refine moved_due (K := K) (E := E0) sv fun H1 pd S1 hd => ?_
  have sr1 := sr.same S1
  have T1 := hT.ext S1
  have hq1 := hq.later (KA.same S1)
  have hp0 := sr.p0
  have hp1 := sr.p1
  have sh3 := ans_ok (ws := ws) (p := p) (b := b) sv
  have sh : SeqAt.shaped (ansD ws p v b) = true := shaped_of sh3.1 (by omega)
  -- it went
  have went : ∀ (H2 : Hp) (q : Int), ExtN H1 H2 → Tabs (tT K) H2 → 0 ≤ q → q ≤ ws.length → ansD ws p v b = .list [.tuple [dW ws, .int q]] → ∀ l, (atP K a dx t q H2) l = none →
      tC1e K { nx := D.nx, rt := D.rt, ct := D.ct, bk := D.bk } (sgC d a t p (if b = true then 2 else 1) (some (.ref l)) (some (.ref pd)) none none v) (upd (atP K a dx t q H2) l (.lst [.non])) := by
    intro H2 q e2 T2 h0 h1 ea l hl
    have sr2 := sr1.ext e2
    have S3 := same_new (o := .lst [V.non]) hl
    refine ⟨d, a, dx, t, pd, ws, p, q, _, v, .ref l, .none, rfl, (sr2.move h0 h1).same S3, (tabs_ins T2 sr2.ob).ext S3, hq1.later ((KA.ext e2).trans (KA.put.trans (KA.same S3))), .inl ⟨l, rfl, upd_same, ?_⟩⟩
    rcases hd.ext e2 with ⟨i, h3, h4⟩ | ⟨xs, ds, h3, h4, _⟩
    · rw [ea] at h4
      injection h4 with h5
      injection h5 with h6
      injection h6 with h7
      injection h7 with h8 h9
      injection h9 with h10
      injection h10 with h11
      rw [← h11] at h3
      refine S3 _ _ ?_
      show upd H2 a _ pd = _
      rw [upd_ne (ne_of h3 sr2.ob (by intro z; cases z))]
      exact h3
    · rw [ea] at h4
      cases h4
  -- it was refused
  have refd : ∀ (H2 H3 : Hp) (r : V), ExtN H1 H2 → Tabs (tT K) H2 → Same H2 H3 → Dp K H3 r (ansD ws p v b) → ∀ xs ds, H2 pd = some (.tup xs) → ansD ws p v b = .tuple ds →
      tC1e K { nx := D.nx, rt := D.rt, ct := D.ct, bk := D.bk } (sgC d a t p (if b = true then 2 else 1) (some r) (some (.ref pd)) none none v) H3 := by
    intro H2 H3 r e2 T2 S3 hr3 xs ds hx _
    have due := (hd.ext e2).ext (Same.ext S3)
    refine ⟨d, a, dx, t, pd, ws, p, p, _, v, r, ansD ws p v b, rfl, (sr1.ext e2).same S3, T2.ext S3, hq1.later ((KA.ext e2).trans (KA.same S3)), .inr ⟨xs, S3 _ _ hx, rfl, sh, hr3, ?_⟩⟩
    rcases due with ⟨i, h3, h4⟩ | ⟨xs, ds, h3, h4, h5⟩
    · rw [S3 _ _ hx] at h3
      cases h3
    · exact h5
  have tupd : ∀ (H2 : Hp) ds, ExtN H1 H2 → ansD ws p v b = .tuple ds → ∃ xs, H2 pd = some (.tup xs) := by
    intro H2 ds e2 ea
    rcases hd.ext e2 with ⟨i, h3, h4⟩ | ⟨xs, ds, h3, h4, _⟩
    · rw [ea] at h4
      cases h4
    · exact ⟨xs, h3⟩
  refine ⟨_, rfl, rfl, _, rfl, ?_⟩
  rw [e1]
  cases b with
  | false =>
    refine iteT ⟨T1, fun H2 e2 T2 f1 => ?_⟩
    have sr2 := sr1.ext e2
    refine ⟨_, rfl, a, dx, _, rfl, sr2.ob, rfl, _, rfl, a, dx, t, ws, p, v, rfl, sr2, sv.scl, fun c => ?_, fun k ev c => ⟨fun le => ?_, fun nle => ?_⟩⟩
    · obtain ⟨xs, hx⟩ := tupd H2 _ e2 (ans_bad c)
      refine err_kind (kind_S T) sv.dp sv.sh.1 fun H3 r S3 e3 => ?_
      exact refd H2 H3 _ e2 T2 S3 (by rw [ans_bad c]; exact dp_bad e3) xs _ hx (ans_bad c)
    · subst ev
      obtain ⟨k', e, k0, _⟩ := stB_int c
      cases e
      exact told_ret fun l hl => went H2 (p + k) e2 T2 (by omega) le (ans_on c le) l hl
    · subst ev
      obtain ⟨xs, hx⟩ := tupd H2 _ e2 (ans_onN c nle)
      refine err_exh T fun H3 r S3 e3 => ?_
      exact refd H2 H3 _ e2 T2 S3 (by rw [ans_onN c nle]; exact dp_short e3) xs _ hx (ans_onN c nle)
  | true =>
    refine iteF ⟨T1, fun H2 e2 T2 f1 => ?_⟩
    have sr2 := sr1.ext e2
    refine ⟨_, rfl, a, dx, _, rfl, sr2.ob, rfl, _, rfl, a, dx, t, ws, p, v, rfl, sr2, sv.scl, fun c => ?_, fun k ev c => ⟨fun le => ?_, fun nle => ?_⟩⟩
    · obtain ⟨xs, hx⟩ := tupd H2 _ e2 (ans_bad c)
      refine err_kind (kind_S T) sv.dp sv.sh.1 fun H3 r S3 e3 => ?_
      exact refd H2 H3 _ e2 T2 S3 (by rw [ans_bad c]; exact dp_bad e3) xs _ hx (ans_bad c)
    · subst ev
      obtain ⟨k', e, k0, _⟩ := stB_int c
      cases e
      exact told_ret fun l hl => went H2 (p - k) e2 T2 (by omega) (by omega) (ans_back c le) l hl
    · subst ev
      obtain ⟨xs, hx⟩ := tupd H2 _ e2 (ans_backN c nle)
      refine err_kind (kind_S T) sv.dp sv.sh.1 fun H3 r S3 e3 => ?_
      exact refd H2 H3 _ e2 T2 S3 (by rw [ans_backN c nle]; exact dp_bad e3) xs _ hx (ans_backN c nle)

/-! ### new sources -/
def tC2 (K : PySem.W.Frag) : TS := fun D σ H => ∃ (d a dx t : Addr) (ws : List Int) (p : Int) (v : V) (b : Bool), σ = sgC d a t p (if b = true then 4 else 3) none none none none v ∧ StV v ∧ Src K H a dx t ws p ∧ Tabs (tT K) H ∧ OutA K H a dx t ws D.rt
theorem c2_ok (GW : FnGB P w K mg base 11 (He.ga K "_law_new_right") pN (spNew K)) : PSs (XC P w K mg base f cdv A outer s H0 E) (ifBody (stC 3)) (tC2 K) := by
  obtain ⟨fw, GW, bw, kw⟩ := GW
  refine pss_imp (pss_one (ps_ret (pe_ifExp (pt_val (pe_callG GW hg hr rfl (T.g "_law_new_right" (by decide +kernel)) kw bw .nil pass0 (pa_cons (pv 1) (pa_cons (pv 2) (pa_cons (pv 3) (pa_cons (pv 9) (pa_cons (pe_cmpR op_eq (pv 4) pe_int (nomark _)) pa_nil))))))) (pv 3) pe_non))) ?_
  rintro D σ H ⟨d, a, dx, t, ws, p, v, b, rfl, sv, sr, hT, hq⟩
  have e4 : decide (V.int (if b = true then 4 else 3) = V.int 4) = b := by cases b <;> decide
  refine ⟨_, rfl, _, rfl, _, rfl, _, rfl, _, rfl, rfl, ?_⟩
  rw [e4]
  exact ⟨a, dx, t, ws, p, v, b, rfl, sr, sv, hT, fun H1 e1 T1 => ⟨_, rfl, iteT ⟨_, rfl, hq _ _ (KA.ext e1) (sr.ext e1) T1⟩⟩⟩
end
end L2.Lw

set_option maxHeartbeats 4000000
/-! _law_call_right: set_state; the whole. -/
namespace L2.Lw
open PySem PySem.Spec PyProof.Rows LamX
/-- a place to be set -/
def PlV (n p : Int) (v : V) : Prop := v ∈ [V.int 0, V.int n, V.int p, V.int (n + 1), V.int (-1), V.bl true, V.non]
theorem PlV.facts {n p : Int} {v : V} (h : PlV n p v) (n0 : 0 ≤ n) (n1 : n ≤ 12) (p0 : 0 ≤ p) (p1 : p ≤ 12) : StV v ∧ smD (dOf v) := by
  unfold PlV at h
  simp only [List.mem_cons, List.not_mem_nil, or_false] at h
  rcases h with e | e | e | e | e | e | e
  all_goals first
    | (rw [e]; exact ⟨True.intro, True.intro⟩)
    | (rw [e]; refine ⟨smI_of ?_ ?_, smI_of ?_ ?_⟩ <;> omega)
theorem stD_sh {ws : List Int} {v : V} (ok : OkW ws) (h : smD (dOf v)) : Sh (.tuple [dW ws, dOf v]) ∧ PyData.strOk (PyData.tuple [dW ws, dOf v]).shown = true := by
  have hw : ∀ d ∈ ws.map PyData.int, smD d := fun d hd => by
    obtain ⟨i, hi, rfl⟩ := List.mem_map.mp hd
    have := ok.w i hi
    exact smI_of (by omega) (by omega)
  refine ⟨sh_state hw (by rw [List.length_map]; have := ok.l; omega) h, so_tuple fun d hd => ?_⟩
  rcases List.mem_cons.mp hd with e | hd
  · rw [e]
    exact so_tuple fun x hx => so_sm (hw x hx)
  · have e : d = dOf v := by simpa using hd
    rw [e]
    exact so_sm h
theorem sh_kind {k x : Str} (h1 : PyData.strOk k = true) (h2 : PyData.strOk x = true) : SeqAt.shaped (.tuple [.str k, .str x]) = true := shaped_of (by
  have e : PyData.canLay0 (.tuple [.str k, .str x]) = (PyData.strOk k && (PyData.strOk x && true)) := rfl
  rw [e, h1, h2]
  rfl) (by show 1 ≤ 64; decide)
section
variable {P : Program} {w : World} {K : PySem.W.Frag} {mg : Str → Option Value} {base : Heap} {f : Addr} {fd : FuncData} {cdv : Value} {A : Around} {outer : List Env} {s : Shared} {H0 : Hp} {E : XK} {c1 : Addr}
variable (T : Txt K mg) (M : Fns P w K mg base) (ecd : cdv = .ref c1) (TB : TabB base mg c1 (tbA K "_law_call_right")) (hg : A.guards = some []) (hr : Room 11 (A.deeper (envOfC "_law_call_right" (defScope sCallRight) s.heap.objs.size f cdv)))
include T M ecd TB hg hr
def tC3e (K : PySem.W.Frag) : TS := fun D σ H => ∃ (d a dx t : Addr) (ws : List Int) (p q way : Int) (v r pl : V) (rb : Bool), σ = sgC d a t p way (some r) none (some (.bl rb)) (some pl) v ∧ Src K H a dx t ws q ∧ Tabs (tT K) H ∧ OutA K H a dx t ws D.rt ∧ StV pl ∧ smD (dOf pl) ∧
  (rb = true → pl = .int q ∧ ∃ l, r = .ref l ∧ H l = some (.lst [.non])) ∧ (rb = false → q = p ∧ Dp K H r (.tuple [.str "state", .str (PyData.tuple [dW ws, dOf pl]).shown]))
theorem c3_end : PSs (XC P w K mg base f cdv A outer s H0 E) ((defBody sCallRight).drop 7) (tC3e K) := by
  have zr : mg "repr" = none := T.z "repr" (by decide +kernel)
  have hun := hr.units
  have hun2 : (XC P w K mg base f cdv A outer s H0 E).A.units + 20 < cLine := Nat.lt_of_le_of_lt (Nat.add_le_add_left (by decide : 20 ≤ 64) _) hun
  refine pss_imp (pss_cons (ps_if (pt_val (pv 7)) (pss_one (ps_ret (pe_ifExp (pt_cmpR (op_eqD hun) (pv 5) (pe_lst (pa_cons pe_non pa_nil)) (nomark _)) (pv 8) pe_non))) pss_nil)
    (pss_one (ps_ret (pe_ifExp (pt_cmpR (op_eqD hun) (pv 5) (pe_tup (pa_cons pe_str (pa_cons (pe_callB (call_repr hg hun2) rfl zr bt_repr (pa_cons (pe_tup (pa_cons (pv 2) (pa_cons (pv 8) pa_nil))) pa_nil)) pa_nil))) (nomark _)) (pv 3) pe_non)))) ?_
  rintro D σ H ⟨d, a, dx, t, ws, p, q, way, v, r, pl, rb, rfl, sr, hT, hq, sv, sm, hy, hn⟩
  refine ⟨_, rfl, rb, rfl, ?_⟩
  cases rb with
  | true =>
    obtain ⟨rfl, l, rfl, hl⟩ := hy rfl
    refine iteT ⟨_, rfl, (by show 1 ≤ sizeLine; decide), fun z hz => ?_⟩
    have S := same_new (o := .lst [V.non]) hz
    refine ⟨_, _, dp_ln (S _ _ hl), dp_ln upd_same, sh_ln, sh_ln, _, rfl, ?_⟩
    rw [eqvR sh_ln]
    exact iteT ⟨_, rfl, hq _ _ (KA.same S) (sr.same S) (hT.ext S)⟩
  | false =>
    obtain ⟨rfl, hd⟩ := hn rfl
    obtain ⟨sh1, so1⟩ := stD_sh sr.ok sm
    refine iteF ⟨_, rfl, _, rfl, _, rfl, (by show 2 ≤ sizeLine; decide), fun z hz => ?_⟩
    have S := same_new (o := .tup [V.ref t, pl]) hz
    refine ⟨.ref z, .tuple [dW ws, dOf pl], rfl, .tup (.of upd_same) (.cons (dp_tw (S _ _ sr.tw)) (.cons sv.dp .nil)), sh1, (by show 2 ≤ sizeLine; decide), fun z2 hz2 => ?_⟩
    have S2 := same_new (o := .tup [V.str "state", .str (PyData.tuple [dW ws, dOf pl]).shown]) hz2
    have SS := S.trans S2
    have shk := sh_kind (so_of "state") so1
    refine ⟨_, _, dp_same SS _ r hd, .tup (.of upd_same) (.cons (.str _) (.cons (.str _) .nil)), shk, shk, _, rfl, ?_⟩
    rw [eqvR shk]
    exact iteT ⟨_, rfl, hq _ _ (KA.same SS) (sr.same SS) (hT.ext SS)⟩
def tC3 (K : PySem.W.Frag) : TS := fun D σ H => ∃ (d a dx t : Addr) (ws : List Int) (p way B : Int) (v : V), σ = sgC d a t p way none none none none v ∧ Src K H a dx t ws p ∧ Drw H d B ∧ B ≤ 900000 ∧ Tabs (tT K) H ∧ OutC K H d a dx t ws (B + 4) D.rt
theorem c3_ok : PSs (XC P w K mg base f cdv A outer s H0 E) ((defBody sCallRight).drop 4) (tC3 K) := by
  have zl : mg "len" = none := T.z "len" (by decide +kernel)
  have zi : mg "isinstance" = none := T.z "isinstance" (by decide +kernel)
  have z1 : mg "int" = none := T.z "int" (by decide +kernel)
  have z2 : mg "bool" = none := T.z "bool" (by decide +kernel)
  obtain ⟨fg, GD, bd, kd⟩ := M.digit
  obtain ⟨fs, GS, bs, _⟩ := M.set
  obtain ⟨ft, FT⟩ := M.told
  refine pss_imp (pss_cons (ps_set (i := 8) scCr.nd rfl (Or.inr rfl) (pe_ix ix_list (pe_lst (pa_cons pe_int (pa_cons (pe_callB call_len_seq rfl zl bt_len (pa_cons (pv 2) pa_nil)) (pa_cons (pv 3) (pa_cons (pe_op op_add (pe_callB call_len_seq rfl zl bt_len (pa_cons (pv 2) pa_nil)) pe_int)
        (pa_cons (pe_un un_neg pe_int) (pa_cons pe_bl (pa_cons pe_non pa_nil))))))))
      (pe_call GD (hr.mono (by decide)) rfl (T.g "_law_digit" (by decide +kernel)) kd bd .nil pass0 (pa_cons (pv 0) (pa_cons pe_int pa_nil))) (fun _ _ => rfl)))
    (pss_cons (ps_set (i := 7) scCr.nd rfl (Or.inl rfl) (pe_and (pe_callB call_isi rfl zi bt_isinstance (pa_cons (pv 8) (pa_cons (pe_bltn rfl z1 bt_int (v := .ty "int") rfl) pa_nil)))
      (pe_and (pe_not (pe_callB call_isi rfl zi bt_isinstance (pa_cons (pv 8) (pa_cons (pe_bltn rfl z2 bt_bool (v := .ty "bool") rfl) pa_nil))))
      (pe_one (pe_chain op_le op_le pe_int (pv 8) (pe_callB call_len_seq rfl zl bt_len (pa_cons (pv 2) pa_nil)))))))
    (pss_cons (ps_set (i := 5) scCr.nd rfl (Or.inl rfl) (pe_told FT T rfl rfl hg (hr.mono (by decide)) (plam_0 (k := 8) TB ecd hmC (huC T) (lamL_by (show lamLB cN (defScope sCallRight) _ = true by decide +kernel)) rfl (fun _ _ _ _ _ => rfl) (fun A outer s H E f c' hr2 =>
        pe_meth (pv 1) T.cl (T.me "set_state" (by decide +kernel)) GS (hr2.mono (by decide)) bs .nil (L2N.passes_call (L2N.takes_of rfl rfl rfl rfl) fun _ _ _ _ h => h) (pa_cons (pe_tup (pa_cons (pv 2) (pa_cons (pv 8) pa_nil))) pa_nil)))))
    (c3_end T M ecd TB hg hr)))) ?_
  rintro D σ H ⟨d, a, dx, t, ws, p, way, B, v, rfl, sr, hd, hB, hT, hq⟩
  have el : ((ws.map V.int).length : Int) = ws.length := by simp
  have hp0 := sr.p0
  have hp1 := sr.p1
  have hl := sr.ok.l
  refine ⟨_, rfl, t, _, rfl, .inr (.of sr.tw), _, rfl, _, rfl, t, _, rfl, .inr (.of sr.tw), ?_⟩
  rw [el]
  refine ⟨_, _, rfl, rfl, _, rfl, (by show 7 ≤ sizeLine; decide), fun q hqn => ?_⟩
  have S1 := same_new (o := .lst [V.int 0, V.int ws.length, V.int p, V.int (ws.length + 1), V.int (-1), V.bl true, V.non]) hqn
  have hd1 : Drw (upd H q (.lst [V.int 0, V.int ws.length, V.int p, V.int (ws.length + 1), V.int (-1), V.bl true, V.non])) d B := hd.ka (sr.nd hd) (KA.same S1)
  have nqd : q ≠ d := by
    obtain ⟨l, c, u, e, _⟩ := hd
    exact (ne_of_none e hqn).symm
  refine ⟨_, rfl, d, 7, B, rfl, hd1, hB, by decide, by decide, fun H2 j b2 d2 j0 j1 => ?_⟩
  obtain ⟨pl, hpl, hm⟩ := at_some (xs := [V.int 0, V.int ws.length, V.int p, V.int (ws.length + 1), V.int (-1), V.bl true, V.non]) j0 (by show j < 7; exact j1)
  refine ⟨q, _, j, pl, rfl, rfl, .of (b2 _ _ nqd upd_same), hpl, ?_⟩
  obtain ⟨sv, sm⟩ := PlV.facts (n := ws.length) (p := p) hm (by omega) (by omega) hp0 (by omega)
  have sr2 : Src K H2 a dx t ws p := (sr.same S1).but hd1 b2
  have T2 : Tabs (tT K) H2 := tabs_but (hT.ext S1) hd1 b2
  have hq2 : OutA K H2 a dx t ws D.rt := (hq.later ((KA.same S1).kad.trans b2.kad)).a d2 (sr2.nd d2) (Int.le_refl _)
  -- behind the third statement's value
  have rest : ∀ rb : Bool, (rb = true → ∃ i, pl = .int i ∧ 0 ≤ i ∧ i ≤ ws.length) → (rb = false → plB ws.length pl = false) →
      tSeq (tAsg (fun σ H Q => tLm (tT K) (fun E => tMeth (aC K) "set_state" (spSet K) [] E (tVar 1) (tCons (tTup (tCons (tVar 2) (tCons (tVar 8) tNil))) tNil)) σ H fun tl H1 => TTold K tl H1 Q) (gName 5)) (tC3e K) D (sgC d a t p way none none (some (.bl rb)) (some pl) v) H2 := by
    intro rb hy hn
    refine ⟨T2, fun H3 e3 T3 f1 => ?_⟩
    have sr3 := sr2.ext e3
    refine ⟨_, rfl, a, dx, _, rfl, sr3.ob, rfl, _, rfl, _, rfl, (by show 2 ≤ sizeLine; decide), fun s0 hs0 => ?_⟩
    have S4 := same_new (o := .tup [V.ref t, pl]) hs0
    have sr4 := sr3.same S4
    have T4 := T3.ext S4
    have hq4 := (hq2.later (KA.ext e3)).later (KA.same S4)
    cases rb with
    | true =>
      obtain ⟨i, rfl, i0, i1⟩ := hy rfl
      refine ⟨a, dx, t, s0, ws, p, .int i, rfl, sr4, upd_same, True.intro, fun i' e h0 h1 H5 S5 => ?_, fun c => ?_⟩
      · cases e
        refine told_ret fun l hl => ?_
        have sr5 := sr4.same S5
        have S6 := same_new (o := .lst [V.non]) hl
        exact ⟨d, a, dx, t, ws, p, i, way, v, .ref l, .int i, true, rfl, (sr5.move h0 h1).same S6, (tabs_ins (T4.ext S5) sr5.ob).ext S6, hq4.later ((KA.same S5).trans (KA.put.trans (KA.same S6))), sv, sm, fun _ => ⟨rfl, l, rfl, upd_same⟩, fun z => Bool.noConfusion z⟩
      · have : plB ws.length (.int i) = true := by simp [plB, i0, i1]
        rw [this] at c
        cases c
    | false =>
      have hn2 := hn rfl
      obtain ⟨sh1, so1⟩ := stD_sh sr.ok sm
      refine ⟨a, dx, t, s0, ws, p, pl, rfl, sr4, upd_same, sv.scl, fun i e h0 h1 => ?_, fun _ => ?_⟩
      · subst e
        have : plB ws.length (.int i) = true := by simp [plB, h0, h1]
        rw [this] at hn2
        cases hn2
      · refine err_kind (kind_T T) (.tup (.of upd_same) (.cons (dp_tw (S4 _ _ sr3.tw)) (.cons sv.dp .nil))) sh1 fun H5 r S5 e5 => ?_
        exact ⟨d, a, dx, t, ws, p, p, way, v, .ref r, pl, false, rfl, sr4.same S5, T4.ext S5, hq4.later (KA.same S5), sv, sm, fun z => Bool.noConfusion z, fun _ => ⟨rfl, .tup (.of e5) (.cons (.str _) (.cons (.str _) .nil))⟩⟩
  refine ⟨_, rfl, pl, .ty "int", .type (tyS pl), .type "int", isIB pl, rfl, .ty "int", ty_scl sv.scl, kit_int sv.scl, _, rfl, ?_⟩
  cases pl with
  | int i =>
    refine iteT ⟨_, rfl, .int i, .ty "bool", .type "int", .type "bool", false, rfl, .ty "bool", ty_scl sv.scl, kit_bool sv.scl, _, rfl, _, rfl, iteT ?_⟩
    refine ⟨_, rfl, _, _, rfl, rfl, _, rfl, ?_⟩
    by_cases h0 : 0 ≤ i
    · rw [decide_eq_true h0]
      refine iteT ⟨_, rfl, t, _, rfl, .inr (.of sr2.tw), ?_⟩
      rw [el]
      refine ⟨_, _, rfl, rfl, ?_⟩
      exact rest (decide (i ≤ ws.length)) (fun z => ⟨i, rfl, h0, of_decide_eq_true z⟩) (fun z => by simp [plB, of_decide_eq_false z])
    · rw [decide_eq_false h0]
      exact iteF (rest false (fun z => Bool.noConfusion z) (fun _ => by simp [plB, h0]))
  | bl b => exact iteT ⟨_, rfl, .bl b, .ty "bool", .type "bool", .type "bool", true, rfl, .ty "bool", ty_scl sv.scl, kit_bool sv.scl, _, rfl, _, rfl, iteF (rest false (fun z => Bool.noConfusion z) (fun _ => rfl))⟩
  | non => exact iteF (rest false (fun z => Bool.noConfusion z) (fun _ => rfl))
  | str x => exact iteF (rest false (fun z => Bool.noConfusion z) (fun _ => rfl))
  | _ => exact sv.elim
end
def spCall (K : PySem.W.Frag) : Sp := fun vs H Q _ => ∃ (d a dx t : Addr) (ws : List Int) (p B : Int), vs = [.ref d, .ref a, .ref t, .int p] ∧ Src K H a dx t ws p ∧ Drw H d B ∧ B ≤ 800000 ∧ Tabs (tT K) H ∧ OutC K H d a dx t ws (B + 12) Q
theorem ok_callRight {P : Program} {w : World} {K : PySem.W.Frag} {mg : Str → Option Value} {base : Heap} {f : Addr} {fd : FuncData} (F : FnF K "_law_call_right" "_law_call_right" sCallRight f fd) (T : Txt K mg) (M : Fns P w K mg base) {c1 : Addr} (hc : fd.code = .ref c1)
    (TB : TabB base mg c1 (tbA K "_law_call_right")) (GW : FnGB P w K mg base 11 (He.ga K "_law_new_right") pN (spNew K)) : FnGB P w K mg base 12 f pC (spCall K) := by
  have zl : mg "len" = none := T.z "len" (by decide +kernel)
  obtain ⟨fg, GD, bd, kd⟩ := M.digit
  obtain ⟨fs, GS, bs, ks⟩ := M.steps
  have bF : Binds K fd pC [] := F.bindsN fun _ _ _ _ _ _ us hl => match us, hl with | [_, _, _, _], _ => rfl
  refine ⟨fd, FunD.okG F scCr (fun vs H Q E h => ?_) (fun cdv A outer s H vs Q E ec hg hr h => ?_), bF, F.kp⟩
  · obtain ⟨d, a, dx, t, ws, p, B, rfl, _⟩ := h
    rfl
  · obtain ⟨d, a, dx, t, ws, p, B, rfl, sr, hd, hB, hT, hq⟩ := h
    have ecd : cdv = .ref c1 := ec.symm.trans hc
    refine ⟨_, PSs.nox (pss_cons (ps_asg (pe_tup (pa_cons (pe_call GD (hr.mono (by decide)) rfl (T.g "_law_digit" (by decide +kernel)) kd bd .nil pass0 (pa_cons (pv 0) (pa_cons pe_int pa_nil)))
        (pa_cons (pe_call GS (hr.mono (by decide)) rfl (T.g "_law_steps" (by decide +kernel)) ks bs .nil pass0 (pa_cons (pv 0) (pa_cons (pv 3) (pa_cons (pe_callB call_len_seq rfl zl bt_len (pa_cons (pv 2) pa_nil)) pa_nil)))) pa_nil)))
        (pg_tup rfl (pgs_cons (pg_name (i := 4) scCr.nd rfl (Or.inl rfl)) (pgs_cons (pg_name (i := 9) scCr.nd rfl (Or.inr rfl)) pgs_nil))))
      (pss_cons (ps_if (pt_cmpR op_eq (pv 4) pe_int (nomark _)) (c0_ok T M ecd TB hg hr) pss_nil)
      (pss_cons (ps_if (pt_cmpR op_lt (pv 4) pe_int (nomark _)) (c1_ok T M ecd TB hg hr) pss_nil)
      (pss_cons (ps_if (pt_cmpR op_lt (pv 4) pe_int (nomark _)) (c2_ok T M ecd TB hg hr GW) pss_nil)
      (c3_ok T M ecd TB hg hr))))), ?_⟩
    have el : ((ws.map V.int).length : Int) = ws.length := by simp
    have hp0 := sr.p0
    have hp1 := sr.p1
    have hl := sr.ok.l
    refine ⟨_, rfl, d, 7, B, rfl, hd, by omega, by decide, by decide, fun H1 way b1 d1 w0 w1 => ?_⟩
    have sr1 := sr.but hd b1
    have T1 := tabs_but hT hd b1
    refine ⟨_, rfl, _, rfl, _, rfl, t, _, rfl, .inr (.of sr1.tw), ?_⟩
    rw [el]
    refine ⟨d, p, ws.length, B + 4, rfl, d1, by omega, hp0, by omega, by omega, by omega, fun H2 v sv b2 d2 => ?_⟩
    have sr2 := sr1.but d1 b2
    have T2 := tabs_but T1 d1 b2
    refine ⟨(by show 2 ≤ sizeLine; decide), fun q hqn => ?_⟩
    have S3 := same_new (o := .tup [V.int way, v]) hqn
    have sr3 := sr2.same S3
    have T3 := T2.ext S3
    have d3 : Drw (upd H2 q (.tup [V.int way, v])) d (B + 8) := Drw.mono (d2.ka (sr2.nd d2) (KA.same S3)) (by omega)
    have hq3 := hq.later ((b1.kad.trans b2.kad).trans (KA.same S3).kad)
    have hqa : OutA K _ a dx t ws Q := hq3.a d3 (sr3.nd d3) (by omega)
    refine ⟨q, _, rfl, .of upd_same, rfl, _, _, rfl, _, _, rfl, rfl, ?_⟩
    have eq0 : decide (V.int way = V.int 0) = decide (way = 0) := by
      by_cases z : way = 0
      · rw [decide_eq_true z, z, decide_eq_true rfl]
      · rw [decide_eq_false z, decide_eq_false (fun y => z (V.int.inj y))]
    refine ⟨_, rfl, rfl, _, rfl, ?_⟩
    rw [eq0]
    by_cases z0 : way = 0
    · rw [decide_eq_true z0]
      exact iteT ⟨d, a, dx, t, ws, p, way, v, rfl, sr3, T3, hqa⟩
    rw [decide_eq_false z0]
    refine iteF ⟨_, rfl, _, _, rfl, rfl, _, rfl, ?_⟩
    by_cases z3 : way < 3
    · rw [decide_eq_true z3]
      have e : way = (if decide (way = 2) = true then 2 else 1) := by
        by_cases y : way = 2
        · rw [decide_eq_true y, if_pos rfl]
          exact y
        · rw [decide_eq_false y, if_neg Bool.false_ne_true]
          omega
      exact iteT ⟨d, a, dx, t, ws, p, v, decide (way = 2), by rw [← e]; rfl, sv, sr3, T3, hqa⟩
    rw [decide_eq_false z3]
    refine iteF ⟨_, rfl, _, _, rfl, rfl, _, rfl, ?_⟩
    by_cases z5 : way < 5
    · rw [decide_eq_true z5]
      have e : way = (if decide (way = 4) = true then 4 else 3) := by
        by_cases y : way = 4
        · rw [decide_eq_true y, if_pos rfl]
          exact y
        · rw [decide_eq_false y, if_neg Bool.false_ne_true]
          omega
      exact iteT ⟨d, a, dx, t, ws, p, v, decide (way = 4), by rw [← e]; rfl, sv, sr3, T3, hqa⟩
    rw [decide_eq_false z5]
    refine iteF ⟨d, a, dx, t, ws, p, way, B + 8, v, rfl, sr3, d3, by omega, T3, ?_⟩
    have eB : B + 8 + 4 = B + 12 := by omega
    rw [eB]
    exact hq3
end L2.Lw

set_option maxHeartbeats 4000000
/-! law. -/
namespace L2.Lw
open PySem PySem.Spec PyProof.Rows LamX
abbrev lN : List Str := ["_law_script", "_law_k", "_law_cell", "_law_draw_here", "_law_words", "_law_here", "_law_source", "_law_twin", "_law_turn", "_law_j"]
theorem scLa : FnScope lN ["_law_script"] (defScope sLaw) := ⟨rfl, rfl, rfl, by decide +kernel, rfl, by decide +kernel, by decide +kernel⟩
abbrev sgL (o0 o1 o2 : Option V) (d t : Addr) (p : Int) (a a2 : Addr) (o8 : Option V) : St := [o0, o1, o2, some (.ref d), some (.ref t), some (.int p), some (.ref a), some (.ref a2), o8, none]
abbrev forBody (st : Stmt) : List Stmt := match st with
  | .For _ _ b _ _ => b
  | _ => []
abbrev outB : List Stmt := forBody ((defBody sLaw).getD 1 (.Pass ⟨0, 0, 0, 0⟩))
abbrev inB : List Stmt := forBody (outB.getD 4 (.Pass ⟨0, 0, 0, 0⟩))
/-- the two sources and the draw -/
structure LSt (K : PySem.W.Frag) (H : Hp) (d a dx a2 dx2 t : Addr) (ws : List Int) (p p0 B : Int) : Prop where
  sr : Src K H a dx t ws p
  tw : Src K H a2 dx2 t ws p0
  ne : a2 ≠ a
  dr : Drw H d B
  tb : Tabs (tT K) H
theorem LSt.same {K : PySem.W.Frag} {H H' : Hp} {d a dx a2 dx2 t : Addr} {ws : List Int} {p p0 B : Int} (h : LSt K H d a dx a2 dx2 t ws p p0 B) (S : Same H H') : LSt K H' d a dx a2 dx2 t ws p p0 B :=
  ⟨h.sr.same S, h.tw.same S, h.ne, h.dr.ka (h.sr.nd h.dr) (KA.same S), h.tb.ext S⟩
theorem LSt.ext {K : PySem.W.Frag} {H H' : Hp} {d a dx a2 dx2 t : Addr} {ws : List Int} {p p0 B : Int} (h : LSt K H d a dx a2 dx2 t ws p p0 B) (e : ExtN H H') (T : Tabs (tT K) H') : LSt K H' d a dx a2 dx2 t ws p p0 B :=
  ⟨h.sr.ext e, h.tw.ext e, h.ne, h.dr.ka (h.sr.nd h.dr) (KA.ext e), T⟩
theorem cut_from {ws : List Int} {p : Int} (h0 : 0 ≤ p) : cutV (ws.map V.int) (some p) none = (ws.drop p.toNat).map V.int := by
  have e : p = ((p.toNat : Nat) : Int) := by omega
  rw [e]
  unfold cutV
  rw [HT.sIx_nat, HT.sIx_none, Int.toNat_natCast, ← List.map_drop, ← List.map_take]
  congr 1
  rw [List.length_map]
  by_cases c : p.toNat ≤ ws.length
  · rw [Nat.min_eq_left c]
    exact List.take_of_length_le (by rw [List.length_drop]; exact Nat.le_refl _)
  · rw [Nat.min_eq_right (by omega), List.drop_length, List.drop_eq_nil_of_le (by omega)]
    simp
theorem cut_all {ws : List Int} {p : Int} (h0 : 0 ≤ p) (h : HT.sIx (ws.map V.int).length 0 (some p) = 0) : (ws.drop p.toNat).map V.int = ws.map V.int := by
  have e : p = ((p.toNat : Nat) : Int) := by omega
  rw [e, HT.sIx_nat, List.length_map] at h
  by_cases c : p.toNat ≤ ws.length
  · rw [Nat.min_eq_left c] at h
    rw [h]
    rfl
  · rw [Nat.min_eq_right (by omega)] at h
    have : ws = [] := List.length_eq_zero_iff.mp h
    rw [this]
    simp
theorem sh_ints (ws : List Int) : SeqAt.shaped (.list (ws.map PyData.int)) = true := shaped_of (cl_ints ws) (by
  show PyData.depthAll (ws.map PyData.int) + 1 ≤ 64
  rw [dp_ints]
  decide)
theorem yes_of {σ : St} {H : Hp} {A B : Hp → Prop} (h : A H) : tYes σ H fun b H3 => if b = true then A H3 else B H3 := by
  unfold tYes
  exact iteT h
theorem made2 {K : PySem.W.Frag} {H : Hp} {t : Addr} {ws : List Int} {q : Int} {R : Addr → VK} {E : XK} (ht : Tw H t ws) (ok : OkW ws) (h0 : 0 ≤ q) (h1 : q ≤ ws.length) (hq : ∀ H' x dx, H x = none → Same H H' → H' x = some (.ins (aC K) dx (fl t q)) → R x .non H') :
    ∀ x dx, H x = none → H dx = none → dx ≠ x → spInit K (.ref x :: ([V.ref t, V.int q] ++ [])) (upd (upd H dx (.own x)) x (.ins (aC K) dx [])) (R x) E := by
  intro x dx nx nd ne
  refine ⟨x, dx, t, ws, q, rfl, upd_same, ?_, ok, h0, h1, fun H2 S2 => hq _ x dx nx (fun b o e => ?_) upd_same⟩
  · show upd _ x _ t = _
    rw [upd_ne (ne_of_none ht nx), upd_ne (ne_of_none ht nd)]
    exact ht
  · show upd H2 x _ b = _
    rw [upd_ne (ne_of_none e nx)]
    exact S2 b o (by rw [upd_ne (ne_of_none e nx), upd_ne (ne_of_none e nd)]; exact e)
theorem dp_state {K : PySem.W.Frag} {H : Hp} {s t : Addr} {ws : List Int} {i : Int} (h : H s = some (.tup [.ref t, .int i])) (ht : Tw H t ws) : Dp K H (.ref s) (.tuple [dW ws, .int i]) := dp_st h ht
theorem eqv_st (ws : List Int) (i j : Int) : PyData.eqv (.tuple [dW ws, .int i]) (.tuple [dW ws, .int j]) = decide (i = j) := by
  have e : PyData.eqv (.tuple [dW ws, .int i]) (.tuple [dW ws, .int j]) = (PyData.eqv (dW ws) (dW ws) && (PyData.eqv (.int i) (.int j) && true)) := rfl
  have e2 : PyData.eqv (.int i) (.int j) = (i == j) := rfl
  rw [e, e2, eqvR (dW_sh ws), Bool.true_and, Bool.and_true]
  rfl
theorem sh_stI (ws : List Int) (i : Int) : SeqAt.shaped (.tuple [dW ws, .int i]) = true := shaped_of (by
  have e : PyData.canLay0 (.tuple [dW ws, .int i]) = ((dW ws).canLay0 && true) := rfl
  rw [e, dW_cl]
  rfl) (by
  have e : PyData.depth (.tuple [dW ws, .int i]) = max (dW ws).depth (max 0 0) + 1 := rfl
  rw [e, dW_dp]
  decide)
section
variable {P : Program} {w : World} {K : PySem.W.Frag} {mg : Str → Option Value} {base : Heap} {f : Addr} {fd : FuncData} {cdv : Value} {A : Around} {outer : List Env} {s : Shared} {H0 : Hp} {E : XK} {c1 : Addr}
abbrev XL (P : Program) (w : World) (K : PySem.W.Frag) (mg : Str → Option Value) (base : Heap) (f : Addr) (cdv : Value) (A : Around) (outer : List Env) (s : Shared) (H0 : Hp) (E : XK) : Cx := (cxOf CX0 P w K mg base lN "law" (defScope sLaw) f cdv A outer s H0 E).nox
theorem huL {K : PySem.W.Frag} {mg : Str → Option Value} (T : Txt K mg) : ∀ q ∈ tT K, q.1 = tbA K "law" → q.2 = lq "law" := by
  intro q hq e
  simp only [List.mem_cons, List.not_mem_nil, or_false] at hq
  rcases hq with z | z | z
  · rw [z] at e
    exact absurd e T.d13
  · rw [z] at e
    exact absurd e T.d23
  · rw [z]
theorem hmL : (tbA K "law", lq "law") ∈ tT K := List.mem_cons_of_mem _ (List.mem_cons_of_mem _ List.mem_cons_self)

variable (T : Txt K mg) (M : Fns P w K mg base) (hg : A.guards = some []) (hr : Room 13 (A.deeper (envOfC "law" (defScope sLaw) s.heap.objs.size f cdv)))
include T M hg hr

/-! ### one turn -/
def tTurn (K : PySem.W.Frag) : TS := fun D σ H => ∃ (o0 o1 o2 o8 : Option V) (d a dx a2 dx2 t : Addr) (ws : List Int) (p p0 B : Int), σ = sgL o0 o1 o2 d t p a a2 o8 ∧ LSt K H d a dx a2 dx2 t ws p p0 B ∧ B ≤ 800000 ∧
  ∀ H' p', KAD a d H H' → LSt K H' d a dx a2 dx2 t ws p' p0 (B + 12) → D.nx (sgL o0 o1 o2 d t p' a a2 o8) H'
theorem turn_ok (GC : FnGB P w K mg base 12 (He.ga K "_law_call_right") pC (spCall K)) : PSs (XL P w K mg base f cdv A outer s H0 E) inB (tTurn K) := by
  have zl : mg "len" = none := T.z "len" (by decide +kernel)
  have zr : mg "repr" = none := T.z "repr" (by decide +kernel)
  obtain ⟨fc, GC, bc, kc⟩ := GC
  obtain ⟨fs, GS, bs, _⟩ := M.state
  obtain ⟨fl, GL, bl, _⟩ := M.left
  obtain ⟨fm, GM, bm, _⟩ := M.same
  obtain ⟨fi, GI, bi, _⟩ := M.init
  have hun := hr.units
  refine pss_imp (pss_cons (ps_set (i := 5) scLa.nd rfl (Or.inl rfl) (pe_callG GC hg (hr.mono (by decide)) rfl (T.g "_law_call_right" (by decide +kernel)) kc bc .nil pass0 (pa_cons (pv 3) (pa_cons (pv 6) (pa_cons (pv 4) (pa_cons (pv 5) pa_nil))))))
    (pss_cons (ps_if (PW.pt (pw_or (pt_cmpR op_isN (pv 5) pe_non (nomark _)) (pw_or (pt_cmpR (op_neD hun) (pe_prop (pv 6) T.cl T.pSt GS (hr.mono (by decide)) bs .nil pass0 rfl) (pe_tup (pa_cons (pv 4) (pa_cons (pv 5) pa_nil))) (nomark _))
        (pw_or1 (pt_cmpR op_ne (pe_prop (pv 6) T.cl T.pLe GL (hr.mono (by decide)) bl .nil pass0 rfl) (pe_op op_sub (pe_callB call_len_seq rfl zl bt_len (pa_cons (pv 4) pa_nil)) (pv 5)) (nomark _)))))) (pss_one (ps_ret pe_bl)) pss_nil)
    (pss_one (ps_if (PW.pt (pw_or (pt_cmpR op_ne (pe_callB call_reprS rfl zr bt_repr (pa_cons (pe_meth (pv 6) T.cl (T.me "same_state" (by decide +kernel)) GM (hr.mono (by decide)) bm .nil pass0 (pa_cons
          (pe_make T.mkC GI (hr.mono (by decide)) rfl (T.g "Scripted" (by decide +kernel)) bi .nil pass0 (pa_cons (pv 4) (pa_cons (pv 5) pa_nil))) pa_nil)) pa_nil)) pe_str (nomark _))
        (pw_or1 (pt_val (pe_meth (pv 6) T.cl (T.me "same_state" (by decide +kernel)) GM (hr.mono (by decide)) bm .nil pass0 (pa_cons (pe_tup (pa_cons (pv 4) (pa_cons (pv 5) pa_nil))) pa_nil)))))) (pss_one (ps_ret pe_bl)) pss_nil)))) ?_
  rintro D σ H ⟨o0, o1, o2, o8, d, a, dx, a2, dx2, t, ws, p, p0, B, rfl, ls, hB, hq⟩
  refine ⟨_, rfl, _, rfl, _, rfl, _, rfl, d, a, dx, t, ws, p, B, rfl, ls.sr, ls.dr, hB, ls.tb, fun H1 p1 k1 sr1 d1 T1 => ?_⟩
  have e12 : ∀ {b o}, b = a2 → H b = some o → (∀ ps, o ≠ .tbl ps) → H1 b = some o := fun {b o} e eb n => k1 b o (by rw [e]; exact ls.ne) (by
    obtain ⟨l, c, u, ed, _⟩ := ls.dr
    rw [e]
    exact ne_of ls.tw.ob ed (by intro z; cases z)) eb n
  have ls1 : LSt K H1 d a dx a2 dx2 t ws p1 p0 (B + 12) := ⟨sr1, ⟨e12 rfl ls.tw.ob (fun _ z => by cases z), sr1.tw, ls.tw.ok, ls.tw.p0, ls.tw.p1⟩, ls.ne, d1, T1⟩
  refine ⟨_, rfl, rfl, _, rfl, ?_⟩
  have en : decide (V.int p1 = V.non) = false := decide_eq_false (by intro z; cases z)
  rw [en]
  refine iteF ?_
  -- state
  refine ⟨_, rfl, a, dx, _, rfl, ls1.sr.ob, a, dx, t, ws, p1, rfl, ls1.sr, fun s1 hs1 => ?_⟩
  have S1 := same_new (o := .tup [V.ref t, .int p1]) hs1
  refine ⟨_, rfl, _, rfl, (by show 2 ≤ sizeLine; decide), fun s2 hs2 => ?_⟩
  have S2 := same_new (o := .tup [V.ref t, .int p1]) hs2
  have ls2 := (ls1.same S1).same S2
  have shd := sh_stI ws p1
  refine ⟨.tuple [dW ws, .int p1], .tuple [dW ws, .int p1], dp_state (S2 _ _ upd_same) ls2.sr.tw, dp_state upd_same ls2.sr.tw, shd, shd, _, rfl, ?_⟩
  rw [eqvR shd]
  refine iteF ?_
  -- left
  refine ⟨_, rfl, a, dx, _, rfl, ls2.sr.ob, a, dx, t, ws, p1, rfl, ls2.sr, ?_⟩
  refine ⟨_, rfl, t, _, rfl, .inr (.of ls2.sr.tw), _, rfl, _, _, rfl, rfl, ?_⟩
  have el : ((ws.map V.int).length : Int) = ws.length := by simp
  rw [el]
  refine ⟨rfl, _, rfl, ?_⟩
  rw [decide_eq_true rfl]
  refine iteF ?_
  -- the same state
  refine ⟨_, rfl, a, dx, _, rfl, ls2.sr.ob, rfl, _, rfl, _, rfl, ?_⟩
  refine made2 (K := K) (E := E0) ls2.sr.tw ls2.sr.ok ls2.sr.p0 ls2.sr.p1 fun H3 x dx3 _ S3 e3 => ⟨rfl, ?_⟩
  have ls3 := ls2.same S3
  refine ⟨a, dx, t, x, ws, p1, rfl, ls3.sr, .inl ⟨dx3, p1, ⟨e3, ls3.sr.tw, ls3.sr.ok, ls3.sr.p0, ls3.sr.p1⟩, ?_⟩⟩
  rw [decide_eq_true rfl]
  refine ⟨.bl true, .bool true, rfl, (fun _ z => by cases z), .bl true, sh_sm (d := .bool true) True.intro, rfl, _, rfl, ?_⟩
  have es : (PyData.bool true).shown = ("True" : Str) := by
    simp only [PyData.shown]
    rfl
  rw [es, decide_eq_true rfl]
  refine iteF ⟨_, rfl, a, dx, _, rfl, ls3.sr.ob, rfl, _, rfl, _, rfl, (by show 2 ≤ sizeLine; decide), fun s4 hs4 => ?_⟩
  have S4 := same_new (o := .tup [V.ref t, .int p1]) hs4
  have ls4 := ls3.same S4
  refine ⟨a, dx, t, s4, ws, p1, rfl, ls4.sr, .inr ⟨_, upd_same, _, rfl, iteF ?_⟩⟩
  exact hq _ p1 (k1.trans (KA.same (((S1.trans S2).trans S3).trans S4)).kad) ls4
/-! ### behind the turns -/
variable (ecd : cdv = .ref c1) (TB : TabB base mg c1 (tbA K "law"))
include ecd TB
def tFin (K : PySem.W.Frag) : TS := fun D σ H => ∃ (o0 o1 o2 o8 : Option V) (d a dx a2 dx2 t : Addr) (ws : List Int) (p p0 B : Int), σ = sgL o0 o1 o2 d t p a a2 o8 ∧ LSt K H d a dx a2 dx2 t ws p p0 B ∧
  ∀ H', ExtN H H' → Tabs (tT K) H' → D.nx σ H'
theorem fin_ok : PSs (XL P w K mg base f cdv A outer s H0 E) (outB.drop 5) (tFin K) := by
  have zL : mg "list" = none := T.z "list" (by decide +kernel)
  obtain ⟨fs, GS, bs, _⟩ := M.state
  obtain ⟨fl, GL, bl, _⟩ := M.left
  obtain ⟨fm, GM, bm, _⟩ := M.same
  obtain ⟨fp, GP, bp, _⟩ := M.copy
  obtain ⟨fe, GE, be, ke⟩ := M.seeded
  obtain ⟨fw, GW, bw, _⟩ := M.words
  obtain ⟨ft, FT⟩ := M.told
  have hun := hr.units
  refine pss_imp (pss_cons (ps_if (PW.pt (pw_or (pt_cmpR op_ne (pe_meth (pv 7) T.cl (T.me "same_state" (by decide +kernel)) GM (hr.mono (by decide)) bm .nil pass0 (pa_cons (pv 6) pa_nil))
        (pe_cmpR (op_eqD hun) (pe_prop (pv 7) T.cl T.pSt GS (hr.mono (by decide)) bs .nil pass0 rfl) (pe_prop (pv 6) T.cl T.pSt GS (hr.mono (by decide)) bs .nil pass0 rfl) (nomark _)) (nomark _))
      (pw_or1 (pt_not (pt_val (pe_meth (pe_meth0 (pv 6) T.cl (T.me "copy" (by decide +kernel)) GP (hr.mono (by decide)) bp .nil pass0) T.cl (T.me "same_state" (by decide +kernel)) GM (hr.mono (by decide)) bm .nil pass0 (pa_cons (pv 6) pa_nil))))))) (pss_one (ps_ret pe_bl)) pss_nil)
    (pss_cons (ps_if (pt_cmpR (op_neD hun) (pe_told FT T rfl rfl hg (hr.mono (by decide)) (plam_0 (k := 8) TB ecd hmL (huL T) (lamL_by (show lamLB lN (defScope sLaw) _ = true by decide +kernel)) rfl (fun _ _ _ _ _ => rfl) (fun A outer s H E f c' hr2 =>
        ClX.pe_cmeth (pe_glob (v := .ref (aC K)) rfl (T.g "Scripted" (by decide +kernel)) rfl) T.cr T.cSd (fnR0 GE be) (hr2.mono (by decide)) (L2N.passes_call (L2N.takes_of rfl rfl rfl rfl) fun _ _ _ _ h => h) (pa_cons pe_int pa_nil))))
      (pe_tup (pa_cons pe_str (pa_cons pe_str pa_nil))) (nomark _)) (pss_one (ps_ret pe_bl)) pss_nil)
    (pss_one (ps_if (pt_cmpR (op_neD hun) (pe_listG (E := E0) (pgen_meth (pe_meth0 (pv 6) T.cl (T.me "copy" (by decide +kernel)) GP (hr.mono (by decide)) bp .nil pass0) T.cl (T.me "words" (by decide +kernel)) GW (hr.mono (by decide)) bw .nil
          (pa_cons (pe_prop (pv 6) T.cl T.pLe GL (hr.mono (by decide)) bl .nil pass0 rfl) pa_nil)) (fun _ _ _ _ _ _ _ c => by obtain ⟨_, _, _, _, _, _, _, _, _, _, _, _, z⟩ := c; exact z.elim) (fun _ _ _ z => z.elim) (hr.mono (by decide)) rfl zL boot_list)
        (pe_callTy call_list_of rfl zL boot_list (pa_cons (pe_slice sl_tupA (pv 4) (po_some (pv 5)) po_none) pa_nil)) (nomark _)) (pss_one (ps_ret pe_bl)) pss_nil)))) ?_
  rintro D σ H ⟨o0, o1, o2, o8, d, a, dx, a2, dx2, t, ws, p, p0, B, rfl, ls, hq⟩
  refine ⟨_, rfl, a2, dx2, _, rfl, ls.tw.ob, rfl, _, rfl, a2, dx2, t, a, ws, p0, rfl, ls.tw, .inl ⟨dx, p, ls.sr, ?_⟩⟩
  refine ⟨_, rfl, a2, dx2, _, rfl, ls.tw.ob, a2, dx2, t, ws, p0, rfl, ls.tw, fun s1 hs1 => ?_⟩
  have S1 := same_new (o := .tup [V.ref t, .int p0]) hs1
  have ls1 := ls.same S1
  refine ⟨_, rfl, a, dx, _, rfl, ls1.sr.ob, a, dx, t, ws, p, rfl, ls1.sr, fun s2 hs2 => ?_⟩
  have S2 := same_new (o := .tup [V.ref t, .int p]) hs2
  have ls2 := ls1.same S2
  refine ⟨_, _, dp_state (S2 _ _ upd_same) ls2.sr.tw, dp_state upd_same ls2.sr.tw, sh_stI ws p0, sh_stI ws p, ?_⟩
  rw [eqv_st]
  refine ⟨rfl, _, rfl, ?_⟩
  rw [decide_eq_true rfl]
  refine iteF ?_
  refine ⟨_, rfl, a, dx, _, rfl, ls2.sr.ob, rfl, a, dx, t, ws, p, rfl, ls2.sr, fun H3 x dx3 _ S3 e3 => ?_⟩
  have ls3 := ls2.same S3
  refine ⟨x, dx3, _, rfl, e3, rfl, _, rfl, x, dx3, t, a, ws, p, rfl, ⟨e3, ls3.sr.tw, ls3.sr.ok, ls3.sr.p0, ls3.sr.p1⟩, .inl ⟨dx, p, ls3.sr, ?_⟩⟩
  rw [decide_eq_true rfl]
  refine ⟨_, rfl, iteF ?_⟩
  -- told
  refine ⟨ls3.tb, fun H4 e4 T4 f1 => ⟨rfl, .int 5, rfl, err_kind (kind_D T) (.int 5) (sh_sm (d := .int 5) (show smI 5 by unfold smI; decide)) fun H5 r S5 e5 => ⟨(by show 2 ≤ sizeLine; decide), fun s6 hs6 => ?_⟩⟩⟩
  have S6 := same_new (o := .tup [V.str "seed", .str "5"]) hs6
  have e55 : (PyData.int 5).shown = ("5" : Str) := by decide +kernel
  have shk := sh_kind (so_of "seed") (so_of "5")
  rw [e55] at e5
  refine ⟨_, _, .tup (.of (S6 _ _ e5)) (.cons (.str _) (.cons (.str _) .nil)), .tup (.of upd_same) (.cons (.str _) (.cons (.str _) .nil)), shk, shk, _, rfl, ?_⟩
  rw [eqvR shk]
  refine iteF ?_
  have ls7 := (ls3.ext (e4.trans (Same.ext S5)) (T4.ext S5)).same S6
  have E7 : ExtN H _ := (Same.ext ((S1.trans S2).trans S3)).trans ((e4.trans (Same.ext S5)).trans (Same.ext S6))
  refine ⟨_, rfl, a, dx, _, rfl, ls7.sr.ob, rfl, a, dx, t, ws, p, rfl, ls7.sr, fun H8 y dx8 ny S8 e8 => ?_⟩
  have ls8 := ls7.same S8
  refine ⟨y, dx8, _, rfl, e8, rfl, _, rfl, a, dx, _, rfl, ls8.sr.ob, a, dx, t, ws, p, rfl, ls8.sr, ?_⟩
  refine ⟨y, dx8, t, ws, p, rfl, ⟨e8, ls8.sr.tw, ls8.sr.ok, ls8.sr.p0, ls8.sr.p1⟩, fun H9 b9 l1 hl1 => ?_⟩
  have E9 : ExtN H H9 := fun b o e n => b9 b o (ne_of_none (E7 _ _ e n) ny) (S8 _ _ (E7 _ _ e n))
  have T9 : Tabs (tT K) H9 := tabs_keep ls8.tb e8 (fun _ z => by cases z) (fun _ _ z => by cases z) b9
  have S10 := same_new (o := .lst ((ws.drop p.toNat).map V.int)) hl1
  have nt : t ≠ y := ne_of ls8.sr.tw e8 (by intro z; cases z)
  have tw10 := S10 _ _ (b9 _ _ nt ls8.sr.tw)
  have fin : ∀ (H11 : Hp) (l2 : Addr), Same (upd H9 l1 (.lst ((ws.drop p.toNat).map V.int))) H11 → H11 l2 = some (.lst ((ws.drop p.toNat).map V.int)) →
      ∃ dd ee, Dp K H11 (.ref l1) dd ∧ Dp K H11 (.ref l2) ee ∧ SeqAt.shaped dd = true ∧ SeqAt.shaped ee = true ∧ ∃ k, V.bl (!PyData.eqv dd ee) = .bl k ∧ (if k = true then D.rt (.bl false) H11 else D.nx (sgL o0 o1 o2 d t p a a2 o8) H11) := by
    intro H11 l2 S11 e11
    have sh := sh_ints (ws.drop p.toNat)
    refine ⟨.list ((ws.drop p.toNat).map PyData.int), .list ((ws.drop p.toNat).map PyData.int), .lst (.of (S11 _ _ upd_same)) (dpAll_ints _), .lst (.of e11) (dpAll_ints _), sh, sh, _, rfl, ?_⟩
    rw [eqvR sh]
    exact iteF (hq _ (E9.trans (Same.ext (S10.trans S11))) (T9.ext (S10.trans S11)))
  refine ⟨_, rfl, _, rfl, p, rfl, t, _, rfl, .of tw10, fun c => ?_, fun c z hz => ?_⟩
  · refine ⟨t, _, rfl, .inr (.of tw10), fun l2 hl2 => fin _ l2 (same_new hl2) ?_⟩
    rw [upd_same, cut_all ls.sr.p0 c.1]
  · have S11 := same_new (o := .tup (cutV (ws.map V.int) (some p) none)) hz
    refine ⟨z, _, rfl, .inr (.of upd_same), fun l2 hl2 => fin _ l2 (S11.trans (same_new hl2)) ?_⟩
    rw [upd_same, cut_from ls.sr.p0]
/-! ### a turn of the outer loop -/
def tOut (K : PySem.W.Frag) : TS := fun D σ H => ∃ (o0 o3 o4 o5 o6 o7 o8 : Option V) (k c : Int), σ = [o0, some (.int k), some (.int c), o3, o4, o5, o6, o7, o8, none] ∧ 0 ≤ k ∧ k ≤ 3 ∧ Tabs (tT K) H ∧
  ∀ H' o3' o4' o5' o6' o7' o8', ExtN H H' → Tabs (tT K) H' → D.nx [o0, some (.int k), some (.int c), o3', o4', o5', o6', o7', o8', none] H'
theorem out_ok (GC : FnGB P w K mg base 12 (He.ga K "_law_call_right") pC (spCall K)) : PSs (XL P w K mg base f cdv A outer s H0 E) outB (tOut K) := by
  have zl : mg "len" = none := T.z "len" (by decide +kernel)
  have zr : mg "range" = none := T.z "range" (by decide +kernel)
  have zt : mg "tuple" = none := T.z "tuple" (by decide +kernel)
  obtain ⟨fr, GR, br, kr⟩ := M.draw
  obtain ⟨fg, GD, bd, kd⟩ := M.digit
  obtain ⟨fi, GI, bi, ki⟩ := M.init
  obtain ⟨fa, GA, ba, ka⟩ := M.at_
  refine pss_imp (pss_cons (ps_set (i := 3) scLa.nd rfl (Or.inr rfl) (pe_call GR (hr.mono (by decide)) rfl (T.g "_law_draw" (by decide +kernel)) kr br .nil pass0 (pa_cons (pv 2) (pa_cons (pv 1) pa_nil))))
    (pss_cons (ps_set (i := 4) scLa.nd rfl (Or.inl rfl) (pe_callTy call_tuple_of rfl zt boot_tuple (pa_cons (pe_lc (own := [("_law_j", 9)]) (g := gName 9) (tt := tYes)
        (te := tOp (rIxL K) (tLst (tCons (tC (.int 0)) (tCons (tC (.int 1)) (tCons (tC (.int 4294967295)) (tCons (tC (.int 77)) tNil))))) (tCall spDigit [] E0 (tCons (tVar 3) (tCons (tC (.int 4)) tNil))))
        rfl scLa.nd (pi_range1 rfl zr (pa_cons (pe_call GD (hr.mono (by decide)) rfl (T.g "_law_digit" (by decide +kernel)) kd bd .nil pass0 (pa_cons (pv 3) (pa_cons pe_int pa_nil))) pa_nil)) (blkOk_by (N := lN) (sc := defScope sLaw) (by decide +kernel))
        (fun _ _ _ _ _ => pg_name (i := 9) scLa.nd rfl (Or.inl rfl)) (fun _ _ _ _ _ => pts_nil)
        (fun _ _ _ _ _ => pe_ix ix_list (pe_lst (pa_cons pe_int (pa_cons pe_int (pa_cons pe_int (pa_cons pe_int pa_nil))))) (pe_call GD (hr.mono (by decide)) rfl (T.g "_law_digit" (by decide +kernel)) kd bd .nil pass0 (pa_cons (pv 3) (pa_cons pe_int pa_nil))) (fun _ _ => rfl))) pa_nil)))
    (pss_cons (ps_set (i := 5) scLa.nd rfl (Or.inl rfl) (pe_call GD (hr.mono (by decide)) rfl (T.g "_law_digit" (by decide +kernel)) kd bd .nil pass0 (pa_cons (pv 3) (pa_cons (pe_op op_add (pe_callB call_len_seq rfl zl bt_len (pa_cons (pv 4) pa_nil)) pe_int) pa_nil))))
    (pss_cons (ps_par (i := 6) (j := 7) rfl scLa.nd rfl rfl (by decide) rfl rfl (pa_cons (pe_make T.mkC GI (hr.mono (by decide)) rfl (T.g "Scripted" (by decide +kernel)) bi .nil pass0 (pa_cons (pv 4) (pa_cons (pv 5) pa_nil)))
        (pa_cons (ClX.pe_cmeth (pe_glob (v := .ref (aC K)) rfl (T.g "Scripted" (by decide +kernel)) rfl) T.cr T.cAt (fnR0 GA ba) (hr.mono (by decide)) pass0 (pa_cons (pe_tup (pa_cons (pv 4) (pa_cons (pv 5) pa_nil))) pa_nil)) pa_nil)) rfl)
    (pss_cons (ps_for PassesOwn.never rfl (pi_range1 rfl zr (pa_cons pe_int pa_nil)) (pg_name (i := 8) scLa.nd rfl (Or.inl rfl)) (turn_ok T M hg hr GC))
    (fin_ok T M hg hr ecd TB)))))) ?_
  rintro D σ H ⟨o0, o3, o4, o5, o6, o7, o8, k, c, rfl, k0, k1, hT, hq⟩
  refine ⟨_, rfl, _, rfl, c, k, rfl, fun l d hd => ?_⟩
  have S0 := same_new (o := .dK (dr l c (1000 * k))) hd
  have d0 : Drw (upd H d (.dK (dr l c (1000 * k)))) d 3000 := ⟨l, c, 1000 * k, upd_same, by omega, by omega⟩
  -- how many words
  refine ⟨_, rfl, d, 13, 3000, rfl, d0, by decide, by decide, by decide, fun H2 n b2 d2 n0 n1 => ?_⟩
  have X2 : ∀ b o, H b = some o → H2 b = some o := fun b o e => b2 b o (ne_of_none e hd) (S0 _ _ e)
  refine ⟨n, rfl, by omega, by omega, fun Dl hDl => ?_⟩
  refine lc_range (lo := 0) (n := n.toNat) (fun i H' => ∃ ws : List Int, ws.length = i ∧ (∀ x ∈ ws, 0 ≤ x ∧ x < 4294967296) ∧ H' Dl = some (.lst (ws.map V.int)) ∧ Drw H' d (3004 + 4 * i) ∧ ∀ b o, H b = some o → H' b = some o) ?_ ?_ ?_
  · refine ⟨[], rfl, fun x hx => absurd hx (by simp), upd_same, ?_, fun b o e => same_new hDl _ _ (X2 _ _ e)⟩
    obtain ⟨l2, c2, u2, e2, q2⟩ := d2
    exact ⟨l2, c2, u2, same_new hDl _ _ e2, by simpa using q2⟩
  · rintro i H' hi ⟨ws, wl, wo, wD, wd, wk⟩
    refine ⟨rfl, ?_⟩
    refine yes_of ?_
    refine ⟨(by show 4 ≤ sizeLine; decide), fun q hqn => ?_⟩
    have Sq := same_new (o := .lst [V.int 0, V.int 1, V.int 4294967295, V.int 77]) hqn
    have nqd : q ≠ d := by
      obtain ⟨l2, c2, u2, e2, _⟩ := wd
      exact (ne_of_none e2 hqn).symm
    have wd2 : Drw (upd H' q (.lst [V.int 0, V.int 1, V.int 4294967295, V.int 77])) d (3004 + 4 * i) := by
      obtain ⟨l2, c2, u2, e2, q2⟩ := wd
      exact ⟨l2, c2, u2, Sq _ _ e2, q2⟩
    refine ⟨_, rfl, d, 4, 3004 + 4 * i, rfl, wd2, by omega, by decide, by decide, fun H5 j b5 d5 j0 j1 => ?_⟩
    obtain ⟨v, hv, hm⟩ := at_some (xs := [V.int 0, V.int 1, V.int 4294967295, V.int 77]) j0 (by show j < 4; exact j1)
    have hm2 : ∃ m : Int, v = .int m ∧ 0 ≤ m ∧ m < 4294967296 := by
      simp only [List.mem_cons, List.not_mem_nil, or_false] at hm
      rcases hm with e | e | e | e <;> exact ⟨_, e, by decide, by decide⟩
    obtain ⟨m, rfl, m0, m1⟩ := hm2
    have nDd : Dl ≠ d := by
      obtain ⟨l2, c2, u2, e2, _⟩ := wd
      exact ne_of wD e2 (by intro z; cases z)
    refine ⟨q, _, j, _, rfl, rfl, .of (b5 _ _ nqd upd_same), hv, ws.map V.int, b5 _ _ nDd (Sq _ _ wD), ?_, ws ++ [m], ?_, ?_, ?_, ?_, ?_⟩
    · rw [List.length_map, wl, sizeLine_eq]
      omega
    · rw [List.length_append, wl]
      rfl
    · intro x hx
      rcases List.mem_append.mp hx with z | z
      · exact wo x z
      · have e : x = m := by simpa using z
        rw [e]
        exact ⟨m0, m1⟩
    · rw [upd_same, List.map_append]
      rfl
    · obtain ⟨l2, c2, u2, e2, q2, q3⟩ := d5
      exact ⟨l2, c2, u2, by rw [upd_ne nDd.symm]; exact e2, q2, by omega⟩
    · intro b o e
      have n1 : b ≠ Dl := ne_of_none (X2 _ _ e) hDl
      rw [upd_ne n1]
      exact b5 _ _ (ne_of_none e hd) (Sq _ _ (wk _ _ e))
  rintro H3 ⟨ws, wl, wo, wD, wd, wk⟩
  have ok : OkW ws := ⟨wo, by omega⟩
  refine ⟨Dl, ws.map V.int, rfl, .inl ⟨.of wD, fun t ht => ?_⟩⟩
  have S4 := same_new (o := .tup (ws.map V.int)) ht
  have wd4 : Drw (upd H3 t (.tup (ws.map V.int))) d 3100 := by
    obtain ⟨l2, c2, u2, e2, q2, q3⟩ := wd
    exact ⟨l2, c2, u2, S4 _ _ e2, q2, by omega⟩
  -- where it begins
  have el : ((ws.map V.int).length : Int) = ws.length := by simp
  refine ⟨_, rfl, _, rfl, t, _, rfl, .inr (.of upd_same), ?_⟩
  rw [el]
  have hlen := ok.l
  refine ⟨_, _, rfl, rfl, d, ws.length + 1, 3100, rfl, wd4, by decide, by omega, by omega, fun H6 p b6 d6 p0 p1 => ?_⟩
  have tw6 : Tw H6 t ws := b6 _ _ (by
    obtain ⟨l2, c2, u2, e2, _⟩ := wd
    exact (ne_of_none e2 ht).symm) upd_same
  have X6 : ∀ b o, H b = some o → H6 b = some o := fun b o e => b6 _ _ (ne_of_none e hd) (S4 _ _ (wk _ _ e))
  -- the sources
  refine ⟨_, rfl, _, rfl, ?_⟩
  refine made2 (K := K) (E := E0) tw6 ok p0 (by omega) fun H7 a dx na S7 e7 => ⟨rfl, ?_⟩
  refine ⟨rfl, _, rfl, _, rfl, (by show 2 ≤ sizeLine; decide), fun st hst => ?_⟩
  have S8 := same_new (o := .tup [V.ref t, .int p]) hst
  refine ⟨st, t, ws, p, rfl, upd_same, S8 _ _ (S7 _ _ tw6), ok, p0, by omega, fun H9 a2 dx2 n2 S9 e9 => ⟨_, _, rfl, ?_⟩⟩
  have ea9 := S9 _ _ (S8 _ _ e7)
  have tw9 := S9 _ _ (S8 _ _ (S7 _ _ tw6))
  have na2 : a2 ≠ a := fun z => by
    have := S8 _ _ e7
    rw [← z] at this
    rw [n2] at this
    cases this
  have X9 : ∀ b o, H b = some o → H9 b = some o := fun b o e => S9 _ _ (S8 _ _ (S7 _ _ (X6 _ _ e)))
  have d9 : Drw H9 d 3104 := by
    obtain ⟨l2, c2, u2, e2, q2⟩ := d6
    exact ⟨l2, c2, u2, S9 _ _ (S8 _ _ (S7 _ _ e2)), q2⟩
  have ls9 : LSt K H9 d a dx a2 dx2 t ws p p 3104 := ⟨⟨ea9, tw9, ok, p0, by omega⟩, ⟨e9, tw9, ok, p0, by omega⟩, na2, d9, hT.ext X9⟩
  have fa : H a = none := by
    cases z : H a with
    | none => rfl
    | some o =>
      rw [X6 _ _ z] at na
      cases na
  refine ⟨16, rfl, by decide, by decide, for_range (n := 16) (fun i σ H' => ∃ o8 p', σ = sgL o0 (some (.int k)) (some (.int c)) d t p' a a2 o8 ∧ LSt K H' d a dx a2 dx2 t ws p' p (3104 + 12 * i) ∧ ExtN H H') ⟨_, p, rfl, (by rw [show (3104 : Int) + 12 * ((0 : Nat) : Int) = 3104 from rfl]; exact ls9), fun b o e _ => X9 b o e⟩ ?_ ?_⟩
  · rintro i σ H' hi ⟨o8, p', rfl, ls, ex⟩
    refine ⟨o0, some (.int k), some (.int c), some (.int (0 + i)), d, a, dx, a2, dx2, t, ws, p', p, 3104 + 12 * i, rfl, ls, by omega, fun H'' p'' kk ls2 => ?_⟩
    have eB : (3104 : Int) + 12 * i + 12 = 3104 + 12 * ((i + 1 : Nat) : Int) := by omega
    rw [eB] at ls2
    exact ⟨_, p'', rfl, ls2, fun b o e n => kk b o (ne_of_none e fa) (ne_of_none e hd) (ex b o e n) n⟩
  · rintro σ H' ⟨o8, p', rfl, ls, ex⟩
    exact ⟨o0, some (.int k), some (.int c), o8, d, a, dx, a2, dx2, t, ws, p', p, _, rfl, ls, fun H'' ex2 T2 => hq H'' _ _ _ _ _ _ (ex.trans ex2) T2⟩
end
end L2.Lw

set_option maxHeartbeats 4000000
/-! law, the whole. -/
namespace L2.Lw
open PySem PySem.Spec PyProof.Rows LamX
def spLaw (K : PySem.W.Frag) : Sp := fun vs H Q _ => ∃ (c : Addr) (ns : List Int), vs = [.ref c] ∧ SqL K H c (ns.map V.int) ∧ Tabs (tT K) H ∧ ∀ H', Q (.bl true) H'
theorem cut_three (ns : List Int) : ∃ ms : List Int, ms.length ≤ 3 ∧ cutV (ns.map V.int) none (some 3) = ms.map V.int := by
  refine ⟨ns.take 3, List.length_take_le 3 ns, ?_⟩
  have e : (3 : Int) = ((3 : Nat) : Int) := rfl
  unfold cutV
  rw [e, HT.sIx_nat, HT.sIx_none, List.drop_zero, Nat.sub_zero, List.length_map, ← List.map_take]
  congr 1
  by_cases c : 3 ≤ ns.length
  · rw [Nat.min_eq_left c]
  · rw [Nat.min_eq_right (by omega), List.take_of_length_le (Nat.le_refl _), List.take_of_length_le (by omega)]
theorem ok_law {P : Program} {w : World} {K : PySem.W.Frag} {mg : Str → Option Value} {base : Heap} {f : Addr} {fd : FuncData} (F : FnF K "law" "law" sLaw f fd) (T : Txt K mg) (M : Fns P w K mg base) {c1 : Addr} (hc : fd.code = .ref c1)
    (TB : TabB base mg c1 (tbA K "law")) (GC : FnGB P w K mg base 12 (He.ga K "_law_call_right") pC (spCall K)) : FnGB P w K mg base 14 f ["_law_script"] (spLaw K) := by
  have ze : mg "enumerate" = none := T.z "enumerate" (by decide +kernel)
  have zs : mg "sum" = none := T.z "sum" (by decide +kernel)
  obtain ⟨tW, iS⟩ := T.iS
  obtain ⟨tM, iM⟩ := T.iM
  obtain ⟨tC', iC⟩ := T.iC
  have bF : Binds K fd ["_law_script"] [] := F.bindsN fun _ _ _ _ _ _ us hl => match us, hl with | [_], _ => rfl
  refine ⟨fd, FunD.okG F scLa (fun vs H Q E h => ?_) (fun cdv A outer s H vs Q E ec hg hr h => ?_), bF, F.kp⟩
  · obtain ⟨c, ns, rfl, _⟩ := h
    rfl
  · obtain ⟨sc, ns, rfl, hs, hT, hq⟩ := h
    have ecd : cdv = .ref c1 := ec.symm.trans hc
    have hun := hr.units
    refine ⟨_, PSs.nox (pss_cons (ps_if (pt_cmpR (op_neD hun) (pe_lst (pa_cons (pe_glob (v := .int 18446744073709551616) rfl iS ⟨tW, rfl⟩) (pa_cons (pe_glob (v := .int 1000000) rfl iM ⟨tM, rfl⟩) (pa_cons (pe_glob (v := .int 10000) rfl iC ⟨tC', rfl⟩) pa_nil))))
        (pe_lst (pa_cons (pe_op op_pow pe_int pe_int) (pa_cons pe_int (pa_cons pe_int pa_nil)))) (nomark _)) (pss_one (ps_ret pe_bl)) pss_nil)
      (pss_cons (ps_for PassesOwn.never rfl (pi_enum rfl ze (pa_cons (pe_op op_cat (pe_slice sl_list (pv 0) po_none (po_some pe_int)) (pe_lst (pa_cons (pe_callB (cr_sum rfl) rfl zs boot_sum (pa_cons (pv 0) pa_nil)) pa_nil))) pa_nil))
          (pg_tup rfl (pgs_cons (pg_name (i := 1) scLa.nd rfl (Or.inl rfl)) (pgs_cons (pg_name (i := 2) scLa.nd rfl (Or.inl rfl)) pgs_nil))) (out_ok T M hg hr ecd TB GC))
      (pss_one (ps_ret pe_bl)))), ?_⟩
    refine ⟨(by show 3 ≤ sizeLine; decide), fun p1 h1 => ?_⟩
    have S1 := same_new (o := .lst [V.int 18446744073709551616, V.int 1000000, V.int 10000]) h1
    refine ⟨_, _, rfl, rfl, ⟨by decide, by decide, by decide⟩, (by show 3 ≤ sizeLine; decide), fun p2 h2 => ?_⟩
    have e64 : (2 : Int) ^ (64 : Int).toNat = 18446744073709551616 := by decide
    have S2 := same_new (o := .lst [V.int (2 ^ (64 : Int).toNat), V.int 1000000, V.int 10000]) h2
    have shl : SeqAt.shaped (.list [.int 18446744073709551616, .int 1000000, .int 10000]) = true := rfl
    refine ⟨.list [.int 18446744073709551616, .int 1000000, .int 10000], .list [.int 18446744073709551616, .int 1000000, .int 10000], .lst (.of (S2 _ _ upd_same)) (.cons (.int _) (.cons (.int _) (.cons (.int _) .nil))), .lst (.of (show _ = some (HO.lst [V.int (2 ^ (64 : Int).toNat), V.int 1000000, V.int 10000]) from upd_same)) (.cons (by rw [e64]; exact .int _) (.cons (.int _) (.cons (.int _) .nil))), shl, shl, _, rfl, ?_⟩
    rw [eqvR shl]
    refine iteF ?_
    have S12 := S1.trans S2
    -- the cells
    have hs2 := S12.seq hs
    obtain ⟨ms, ml, me⟩ := cut_three ns
    refine ⟨_, rfl, 3, rfl, sc, _, rfl, hs2, fun p3 h3 => ?_⟩
    rw [me]
    have S3 := same_new (o := .lst (ms.map V.int)) h3
    refine ⟨_, rfl, sc, ns, rfl, S3.seq hs2, (by show 1 ≤ sizeLine; decide), fun p4 h4 => ?_⟩
    have S4 := same_new (o := .lst [V.int ns.sum]) h4
    refine ⟨p3, p4, _, _, rfl, rfl, S4 _ _ upd_same, upd_same, ?_, fun L hL => ?_⟩
    · rw [List.length_map, sizeLine_eq]
      show ms.length + 1 ≤ _
      omega
    have S5 := same_new (o := .lst (ms.map V.int ++ [V.int ns.sum])) hL
    have SS := ((S12.trans S3).trans S4).trans S5
    have el : ms.map V.int ++ [V.int ns.sum] = (ms ++ [ns.sum]).map V.int := by simp
    have ln : (ms.map V.int ++ [V.int ns.sum]).length ≤ 4 := by
      rw [List.length_append, List.length_map]
      show ms.length + 1 ≤ 4
      omega
    refine ⟨L, ms.map V.int ++ [V.int ns.sum], rfl, .of upd_same, for_it (walk_enum (xs := ms.map V.int ++ [V.int ns.sum])) (fun i σ H' => ∃ o1 o2 o3 o4 o5 o6 o7 o8, σ = [some (.ref sc), o1, o2, o3, o4, o5, o6, o7, o8, none] ∧ Tabs (tT K) H' ∧ H' L = some (.lst (ms.map V.int ++ [V.int ns.sum])))
      ⟨_, _, _, _, _, _, _, _, rfl, hT.ext SS, upd_same⟩ (fun i σ H' _ hp => ?_) ?_ ?_⟩
    · obtain ⟨_, _, _, _, _, _, _, _, _, _, e⟩ := hp
      exact .of e
    · rintro i x σ H5 H6 hi ⟨o1, o2, o3, o4, o5, o6, o7, o8, rfl, T5, e5⟩ ⟨q, x1, y1, rfl, nq, rfl, ex, ey⟩
      cases ex
      have hm : y1 ∈ (ms ++ [ns.sum]).map V.int := by
        rw [← el]
        exact List.mem_of_getElem? ey
      obtain ⟨c, _, rfl⟩ := List.mem_map.mp hm
      have S6 := same_new (o := .tup [V.int (i : Nat), V.int c]) nq
      refine ⟨q, _, rfl, .of upd_same, rfl, _, _, rfl, _, _, rfl, rfl, ?_⟩
      refine ⟨some (.ref sc), o3, o4, o5, o6, o7, o8, i, c, rfl, by omega, by omega, T5.ext S6, fun H7 o3' o4' o5' o6' o7' o8' e7 T7 => ?_⟩
      exact ⟨_, _, _, _, _, _, _, _, rfl, T7, ext_lst e7 (S6 _ _ e5)⟩
    · rintro σ H5 _
      exact hq _
end L2.Lw

set_option maxHeartbeats 4000000
/-! The promises from the head's facts; the call. -/
namespace L2.Lw
open PySem PySem.Spec PyProof.Rows LamX

/-! ### the heap at the law's call: the script and the empty tables are followed, no more -/
section
variable (K : PySem.W.Frag) (a : Addr) (u : HO) (Ps : List Addr)
abbrev oTab : Obj := { cls := .none, data := .fields #[] }
abbrev oLst (vs : List Value) : Obj := { cls := .type "list", data := .seq vs.toArray }
def fstH : Hp := fun b => if b ∈ Ps then some (.tbl #[]) else if b = a ∧ K.lookup a = none then some u else none
end
section
variable {K : PySem.W.Frag} {a : Addr} {u : HO} {Ps : List Addr}
theorem fst_tab {b : Addr} (h : b ∈ Ps) : fstH K a u Ps b = some (.tbl #[]) := if_pos h
theorem fst_list (h : a ∉ Ps) (k : K.lookup a = none) : fstH K a u Ps a = some u := (if_neg h).trans (if_pos ⟨rfl, k⟩)
theorem fst_only {b : Addr} {o : HO} (h : fstH K a u Ps b = some o) : (b ∈ Ps ∧ o = .tbl #[]) ∨ (b ∉ Ps ∧ b = a ∧ K.lookup a = none ∧ o = u) := by
  unfold fstH at h
  split at h
  · rename_i m
    exact .inl ⟨m, (Option.some.inj h).symm⟩
  · rename_i m
    split at h
    · rename_i q
      exact .inr ⟨m, q.1, q.2, (Option.some.inj h).symm⟩
    · cases h
/-- the rest of the heap -/
theorem fst_rest {g : Addr → Option Obj} {vs : List Value} {b : Addr} {o : Obj} (hT : ∀ b ∈ Ps, g b = some oTab) (ha : g a = some (oLst vs)) (e : g b = some o) (n1 : o ≠ oTab) (n2 : o ≠ oLst vs) : fstH K a u Ps b = none := by
  cases q : fstH K a u Ps b with
  | none => rfl
  | some z =>
    rcases fst_only q with ⟨m, _⟩ | ⟨_, rfl, _⟩
    · exact absurd (Option.some.inj (e.symm.trans (hT b m))) n1
    · exact absurd (Option.some.inj (e.symm.trans ha)) n2
end

/-- law(script), from a promise that knows the guards -/
theorem call_law {P : Program} {w : World} {K : PySem.W.Frag} {mg mb : Str → Option Value} {k : Nat} {fa a : Addr} {cs : List (Addr × Addr)} {x : Str} {sp : Sp} {s₁ : Shared} {vs : List Value} {ns : List Int}
    (KX : K.In s₁.heap) (hns : s₁.heap.Ns mainGlobals mg) (hb : s₁.heap.Ns builtinsNs mb) (hbb : ∀ x : Str, x ≠ "__name__" → mb x = bootBuiltins x) (hlim : s₁.heap.NoLimit) (hg : s₁.gens = #[])
    (hT : ∀ p ∈ cs, s₁.heap.get? p.2 = some oTab) (nT : ∀ p ∈ cs, K.lookup p.2 = none) (hC : ∀ p ∈ cs, PySem.W.codeHdIn K p.1 p.2 = true)
    (hbm : ∃ (bm : Addr) (ob : Obj), mg "__builtins__" = some (.ref bm) ∧ bm ≠ builtinsNs ∧ s₁.heap.get? bm = some ob ∧ ob.cls = .type "module" ∧ ob.dict = some builtinsNs ∧ ob.data = .plain)
    (ha : s₁.heap.get? a = some (oLst vs)) (hi : IntsAre vs ns) (hl : ns.length ≤ sizeLine) (hr : Room k callerA)
    (F : ∀ base : Heap, K.In base → base.Ns mainGlobals mg → (∀ p ∈ cs, TabB base mg p.1 p.2) → FnGB P w K mg base k fa [x] sp)
    (hsp : ∀ H : Hp, (∀ p ∈ cs, H p.2 = some (.tbl #[])) → SqL K H a (ns.map V.int) → sp [.ref a] H (fun v _ => v = .bl true) fun _ _ _ => False) :
    codeAny (model P w) callerA (.call (.ref fa) ⟨[.ref a], []⟩) (fun r s' => r = .ok (.ret (.bool true)) ∧ OldK s₁.heap s'.heap ∧ s'.os = s₁.os ∧ AllBare s'.gens) s₁ := by
  have rv := vals_ints hi
  generalize eP : cs.map (·.2) = Ps
  have mP : ∀ p ∈ cs, p.2 ∈ Ps := fun p hp => by
    rw [← eP]
    exact List.mem_map.mpr ⟨p, hp, rfl⟩
  have fP : ∀ b ∈ Ps, ∃ p ∈ cs, p.2 = b := fun b hm => by
    rw [← eP] at hm
    exact List.mem_map.mp hm
  have hTP : ∀ b ∈ Ps, s₁.heap.get? b = some oTab := fun b hm => by
    obtain ⟨p, hp, rfl⟩ := fP b hm
    exact hT p hp
  have aP : a ∉ Ps := fun z => by
    have q := Option.some.inj (ha.symm.trans (hTP a z))
    have q2 : Data.seq vs.toArray _ = Data.fields #[] := congrArg Obj.data q
    cases q2
  generalize eH : fstH K a (.frz (oLst vs) (.lst (ns.map V.int))) Ps = H
  have rest : ∀ {b : Addr} {o : Obj}, s₁.heap.get? b = some o → o ≠ oTab → o ≠ oLst vs → (hidT s₁.heap H).get? b = some o := fun {b o} e n1 n2 => hidT_get e (by rw [← eH]; exact fst_rest hTP ha e n1 n2)
  have nsR : ∀ {b : Addr} {m : Str → Option Value}, s₁.heap.Ns b m → (hidT s₁.heap H).Ns b m := fun {b m} ⟨o, es, ep, e, d, r⟩ =>
    ⟨o, es, ep, rest e (fun z => by rw [z] at d; cases d) (fun z => by rw [z] at d; cases d), d, r⟩
  have inB : K.In (hidT s₁.heap H) := fun b o e => hidT_get (KX b o e) (by
    cases q : H b with
    | none => rfl
    | some z =>
      rw [← eH] at q
      rcases fst_only q with ⟨m, _⟩ | ⟨_, rfl, n, _⟩
      · obtain ⟨p, hp, rfl⟩ := fP b m
        rw [nT p hp] at e
        cases e
      · rw [n] at e
        cases e)
  have hS : SqL K H a (ns.map V.int) := by
    cases hk : K.lookup a with
    | some o =>
      obtain rfl := Option.some.inj (ha.symm.trans (KX a o hk))
      exact .inr ⟨_, vs.toArray, _, hk, rfl, rfl, rfl, by rw [List.size_toArray, hi.length]; exact hl, by simpa using rv⟩
    | none => exact .inl (.inr ⟨oLst vs, by rw [← eH]; exact fst_list aP hk⟩)
  have hok : HOk P w H s₁.heap := fun b o q => by
    rw [← eH] at q
    rcases fst_only q with ⟨m, rfl⟩ | ⟨_, rfl, _, rfl⟩
    · exact hTP b m
    · exact ⟨ha, by rw [List.length_map]; exact hl, vs, _, rv, ha⟩
  have e0 : Env0 P w K mg (hidT s₁.heap H) callerA [] s₁ H :=
    ⟨rfl, ⟨inB, nsR hns, ⟨mb, nsR hb, hbb⟩, let ⟨mc, h1, h2⟩ := hlim; ⟨mc, nsR h1, h2⟩⟩, fun b o e => of_hidT e, Nat.le_of_eq (hidT_size _ _), trivial, fun b hb => absurd (show b ∈ ([] : List Addr) from hb) (by simp), hok, .of_eq hg⟩
  have tabs : ∀ p ∈ cs, TabB (hidT s₁.heap H) mg p.1 p.2 := fun p hp => by
    refine NdefX.tabB_of_K inB (hC p hp) ?_ fun z => ?_
    · obtain ⟨bm, ob, b1, b2, b3, b4, b5, b6⟩ := hbm
      refine ⟨bm, ob, b1, b2, fun z => ?_, fun z => ?_, rest b3 (fun z => ?_) (fun z => ?_), b4, b5, b6⟩
      · obtain ⟨o, es, ep, e, d, _⟩ := hns
        rw [z, e] at b3
        cases b3
        rw [d] at b6
        cases b6
      · rw [z, hT p hp] at b3
        cases b3
        cases b6
      · rw [z] at b6
        cases b6
      · rw [z] at b6
        cases b6
    · obtain ⟨o, es, ep, e, d, _⟩ := hns
      rw [z, hT p hp] at e
      cases e
      cases d
  obtain ⟨fd, G, hbind, _⟩ := F _ inB (nsR hns) tabs
  have bnd : BindsTo s₁ fd ⟨[.ref a], []⟩ ([x].zip [Value.ref a]) := by
    have z := hbind s₁ [.ref a] KX rfl
    exact z
  refine codeAny_mono (G.run callerA [] s₁ H ⟨[.ref a], []⟩ [.ref a] [.ref a] _ _ rfl hr e0 bnd (.cons rfl .nil) (hsp H (fun p hp => by rw [← eH]; exact fst_tab (mP p hp)) hS)) fun r s' h => ?_
  cases r with
  | error e => exact False.elim h
  | ok fl =>
    cases fl with
    | next => exact False.elim h
    | brk => exact False.elim h
    | cont => exact False.elim h
    | ret y =>
      obtain ⟨v, H', os, bare, un, hok', ry, rfl⟩ := h
      obtain rfl : y = Value.bool true := ry
      have kept : ∀ b o, b ∉ Ps → s₁.heap.get? b = some o → s'.heap.get? b = some o := fun b o nb e => by
        cases q : H b with
        | none => exact un.keep b o e q (fun z => absurd (show b ∈ ([] : List Addr) from z) (by simp)) (by simp)
        | some z =>
          have q' := q
          rw [← eH] at q'
          rcases fst_only q' with ⟨m, _⟩ | ⟨_, rfl, _, rfl⟩
          · exact absurd m nb
          · rw [(hok b _ q).1] at e
            cases e
            exact (hok' b _ (un.frzs b _ _ q)).1
      have grew : ∀ b ∈ Ps, ∃ more : Array Value, s'.heap.get? b = some { cls := .none, data := .fields more } := fun b hm => by
        obtain ⟨more, z⟩ := un.tbls b #[] (by rw [← eH]; exact fst_tab hm)
        exact ⟨_, hok' b _ z⟩
      refine ⟨rfl, ⟨fun b o e => ?_, fun b o e => ?_⟩, os, bare⟩
      · by_cases hm : b ∈ Ps
        · obtain ⟨more, z⟩ := grew b hm
          obtain rfl := Option.some.inj (e.symm.trans (hTP b hm))
          obtain ⟨p, hp, rfl⟩ := fP b hm
          exact .inr (.inl ⟨((PySem.W.codeHd_of_K KX (hC p hp)).tab (hT p hp)).isCodeTable, rfl, #[], more, rfl, by rw [Array.empty_append]; exact z⟩)
        · exact .inl (kept b o hm e)
      · by_cases hm : b ∈ Ps
        · obtain ⟨more, z⟩ := grew b hm
          exact ⟨_, z⟩
        · exact ⟨o, kept b o hm e⟩
end L2.Lw

set_option maxHeartbeats 4000000
/-! All promises, from the head's facts. -/
namespace L2.Lw
open PySem PySem.Spec PyProof.Rows LamX
section
variable {K : PySem.W.Frag} {h : Heap}
theorem code_at {x : Str} {st : Stmt} {fd : FuncData} (F : FnF K x x st (He.ga K x) fd) : fd.code = .ref (He.cT K (x, none)).1 := by
  obtain ⟨oc, od, dV, kV, doc, pm, an, cdv, ct, osl, rfl, lk, hcd, _, _⟩ := F.ex
  obtain ⟨c, rfl⟩ := He.codeIn_ref hcd
  have e : He.codeOf K (x, none) = c := He.codeOf_eq (p := (x, none)) lk rfl
  show Value.ref c = .ref (He.codeOf K (x, none))
  rw [e]
theorem tabs_new {T : List (Addr × Str)} {H : Hp} (h : ∀ p ∈ T, H p.1 = some (.tbl #[])) : Tabs T H := fun p hp => ⟨#[], h p hp, by first | exact True.intro | exact TriplesOk.nil | decide | simp [TriplesOk], fun pos cv hc => by
  have z : (none : Option Value) = some cv := hc
  cases z⟩
theorem fns_of {P : Program} {w : World} {mg : Str → Option Value} {base : Heap} (c : SaysL h K) (T : Txt K mg) : Fns P w K mg base := by
  obtain ⟨_, F0⟩ := c.defs 0 _ rfl
  obtain ⟨_, F1⟩ := c.defs 1 _ rfl
  obtain ⟨_, F2⟩ := c.defs 2 _ rfl
  obtain ⟨_, F3⟩ := c.defs 3 _ rfl
  obtain ⟨_, F4⟩ := c.defs 4 _ rfl
  obtain ⟨_, F5⟩ := c.defs 5 _ rfl
  obtain ⟨_, F6⟩ := c.defs 6 _ rfl
  obtain ⟨_, F7⟩ := c.defs 7 _ rfl
  obtain ⟨_, F8⟩ := c.defs 8 _ rfl
  obtain ⟨_, F9⟩ := c.defs 9 _ rfl
  obtain ⟨_, F10⟩ := c.defs 10 _ rfl
  obtain ⟨_, F11⟩ := c.defs 11 _ rfl
  obtain ⟨_, F12⟩ := c.defs 12 _ rfl
  obtain ⟨_, F13⟩ := c.defs 13 _ rfl
  obtain ⟨_, F14⟩ := c.defs 14 _ rfl
  obtain ⟨_, F15⟩ := c.defs 15 _ rfl
  obtain ⟨_, F16⟩ := c.defs 16 _ rfl
  obtain ⟨_, F17⟩ := c.defs 17 _ rfl
  obtain ⟨_, F18⟩ := c.defs 18 _ rfl
  obtain ⟨_, F19⟩ := c.defs 19 _ rfl
  obtain ⟨_, F20⟩ := c.defs 20 _ rfl
  obtain ⟨_, F21⟩ := c.defs 21 _ rfl
  obtain ⟨_, F22⟩ := c.defs 22 _ rfl
  obtain ⟨_, F23⟩ := c.defs 23 _ rfl
  obtain ⟨_, F24⟩ := c.defs 24 _ rfl
  obtain ⟨_, F25⟩ := c.defs 25 _ rfl
  obtain ⟨_, F26⟩ := c.defs 26 _ rfl
  obtain ⟨_, F27⟩ := c.defs 27 _ rfl
  obtain ⟨_, F28⟩ := c.defs 28 _ rfl
  obtain ⟨_, F29⟩ := c.defs 29 _ rfl
  obtain ⟨_, F30⟩ := c.defs 30 _ rfl
  obtain ⟨_, F31⟩ := c.defs 31 _ rfl
  obtain ⟨f32, F32⟩ := c.defs 32 _ rfl
  obtain ⟨_, F33⟩ := c.defs 33 _ rfl
  obtain ⟨_, F34⟩ := c.defs 34 _ rfl
  obtain ⟨_, F35⟩ := c.defs 35 _ rfl
  have gInt := ok_isInt (P := P) (w := w) (base := base) F0 T
  have gWord := ok_isWord F1 T gInt
  have gIniT := ok_iniT (P := P) (w := w) (base := base) F25 T
  have gIniS := ok_iniS (P := P) (w := w) (base := base) F26 T
  have gIniD := ok_iniD (P := P) (w := w) (base := base) F27 T
  have gIniX := ok_iniX (P := P) (w := w) (base := base) F28 T
  have gNS := ok_needSteps F2 T gInt gIniS
  have gNM := ok_needMany F3 T gInt
  have gIS := ok_isScript F4 T gWord
  have gST := ok_needState F5 T gInt gIS gIniT
  have gAf := ok_after F6 T gIniX
  have gBe := ok_before F7 T gIniS
  have gI := ok_init F8 T gIS gST
  have gNx := ok_next F9 T gAf
  have gAh := ok_ahead F16 T gNS gAf gI
  have gBh := ok_behind F17 T gNS gBe gI
  have gMx := ok_mixed (P := P) (w := w) (mg := mg) (base := base) F29
  have gDg := ok_digit F31 T gMx
  exact {
    init := gI
    next := gNx
    words := ok_words F10 T gNM gNx
    state := ok_state F11 T
    left := ok_left F12 T
    set := ok_set F13 T gST
    jump := ok_jump F14 T gNS gAf
    back := ok_back F15 T gNS gBe
    ahead := gAh
    behind := gBh
    rsh := ok_rsh F18 T gAh
    lsh := ok_lsh F19 T gBh
    copy := ok_copy F20 T gI
    same := ok_same F21 T
    at_ := ok_at F22 T gST gI
    seeded := ok_seeded F23 T gIniD
    stAfter := ok_stAfter F24 T gST gNS gAf
    draw := ok_draw F30
    digit := gDg
    steps := ok_steps F33 T gDg
    moved := ok_moved F35 T (ok_isSteps F34 T)
    told := ⟨f32, F32⟩ }
end
end L2.Lw

set_option maxHeartbeats 4000000
/-! The law. -/
namespace L2.Lw
open PySem PySem.Spec PyProof.Rows LamX
abbrev csOf (K : PySem.W.Frag) : List (Addr × Addr) := tf.map (He.cT K)
theorem law_fn {P : Program} {w : World} {K : PySem.W.Frag} {h : Heap} {mg : Str → Option Value} {base : Heap} (c : SaysL h K) (T : Txt K mg) (hT : ∀ p ∈ csOf K, TabB base mg p.1 p.2) : FnGB P w K mg base 14 (He.ga K "law") ["_law_script"] (spLaw K) := by
  have M : Fns P w K mg base := fns_of c T
  obtain ⟨f36, F36⟩ := c.defs 36 _ rfl
  obtain ⟨f37, F37⟩ := c.defs 37 _ rfl
  obtain ⟨f38, F38⟩ := c.defs 38 _ rfl
  have GW := ok_newRight (P := P) (w := w) (base := base) F36 T M (code_at (x := "_law_new_right") (st := sNewRight) F36) (hT (He.cT K ("_law_new_right", none)) List.mem_cons_self)
  have GC := ok_callRight F37 T M (code_at (x := "_law_call_right") (st := sCallRight) F37) (hT (He.cT K ("_law_call_right", none)) (List.mem_cons_of_mem _ List.mem_cons_self)) GW
  exact ok_law F38 T M (code_at (x := "law") (st := sLaw) F38) (hT (He.cT K ("law", none)) (List.mem_cons_of_mem _ (List.mem_cons_of_mem _ List.mem_cons_self))) GC
theorem law_sp {K : PySem.W.Frag} {H : Hp} {a : Addr} {ns : List Int} {E : XK} (hT : ∀ p ∈ csOf K, H p.2 = some (.tbl #[])) (hS : SqL K H a (ns.map V.int)) : spLaw K [.ref a] H (fun v _ => v = .bl true) E :=
  ⟨a, ns, rfl, hS, tabs_new fun p hp => by
    simp only [List.mem_cons, List.not_mem_nil, or_false] at hp
    rcases hp with z | z | z
    · rw [z]
      exact hT (He.cT K ("_law_new_right", none)) List.mem_cons_self
    · rw [z]
      exact hT (He.cT K ("_law_call_right", none)) (List.mem_cons_of_mem _ List.mem_cons_self)
    · rw [z]
      exact hT (He.cT K ("law", none)) (List.mem_cons_of_mem _ (List.mem_cons_of_mem _ List.mem_cons_self)), fun _ => rfl⟩
end L2.Lw
open PySem PySem.W PySem.Calls PyProof.Rows
theorem PySem.Challenge.cw_drawstate_k04_whole_scripts_step_by_step_holds : PySem.Challenge.rw_drawstate_k04_whole_scripts_step_by_step.Holds := by
  w_on; o_law
  refine HandSHeadRun.head_any (r := OpenLaw.row PySem.Challenge.rw_drawstate_k04_whole_scripts_step_by_step) (q := view (OpenLaw.row PySem.Challenge.rw_drawstate_k04_whole_scripts_step_by_step).prog [35]) (H := L2.Lw.hkL) (ob := L2.Lw.obT) (M := 6000) (loose := L2.Lw.loose) (d := HandSHeadRun.topDef (OpenLaw.row PySem.Challenge.rw_drawstate_k04_whole_scripts_step_by_step).prog 35) (kwd := []) L2.Lw.obT_eq
    (by kernel_rfl) (fun s => by kernel_rfl) L2.Lw.run (by kernel_rfl) (by kernel_rfl) (by kernel_rfl) (by rfl) (by first | assumption | decide +kernel) (by decide +kernel) ⟨rfl, rfl, rfl, rfl, rfl, by decide +kernel⟩ ?hw ?hc
  case hw => w_witness2
  case hc =>
    refine Att.attach_callB (l := PySem.Challenge.rw_drawstate_k04_whole_scripts_step_by_step) (n := 63) rfl (by kernel_rfl) fun w s₀ s₁ mg mb fa o pm cd doc a vs ns G Y ho hd hcd hmg0 hobj hints hlen hbits hg => ?_
    obtain ⟨K, KX, c⟩ := Y
    have hmg : mg ("law" : PySem.Str) = some (.ref fa) := by
      have e : (HandSHeadRun.topDef (OpenLaw.row PySem.Challenge.rw_drawstate_k04_whole_scripts_step_by_step).prog 35).name = ("law" : PySem.Str) := by kernel_rfl
      rw [← e]
      exact hmg0
    have T : L2.Lw.Txt K mg := L2.Lw.txt_of KX G.T.g c.facts
    have e := hmg.symm.trans (T.g "law" (by decide +kernel))
    cases e
    refine L2.Lw.call_law (cs := L2.Lw.csOf K) (k := 14) KX G.T.g G.T.b G.T.builtins G.T.nolimit hg (fun p hp => ?_) (fun p hp => ?_) (fun p hp => ?_) G.T.bmain hobj hints (Nat.le_trans hlen (by decide)) ⟨rfl, by decide, by decide⟩
      (fun base _ _ hT => L2.Lw.law_fn c T hT) (fun H hT hS => L2.Lw.law_sp hT hS)
    · obtain ⟨q, hq, rfl⟩ := List.mem_map.mp hp
      exact c.empty q hq
    · obtain ⟨q, hq, rfl⟩ := List.mem_map.mp hp
      exact c.out q hq
    · obtain ⟨q, hq, rfl⟩ := List.mem_map.mp hp
      exact c.hd q hq
