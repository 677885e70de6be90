import PyProof.Rows.All
import Wide.All
import OpenK.AllK
import Wide.FinOn
import HandS.ForMost
import HandS.Exc
import HandS.ExcOwn
import HandS.ExcInit
import HandS.ExcIs
import HandS.ExcValue
import HandS.ExcField
import HandS.IsInst
import KE.KExcIs
import HandS.ClsMeth
import HandS.TryOnly
import HandS.WordsExc
import HandS.Wide
import HandS.Lambda
import HandS.EndTab
import PyProof.ReprRoads
import HandS.TupAny
import HandS.DictComp
import HandS.Deep
import HandS.Codes
import HandS.Defaults
import HandS.Steps
import HandS.Zip
import HandS.Sort
import PySem.Challenge.RW_blindpour_k01_names_and_exceptions
set_option Elab.async false
set_option linter.all false
set_option maxRecDepth 100000
set_option maxHeartbeats 4000000
namespace BL
open PySem PySem.Spec PyProof.Rows L2

/-! ### own exceptions: PourError.__init__(self, ..), made as a value, their fields read, isinstance -/
section
variable {X : Cx} {e : Expr} {es : List Expr} {ta : TE} {tA : TA} {p p1 p2 pos : Pos}
/-- Base.__init__(self, ..), Base an own class whose __init__ is ValueError's -/
theorem pe_peinit {pl : Sem Bool} {B : Str} {PE0 : Addr} {mc : Value} (hg : Gl X B) (hm : X.mg B = some (.ref PE0)) (rd : ClX.CRead X.K PE0 mc) (fv : PySem.W.findCls X.K (.ref PE0) mc "__init__" = some (.val (.builtin "ValueError.__init__"))) (ha : PA X (e :: es) tA)
    (hc : eval (.Call (.Attribute (.Name B p1) "__init__" p2) (e :: es) [] pos) X.env = (do
      let ov ← eval (.Name B p1) X.env
      standAt p2.atName
      let (f, first) ← holding [ov] (getMethod ov "__init__" pl)
      callWith pos f first (backTo pos (starEach (e :: es) X.env)) (backToKw pos (keywordEach [] X.env))) := by rfl)
    (hdb : (B == ("__debug__" : Str)) = false := by decide)
    (he : starEach (e :: es) X.env = (false, eval e X.env) :: starEach es X.env := by rfl) (hpl : (backTo pos (starEach es X.env)).any (·.1) = false := by rfl) :
    PE X (.Call (.Attribute (.Name B p1) "__init__" p2) (e :: es) [] pos) (tVeI X.K tA) := by
  refine ⟨fun pins s σ H Q I h => ?_⟩
  refine PySem.W.methodCall_KW (ld_glob I hg hm ?_ hdb) hc
  refine PySem.W.method_cls I.kIn rd.ga (PySem.W.cls_value I.kIn rd.rd fv (by decide +kernel) ?_)
  show wpAny _ _ (callWith pos (Value.builtin "ValueError.__init__") [] (backTo pos (starEach (e :: es) X.env)) []) _ _ _
  refine PyProof.Rows.callWith_method1 (thn (ha.run pos pins _ σ H _ (I.tok _) h) fun us s1 ⟨vs, H1, I1, r1, a, C, ws, ev, hl, T, ea, q⟩ => ?_) he hpl
  subst ev
  cases r1 with
  | @cons _ u0 _ ur ra rw' =>
    obtain rfl : u0 = Value.ref a := ra
    have hlen : ur.length ≤ sizeLine := by
      rw [← Paired.length rw', sizeLine_eq]
      omega
    exact oinit_ok T I1 ea hlen fun s' J => ⟨.non, H1, J, rfl, q⟩
/-- C(e, ..) as a value, C's own __init__ keeping sp: the new exception stands at a -/
def tMkV (C : Addr) (sp : Sp) (dvs : List V) (t : TA) : TE := fun σ H Q => t σ H fun vs H1 => vs.length ≤ 1000 ∧ ∀ a, H1 a = none → sp (.ref a :: (vs ++ dvs)) (upd H1 a (exo a C none))
  (fun v H2 => v = .non ∧ Q (.ref a) H2) (fun _ _ _ => False)
theorem pe_mkv {CX : CXT} {x : Str} {C fI : Addr} {k : Nat} {fd : FuncData} {ps : List Str} {sp : Sp} {ds : List Value} {dvs : List V} (T : OexC X.K C) (iC : PySem.W.findIn X.K (.ref C) "__init__" = some (some (.ref fI))) (tI : PySem.W.typeIn X.K (.ref fI) = some (.type "function"))
    (F1 : FnOk X.prog X.w X.K X.mg X.base CX k fI fd ps sp) (hr : Room (k + 1) X.A) (hb : Binds X.K fd ps ds) (hd : Vals dvs ds) (hx : Passes CX X (fun _ _ _ => False)) (hg : Gl X x) (hm : X.mg x = some (.ref C)) (ha : PA X (e :: es) tA)
    (hdb : (x == ("__debug__" : Str)) = false := by decide) (he : starEach (e :: es) X.env = (false, eval e X.env) :: starEach es X.env := by rfl) (hpl : (backTo pos (starEach es X.env)).any (·.1) = false := by rfl) :
    PE X (.Call (.Name x p) (e :: es) [] pos) (tMkV C sp dvs tA) := by
  refine ⟨fun pins s σ H Q I h => ?_⟩
  obtain ⟨nm, q, N, bs, bm, sn, sub, ab, col, dd, k0, k1, k2, k3, k5, hC, hbm⟩ := T.cls
  refine wpAny_Call_Name_kw (ld_glob I hg hm ?_ hdb)
  refine PySem.W.callWith_K (h₀ := X.base) I.ok.mod.kin T.kC (thn (ha.run pos pins s σ H _ I h) fun us s1 ⟨vs, H1, I1, r1, hz, q1⟩ => ⟨I1.kIn, ?_⟩) he hpl
  show wpAny _ _ (call (.ref C) us) _ _ _
  obtain ⟨hp, g, dr, tk, os⟩ := s1
  have hsz : hp.objs.size ≤ hp.objs.size + 1 := Nat.le_succ _
  have hn : H1 (hp.objs.size + 1) = none := I1.hok.fresh hsz
  have hq := q1 (hp.objs.size + 1) hn
  have kk : ∀ b o, hp.get? b = some o → ((hp.push (PySem.W.kdv_tup us)).push (PySem.HandSPX.excO C hp.objs.size)).get? b = some o := fun b o e => Heap.get?_push_of_some _ (Heap.get?_push_of_some _ e)
  have hget : ((hp.push (PySem.W.kdv_tup us)).push (PySem.HandSPX.excO C hp.objs.size)).get? (hp.objs.size + 1) = some (PySem.HandSPX.excO C hp.objs.size) := by heap_get
  have I2 : Inv X pins σ (upd H1 (hp.objs.size + 1) (exo (hp.objs.size + 1) C none)) ⟨(hp.push (PySem.W.kdv_tup us)).push (PySem.HandSPX.excO C hp.objs.size), g, dr, tk, os⟩ :=
    I1.laid (t' := tk) (a := hp.objs.size + 1) (o := exo (hp.objs.size + 1) C none) (h' := (hp.push (PySem.W.kdv_tup us)).push (PySem.HandSPX.excO C hp.objs.size)) kk hsz (exo_ok hget)
  have r2 : Vals (V.ref (hp.objs.size + 1) :: (vs ++ dvs)) (Value.ref (hp.objs.size + 1) :: (us ++ ds)) := .cons rfl (r1.append hd)
  have hl : (Value.ref (hp.objs.size + 1) :: us ++ ds).length = ps.length := by
    have e := r2.length
    rw [F1.len _ _ _ _ hq] at e
    exact e.symm
  have hus : us.length ≤ sizeLine := by
    rw [← Paired.length r1, sizeLine_eq]
    omega
  refine wpAny_call (PySem.HandSPX.call_own F.excBase_ValueError (fun Y => PySem.HandSPX.refsVE_contains Y bm hbm) (I1.kIn _ _ hC) (PySem.W.looks_findIn I1.kIn iC) (fun self => PySem.W.bind_fn I1.kIn self tI) hus
    (codeAny_mono (F1.run _ X.stack _ _ ⟨Value.ref (hp.objs.size + 1) :: us, []⟩ (Value.ref (hp.objs.size + 1) :: (us ++ ds)) _ _ (fun _ _ _ => False) (hr.make C us []) (I2.env0.make C us []) (hb _ (Value.ref (hp.objs.size + 1) :: us) I2.kIn hl) r2 hq) fun r s' hq' => ?_))
  cases r with
  | error er => exact hx pins σ _ _ er s' I2 hq'
  | ok fl =>
    cases fl with
    | ret u =>
      obtain ⟨v, H2, os2, bare2, un2, hok2, rv, ev, q2⟩ := hq'
      subst ev
      exact ⟨rv, .ref (hp.objs.size + 1), H2, I2.call' os2 un2 hok2 bare2 (fun b z => absurd z (by simp)), rfl, q2⟩
    | next => exact False.elim hq'
    | brk => exact False.elim hq'
    | cont => exact False.elim hq'
/-- what a class must say so that a field of its exceptions is read -/
structure XRead (K : PySem.W.Frag) (C : Addr) (f : Str) : Prop where
  ga : PySem.W.findIn K (.ref C) "__getattribute__" = some (some (.builtin "BaseException.__getattribute__"))
  gg : PySem.W.findIn K (.ref C) "__getattr__" = some none
  sub : PySem.W.subIn K (.ref C) (.type "BaseException") = some true
  hd : PySem.W.hasDictIn K C = true
  no : PySem.W.findIn K (.ref C) f = some none
/-- x.f, x an exception that stands -/
def tXfV (K : PySem.W.Frag) (f : Str) (te : TE) : TE := fun σ H Q => te σ H fun x H1 => ∃ (a C d : Addr) (fs : List (Str × V)) (v : V), x = .ref a ∧ H1 a = some (exo a C (some d)) ∧ H1 d = some (exd d fs) ∧ XRead K C f ∧ fs.lookup f = some v ∧ Q v H1
theorem pe_xfv {f : Str} {te : TE} (he : PE X e te) (hb : attributeBase e f X.env (eval e X.env) = eval e X.env := by rfl) : PE X (.Attribute e f pos) (tXfV X.K f te) := by
  refine ⟨fun pins s σ H Q I h => ?_⟩
  refine attr_of hb (thn (he.run pins s σ H _ I h) fun u s1 hh => ?_)
  obtain ⟨x, H1, I1, rx, a, C, d, fs, v, ex, ea, ed, R, l, q⟩ := hh
  subst ex
  obtain rfl : u = Value.ref a := rx
  obtain ⟨t1, ho⟩ := exo_at I1.hok ea
  obtain ⟨mA, hns, hr⟩ := exd_at I1.hok ed
  obtain ⟨od, hod, hl⟩ := lookIn_ns hns
  obtain ⟨u, hu, ru⟩ := RelO.some_of (v := v) (o := mA f) (by rw [← l]; exact hr f)
  have J : PySem.W.InstAt s1.heap a _ C (some od) := ⟨ho, rfl, rfl, hod⟩
  exact PySem.HandSPX.exc_get I1.kIn J R.ga R.gg R.sub (PySem.W.findObj_own R.hd R.no rfl (by rw [hl, hu])) (handed_of ru) ⟨v, H1, I1.tok _, ru, q⟩
/-- what a class must say so that isinstance asks its exceptions rightly -/
structure XIs (K : PySem.W.Frag) (C : Addr) : Prop where
  cl : (PySem.W.clsIn K C).isSome = true
  ga : PySem.W.findIn K (.ref C) "__getattribute__" = some (some (.builtin "BaseException.__getattribute__"))
  gg : PySem.W.findIn K (.ref C) "__getattr__" = some none
  sub : PySem.W.subIn K (.ref C) (.type "BaseException") = some true
  ha : PySem.W.findIn K (.ref C) "__class__" = some (some (.builtin "object.__class__"))
  hn : PySem.W.specialIn K (.builtin "object.__class__") "__get__" = some (some (.builtin "getset_descriptor.__get__"))
  ht : PySem.W.takesIn K (.builtin "object.__class__") = some true
  hm : PySem.W.mroIn K C (.type "object") = some true
/-- an exception that stands at a, of the class at C, with or without a dict -/
def ExAt (H : Hp) (a C : Addr) : Prop := H a = some (ExO (.ref C) a) ∨ ∃ (d : Addr) (fs : List (Str × V)), H a = some (exo a C (some d)) ∧ H d = some (exd d fs)
theorem ExAt.inst {P : Program} {w : World} {H : Hp} {h : Heap} {a C : Addr} (k : HOk P w H h) (z : ExAt H a C) : ∃ ox od, PySem.W.InstAt h a ox C od := by
  rcases z with z | ⟨d, fs, z1, z2⟩
  · obtain ⟨⟨oe, vs, ho, hz, hd, _⟩, _, _⟩ := k a _ z
    exact ⟨oe, none, ho, hz.1, by unfold PySem.W.notCls; rw [hd] <;> rfl, by rw [hz.2]; trivial⟩
  · obtain ⟨t1, ho⟩ := exo_at k z1
    obtain ⟨mA, hns, hr⟩ := exd_at k z2
    obtain ⟨od, hod, hl⟩ := lookIn_ns hns
    exact ⟨_, some od, ho, rfl, rfl, hod⟩
/-- isinstance(x, c), x an exception that stands -/
def rIsX (K : PySem.W.Frag) : List V → Hp → VK → Prop := fun xs H Q => ∃ (a C : Addr) (c : V) (u : Value) (b : Bool), xs = [.ref a, c] ∧ ClsV c u ∧ ExAt H a C ∧ XIs K C ∧ PySem.W.kitOne K (.ref C) u = some b ∧ Q (.bl b) H
theorem call_isX : CallR X (.builtin "isinstance") (rIsX X.K) := by
  intro pins s σ H xs us Q I r h
  obtain ⟨a, C, c, u, b, rfl, k, ea, T, e, q⟩ := h
  obtain ⟨u1, u2, rfl, r1, r2⟩ := vals2 r
  have e2 := k.eq r2
  subst e2
  cases (show u1 = Value.ref a from r1)
  obtain ⟨ox, od, J⟩ := ea.inst I.hok
  exact PySem.W.kia_one (PySem.W.kitx_exc T.cl T.ga T.gg T.sub T.ha T.hn T.ht T.hm) I.kIn J e (fun z => nomatch z) fun tk => ⟨.bl b, H, I.tok tk, rfl, q⟩
/-- repr of data -/
def rRepr (K : PySem.W.Frag) : List V → Hp → VK → Prop := fun xs H Q => ∃ (a : Addr) (d : PyData), xs = [.ref a] ∧ Dp K H (.ref a) d ∧ d.showable = true ∧ d.hasDict = false ∧ d.depth ≤ 64 ∧ d.shown.length ≤ sizeLine ∧ Q (.str d.shown) H
theorem Dp.noDict {K : PySem.W.Frag} {H : Hp} : ∀ {v : V} {d : PyData}, Dp K H v d → True := fun _ => trivial
theorem call_reprD (hg : X.A.guards = some []) (hu : X.A.units + 80 < cLine) : CallR X (.builtin "repr") (rRepr X.K) := by
  intro pins s σ H xs us Q I r h
  obtain ⟨a, d, rfl, hd, hs, hn, hdp, hl, q⟩ := h
  obtain ⟨u1, rfl, r1⟩ : ∃ u1, us = [u1] ∧ RelV (.ref a) u1 := by
    cases r with
    | cons r rr =>
      cases rr
      exact ⟨_, rfl, r⟩
  cases (show u1 = Value.ref a from r1)
  obtain ⟨as, rd⟩ := Dp.reads I d _ _ hd (show RelV (.ref a) (Value.ref a) from rfl)
  exact PySem.repr_of_reads' rd hs (fun z => by rw [hn] at z; cases z) hg (by omega) (fun _ _ e => e) (fun h' u tk k => ⟨.str d.shown, H, I.kept (t' := tk) k, ⟨_, rfl⟩, q⟩) hl
end

/-! ### promises of defs that are called where no repr runs -/
structure FnOkG (P : Program) (w : World) (K : PySem.W.Frag) (mg : Str → Option Value) (base : Heap) (CX : CXT) (k : Nat) (f : Addr) (fd : FuncData) (ps : List Str) (sp : Sp) : Prop where
  len : ∀ vs H Q E, sp vs H Q E → vs.length = ps.length
  run : ∀ (A : Around) (outer : List Env) (s : Shared) (H : Hp) (args : Args) (us : List Value) (vs : List V) (Q : VK) (E : XK), A.guards = some [] → Room k A → Env0 P w K mg base A outer s H → BindsTo s fd args (ps.zip us) → Vals vs us → sp vs H Q E →
    codeAny (model P w) A (.call (.ref f) args) (CR CX outer P w H s Q E) s
section
variable {P : Program} {w : World} {K : PySem.W.Frag} {mg : Str → Option Value} {base : Heap} {CX : CXT} {j k : Nat} {f : Addr} {fd : FuncData} {ps : List Str} {sp : Sp}
theorem FnOkG.of (F : FnOk P w K mg base CX k f fd ps sp) : FnOkG P w K mg base CX k f fd ps sp := ⟨F.len, fun A outer s H args us vs Q E _ hr => F.run A outer s H args us vs Q E hr⟩
theorem Fun.okG {x qual : Str} {st : Stmt} {N : List Str} (F : Fun K x qual st f fd) (S : FnScope N ps (defScope st)) (len : ∀ vs H Q E, sp vs H Q E → vs.length = ps.length)
    (hbody : ∀ (cdv : Value) (A : Around) (outer : List Env) (s : Shared) (H : Hp) (vs : List V) (Q : VK) (E : XK), A.guards = some [] → Room k (A.deeper (envOfC qual (defScope st) s.heap.objs.size f cdv)) → sp vs H Q E →
      ∃ t, PSs (cxOf CX0 P w K mg base N qual (defScope st) f cdv A outer s H E).nox (defBody st) t ∧ t { nx := fun _ H' => Q .non H', rt := Q } (start N vs) H) : FnOkG P w K mg base CX0 (k + 1) f fd ps sp := by
  obtain ⟨oc, od, kV, doc, pm, an, cdv, ct, osl, rfl, lk, hcd⟩ := F.ex
  refine ⟨len, fun A outer s H args us vs Q E hg hr e0 hb r hsp => LamX.run_ofS lk hcd S hr e0 hb r (len _ _ _ _ hsp) fun hr1 => ?_⟩
  obtain ⟨t, h, q⟩ := hbody cdv A outer s H vs Q E hg hr1 hsp
  exact ⟨t, h.nox, q⟩
/-- what is tracked when the law is called: the tables of code objects, the script (unless it stands in the written part) -/
def lawH (K : PySem.W.Frag) (cs : List (Addr × Addr)) (a : Addr) (vs : List Value) (ns : List Int) : Hp := fun b =>
  if b ∈ cs.map (·.2) then some (.tbl #[]) else if b = a ∧ K.lookup a = none then some (.frz { cls := .type "list", data := .seq vs.toArray } (.lst (ns.map V.int))) else none
theorem lawH_tab {cs : List (Addr × Addr)} {a : Addr} {vs : List Value} {ns : List Int} {p : Addr × Addr} (hp : p ∈ cs) : lawH K cs a vs ns p.2 = some (.tbl #[]) := if_pos (List.mem_map.mpr ⟨p, hp, rfl⟩)
theorem lawH_cases {cs : List (Addr × Addr)} {a : Addr} {vs : List Value} {ns : List Int} (b : Addr) : (b ∈ cs.map (·.2) ∧ lawH K cs a vs ns b = some (.tbl #[])) ∨
    (b = a ∧ K.lookup a = none ∧ lawH K cs a vs ns b = some (.frz { cls := .type "list", data := .seq vs.toArray } (.lst (ns.map V.int)))) ∨ lawH K cs a vs ns b = none := by
  unfold lawH
  by_cases h1 : b ∈ cs.map (·.2)
  · exact .inl ⟨h1, if_pos h1⟩
  · rw [if_neg h1]
    by_cases h2 : b = a ∧ K.lookup a = none
    · exact .inr (.inl ⟨h2.1, h2.2, if_pos h2⟩)
    · exact .inr (.inr (if_neg h2))
/-- the law's call, where no repr runs: its def's promise, told for such calls, gives True -/
theorem law_callG {mb : Str → Option Value} {fa a : Addr} {cs : List (Addr × Addr)} {x : Str} {s₁ : Shared} {vs : List Value} {ns : List Int}
    (KX : K.In s₁.heap) (hns : s₁.heap.Ns mainGlobals mg) (hb : s₁.heap.Ns builtinsNs mb) (hbb : ∀ x : Str, x ≠ "__name__" → mb x = bootBuiltins x) (hlim : s₁.heap.NoLimit) (hg : s₁.gens = #[])
    (hT : ∀ p ∈ cs, s₁.heap.get? p.2 = some { cls := .none, data := .fields #[] }) (nT : ∀ p ∈ cs, K.lookup p.2 = none) (hC : ∀ p ∈ cs, PySem.W.CodeHd s₁.heap p.1 p.2)
    (hbm : ∃ (bm : Addr) (ob : Obj), mg "__builtins__" = some (.ref bm) ∧ bm ≠ builtinsNs ∧ s₁.heap.get? bm = some ob ∧ ob.cls = .type "module" ∧ ob.dict = some builtinsNs ∧ ob.data = .plain)
    (ha : s₁.heap.get? a = some { cls := .type "list", data := .seq vs.toArray }) (hi : IntsAre vs ns) (hl : ns.length ≤ sizeLine) (hr : Room k callerA)
    (F : ∀ base : Heap, K.In base → base.Ns mainGlobals mg → (∀ p ∈ cs, LamX.TabB base mg p.1 p.2) → FnOkG P w K mg base CX k fa fd [x] sp) (hbind : ∀ (s : Shared) (u : Value), BindsTo s fd ⟨[u], []⟩ [(x, u)])
    (hsp : ∀ H : Hp, (∀ p ∈ cs, H p.2 = some (.tbl #[])) → SqL K H a (ns.map V.int) → sp [.ref a] H (fun v _ => v = .bl true) fun _ _ _ => False)
    (hCX : ∀ H e s', CX [] H s₁ (fun _ _ _ => False) e s' → False) :
    codeAny (model P w) callerA (.call (.ref fa) ⟨[.ref a], []⟩) (fun r s' => r = .ok (.ret (.bool true)) ∧ OldK s₁.heap s'.heap ∧ s'.os = s₁.os ∧ AllBare s'.gens) s₁ := by
  have rv := vals_ints hi
  have tabD : ∀ {b : Addr} {o : Obj}, b ∈ cs.map (·.2) → s₁.heap.get? b = some o → o = { cls := .none, data := .fields #[] } := fun {b o} hb e => by
    obtain ⟨p, hp, rfl⟩ := List.mem_map.mp hb
    exact Option.some.inj (e.symm.trans (hT p hp))
  -- an object that is neither a table nor the script is not tracked
  have off : ∀ {b : Addr} {o : Obj}, s₁.heap.get? b = some o → o ≠ { cls := .none, data := .fields #[] } → (b = a → K.lookup a = none → False) → lawH K cs a vs ns b = none := fun {b o} e n1 n2 => by
    rcases lawH_cases (K := K) (cs := cs) (a := a) (vs := vs) (ns := ns) b with ⟨z, _⟩ | ⟨z1, z2, _⟩ | z
    · exact absurd (tabD z e) n1
    · exact (n2 z1 z2).elim
    · exact z
  have byData : ∀ {b : Addr} {o : Obj}, s₁.heap.get? b = some o → o.data ≠ .fields #[] → o.data ≠ .seq vs.toArray → (hidT s₁.heap (lawH K cs a vs ns)).get? b = some o := fun {b o} e n1 n2 =>
    hidT_get e (off e (fun z => n1 (by rw [z])) fun z _ => by
      rw [z, ha] at e
      exact n2 (by rw [← Option.some.inj e]))
  have nsB : ∀ {b : Addr} {m : Str → Option Value}, s₁.heap.Ns b m → (hidT s₁.heap (lawH K cs a vs ns)).Ns b m := fun {b m} ⟨o, es, ep, e, d, r⟩ =>
    ⟨o, es, ep, byData e (by rw [d]; intro z; cases z) (by rw [d]; intro z; cases z), d, r⟩
  have inB : K.In (hidT s₁.heap (lawH K cs a vs ns)) := fun b o e => hidT_get (KX b o e) (by
    rcases lawH_cases (K := K) (cs := cs) (a := a) (vs := vs) (ns := ns) b with ⟨z, _⟩ | ⟨z1, z2, _⟩ | z
    · obtain ⟨p, hp, rfl⟩ := List.mem_map.mp z
      rw [nT p hp] at e
      cases e
    · rw [z1, z2] at e
      cases e
    · exact z)
  have codeB : ∀ p ∈ cs, LamX.TabB (hidT s₁.heap (lawH K cs a vs ns)) mg p.1 p.2 := fun p hp => by
    refine ⟨?_, ?_, fun z => ?_⟩
    · obtain ⟨o, us, file, tf, flags, tg, inF, text, tt, e1, r1, r2, r3, r⟩ := hC p hp
      refine ⟨o, us, file, tf, flags, tg, inF, text, tt, byData e1 (fun z => ?_) (fun z => ?_), r1, r2, r3, r⟩
      · rw [r2] at z
        cases z
        simp at r3
      · rw [r2] at z
        cases z
    · obtain ⟨bm, ob, b1, b2, b3, b4, b5, b6⟩ := hbm
      refine ⟨bm, ob, b1, b2, fun q => ?_, fun q => ?_, byData b3 (by rw [b6]; intro z; cases z) (by rw [b6]; intro z; cases z), b4, b5, b6⟩
      · obtain ⟨o, es, ep, e, hd, _⟩ := hns
        rw [q, e] at b3
        cases b3
        rw [hd] at b6
        cases b6
      · rw [q, hT p hp] at b3
        cases b3
        cases b6
    · obtain ⟨o, es, ep, e, hd, _⟩ := hns
      rw [z, hT p hp] at e
      cases e
      cases hd
  have ok : HOk P w (lawH K cs a vs ns) s₁.heap := fun b u e => by
    rcases lawH_cases (K := K) (cs := cs) (a := a) (vs := vs) (ns := ns) b with ⟨z, q⟩ | ⟨z1, _, q⟩ | q <;> rw [q] at e <;> cases e
    · obtain ⟨p, hp, rfl⟩ := List.mem_map.mp z
      exact hT p hp
    · subst z1
      exact ⟨ha, by rw [List.length_map]; exact hl, vs, _, rv, ha⟩
  have sq : SqL K (lawH K cs a vs ns) a (ns.map V.int) := by
    rcases lawH_cases (K := K) (cs := cs) (a := a) (vs := vs) (ns := ns) a with ⟨z, _⟩ | ⟨_, _, q⟩ | q
    · exact absurd (tabD z ha) (by intro z; cases z)
    · exact .inl (.inr ⟨_, q⟩)
    · cases hk : K.lookup a with
      | some o =>
        have e := (KX a o hk).symm.trans ha
        cases e
        exact .inr ⟨_, vs.toArray, _, hk, rfl, rfl, rfl, by rw [List.size_toArray, hi.length]; exact hl, by simpa using rv⟩
      | none =>
        exfalso
        unfold lawH at q
        by_cases z : a ∈ cs.map (·.2)
        · rw [if_pos z] at q
          cases q
        · rw [if_neg z, if_pos ⟨rfl, hk⟩] at q
          cases q
  have e0 : Env0 P w K mg (hidT s₁.heap (lawH K cs a vs ns)) callerA [] s₁ (lawH K cs a vs ns) :=
    ⟨rfl, ⟨inB, nsB hns, ⟨mb, nsB hb, hbb⟩, hlim.elim fun mc z => ⟨mc, nsB z.1, z.2⟩⟩, fun _ _ => of_hidT, Nat.le_of_eq (hidT_size _ _), trivial, fun b z => absurd (show b ∈ ([] : List Addr) from z) List.not_mem_nil, ok, .of_eq hg⟩
  refine codeAny_mono ((F _ inB (nsB hns) codeB).run callerA [] s₁ _ ⟨[.ref a], []⟩ [.ref a] [.ref a] _ _ rfl hr e0 (hbind s₁ (.ref a)) (.cons rfl .nil) (hsp _ (fun p hp => lawH_tab hp) sq)) fun r s' h => ?_
  match r, h with
  | .error e, h => exact (hCX _ e s' h).elim
  | .ok .next, h => exact False.elim h
  | .ok .brk, h => exact False.elim h
  | .ok .cont, h => exact False.elim h
  | .ok (.ret u), h =>
    obtain ⟨v, H', os, bare, un, ok', r', q⟩ := h
    cases (show v = .bl true from q)
    cases (show u = Value.bool true from r')
    have keep : ∀ b o, b ∉ cs.map (·.2) → s₁.heap.get? b = some o → s'.heap.get? b = some o := fun b o nb e => by
      rcases lawH_cases (K := K) (cs := cs) (a := a) (vs := vs) (ns := ns) b with ⟨z, _⟩ | ⟨z1, _, q⟩ | q
      · exact absurd z nb
      · obtain ⟨e2, _⟩ := ok' b _ (un.frzs b _ _ q)
        rw [z1, ha] at e
        cases e
        rw [z1] at e2 ⊢
        exact e2
      · exact un.keep b o e q List.not_mem_nil List.not_mem_nil
    have more : ∀ p ∈ cs, ∃ m : Array Value, s'.heap.get? p.2 = some { cls := .none, data := .fields m } := fun p hp => by
      obtain ⟨m, z⟩ := un.tbls p.2 #[] (lawH_tab hp)
      exact ⟨_, ok' p.2 _ z⟩
    refine ⟨rfl, ⟨fun b o e => ?_, fun b o e => ?_⟩, os, bare⟩
    · by_cases hb : b ∈ cs.map (·.2)
      · cases tabD hb e
        obtain ⟨p, hp, rfl⟩ := List.mem_map.mp hb
        obtain ⟨m, hm⟩ := more p hp
        exact .inr (.inl ⟨((hC p hp).tab (hT p hp)).isCodeTable, rfl, #[], m, rfl, by rw [Array.empty_append]; exact hm⟩)
      · exact .inl (keep b o hb e)
    · by_cases hb : b ∈ cs.map (·.2)
      · obtain ⟨p, hp, rfl⟩ := List.mem_map.mp hb
        exact (more p hp).elim fun m hm => ⟨_, hm⟩
      · exact ⟨o, keep b o hb e⟩
end
/-- what is known of the law's promise at the head's heap h -/
def LawAtG (l : PySem.W.OpenLaw) (w : World) (K : PySem.W.Frag) (CX : CXT) (k n : Nat) (x : Str) (mg : Str → Option Value) (fa : Addr) (h : Heap) : Prop :=
  ∃ (fd : FuncData) (cs : List (Addr × Addr)) (sp : Sp), (∀ p ∈ cs, h.get? p.2 = some { cls := .none, data := .fields #[] } ∧ K.lookup p.2 = none ∧ PySem.W.CodeHd h p.1 p.2) ∧ (∀ (s : Shared) (u : Value), BindsTo s fd ⟨[u], []⟩ [(x, u)]) ∧
    (∀ (H : Hp) (a : Addr) (ns : List Int), ns.length ≤ n → (∀ z ∈ ns, Builtin.Int.intBits z ≤ 1048576) → (∀ p ∈ cs, H p.2 = some (.tbl #[])) → SqL K H a (ns.map V.int) → sp [.ref a] H (fun v _ => v = .bl true) fun _ _ _ => False) ∧
    ∀ base : Heap, K.In base → base.Ns mainGlobals mg → (∀ p ∈ cs, LamX.TabB base mg p.1 p.2) → FnOkG l.prog w K mg base CX k fa fd [x] sp
theorem walk_ofG {l : PySem.W.OpenLaw} {n k : Nat} {q : Program} {loose : List Str} {XP : (Str → Option Value) → Heap → Prop} {YP : World → Heap → Prop} {d : DefRec} {K : Params → PySem.W.Frag} {CX : World → CXT} {x : Str}
    (hn : l.most = some n) (hn2 : n ≤ sizeLine) (hdf : d.params.defaults = []) (hr : Room k callerA) (hY : ∀ (w : World) (h : Heap), YP w h → (K w.params).In h)
    (F : ∀ (w : World) (mg : Str → Option Value) (fa : Addr) (h : Heap), YP w h → (K w.params).In h → h.Ns mainGlobals mg → mg d.name = some (.ref fa) → LawAtG l w (K w.params) (CX w) k n x mg fa h)
    (hCX : ∀ (w : World) (H : Hp) (s : Shared) (e : Value) (s' : Shared), CX w [] H s (fun _ _ _ => False) e s' → False) :
    PySem.W.WalkO q loose XP YP l.row.toRowW d [] (fun f vs => PySem.call f vs) := by
  refine Att.attach_callB hn hdf fun w s₀ s₁ mg mb fa o pm cd doc a vs ns G Y ho hd hcd hmg hobj hints hlen hbits hg => ?_
  have KX := hY w _ Y
  obtain ⟨fd, cs, sp, hT, hb, hsp, hF⟩ := F w mg fa _ Y KX G.T.g hmg
  exact law_callG KX G.T.g G.T.b G.T.builtins G.T.nolimit hg (fun p hp => (hT p hp).1) (fun p hp => (hT p hp).2.1) (fun p hp => (hT p hp).2.2) G.T.bmain hobj hints (Nat.le_trans hlen hn2) hr hF hb (fun H hH hS => hsp H a ns hlen hbits hH hS) fun H e s' => hCX w H s₁ e s'
end BL

set_option Elab.async false
set_option linter.all false
set_option maxRecDepth 100000
set_option maxHeartbeats 4000000
namespace BL
open PySem PySem.Spec PyProof.Rows L2
/-! ### rules whose reading tells what each kind of operand asks -/
section
variable {X : Cx} {k : Nat}
theorem op_in_dict (hu : X.A.units + 1 < cLine) : OpR X (compareOp .In) (fun y x H Q => ∃ a o, x = .ref a ∧ DGet H a y o ∧ Q (.bl o.isSome) H) := by
  intro pins s σ H y x u v Q I ry rx h
  obtain ⟨a, o, rfl, g, q⟩ := h
  cases (show v = Value.ref a from rx)
  exact d_in hu I g ry fun s' J => ⟨.bl _, H, J, rfl, q⟩
theorem op_notIn_dict (hu : X.A.units + 1 < cLine) : OpR X (compareOp .NotIn) (fun y x H Q => ∃ a o, x = .ref a ∧ DGet H a y o ∧ Q (.bl (!o.isSome)) H) := by
  intro pins s σ H y x u v Q I ry rx h
  obtain ⟨a, o, rfl, g, q⟩ := h
  cases (show v = Value.ref a from rx)
  exact d_notIn hu I g ry fun s' J => ⟨.bl _, H, J, rfl, q⟩
theorem ix_dict (hu : X.A.units + 1 < cLine) : IxR X (fun x y H Q => ∃ a v, x = .ref a ∧ DGet H a y (some v) ∧ Q v H) := by
  intro value slice pins s σ H x y v u Q I rx ry h hs
  obtain ⟨a, r, rfl, g, q⟩ := h
  cases (show v = Value.ref a from rx)
  have fin := d_getItem (A := X.A) (E := X.xe) hu I g ry fun w' s' J rw' => (⟨r, H, J, rw', q⟩ : EP X pins σ Q w' s')
  rcases g with ⟨kvs, k, e, _, _⟩ | ⟨kvs, k, b, e, _, _, _⟩
  · obtain ⟨_, _, _, _, dd⟩ := dk_rd I.hok e
    exact tail_any dd.typeIs slot_dict_getitem.lookup fin hs
  · obtain ⟨_, _, _, _, dd⟩ := dt_rd I.hok e
    exact tail_any dd.typeIs slot_dict_getitem.lookup fin hs
/-- x[y] -/
def rIxU (K : PySem.W.Frag) : R2 := fun x y H Q => rIx K x y H Q ∨ (∃ a v, x = .ref a ∧ DGet H a y (some v) ∧ Q v H)
theorem ix_any (hu : X.A.units + 1 < cLine) : IxR X (rIxU X.K) := ix_seq.or (ix_dict hu)
/-- len -/
def rLenU (K : PySem.W.Frag) : List V → Hp → VK → Prop := fun xs H Q => (∃ p ys, xs = [.ref p] ∧ (SqL K H p ys ∨ SqT K H p ys) ∧ Q (.int ys.length) H) ∨ (∃ z, xs = [.str z] ∧ z.length ≤ sizeLine ∧ Q (.int z.length) H) ∨ (∃ a kvs, xs = [V.ref a] ∧ H a = some (.dK kvs) ∧ Q (.int kvs.length) H)
theorem call_lenU : CallR X (.builtin "len") (rLenU X.K) := call_len_seq.or (call_len_str.or call_lenD)
/-- x + y -/
def rAddU (K : PySem.W.Frag) : R2 := fun x y H Q => rI0 (fun i j => .int (i + j)) x y H Q ∨ (∃ i j, x = .str i ∧ y = .str j ∧ i.length + j.length ≤ sizeLine ∧ Q (.str (i ++ j)) H) ∨ rCat x y H Q ∨ L2.rCatA K x y H Q
theorem op_addU : OpR X (binaryOp .Add) (rAddU X.K) := op_add.or (op_add_str.or (op_cat.or op_catA))
/-- x == y, x != y -/
def rEqU (K : PySem.W.Frag) : R2 := fun x y H Q => rEq x y H Q ∨ rEqD K x y H Q ∨ rEqDA x y H Q
def rNeU (K : PySem.W.Frag) : R2 := fun x y H Q => rNe x y H Q ∨ rNeD K x y H Q ∨ rNeDA x y H Q
theorem op_eqU (hr : Room k X.A) : OpR X (compareOp .Eq) (rEqU X.K) := op_eq.or ((op_eqD hr.units).or (op_eq_dictA (Nat.lt_of_le_of_lt (Nat.le_add_right _ 64) hr.units)))
theorem op_neU (hr : Room k X.A) : OpR X (compareOp .NotEq) (rNeU X.K) := op_ne.or ((op_neD hr.units).or (op_ne_dictA (Nat.lt_of_le_of_lt (Nat.le_add_right _ 64) hr.units)))
/-- x < y -/
def rLtU : R2 := fun x y H Q => rI0 (fun i j => .bl (decide (i < j))) x y H Q ∨ (∃ i j, x = .str i ∧ y = .str j ∧ Q (.bl (decide (i.cps.toList < j.cps.toList))) H)
theorem op_ltU : OpR X (compareOp .Lt) rLtU := op_lt.or op_lt_str
/-- y in x, y not in x: a dict; flat items; a sign of a text; data -/
def rInU (K : PySem.W.Frag) : R2 := fun y x H Q => (∃ a o, x = .ref a ∧ DGet H a y o ∧ Q (.bl o.isSome) H) ∨ rIn K false y x H Q ∨ (∃ (c : Nat) (z : Str), y = .str ⟨#[c]⟩ ∧ x = .str z ∧ Q (.bl (decide (c ∈ z.cps.toList))) H) ∨ rInD K y x H Q
def rNotInU (K : PySem.W.Frag) : R2 := fun y x H Q => (∃ a o, x = .ref a ∧ DGet H a y o ∧ Q (.bl (!o.isSome)) H) ∨ rIn K true y x H Q ∨ (∃ (c : Nat) (z : Str), y = .str ⟨#[c]⟩ ∧ x = .str z ∧ Q (.bl (!decide (c ∈ z.cps.toList))) H) ∨ rNotInD K y x H Q
theorem op_inU (hr : Room k X.A) : OpR X (compareOp .In) (rInU X.K) := (op_in_dict (hu_of hr)).or (op_in_seq.or (op_in_sign.or (op_inD (by have := hr.un; omega))))
theorem op_notInU (hr : Room k X.A) : OpR X (compareOp .NotIn) (rNotInU X.K) := (op_notIn_dict (hu_of hr)).or (op_notIn_seq.or (op_notIn_sign.or (op_notInD (by have := hr.un; omega))))
/-- x[a:b] -/
def rSlU (K : PySem.W.Frag) : V → Option Int → Option Int → Hp → VK → Prop := fun x lo hi H Q => C8.rSlX x lo hi H Q ∨ rSlL K x lo hi H Q ∨ rSlA K x lo hi H Q
theorem sl_any : SlR X (rSlU X.K) := C8.sl_txt.or (sl_list.or sl_tupA)
/-- isinstance(x, c) -/
def rIsiU (K : PySem.W.Frag) : List V → Hp → VK → Prop := fun xs H Q => rIsi K xs H Q ∨ rIsX K xs H Q
theorem call_isiU : CallR X (.builtin "isinstance") (rIsiU X.K) := call_isi.or call_isX
end
end BL

set_option Elab.async false
set_option linter.all false
set_option maxRecDepth 100000
set_option maxHeartbeats 4000000
namespace BL
open PySem PySem.Spec PyProof.Rows L2
/-! ### short names of readings -/
def rLenStr : List V → Hp → VK → Prop := fun xs H Q => ∃ z, xs = [.str z] ∧ z.length ≤ sizeLine ∧ Q (.int z.length) H
def rLenSq (K : PySem.W.Frag) : List V → Hp → VK → Prop := fun xs H Q => ∃ p ys, xs = [.ref p] ∧ (SqL K H p ys ∨ SqT K H p ys) ∧ Q (.int ys.length) H
def rLenD : List V → Hp → VK → Prop := fun xs H Q => ∃ a kvs, xs = [V.ref a] ∧ H a = some (.dK kvs) ∧ Q (.int kvs.length) H
def rAddS : R2 := fun x y H Q => ∃ i j, x = .str i ∧ y = .str j ∧ i.length + j.length ≤ sizeLine ∧ Q (.str (i ++ j)) H
def rLtS : R2 := fun x y H Q => ∃ i j, x = .str i ∧ y = .str j ∧ Q (.bl (decide (i.cps.toList < j.cps.toList))) H
def rInSg : R2 := fun x y H Q => ∃ (c : Nat) (z : Str), x = .str ⟨#[c]⟩ ∧ y = .str z ∧ Q (.bl (decide (c ∈ z.cps.toList))) H
def rNotInSg : R2 := fun x y H Q => ∃ (c : Nat) (z : Str), x = .str ⟨#[c]⟩ ∧ y = .str z ∧ Q (.bl (!decide (c ∈ z.cps.toList))) H
def rInDict : R2 := fun y x H Q => ∃ a o, x = .ref a ∧ DGet H a y o ∧ Q (.bl o.isSome) H
def rNotInDict : R2 := fun y x H Q => ∃ a o, x = .ref a ∧ DGet H a y o ∧ Q (.bl (!o.isSome)) H
def rIsN : R2 := fun x y H Q => y = .non ∧ Q (.bl (decide (x = .non))) H
def rNotN : R2 := fun x y H Q => y = .non ∧ Q (.bl (!decide (x = .non))) H
def rMulLB (K : PySem.W.Frag) : R2 := fun x y H Q => ∃ a xs k, x = V.ref a ∧ y = V.bl k ∧ SqL K H a xs ∧ ∀ p, H p = none → Q (.ref p) (upd H p (.lst (if k = true then xs else [])))
def rJoin (K : PySem.W.Frag) : V → List V → Hp → VK → Prop := fun x xs H Q => ∃ a p, ∃ ys : List Str, x = .str a ∧ xs = [.ref p] ∧ (SqL K H p (ys.map V.str) ∨ SqT K H p (ys.map V.str)) ∧ (ys.map (·.length)).sum + ys.length * a.length ≤ 16777216 ∧ Q (.str (Txt.join a ys)) H
def rInt1 : List V → Hp → VK → Prop := fun xs H Q => (∃ i, xs = [.int i] ∧ Q (.int i) H) ∨ ∃ k, xs = [.bl k] ∧ Q (.int (if k then 1 else 0)) H
/-- a test by truth -/
def tTru (K : PySem.W.Frag) (ta : TE) : TT := fun σ H Q => ta σ H fun x H' => ∃ k, TruV K x H' k ∧ Q k H'
theorem hu0 {A : Around} {k : Nat} (hr : Room k A) : A.units < cLine := Nat.lt_of_le_of_lt (Nat.le_add_right _ 64) hr.units
section
variable {X : Cx} {k : Nat}
theorem op_in_sg : OpR X (compareOp .In) rInSg := op_in_sign
theorem op_notIn_sg : OpR X (compareOp .NotIn) rNotInSg := op_notIn_sign
theorem pe_c0 {j : Nat} {x : Str} {sp : Sp} {p pos : Pos} (c : C8.Cal X.prog X.w X.K X.mg X.base k x sp []) (hr : Room j X.A) (hk : k ≤ j) (hg : Gl X x) (hdb : (x == ("__debug__" : Str)) = false := by decide) :
    PE X (.Call (.Name x p) [] [] pos) (tCall sp [] E0 tNil) := by
  obtain ⟨f, fd, ps, ds, F, hm, kp, b, d⟩ := c.ex
  cases d
  exact pe_call0 F (hr.mono hk) hg hm kp b .nil pass0 hdb
end
/-! ### what stays -/
/-- all that was tracked is as it was, but for what S names -/
def Sx (S : Addr → Prop) (H H' : Hp) : Prop := ∀ b o, H b = some o → ¬ S b → H' b = some o
theorem Sx.refl (S : Addr → Prop) (H : Hp) : Sx S H H := fun _ _ h _ => h
theorem Sx.trans {S : Addr → Prop} {H H1 H2 : Hp} (a : Sx S H H1) (b : Sx S H1 H2) : Sx S H H2 := fun c o h n => b c o (a c o h n) n
theorem Sx.of {S : Addr → Prop} {H H' : Hp} (s : Same H H') : Sx S H H' := fun b o h _ => s b o h
theorem Sx.mono {S T : Addr → Prop} {H H' : Hp} (s : Sx S H H') (h : ∀ b, S b → T b) : Sx T H H' := fun b o e n => s b o e fun z => n (h b z)
theorem Sx.free {S : Addr → Prop} {H H' : Hp} (e : Sx S H H') {l : Addr} (n : ¬ S l) (h : H' l = none) : H l = none := by
  cases q : H l with
  | none => rfl
  | some o =>
    rw [e l o q n] at h
    cases h
theorem Sx.sqL {S : Addr → Prop} {K : PySem.W.Frag} {H H' : Hp} {a : Addr} {xs : List V} (e : Sx S H H') (n : ¬ S a) (h : SqL K H a xs) : SqL K H' a xs := by
  rcases h with (h | ⟨o, h⟩) | h
  · exact .inl (.inl (e _ _ h n))
  · exact .inl (.inr ⟨o, e _ _ h n⟩)
  · exact .inr h
theorem Sx.sqT {S : Addr → Prop} {K : PySem.W.Frag} {H H' : Hp} {a : Addr} {xs : List V} (e : Sx S H H') (n : ¬ S a) (h : SqT K H a xs) : SqT K H' a xs := by
  rcases h with (h | ⟨o, h⟩) | h
  · exact .inl (.inl (e _ _ h n))
  · exact .inl (.inr ⟨o, e _ _ h n⟩)
  · exact .inr h
theorem Same.upd {H : Hp} {p : Addr} {o : HO} (h : H p = none) : Same H (upd H p o) := fun b u e => by rw [upd_ne (ne_of_none e h)]; exact e
theorem Sx.new {S : Addr → Prop} {H : Hp} {p : Addr} {o : HO} (h : H p = none) : Sx S H (upd H p o) := .of (Same.upd h)
theorem Sx.put {S : Addr → Prop} {H : Hp} {p : Addr} {o : HO} (h : S p) : Sx S H (upd H p o) := fun b u e n => by
  rw [upd_ne (fun z => n (by rw [z]; exact h))]
  exact e
theorem Same.sqT {K : PySem.W.Frag} {H H' : Hp} {a : Addr} {xs : List V} (e : Same H H') (h : SqT K H a xs) : SqT K H' a xs := (Sx.of (S := fun _ => False) e).sqT (fun z => z) h
/-- data stays -/
theorem Sx.noTup {S : Addr → Prop} : True := trivial
mutual
theorem Dp.same {K : PySem.W.Frag} {H H' : Hp} (e : Same H H') : ∀ {v : V} {d : PyData}, Dp K H v d → Dp K H' v d
  | _, _, .non => .non
  | _, _, .bl b => .bl b
  | _, _, .int i => .int i
  | _, _, .str x => .str x
  | _, _, .lst q all => .lst (e.seq q) (DpAll.same e all)
  | _, _, .tup q all => .tup (Same.sqT e q) (DpAll.same e all)
theorem DpAll.same {K : PySem.W.Frag} {H H' : Hp} (e : Same H H') : ∀ {vs : List V} {ds : List PyData}, DpAll K H vs ds → DpAll K H' vs ds
  | _, _, .nil => .nil
  | _, _, .cons a b => .cons (Dp.same e a) (DpAll.same e b)
end
/-! ### the random source -/
def srcK (kg kc : Str) (g cl : Addr) (r c s : Int) : List (Key × V) := [(.inr kg, .ref g), (.inr "rest", .int r), (.inr kc, .int c), (.inr "seed", .int s), (.inr "cells", .ref cl)]
structure KOk (kg kc : Str) : Prop where
  n1 : kg ≠ "rest"
  n2 : kc ≠ "rest"
  n3 : kg ≠ kc
  n4 : kc ≠ "seed"
  n5 : kc ≠ "cells"
  n6 : kg ≠ "seed"
  n7 : kg ≠ "cells"
theorem kok_great : KOk "great" "count" := ⟨by decide +kernel, by decide +kernel, by decide +kernel, by decide +kernel, by decide +kernel, by decide +kernel, by decide +kernel⟩
theorem kok_large : KOk "large" "turn" := ⟨by decide +kernel, by decide +kernel, by decide +kernel, by decide +kernel, by decide +kernel, by decide +kernel, by decide +kernel⟩
structure Src (kg kc : Str) (H : Hp) (p g cl : Addr) (n : Nat) : Prop where
  ex : ∃ (r c s : Int) (gs cs : List Int), H p = some (.dK (srcK kg kc g cl r c s)) ∧ H g = some (.lst (gs.map V.int)) ∧ H cl = some (.lst (cs.map V.int)) ∧ g ≠ cl ∧
    0 ≤ r ∧ 0 ≤ c ∧ c ≤ n ∧ 0 ≤ s ∧ s < 2147483647 ∧ (∀ z ∈ gs, 0 ≤ z) ∧ cs ≠ [] ∧ (∀ z ∈ cs, 0 ≤ z ∧ z < 2147483629)
/-- what a draw changes -/
def SrcS (p g : Addr) : Addr → Prop := fun b => b = p ∨ b = g
theorem Src.keep {kg kc : Str} {H H' : Hp} {p g cl : Addr} {n : Nat} (z : Src kg kc H p g cl n) (e : Same H H') : Src kg kc H' p g cl n := by
  obtain ⟨r, c, s, gs, cs, h1, h2, h3, h⟩ := z.ex
  exact ⟨r, c, s, gs, cs, e _ _ h1, e _ _ h2, e _ _ h3, h⟩
theorem Src.mono {kg kc : Str} {H : Hp} {p g cl : Addr} {n m : Nat} (z : Src kg kc H p g cl n) (e : n ≤ m) : Src kg kc H p g cl m := by
  obtain ⟨r, c, s, gs, cs, h1, h2, h3, h4, h5, h6, h7, h⟩ := z.ex
  exact ⟨r, c, s, gs, cs, h1, h2, h3, h4, h5, h6, by omega, h⟩
section
variable {kg kc : Str} {g cl : Addr} {r c s v : Int}
theorem src_rest (k : KOk kg kc) : valV (srcK kg kc g cl r c s) (Sum.inr "rest" : Key) = some (.int r) := by
  unfold srcK
  rw [valV_neg (fun z => k.n1 (Sum.inr.inj z)), valV_pos rfl]
theorem src_great (k : KOk kg kc) : valV (srcK kg kc g cl r c s) (Sum.inr kg : Key) = some (.ref g) := valV_pos rfl
theorem src_count (k : KOk kg kc) : valV (srcK kg kc g cl r c s) (Sum.inr kc : Key) = some (.int c) := by
  unfold srcK
  rw [valV_neg (fun z => k.n3 (Sum.inr.inj z)), valV_neg (fun z => k.n2 (Sum.inr.inj z).symm), valV_pos rfl]
theorem rest_ne_seed : ¬ (("rest" : Str) = "seed") := by decide +kernel
theorem rest_ne_cells : ¬ (("rest" : Str) = "cells") := by decide +kernel
theorem seed_ne_cells : ¬ (("seed" : Str) = "cells") := by decide +kernel
theorem src_seed (k : KOk kg kc) : valV (srcK kg kc g cl r c s) (Sum.inr "seed" : Key) = some (.int s) := by
  unfold srcK
  rw [valV_neg (fun z => k.n6 (Sum.inr.inj z)), valV_neg (fun z => rest_ne_seed (Sum.inr.inj z)), valV_neg (fun z => k.n4 (Sum.inr.inj z)), valV_pos rfl]
theorem src_cells (k : KOk kg kc) : valV (srcK kg kc g cl r c s) (Sum.inr "cells" : Key) = some (.ref cl) := by
  unfold srcK
  rw [valV_neg (fun z => k.n7 (Sum.inr.inj z)), valV_neg (fun z => rest_ne_cells (Sum.inr.inj z)), valV_neg (fun z => k.n5 (Sum.inr.inj z)), valV_neg (fun z => seed_ne_cells (Sum.inr.inj z)), valV_pos rfl]
theorem put_rest (k : KOk kg kc) : putK (srcK kg kc g cl r c s) (Sum.inr "rest" : Key) (.int v) = srcK kg kc g cl v c s := by
  have h : ((srcK kg kc g cl r c s).any fun kv => decide (kv.1 = (Sum.inr "rest" : Key))) = true := by rw [valV_any, src_rest k]; rfl
  unfold putK
  rw [if_pos h]
  unfold srcK
  simp [k.n1, k.n2, Ne.symm rest_ne_seed, Ne.symm rest_ne_cells]
theorem put_count (k : KOk kg kc) : putK (srcK kg kc g cl r c s) (Sum.inr kc : Key) (.int v) = srcK kg kc g cl r v s := by
  have h : ((srcK kg kc g cl r c s).any fun kv => decide (kv.1 = (Sum.inr kc : Key))) = true := by rw [valV_any, src_count k]; rfl
  unfold putK
  rw [if_pos h]
  unfold srcK
  simp [k.n3, Ne.symm k.n2, Ne.symm k.n4, Ne.symm k.n5]
theorem put_seed (k : KOk kg kc) : putK (srcK kg kc g cl r c s) (Sum.inr "seed" : Key) (.int v) = srcK kg kc g cl r c v := by
  have h : ((srcK kg kc g cl r c s).any fun kv => decide (kv.1 = (Sum.inr "seed" : Key))) = true := by rw [valV_any, src_seed k]; rfl
  unfold putK
  rw [if_pos h]
  unfold srcK
  simp [k.n6, rest_ne_seed, k.n4, Ne.symm seed_ne_cells]
end
/-- a draw -/
def sp_draw (kg kc : Str) : Sp := fun vs H Q _ => ∃ (p g cl : Addr) (n : Nat) (b : Int), vs = [.ref p, .int b] ∧ Src kg kc H p g cl n ∧ 1 ≤ b ∧ b < 2 ^ 200 ∧ n ≤ 2 ^ 40 ∧
  ∀ (d : Int) (H' : Hp), 0 ≤ d → d < b → Src kg kc H' p g cl (n + 1) → Sx (SrcS p g) H H' → Q (.int d) H'
end BL
namespace BL
open PySem PySem.Spec PyProof.Rows L2
theorem ifT {c : Bool} {A B : Prop} (hc : c = true) (h : A) : if c = true then A else B := by
  rw [if_pos hc]
  exact h
theorem ifF {c : Bool} {A B : Prop} (hc : c = false) (h : B) : if c = true then A else B := by
  rw [hc, if_neg Bool.false_ne_true]
  exact h
theorem if2 {c : Bool} {A B : Prop} (h1 : c = true → A) (h2 : c = false → B) : if c = true then A else B := by
  cases c with
  | true => exact ifT rfl (h1 rfl)
  | false => exact ifF rfl (h2 rfl)
/-- the source's state, for reading and storing -/
structure SrcAt (kg kc : Str) (H : Hp) (p g cl : Addr) (r c s : Int) (gs cs : List Int) : Prop where
  ob : H p = some (.dK (srcK kg kc g cl r c s))
  gr : H g = some (.lst (gs.map V.int))
  ce : H cl = some (.lst (cs.map V.int))
  ne : g ≠ cl
section
variable {kg kc : Str} {H : Hp} {p g cl : Addr} {r c s : Int} {gs cs : List Int}
theorem SrcAt.gp (S : SrcAt kg kc H p g cl r c s gs cs) : g ≠ p := fun z => by
  have h := S.gr
  rw [z, S.ob] at h
  cases h
theorem SrcAt.clp (S : SrcAt kg kc H p g cl r c s gs cs) : cl ≠ p := fun z => by
  have h := S.ce
  rw [z, S.ob] at h
  cases h
theorem SrcAt.rest (k : KOk kg kc) (S : SrcAt kg kc H p g cl r c s gs cs) : DGet H p (.str "rest") (some (.int r)) := by
  rw [← src_rest (g := g) (cl := cl) (c := c) (s := s) k]
  exact DGet.k (k := Sum.inr "rest") S.ob
theorem SrcAt.great (k : KOk kg kc) (S : SrcAt kg kc H p g cl r c s gs cs) : DGet H p (.str kg) (some (.ref g)) := by
  rw [← src_great (cl := cl) (r := r) (c := c) (s := s) k]
  exact DGet.k (k := Sum.inr kg) S.ob
theorem SrcAt.count (k : KOk kg kc) (S : SrcAt kg kc H p g cl r c s gs cs) : DGet H p (.str kc) (some (.int c)) := by
  rw [← src_count (g := g) (cl := cl) (r := r) (s := s) k]
  exact DGet.k (k := Sum.inr kc) S.ob
theorem SrcAt.seed (k : KOk kg kc) (S : SrcAt kg kc H p g cl r c s gs cs) : DGet H p (.str "seed") (some (.int s)) := by
  rw [← src_seed (g := g) (cl := cl) (r := r) (c := c) k]
  exact DGet.k (k := Sum.inr "seed") S.ob
theorem SrcAt.cells (k : KOk kg kc) (S : SrcAt kg kc H p g cl r c s gs cs) : DGet H p (.str "cells") (some (.ref cl)) := by
  rw [← src_cells (g := g) (r := r) (c := c) (s := s) k]
  exact DGet.k (k := Sum.inr "cells") S.ob
theorem SrcAt.put (S : SrcAt kg kc H p g cl r c s gs cs) (r' c' s' : Int) : SrcAt kg kc (upd H p (.dK (srcK kg kc g cl r' c' s'))) p g cl r' c' s' gs cs :=
  ⟨upd_same, by rw [upd_ne S.gp]; exact S.gr, by rw [upd_ne S.clp]; exact S.ce, S.ne⟩
theorem SrcAt.putRest (k : KOk kg kc) (S : SrcAt kg kc H p g cl r c s gs cs) (v : Int) : DPut H p (.str "rest") (.int v) (upd H p (.dK (srcK kg kc g cl v c s))) := by
  rw [← put_rest (r := r) k]
  exact DPut.k (k := Sum.inr "rest") S.ob (by show 5 < sizeLine; decide)
theorem SrcAt.putCount (k : KOk kg kc) (S : SrcAt kg kc H p g cl r c s gs cs) (v : Int) : DPut H p (.str kc) (.int v) (upd H p (.dK (srcK kg kc g cl r v s))) := by
  rw [← put_count (c := c) k]
  exact DPut.k (k := Sum.inr kc) S.ob (by show 5 < sizeLine; decide)
theorem SrcAt.putSeed (k : KOk kg kc) (S : SrcAt kg kc H p g cl r c s gs cs) (v : Int) : DPut H p (.str "seed") (.int v) (upd H p (.dK (srcK kg kc g cl r c v))) := by
  rw [← put_seed (s := s) k]
  exact DPut.k (k := Sum.inr "seed") S.ob (by show 5 < sizeLine; decide)
theorem SrcAt.same {H' : Hp} (S : SrcAt kg kc H p g cl r c s gs cs) (e : Same H H') : SrcAt kg kc H' p g cl r c s gs cs := ⟨e _ _ S.ob, e _ _ S.gr, e _ _ S.ce, S.ne⟩
theorem SrcAt.pop (S : SrcAt kg kc H p g cl r c s gs cs) (hs : List Int) : SrcAt kg kc (upd H g (.lst (hs.map V.int))) p g cl r c s hs cs :=
  ⟨by rw [upd_ne S.gp.symm]; exact S.ob, upd_same, by rw [upd_ne S.ne.symm]; exact S.ce, S.ne⟩
end
theorem Src.at_ {kg kc : Str} {H : Hp} {p g cl : Addr} {n : Nat} (z : Src kg kc H p g cl n) : ∃ r c s gs cs, SrcAt kg kc H p g cl r c s gs cs ∧ 0 ≤ r ∧ 0 ≤ c ∧ c ≤ n ∧ 0 ≤ s ∧ s < 2147483647 ∧ (∀ z ∈ gs, 0 ≤ z) ∧ cs ≠ [] ∧ (∀ z ∈ cs, 0 ≤ z ∧ z < 2147483629) := by
  obtain ⟨r, c, s, gs, cs, h1, h2, h3, h4, h⟩ := z.ex
  exact ⟨r, c, s, gs, cs, ⟨h1, h2, h3, h4⟩, h⟩
theorem Src.of {kg kc : Str} {H : Hp} {p g cl : Addr} {n : Nat} {r c s : Int} {gs cs : List Int} (S : SrcAt kg kc H p g cl r c s gs cs) (h : 0 ≤ r ∧ 0 ≤ c ∧ c ≤ n ∧ 0 ≤ s ∧ s < 2147483647 ∧ (∀ z ∈ gs, 0 ≤ z) ∧ cs ≠ [] ∧ (∀ z ∈ cs, 0 ≤ z ∧ z < 2147483629)) : Src kg kc H p g cl n :=
  ⟨r, c, s, gs, cs, S.ob, S.gr, S.ce, S.ne, h⟩
/-- ints as data -/
theorem dpAll_ints {K : PySem.W.Frag} {H : Hp} : ∀ ns : List Int, DpAll K H (ns.map V.int) (ns.map PyData.int)
  | [] => .nil
  | n :: r => .cons (.int n) (dpAll_ints r)
theorem lay_ints : ∀ ns : List Int, PyData.canLayAll0 (ns.map PyData.int) = true
  | [] => by simp [PyData.canLayAll0]
  | n :: r => by simp [PyData.canLayAll0, PyData.canLay0, lay_ints r]
theorem depth_ints : ∀ ns : List Int, PyData.depthAll (ns.map PyData.int) = 0
  | [] => by simp [PyData.depthAll]
  | n :: r => by simp [PyData.depthAll, PyData.depth, depth_ints r]
theorem shaped_ints (ns : List Int) : SeqAt.shaped (.list (ns.map PyData.int)) = true := by
  simp [SeqAt.shaped, PyData.canLay0, PyData.depth, lay_ints, depth_ints]
end BL

set_option Elab.async false
set_option linter.all false
set_option maxRecDepth 100000
set_option maxHeartbeats 4000000
namespace PySem
namespace HandSPX
open Builtin Builtin.ObjectAttr
/-! ### an own exception class called with one keyword -/
section
variable {M : Model} {A : Around} {E : Value → Shared → Prop} {h : Heap} {g : Array GenState} {d : Drawn} {t : Nat} {os : OsState}
variable {nm q : Str} {C N : Addr} {bs bm bmB : List Value} {hdct : Bool} {sn : List Str} {sub : List Value} {ab : Bool} {col : Option Bool} {dd : Option Addr} {k0 k1 k2 k3 k5 : Option Value} {B newId initId : String}
theorem kw_check_new (F : ExcBaseFacts B newId initId bmB) (hT : ∀ X : String, bm.contains (.type X) = bmB.contains (.type X)) {kn : Str} {kv : Value} {Q : Unit → Shared → Prop}
    (hC : h.get? C = some (excClassObj nm q C N bs bm hdct sn sub ab col dd k0 k1 k2 k3 k5 newId)) (hq : Q () ⟨h, g, d, t, os⟩) : wpAny M A (checkBuiltinCall newId ⟨[.ref C], [(kn, kv)]⟩) Q E ⟨h, g, d, t, os⟩ := by
  have isB : (Value.ref C :: bm).contains (.type B) = true := by rw [List.contains_cons, hT, F.hasB, Bool.or_true]
  have nstar := F.noStar
  simp only [checkBuiltinCall, F.newKind, F.newSplit, F.newRow]
  repeat (first | refine wpAny_loadPart_at hC ?_ | (refine wpAny_isSubtype_exc hC ?_; rw [isB]) | refine wpAny_staticBase_exc hC ?_ | refine wpAny_madeBy_exc hC ?_ | simp only [bne_self_eq_false, Bool.false_eq_true, if_false] | wp_step)
  exact hq
end
section
variable {prog : Program} {w : World} {A : Around} {E : Value → Shared → Prop} {R : Result → Shared → Prop} {h : Heap} {g : Array GenState} {d : Drawn} {t : Nat} {os : OsState}
variable {nm q : Str} {C N : Addr} {bs bm bmB : List Value} {hdct : Bool} {sn : List Str} {sub : List Value} {ab : Bool} {col : Option Bool} {dd : Option Addr} {k0 k1 k2 k3 k5 : Option Value} {B newId initId : String}
theorem kw_new (F : ExcBaseFacts B newId initId bmB) (hT : ∀ X : String, bm.contains (.type X) = bmB.contains (.type X)) {kn : Str} {kv : Value}
    (hC : h.get? C = some (excClassObj nm q C N bs bm hdct sn sub ab col dd k0 k1 k2 k3 k5 newId))
    (hq : R (.ok (.ret (.ref (h.objs.size + 1)))) ⟨(h.push (W.kdv_tup [])).push (excO C h.objs.size), g, d, t, os⟩) : codeAny (model prog w) A (.builtin newId ⟨[.ref C], [(kn, kv)]⟩) R ⟨h, g, d, t, os⟩ := by
  have ends := F.ends
  have isB : (Value.ref C :: bm).contains (.type B) = true := by rw [List.contains_cons, hT, F.hasB, Bool.or_true]
  have noA : (Value.ref C :: bm).contains (.type "AttributeError") = false := by rw [List.contains_cons, hT, F.noAttr]; rfl
  have noN : (Value.ref C :: bm).contains (.type "NameError") = false := by rw [List.contains_cons, hT, F.noName]; rfl
  refine codeAny_builtinAt F.entry ?_
  unfold Builtin.«BaseException.__new__»
  refine wpAt_bind ?_
  show wpAt _ _ _ (stack >>= _) _ _ _
  refine wpAt_bind (wpAt_stack fun p below => wpAt_of_wpAny ?_)
  wp_walk
  refine wpAt_of_wpAny ?_
  rw [F.owner]
  repeat (first | with_reducible refine wpAny_madeHere_exc F.canon hC ?_ | with_reducible refine wpAny_loadPart_at hC ?_ | (with_reducible refine wpAny_isSubtype_exc hC ?_; first | rw [isB] | rw [noA] | rw [noN]) | wp_step)
  show R _ _
  rw [Heap.size_push]
  exact hq
theorem kw_type_call (F : ExcBaseFacts B newId initId bmB) (hT : ∀ X : String, bm.contains (.type X) = bmB.contains (.type X)) {kn : Str} {kv : Value} {fI : Addr} {Q : Fin → Shared → Prop}
    (hC : h.get? C = some (excClassObj nm q C N bs bm hdct sn sub ab col dd k0 k1 k2 k3 k5 newId))
    (hi : W.Looks (model prog w) h (typeLookup (.ref C) "__init__") (some (.ref fI))) (hb : ∀ self, W.Looks (model prog w) h (bindSpecial (.ref fI) self) (.ref fI, [self]))
    (hq : codeAny (model prog w) A (.call (.ref fI) ⟨[.ref (h.objs.size + 1)], [(kn, kv)]⟩)
      (fun r s' => match r with | .ok (.ret v) => v = .none ∧ Q (.done (.ret (.ref (h.objs.size + 1)))) s' | .ok _ => False | .error e => E e s')
      ⟨(h.push (W.kdv_tup [])).push (excO C h.objs.size), g, d, t, os⟩) :
    wpAny (model prog w) A (Builtin.«type.__call__» ⟨[.ref C], [(kn, kv)]⟩) Q E ⟨h, g, d, t, os⟩ := by
  repeat (first | with_reducible refine wpAny_loadPart_at hC ?_ | with_reducible refine wpAny_madeBy_exc hC ?_ | wp_step)
  refine codeAny_call_builtin_code (Code.quiet_builtin _ F.quiet) (kw_check_new F hT hC ?_)
  refine kw_new F hT hC ?_
  show wpAny _ _ _ _ _ _
  have k : ∀ b o, h.get? b = some o → ((h.push (W.kdv_tup [])).push (excO C h.objs.size)).get? b = some o := fun b o e => Heap.get?_push_of_some _ (Heap.get?_push_of_some _ e)
  have hCn := k _ _ hC
  have hgot : ((h.push (W.kdv_tup [])).push (excO C h.objs.size)).get? (h.objs.size + 1) = some (excO C h.objs.size) := by heap_get
  have isC : (Value.ref C :: bm).contains (.ref C) = true := by simp
  have i1 := hi.keeps k
  have b1 := (hb (.ref (h.objs.size + 1))).keeps k
  unfold isInstance
  repeat (first | with_reducible refine wpAny_loadPart_at hgot ?_ | (with_reducible refine wpAny_isSubtype_exc hCn ?_; rw [isC]) | wp_step)
  show wpAny _ _ (typeLookup (.ref C) _) _ _ _
  refine i1.at ?_
  refine wpAny_holding (wpAny_bind (b1.at ?_))
  refine wpAny_bind (wpAny_call (codeAny_mono hq fun r s' z => ?_))
  rcases r with e | (v | _ | _ | _) <;> first | exact z | exact z.elim | skip
  obtain ⟨rfl, z⟩ := z
  first
    | exact wpAny_pure (wpAny_pure z)
    | (wp_walk; exact z)
theorem kw_call_own (F : ExcBaseFacts B newId initId bmB) (hT : ∀ X : String, bm.contains (.type X) = bmB.contains (.type X)) {kn : Str} {kv : Value} {fI : Addr}
    (hC : h.get? C = some (excClassObj nm q C N bs bm hdct sn sub ab col dd k0 k1 k2 k3 k5 newId))
    (hi : W.Looks (model prog w) h (typeLookup (.ref C) "__init__") (some (.ref fI))) (hb : ∀ self, W.Looks (model prog w) h (bindSpecial (.ref fI) self) (.ref fI, [self]))
    (hq : codeAny (model prog w) (A.under (.builtin "type.__call__" ⟨[.ref C], [(kn, kv)]⟩)) (.call (.ref fI) ⟨[.ref (h.objs.size + 1)], [(kn, kv)]⟩) (W.InitBack (h.objs.size + 1) R)
      ⟨(h.push (W.kdv_tup [])).push (excO C h.objs.size), g, d, t, os⟩) :
    codeAny (model prog w) A (.call (.ref C) ⟨[], [(kn, kv)]⟩) R ⟨h, g, d, t, os⟩ := by
  have f1 := tc_lookup
  have f2 := tc_bind (.ref C)
  have hTy : (⟨h, g, d, t, os⟩ : Shared).TypeIs (.ref C) "type" := ⟨_, hC, rfl⟩
  refine codeAny_of_tree ?_
  show wpAny _ _ (callAny (.ref C) _) _ _ _
  repeat (any_goals (first | assumption | with_reducible refine wpAny_loadPart_at hC ?_ | wp_step))
  refine ⟨rfl, ?_⟩
  refine codeAny_call_builtin_at (Code.quiet_builtin _ (by decide +kernel)) entry_typeCall (wpAny_check_type_call_sub hC (kw_type_call F hT hC hi hb ?_))
  refine codeAny_mono hq fun r s' z => ?_
  rcases r with e | (v | _ | _ | _) <;> exact z
end
end HandSPX
end PySem
namespace BL
open PySem PySem.Spec PyProof.Rows L2
/-- a def that may be called with n positional values and the keywords ks -/
structure CalK (P : Program) (w : World) (K : PySem.W.Frag) (mg : Str → Option Value) (base : Heap) (k : Nat) (x : Str) (sp : Sp) (n : Nat) (ks : List Str) (gV : List V → List V → List V) : Prop where
  ex : ∃ (f : Addr) (fd : FuncData) (ps : List Str) (g : List Value → List Value → List Value), FnOk P w K mg base CX0 k f fd ps sp ∧ mg x = some (.ref f) ∧ PySem.W.keepIn K (.ref f) = true ∧ KBn K fd ps n ks g gV
/-- an own exception class that may be made: its __init__ keeps sp -/
structure CalE (P : Program) (w : World) (K : PySem.W.Frag) (mg : Str → Option Value) (base : Heap) (k : Nat) (x : Str) (C : Addr) (sp : Sp) : Prop where
  ex : ∃ (fI : Addr) (fd : FuncData) (ps : List Str), OexC K C ∧ PySem.W.findIn K (.ref C) "__init__" = some (some (.ref fI)) ∧ PySem.W.typeIn K (.ref fI) = some (.type "function") ∧ FnOk P w K mg base CX0 k fI fd ps sp ∧ Binds K fd ps [] ∧ mg x = some (.ref C)
/-- .. by one keyword kn -/
structure CalEK (P : Program) (w : World) (K : PySem.W.Frag) (mg : Str → Option Value) (base : Heap) (k : Nat) (x : Str) (C : Addr) (sp : Sp) (kn : Str) : Prop where
  ex : ∃ (fI : Addr) (fd : FuncData) (ps : List Str), OexC K C ∧ PySem.W.findIn K (.ref C) "__init__" = some (some (.ref fI)) ∧ PySem.W.typeIn K (.ref fI) = some (.type "function") ∧ FnOk P w K mg base CX0 k fI fd ps sp ∧ mg x = some (.ref C) ∧
    KBn K fd ps 1 [kn] (fun us ws => us ++ ws) (fun vs zs => vs ++ zs)
def tCallKn (sp : Sp) (n m : Nat) (gV : List V → List V → List V) (t tk : TA) : TE := fun σ H Q => t σ H fun vs H1 => tk σ H1 fun zs H2 => vs.length = n ∧ zs.length = m ∧ sp (gV vs zs) H2 Q E0
/-- C(k = e) as a value -/
def tMkVK (C : Addr) (sp : Sp) (t : TA) : TE := fun σ H Q => t σ H fun vs H1 => vs.length = 1 ∧ ∀ a, H1 a = none → sp (.ref a :: vs) (upd H1 a (exo a C none)) (fun v H2 => v = .non ∧ Q (.ref a) H2) (fun _ _ _ => False)
/-- X(e), X an own class without __init__ -/
def tExc1 (C : Addr) (ta : TE) : TE := fun σ H Q => ta σ H fun _ H1 => ∀ a, H1 a = none → Q (.ref a) (upd H1 a (ExO (.ref C) a))
section
variable {X : Cx} {k j n : Nat} {x kn : Str} {sp : Sp} {ks : List Str} {gV : List V → List V → List V} {e : Expr} {es : List Expr} {kws : List Keyword} {t tk : TA} {ta : TE} {p pos : Pos} {C : Addr}
theorem pe_ck {m : Nat} (c : CalK X.prog X.w X.K X.mg X.base k x sp n ks gV) (hr : Room j X.A) (hk : k ≤ j) (hg : Gl X x) (ha : PA X (e :: es) t) (hkw : PK X kws tk)
    (hall : (backToKw pos (keywordEach kws X.env)).all (·.1.isSome) = true := by rfl) (hks : (backToKw pos (keywordEach kws X.env)).filterMap (·.1) = ks := by rfl)
    (hdb : (x == ("__debug__" : Str)) = false := by decide) (he : starEach (e :: es) X.env = (false, eval e X.env) :: starEach es X.env := by rfl)
    (hpl : ((backTo pos (starEach (e :: es) X.env)).any (·.1) || (backToKw pos (keywordEach kws X.env)).any (·.1.isNone)) = false := by rfl) (hl : ks.length = m := by rfl) : PE X (.Call (.Name x p) (e :: es) kws pos) (tCallKn sp n m gV t tk) := by
  subst hl
  obtain ⟨f, fd, ps, g, F, hm, kp, hb⟩ := c.ex
  exact pe_callN F (hr.mono hk) hg hm kp hb pass0 ha hkw hall hks hdb he hpl
theorem pe_ck0 {m : Nat} (c : CalK X.prog X.w X.K X.mg X.base k x sp 0 ks gV) (hr : Room j X.A) (hk : k ≤ j) (hg : Gl X x) (hkw : PK X kws tk)
    (hall : (backToKw pos (keywordEach kws X.env)).all (·.1.isSome) = true := by rfl) (hks : (backToKw pos (keywordEach kws X.env)).filterMap (·.1) = ks := by rfl)
    (hdb : (x == ("__debug__" : Str)) = false := by decide)
    (hpl : ((backTo pos (starEach [] X.env)).any (·.1) || (backToKw pos (keywordEach kws X.env)).any (·.1.isNone)) = false := by rfl) (hl : ks.length = m := by rfl) : PE X (.Call (.Name x p) [] kws pos) (tCallKn sp 0 m gV tNil tk) := by
  subst hl
  obtain ⟨f, fd, ps, g, F, hm, kp, hb⟩ := c.ex
  refine ⟨fun pins s σ H Q I h => wpAny_Call_Name_kw (ld_glob I hg hm ?_ hdb)⟩
  refine PySem.W.callWith_KW0 (h₀ := X.base) I.ok.mod.kin kp hall (thn (hkw.run pos pins s σ H _ I h) fun ws s2 ⟨zs, H2, I2, rz, _, l2, q2⟩ => ⟨I2.kIn, ?_⟩) hpl
  rw [hks]
  exact run_fnN (us := []) (vs := []) F (hr.mono hk) hb pass0 I2 .nil rz rfl l2 q2
theorem pe_mke (c : CalE X.prog X.w X.K X.mg X.base k x C sp) (hr : Room j X.A) (hk : k + 1 ≤ j) (hg : Gl X x) (ha : PA X (e :: es) t) (hdb : (x == ("__debug__" : Str)) = false := by decide)
    (he : starEach (e :: es) X.env = (false, eval e X.env) :: starEach es X.env := by rfl) (hpl : (backTo pos (starEach es X.env)).any (·.1) = false := by rfl) : PE X (.Call (.Name x p) (e :: es) [] pos) (tMkV C sp [] t) := by
  obtain ⟨fI, fd, ps, T, iC, tI, F, b, hm⟩ := c.ex
  exact pe_mkv T iC tI F (hr.mono hk) b .nil pass0 hg hm ha hdb he hpl
theorem pe_mkek (c : CalEK X.prog X.w X.K X.mg X.base k x C sp kn) (hr : Room j X.A) (hk : k + 1 ≤ j) (hg : Gl X x) (hkw : PK X kws tk)
    (hall : (backToKw pos (keywordEach kws X.env)).all (·.1.isSome) = true := by rfl) (hks : (backToKw pos (keywordEach kws X.env)).filterMap (·.1) = [kn] := by rfl)
    (hdb : (x == ("__debug__" : Str)) = false := by decide)
    (hpl : ((backTo pos (starEach [] X.env)).any (·.1) || (backToKw pos (keywordEach kws X.env)).any (·.1.isNone)) = false := by rfl) : PE X (.Call (.Name x p) [] kws pos) (tMkVK C sp tk) := by
  obtain ⟨fI, fd, ps, T, iC, tI, F1, hm, hb⟩ := c.ex
  refine ⟨fun pins s σ H Q I h => wpAny_Call_Name_kw (ld_glob I hg hm ?_ hdb)⟩
  refine PySem.W.callWith_KW0 (h₀ := X.base) I.ok.mod.kin T.kC hall (thn (hkw.run pos pins s σ H _ I h) fun ws s2 ⟨zs, H2, I2, rz, l1, q⟩ => ⟨I2.kIn, ?_⟩) hpl
  rw [hks]
  obtain ⟨z, rfl⟩ : ∃ z, zs = [z] := List.length_eq_one_iff.mp l1
  obtain ⟨u, rfl, rzu⟩ : ∃ u, ws = [u] ∧ RelV z u := by
    cases rz with
    | cons r rr => cases rr; exact ⟨_, rfl, r⟩
  show wpAny _ _ (call (.ref C) [] [(kn, u)]) _ _ _
  obtain ⟨nm, q', N, bs, bm, sn, sub, ab, col, dd, k0, k1, k2, k3, k5, hC, hbm⟩ := T.cls
  obtain ⟨hp, g, dr, tk, os⟩ := s2
  have hq := q (hp.objs.size + 1) (I2.hok.fresh (Nat.le_succ _))
  have hget : ((hp.push (PySem.W.kdv_tup [])).push (PySem.HandSPX.excO C hp.objs.size)).get? (hp.objs.size + 1) = some (PySem.HandSPX.excO C hp.objs.size) := by heap_get
  have J := I2.laid (t' := tk) (a := hp.objs.size + 1) (o := exo (hp.objs.size + 1) C none) (h' := (hp.push (PySem.W.kdv_tup [])).push (PySem.HandSPX.excO C hp.objs.size)) (fun b o e => Heap.get?_push_of_some _ (Heap.get?_push_of_some _ e)) (Nat.le_succ _) (exo_ok hget)
  have hr1 : Room (k + 1) X.A := hr.mono hk
  have rr : Vals [V.ref (hp.objs.size + 1), z] ([Value.ref (hp.objs.size + 1)] ++ [u]) := .cons rfl (.cons rzu .nil)
  refine wpAny_call (PySem.HandSPX.kw_call_own F.excBase_ValueError (fun Y => PySem.HandSPX.refsVE_contains Y bm hbm) (I2.kIn _ _ hC) (PySem.W.looks_findIn I2.kIn iC) (fun self => PySem.W.bind_fn I2.kIn self tI)
    (codeAny_mono (F1.run _ X.stack _ _ ⟨[Value.ref (hp.objs.size + 1)], [(kn, u)]⟩ ([Value.ref (hp.objs.size + 1)] ++ [u]) _ _ (fun _ _ _ => False) (hr1.make C [] [(kn, u)]) (J.env0.make C [] [(kn, u)]) (hb.to _ [Value.ref (hp.objs.size + 1)] [u] J.kIn rfl rfl) rr hq) fun r s' hq' => ?_))
  match r, hq' with
  | .error er, hq' => exact hq'.elim
  | .ok .next, hq' => exact False.elim hq'
  | .ok .brk, hq' => exact False.elim hq'
  | .ok .cont, hq' => exact False.elim hq'
  | .ok (.ret u), hq' =>
    obtain ⟨v, H3, os2, bare2, un2, hok2, rv, ev, q2⟩ := hq'
    subst ev
    exact ⟨rv, .ref (hp.objs.size + 1), H3, J.call' os2 un2 hok2 bare2 (fun b z => absurd z List.not_mem_nil), rfl, q2⟩
theorem pe_exc1' {bmB : List Value} {B newId initId : String} (F : ExcBaseFacts B newId initId bmB) (q : PySem.W.excIn X.K C bmB newId = true) (gC : X.mg x = some (.ref C)) (kC : PySem.W.keepIn X.K (.ref C) = true) (hg : Gl X x)
    (he : PE X e ta) (hs : starEach [e] X.env = (false, eval e X.env) :: starEach [] X.env := by rfl) (hdb : (x == ("__debug__" : Str)) = false := by decide) : PE X (.Call (.Name x p) [e] [] pos) (tExc1 C ta) := pe_exc1 F q gC kC hg he hs hdb
end
end BL

set_option Elab.async false
set_option linter.all false
set_option maxRecDepth 100000
set_option maxHeartbeats 4000000
namespace BL
open PySem PySem.Spec PyProof.Rows L2
abbrev veT : List Value := [.type "ValueError", .type "Exception", .type "BaseException", .type "object"]
/-- what the written part says of an own exception class at C, over PourError at PB (or PourError itself: bm = veT) -/
structure XCls (K : PySem.W.Frag) (C : Addr) (bm : List Value) : Prop where
  cls : ∃ nm q N bs sn sub ab col dd k0 k1 k2 k3 k5, K.lookup C = some (excClassObj nm q C N bs bm true sn sub ab col dd k0 k1 k2 k3 k5 "ValueError.__new__")
  ve : PySem.HandSPX.refsVE bm = true
  sa : PySem.W.findIn K (.ref C) "__setattr__" = some (some (.builtin "object.__setattr__"))
  ga : PySem.W.findIn K (.ref C) "__getattribute__" = some (some (.builtin "BaseException.__getattribute__"))
  gg : PySem.W.findIn K (.ref C) "__getattr__" = some none
  ha : PySem.W.findIn K (.ref C) "__class__" = some (some (.builtin "object.__class__"))
  kC : PySem.W.keepIn K (.ref C) = true
/-- what the kit knows of object.__class__ -/
structure XKit (K : PySem.W.Frag) : Prop where
  hn : PySem.W.specialIn K (.builtin "object.__class__") "__get__" = some (some (.builtin "getset_descriptor.__get__"))
  ht : PySem.W.takesIn K (.builtin "object.__class__") = some true
section
variable {K : PySem.W.Frag} {C D : Addr} {bm : List Value}
theorem XCls.cl (T : XCls K C bm) : ∃ cd, PySem.W.clsIn K C = some cd ∧ cd.mro = .ref C :: bm ∧ cd.hasDict = true := by
  obtain ⟨nm, q, N, bs, sn, sub, ab, col, dd, k0, k1, k2, k3, k5, h⟩ := T.cls
  refine ⟨{ name := nm, bases := bs, mro := .ref C :: bm, ns := N, qualname := q, hasDict := true, slotNames := sn, subclasses := sub, abstract := ab, collection := col, hasDel := false }, ?_, rfl, rfl⟩
  unfold PySem.W.clsIn
  rw [h] <;> rfl
theorem XCls.sub (T : XCls K C bm) (b : Value) : PySem.W.subIn K (.ref C) b = some ((Value.ref C :: bm).contains b) := by
  obtain ⟨cd, h, e, _⟩ := T.cl
  show PySem.W.mroIn K C b = _
  unfold PySem.W.mroIn
  rw [h, Option.bind_some, e]
  rfl
theorem XCls.subT (T : XCls K C bm) (t : String) : PySem.W.subIn K (.ref C) (.type t) = some (veT.contains (.type t)) := by
  rw [T.sub, List.contains_cons, PySem.HandSPX.refsVE_contains t bm T.ve]
  rfl
theorem XCls.ty (T : XCls K C bm) : PySem.W.typeIn K (.ref C) = some (.type "type") := by
  obtain ⟨nm, q, N, bs, sn, sub, ab, col, dd, k0, k1, k2, k3, k5, h⟩ := T.cls
  show (K.lookup C).map (·.cls) = _
  rw [h]
  rfl
theorem XCls.base (T : XCls K C bm) : PySem.W.subIn K (.ref C) (.type "BaseException") = some true := by
  rw [T.subT]
  rfl
theorem XCls.isCls (T : XCls K C bm) : (PySem.W.clsIn K C).isSome = true := by
  obtain ⟨cd, h, _⟩ := T.cl
  rw [h]
  rfl
theorem XCls.hd (T : XCls K C bm) : PySem.W.hasDictIn K C = true := by
  obtain ⟨cd, h, _, e⟩ := T.cl
  unfold PySem.W.hasDictIn
  rw [h]
  exact e
theorem XCls.oex (T : XCls K C bm) : OexC K C := by
  obtain ⟨nm, q, N, bs, sn, sub, ab, col, dd, k0, k1, k2, k3, k5, h⟩ := T.cls
  exact ⟨⟨nm, q, N, bs, bm, sn, sub, ab, col, dd, k0, k1, k2, k3, k5, h, T.ve⟩, T.sa, T.base, T.ty, T.kC⟩
theorem XCls.read (T : XCls K C bm) {f : Str} (no : PySem.W.findIn K (.ref C) f = some none) : XRead K C f := ⟨T.ga, T.gg, T.base, T.hd, no⟩
theorem XCls.is (T : XCls K C bm) (k : XKit K) : XIs K C := ⟨T.isCls, T.ga, T.gg, T.base, T.ha, k.hn, k.ht, by
  have h := T.subT "object"
  exact h⟩
/-- is an exception of the class at C one of the class at D -/
theorem XCls.kit {bm' : List Value} (T : XCls K C bm) (U : XCls K D bm') : PySem.W.kitOne K (.ref C) (.ref D) = some ((Value.ref C :: bm).contains (.ref D)) := by
  unfold PySem.W.kitOne
  by_cases e : C = D
  · subst e
    simp
  · have h1 : ((Value.ref C == Value.ref D)) = false := by simpa using e
    rw [h1, if_neg Bool.false_ne_true]
    show (if ((PySem.W.clsIn K D).isSome && PySem.W.typeIn K (.ref D) == some (.type "type")) = true then PySem.W.subIn K (.ref C) (.ref D) else none) = _
    rw [U.isCls, U.ty, T.sub]
    rfl
theorem XCls.kitT (T : XCls K C bm) {t : String} (h : PySem.W.kitMeta t = true) : PySem.W.kitOne K (.ref C) (.type t) = some (veT.contains (.type t)) := by
  show (if PySem.W.kitMeta t = true then PySem.W.subIn K (.ref C) (.type t) else none) = _
  rw [if_pos h, T.subT]
end
/-- C's own __init__(self, v): the field f of the exception holds v -/
def spx_init (K : PySem.W.Frag) (C : Addr) (f : Str) : Sp := fun vs H Q _ => ∃ (a : Addr) (v : V), vs = [.ref a, v] ∧ H a = some (exo a C none) ∧ OexC K C ∧ PySem.W.findIn K (.ref C) f = some none ∧
  ∀ d, H d = none → d ≠ a → Q .non (upd (upd H d (exd d [(f, v)])) a (exo a C (some d)))
/-- PourError.__init__(self, m); self.f = v -/
def tx_init (K : PySem.W.Frag) (m f : Str) : TS := tSeq (tDrop (tVeI K (tCons (tVar 0) (tCons (tC (.str m)) tNil)))) (tOst K f (tVar 0) (tVar 1))
theorem px_init {K : PySem.W.Frag} {C : Addr} {m f : Str} {N : List Str} (hN : N.length = 2) (vs : List V) (H : Hp) (Q : VK) (E : XK) (h : spx_init K C f vs H Q E) : tx_init K m f { nx := fun _ H' => Q .non H', rt := Q } (L2.start N vs) H := by
  obtain ⟨a, v, rfl, ha, T, no, k⟩ := h
  have e0 : L2.start N [.ref a, v] = [some (.ref a), some v] := by
    unfold L2.start
    rw [hN]
    rfl
  rw [e0]
  refine ⟨_, rfl, a, C, _, rfl, (by show 1 ≤ 1000; decide), T, ha, _, rfl, _, rfl, a, C, rfl, T, no, .inl ⟨ha, fun dx hd hne => k dx hd hne⟩⟩
/-- an exception of the class at C with the field f -/
def ExF (H : Hp) (a C : Addr) (f : Str) (v : V) : Prop := ∃ d, H a = some (exo a C (some d)) ∧ H d = some (exd d [(f, v)])
theorem ExF.same {H H' : Hp} {a C : Addr} {f : Str} {v : V} (x : ExF H a C f v) (e : Same H H') : ExF H' a C f v := x.elim fun d h => ⟨d, e _ _ h.1, e _ _ h.2⟩
theorem ExF.at_ {H : Hp} {a C : Addr} {f : Str} {v : V} (x : ExF H a C f v) : ExAt H a C := x.elim fun d h => .inr ⟨d, _, h.1, h.2⟩
/-- C(v): a new exception that holds v -/
theorem mkv_ex {K : PySem.W.Frag} {C : Addr} {f : Str} {v : V} {H : Hp} {Q : VK} (T : OexC K C) (no : PySem.W.findIn K (.ref C) f = some none) (q : ∀ a H', H a = none → Same H H' → ExF H' a C f v → Q (.ref a) H') :
    ∀ a, H a = none → spx_init K C f [.ref a, v] (upd H a (exo a C none)) (fun v H2 => v = .non ∧ Q (.ref a) H2) (fun _ _ _ => False) := fun a ha => by
  refine ⟨a, v, rfl, upd_same, T, no, fun d hd hne => ⟨rfl, ?_⟩⟩
  rw [upd_ne hne] at hd
  refine q a _ ha (fun b o e => ?_) ⟨d, upd_same, by rw [upd_ne hne, upd_same]⟩
  rw [upd_ne (ne_of_none e ha), upd_ne (ne_of_none e hd), upd_ne (ne_of_none e ha)]
  exact e
end BL

set_option Elab.async false
set_option linter.all false
set_option maxRecDepth 100000
set_option maxHeartbeats 4000000
namespace BL
open PySem PySem.Spec PyProof.Rows L2
/-! ### walks that yield known values and change nothing -/
structure Yields (J : It) (xs : List V) (I : Hp → Prop) : Prop where
  go : ∀ i H, I H → i < xs.length → J.go i H
  yld : ∀ i H x H', I H → i < xs.length → J.yld i H x H' → H' = H ∧ xs[i]? = some x
  stop : ∀ i H, I H → xs.length ≤ i → J.stop i H
theorem yields_list {K : PySem.W.Frag} {a : Addr} {xs : List V} : Yields (Itl K a) xs (fun H => SqL K H a xs) where
  go := fun i H h hi => ⟨xs, xs[i], h, by simp [hi]⟩
  yld := fun i H x H' h _ y => ⟨y.1, y.2 xs h⟩
  stop := fun i H h hi => ⟨xs, h, hi⟩
theorem yields_tup {K : PySem.W.Frag} {a : Addr} {xs : List V} : Yields (Itt K a) xs (fun H => SqT K H a xs) where
  go := fun i H h hi => ⟨xs, xs[i], h, by simp [hi]⟩
  yld := fun i H x H' h _ y => ⟨y.1, y.2 xs h⟩
  stop := fun i H h hi => ⟨xs, h, hi⟩
def sgs (z : Str) : List V := z.cps.toList.map fun c => V.str ⟨#[c]⟩
theorem sgs_len (z : Str) : (sgs z).length = z.length := by simp [sgs, Str.length]
theorem yields_str {z : Str} : Yields (Its z) (sgs z) (fun _ => True) where
  go := fun i H _ hi => by
    rw [sgs_len] at hi
    exact hi
  yld := fun i H x H' _ hi y => by
    obtain ⟨e, c, hc, rfl⟩ := y
    refine ⟨e, ?_⟩
    have h2 : z.cps.toList[i]? = some c := by simpa using hc
    simp [sgs, h2]
  stop := fun i H _ hi => by
    rw [sgs_len] at hi
    exact hi
def rng (lo : Int) (n : Nat) : List V := (List.range n).map fun i => V.int (lo + (i : Nat))
theorem rng_len (lo : Int) (n : Nat) : (rng lo n).length = n := by simp [rng]
theorem rng_get {lo : Int} {n i : Nat} {x : V} (h : (rng lo n)[i]? = some x) : i < n ∧ x = V.int (lo + (i : Nat)) := by
  unfold rng at h
  rw [List.getElem?_map] at h
  cases e : (List.range n)[i]? with
  | none => rw [e] at h; cases h
  | some j =>
    rw [e] at h
    have hi : i < n := by
      have := (List.getElem?_eq_some_iff.mp e).1
      simpa using this
    have hj : j = i := by
      rw [List.getElem?_range hi] at e
      exact (Option.some.inj e).symm
    subst hj
    exact ⟨hi, (Option.some.inj h).symm⟩
theorem yields_range {lo : Int} {n : Nat} : Yields (Itr lo n) (rng lo n) (fun _ => True) where
  go := fun i H _ hi => by
    rw [rng_len] at hi
    exact hi
  yld := fun i H x H' _ hi y => by
    rw [rng_len] at hi
    refine ⟨y.1, ?_⟩
    rw [y.2]
    simp [rng, hi]
  stop := fun i H _ hi => by
    rw [rng_len] at hi
    exact hi
section
variable {J : It} {xs : List V} {I : Hp → Prop} {g : TG} {tt : TT} {te : TE} {vs : List Nat} {σ : L2.St} {D : Addr} {H0 : Hp}
/-- a comprehension by an invariant of the turn and the heap -/
theorem lc_walk {Qd : Hp → Prop} (Y : Yields J xs I) (Pv : Nat → Hp → Prop) (h0 : Pv 0 (upd H0 D (.lst []))) (hl : ∀ i H, i ≤ xs.length → Pv i H → I H)
    (hs : ∀ i x H, xs[i]? = some x → Pv i H → g x (wipe σ vs) H fun σ2 H2 => wipe σ2 vs = wipe σ vs ∧ tt σ2 H2 fun b H3 =>
      if b = true then te σ2 H3 fun y H4 => ∃ acc, H4 D = some (.lst acc) ∧ acc.length < sizeLine ∧ Pv (i + 1) (upd H4 D (.lst (acc ++ [y]))) else Pv (i + 1) H3)
    (hd : ∀ H, Pv xs.length H → Qd H) :
    ∃ W : Nat → Nat → Hp → Prop, (∃ m, W 0 m (upd H0 D (.lst []))) ∧ ∀ i m H, W i m H →
      (J.stop i H ∧ Qd H) ∨ (J.go i H ∧ ∃ Nx : Hp → Prop, (∀ H', Nx H' → ∃ m', m' < m ∧ W (i + 1) m' H') ∧ ∀ x H', J.yld i H x H' → g x (wipe σ vs) H' fun σ2 H2 => wipe σ2 vs = wipe σ vs ∧ tt σ2 H2 fun b H3 =>
        if b = true then te σ2 H3 fun y H4 => ∃ acc, H4 D = some (.lst acc) ∧ acc.length < sizeLine ∧ Nx (upd H4 D (.lst (acc ++ [y]))) else Nx H3) := by
  refine ⟨fun i m H => m = xs.length - i ∧ i ≤ xs.length ∧ Pv i H, ⟨xs.length, by simp, Nat.zero_le _, h0⟩, ?_⟩
  rintro i m H ⟨rfl, hi, p⟩
  have q := hl i H hi p
  by_cases hlt : i < xs.length
  · refine .inr ⟨Y.go i H q hlt, Pv (i + 1), fun H' p' => ⟨xs.length - (i + 1), by omega, rfl, hlt, p'⟩, fun x H' y => ?_⟩
    obtain ⟨e, hx⟩ := Y.yld i H x H' q hlt y
    subst e
    exact hs i x _ hx p
  · have e : i = xs.length := by omega
    subst e
    exact .inl ⟨Y.stop _ H q (Nat.le_refl _), hd H p⟩
/-- a comprehension whose tests and items change nothing: one own name, in slot i -/
theorem lc_pure {Qd : Hp → Prop} {i : Nat} (p : V → Bool) (f : V → V) (Y : Yields J xs I) (hI : ∀ H', Same H0 H' → I H') (hD : H0 D = none) (hz : xs.length ≤ sizeLine)
    (ht : ∀ x ∈ xs, ∀ H' Q, Same H0 H' → Q (p x) H' → tt ((σ.set i none).set i (some x)) H' Q) (he : ∀ x ∈ xs, p x = true → ∀ H' Q, Same H0 H' → Q (f x) H' → te ((σ.set i none).set i (some x)) H' Q)
    (q : Qd (upd H0 D (.lst ((xs.filter p).map f)))) :
    ∃ W : Nat → Nat → Hp → Prop, (∃ m, W 0 m (upd H0 D (.lst []))) ∧ ∀ i' m H, W i' m H →
      (J.stop i' H ∧ Qd H) ∨ (J.go i' H ∧ ∃ Nx : Hp → Prop, (∀ H', Nx H' → ∃ m', m' < m ∧ W (i' + 1) m' H') ∧ ∀ x H', J.yld i' H x H' → gName i x (wipe σ [i]) H' fun σ2 H2 => wipe σ2 [i] = wipe σ [i] ∧ tt σ2 H2 fun b H3 =>
        if b = true then te σ2 H3 fun y H4 => ∃ acc, H4 D = some (.lst acc) ∧ acc.length < sizeLine ∧ Nx (upd H4 D (.lst (acc ++ [y]))) else Nx H3) := by
  have sm : ∀ o, Same H0 (upd H0 D o) := fun o => Same.upd hD
  have tk : ∀ {i' : Nat} {x : V}, xs[i']? = some x → xs.take (i' + 1) = xs.take i' ++ [x] := fun {i' x} h => by
    rw [List.take_add_one, h]
    rfl
  refine ⟨fun i' m H => m = xs.length - i' ∧ i' ≤ xs.length ∧ H = upd H0 D (.lst (((xs.take i').filter p).map f)), ⟨xs.length, by simp, Nat.zero_le _, by simp⟩, ?_⟩
  rintro i' m H ⟨rfl, hi, rfl⟩
  have q' := hI _ (sm (.lst (((xs.take i').filter p).map f)))
  by_cases hlt : i' < xs.length
  · refine .inr ⟨Y.go i' _ q' hlt, fun H' => H' = upd H0 D (.lst (((xs.take (i' + 1)).filter p).map f)), fun H' p' => ⟨xs.length - (i' + 1), by omega, rfl, hlt, p'⟩, fun x H' y => ?_⟩
    obtain ⟨e, hx⟩ := Y.yld i' _ x H' q' hlt y
    subst e
    have hm : x ∈ xs := List.mem_of_getElem? hx
    refine ⟨?_, ?_⟩
    · show ((σ.set i none).set i (some x)).set i none = σ.set i none
      rw [List.set_set, List.set_set]
    · refine ht x hm _ _ (sm _) ?_
      cases hp : p x with
      | true =>
        refine ifT rfl (he x hm hp _ _ (sm _) ⟨_, upd_same, ?_, ?_⟩)
        · have h1 : ((List.filter p (xs.take i')).map f).length ≤ i' := by
            rw [List.length_map]
            exact Nat.le_trans (List.length_filter_le _ _) (by rw [List.length_take]; omega)
          omega
        · rw [upd_upd, tk hx, List.filter_append, List.map_append]
          simp [hp]
      | false =>
        refine ifF rfl ?_
        rw [tk hx, List.filter_append, List.map_append]
        simp [hp]
  · have e : i' = xs.length := by omega
    subst e
    rw [List.take_length] at q' ⊢
    exact .inl ⟨Y.stop _ _ q' (Nat.le_refl _), q⟩
/-- a for by an invariant of the turn, the slots, the heap -/
theorem for_walk {tb : TS} {Dn : Ends} {H1 : Hp} (Y : Yields J xs I) (Pv : Nat → L2.St → Hp → Prop) (h0 : Pv 0 σ H1) (hl : ∀ i σ H, i ≤ xs.length → Pv i σ H → I H)
    (hs : ∀ i x σ H, xs[i]? = some x → Pv i σ H → g x σ H fun σ2 H2 => tb { Dn with nx := Pv (i + 1), ct := Pv (i + 1), bk := Dn.nx } σ2 H2) (hd : ∀ σ H, Pv xs.length σ H → Dn.nx σ H) :
    ∃ W : Nat → Nat → L2.St → Hp → Prop, (∃ m, W 0 m σ H1) ∧ ∀ i m σ H, W i m σ H →
      (J.stop i H ∧ Dn.nx σ H) ∨ (J.go i H ∧ ∃ N : L2.St → Hp → Prop, (∀ σ' H', N σ' H' → ∃ m', m' < m ∧ W (i + 1) m' σ' H') ∧ ∀ x H', J.yld i H x H' → g x σ H' fun σ2 H2 => tb { Dn with nx := N, ct := N, bk := Dn.nx } σ2 H2) := by
  refine ⟨fun i m σ H => m = xs.length - i ∧ i ≤ xs.length ∧ Pv i σ H, ⟨xs.length, by simp, Nat.zero_le _, h0⟩, ?_⟩
  rintro i m σ H ⟨rfl, hi, p⟩
  have q := hl i σ H hi p
  by_cases hlt : i < xs.length
  · refine .inr ⟨Y.go i H q hlt, Pv (i + 1), fun σ' H' p' => ⟨xs.length - (i + 1), by omega, rfl, hlt, p'⟩, fun x H' y => ?_⟩
    obtain ⟨e, hx⟩ := Y.yld i H x H' q hlt y
    subst e
    exact hs i x σ _ hx p
  · have e : i = xs.length := by omega
    subst e
    exact .inl ⟨Y.stop _ H q (Nat.le_refl _), hd σ H p⟩
end
end BL

set_option Elab.async false
set_option linter.all false
set_option maxRecDepth 100000
set_option maxHeartbeats 4000000
namespace BL
open PySem PySem.Spec PyProof.Rows L2
theorem putK_new {kvs : List (Key × V)} {k : Key} {v : V} (h : k ∉ kvs.map (·.1)) : putK kvs k v = kvs ++ [(k, v)] := by
  unfold putK
  rw [if_neg]
  intro z
  obtain ⟨kv, hm, hk⟩ := List.any_eq_true.mp z
  exact h (List.mem_map.mpr ⟨kv, hm, of_decide_eq_true hk⟩)
theorem mergeK_app : ∀ (more acc : List (Key × V)), ((acc ++ more).map (·.1)).Nodup → mergeK acc more = acc ++ more
  | [], acc, _ => by simp [mergeK]
  | kv :: more, acc, h => by
    have h1 : kv.1 ∉ acc.map (·.1) := fun z => by
      rw [List.map_append, List.map_cons] at h
      have := (List.nodup_append.mp h).2.2 _ z kv.1 (by simp)
      exact this rfl
    show mergeK (putK acc kv.1 kv.2) more = _
    rw [putK_new h1, mergeK_app more _ (by simpa using h)]
    simp
theorem mergeK_nd {kvs : List (Key × V)} (h : (kvs.map (·.1)).Nodup) : mergeK [] kvs = kvs := mergeK_app kvs [] h
/-- isinstance(x, T) of a value of a built-in type -/
theorem isi_ty {K : PySem.W.Frag} {H : Hp} {x : V} {n : String} {T : String} {b : Bool} {Q : VK} (t : TyOf K H x (.type n)) (h : kitB n T = some b) (q : Q (.bl b) H) : rIsiU K [x, .ty T] H Q :=
  .inl ⟨x, .ty T, .type n, .type T, b, rfl, .ty T, .base t, kit_ty h, q⟩
theorem isi_x {K : PySem.W.Frag} {H : Hp} {a C D : Addr} {bm bm' : List Value} {Q : VK} (ea : ExAt H a C) (T : XCls K C bm) (U : XCls K D bm') (k : XKit K) (q : Q (.bl ((Value.ref C :: bm).contains (.ref D))) H) : rIsiU K [.ref a, .ref D] H Q :=
  .inr ⟨a, C, .ref D, .ref D, _, rfl, .own D, ea, T.is k, T.kit U, q⟩
theorem isi_xt {K : PySem.W.Frag} {H : Hp} {a C : Addr} {bm : List Value} {t : String} {Q : VK} (ea : ExAt H a C) (T : XCls K C bm) (k : XKit K) (h : PySem.W.kitMeta t = true) (q : Q (.bl (veT.contains (.type t))) H) : rIsiU K [.ref a, .ty t] H Q :=
  .inr ⟨a, C, .ty t, .type t, _, rfl, .ty t, ea, T.is k, T.kitT h, q⟩
theorem Sx.upd_new {S : Addr → Prop} {H H' : Hp} {p : Addr} {o : HO} (e : Sx S H H') (h : H p = none) : Sx S H (upd H' p o) := fun b u q n => by
  rw [upd_ne (ne_of_none q h)]
  exact e b u q n
theorem Same.upd_new {H H' : Hp} {p : Addr} {o : HO} (e : Same H H') (h : H p = none) : Same H (L2.upd H' p o) := fun b u q => by
  rw [upd_ne (ne_of_none q h)]
  exact e b u q
theorem ExAt.same {H H' : Hp} {a C : Addr} (x : ExAt H a C) (e : Same H H') : ExAt H' a C := by
  rcases x with x | ⟨d, fs, x1, x2⟩
  · exact .inl (e _ _ x)
  · exact .inr ⟨d, fs, e _ _ x1, e _ _ x2⟩
theorem ExAt.sx {S : Addr → Prop} {H H' : Hp} {a C : Addr} (x : ExAt H a C) (e : Sx S H H') (n : ∀ b o, H b = some o → S b → ∃ kvs, o = .dK kvs ∨ ∃ xs, o = .lst xs) : ExAt H' a C := by
  have k : ∀ b o, H b = some o → (∀ kvs, o ≠ .dK kvs) → (∀ xs, o ≠ .lst xs) → H' b = some o := fun b o h1 h2 h3 => e b o h1 fun z => by
    obtain ⟨kvs, q | ⟨xs, q⟩⟩ := n b o h1 z
    · exact h2 _ q
    · exact h3 _ q
  rcases x with x | ⟨d, fs, x1, x2⟩
  · exact .inl (k _ _ x (fun _ z => by cases z) (fun _ z => by cases z))
  · exact .inr ⟨d, fs, k _ _ x1 (fun _ z => by cases z) (fun _ z => by cases z), k _ _ x2 (fun _ z => by cases z) (fun _ z => by cases z)⟩
/-- the source's own objects are not free -/
theorem Src.ne {kg kc : Str} {H : Hp} {p g cl q : Addr} {n : Nat} (z : Src kg kc H p g cl n) (h : H q = none) : q ≠ p ∧ q ≠ g ∧ q ≠ cl := by
  obtain ⟨r, c, s, gs, cs, h1, h2, h3, _⟩ := z.ex
  exact ⟨fun e => (by rw [e, h1] at h; cases h), fun e => (by rw [e, h2] at h; cases h), fun e => (by rw [e, h3] at h; cases h)⟩
theorem Src.off {kg kc : Str} {H : Hp} {p g cl q : Addr} {n : Nat} {o : HO} (z : Src kg kc H p g cl n) (h : q ≠ p ∧ q ≠ g ∧ q ≠ cl) : Src kg kc (upd H q o) p g cl n := by
  obtain ⟨r, c, s, gs, cs, h1, h2, h3, h4⟩ := z.ex
  exact ⟨r, c, s, gs, cs, by rw [upd_ne h.1.symm]; exact h1, by rw [upd_ne h.2.1.symm]; exact h2, by rw [upd_ne h.2.2.symm]; exact h3, h4⟩
theorem Sx.src {p g q : Addr} {H H' : Hp} {o : HO} (X : Sx (SrcS p g) H H') (e : H q = some o) (n1 : q ≠ p) (n2 : q ≠ g) : H' q = some o := X q o e fun z => z.elim n1 n2
theorem joinL_one : ∀ l : List Nat, TL.joinL [] (l.map fun c => [c]) = l
  | [] => rfl
  | [c] => rfl
  | c :: d :: r => by
    have ih := joinL_one (d :: r)
    show [c] ++ ([] ++ TL.joinL [] ((d :: r).map fun c => [c])) = _
    rw [ih]
    rfl
theorem sum_one : ∀ ls : List Nat, ((ls.map fun c => SX.S [c]).map (·.length)).sum = ls.length
  | [] => rfl
  | c :: l => by
    rw [List.map_cons, List.map_cons, List.sum_cons, sum_one l, List.length_cons, SX.S_len]
    simp
    omega
theorem join_one (ls : List Nat) : Txt.join ("" : Str) (ls.map fun c => SX.S [c]) = SX.S ls := by
  have := SX.join_S [] (ls.map fun c => [c])
  rw [List.map_map, joinL_one] at this
  exact this
/-- a for over enumerate(list) by an invariant -/
theorem for_enum {K : PySem.W.Frag} {a : Addr} {xs : List V} {g : TG} {tb : TS} {Dn : Ends} {σ : L2.St} {H1 : Hp} (Pv : Nat → L2.St → Hp → Prop) (h0 : Pv 0 σ H1) (hl : ∀ i σ H, i ≤ xs.length → Pv i σ H → SqL K H a xs)
    (hs : ∀ i x σ H T, xs[i]? = some x → Pv i σ H → H T = none → g (.ref T) σ (upd H T (.tup [.int (i : Nat), x])) fun σ2 H2 => tb { Dn with nx := Pv (i + 1), ct := Pv (i + 1), bk := Dn.nx } σ2 H2) (hd : ∀ σ H, Pv xs.length σ H → Dn.nx σ H) :
    ∃ W : Nat → Nat → L2.St → Hp → Prop, (∃ m, W 0 m σ H1) ∧ ∀ i m σ H, W i m σ H →
      ((Ite K a).stop i H ∧ Dn.nx σ H) ∨ ((Ite K a).go i H ∧ ∃ N : L2.St → Hp → Prop, (∀ σ' H', N σ' H' → ∃ m', m' < m ∧ W (i + 1) m' σ' H') ∧ ∀ x H', (Ite K a).yld i H x H' → g x σ H' fun σ2 H2 => tb { Dn with nx := N, ct := N, bk := Dn.nx } σ2 H2) := by
  refine ⟨fun i m σ H => m = xs.length - i ∧ i ≤ xs.length ∧ Pv i σ H, ⟨xs.length, by simp, Nat.zero_le _, h0⟩, ?_⟩
  rintro i m σ H ⟨rfl, hi, p⟩
  have q := hl i σ H hi p
  by_cases hlt : i < xs.length
  · refine .inr ⟨⟨xs, xs[i], q, by simp [hlt]⟩, Pv (i + 1), fun σ' H' p' => ⟨xs.length - (i + 1), by omega, rfl, hlt, p'⟩, fun x H' y => ?_⟩
    obtain ⟨T, x', rfl, hT, rfl, hx⟩ := y
    exact hs i x' σ H T (hx xs q) p hT
  · have e : i = xs.length := by omega
    subst e
    exact .inl ⟨⟨xs, q, Nat.le_refl _⟩, hd σ H p⟩
theorem dpAll_strs {K : PySem.W.Frag} {H : Hp} {f : Nat → Str} : ∀ l : List Nat, DpAll K H (l.map fun c => V.str (f c)) (l.map fun c => PyData.str (f c))
  | [] => .nil
  | c :: r => .cons (.str _) (dpAll_strs r)
theorem lay_strs {f : Nat → Str} : ∀ l : List Nat, (∀ c ∈ l, PyData.strOk (f c) = true) → PyData.canLayAll0 (l.map fun c => PyData.str (f c)) = true
  | [], _ => by simp [PyData.canLayAll0]
  | c :: r, h => by
    have h1 := lay_strs r fun d hd => h d (List.mem_cons_of_mem _ hd)
    simp [PyData.canLayAll0, PyData.canLay0, h1, h c List.mem_cons_self]
theorem strOk_sg {c : Nat} (h : c < 128) : PyData.strOk (SX.S [c]) = true := by
  unfold PyData.strOk SX.S
  simp
  omega
theorem depth_strs {f : Nat → Str} : ∀ l : List Nat, PyData.depthAll (l.map fun c => PyData.str (f c)) = 0
  | [] => by simp [PyData.depthAll]
  | c :: r => by simp [PyData.depthAll, PyData.depth, depth_strs r]
theorem shaped_strs {f : Nat → Str} (l : List Nat) (h : ∀ c ∈ l, PyData.strOk (f c) = true) : SeqAt.shaped (.list (l.map fun c => PyData.str (f c))) = true := by
  simp [SeqAt.shaped, PyData.canLay0, PyData.depth, lay_strs l h, depth_strs]
theorem dpAll_bls {K : PySem.W.Frag} {H : Hp} : ∀ l : List Bool, DpAll K H (l.map V.bl) (l.map PyData.bool)
  | [] => .nil
  | c :: r => .cons (.bl _) (dpAll_bls r)
theorem lay_bls : ∀ l : List Bool, PyData.canLayAll0 (l.map PyData.bool) = true
  | [] => by simp [PyData.canLayAll0]
  | c :: r => by simp [PyData.canLayAll0, PyData.canLay0, lay_bls r]
theorem depth_bls : ∀ l : List Bool, PyData.depthAll (l.map PyData.bool) = 0
  | [] => by simp [PyData.depthAll]
  | c :: r => by simp [PyData.depthAll, PyData.depth, depth_bls r]
theorem shaped_bls (l : List Bool) : SeqAt.shaped (.list (l.map PyData.bool)) = true := by
  simp [SeqAt.shaped, PyData.canLay0, PyData.depth, lay_bls, depth_bls]
theorem dpAll_len {K : PySem.W.Frag} {H : Hp} : ∀ {vs : List V} {ds : List PyData}, DpAll K H vs ds → vs.length = ds.length
  | _, _, .nil => rfl
  | _, _, .cons _ h => by
    rw [List.length_cons, List.length_cons, dpAll_len h]
/-! ### one step of a reading -/
section
variable {σ : L2.St} {H : Hp} {D : Ends} {ta tb : TE} {tr : TA} {Q : VK} {QA : List V → Hp → Prop} {g : TG} {t u : TS} {r : R2} {rb : List V → Hp → VK → Prop}
theorem i_cons (h : ta σ H fun x H1 => tr σ H1 fun xs H2 => QA (x :: xs) H2) : tCons ta tr σ H QA := h
theorem i_nil (h : QA [] H) : tNil σ H QA := h
theorem i_tup (h : tr σ H fun xs H1 => xs.length ≤ sizeLine ∧ ∀ p, H1 p = none → Q (.ref p) (upd H1 p (.tup xs))) : tTup tr σ H Q := h
theorem i_lst (h : tr σ H fun xs H1 => xs.length ≤ sizeLine ∧ ∀ p, H1 p = none → Q (.ref p) (upd H1 p (.lst xs))) : tLst tr σ H Q := h
theorem i_seq (h : t { D with nx := u D } σ H) : tSeq t u D σ H := h
theorem i_asg (h : ta σ H fun x H1 => g x σ H1 D.nx) : tAsg ta g D σ H := h
theorem i_ret (h : ta σ H D.rt) : tRet ta D σ H := h
theorem i_set {i : Nat} (h : ta σ H fun x H1 => D.nx (σ.set i (some x)) H1) : tAsg ta (gName i) D σ H := h
theorem i_op (h : ta σ H fun x H1 => tb σ H1 fun y H2 => r x y H2 Q) : tOp r ta tb σ H Q := h
theorem i_if {c : TT} (h : c σ H fun b H1 => if b = true then t D σ H1 else u D σ H1) : tIfS c t u D σ H := h
theorem i_or {c d : TT} {QB : Bool → Hp → Prop} (h : c σ H fun b H1 => if b = true then QB true H1 else d σ H1 QB) : tOr c d σ H QB := h
theorem i_and {c d : TT} {QB : Bool → Hp → Prop} (h : c σ H fun b H1 => if b = true then d σ H1 QB else QB false H1) : tAnd c d σ H QB := h
theorem i_test {QB : Bool → Hp → Prop} (h : ta σ H fun x H' => ∃ k, x = .bl k ∧ QB k H') : tTest ta σ H QB := h
theorem i_cb (h : tr σ H fun vs H1 => rb vs H1 Q) : tCB rb tr σ H Q := h
end
end BL

set_option Elab.async false
set_option linter.all false
set_option maxRecDepth 100000
set_option maxHeartbeats 4000000
namespace BL
open PySem PySem.Spec PyProof.Rows L2
theorem hu80 {A : Around} {k : Nat} (hr : Room k A) : A.units + 80 < cLine := by
  have := hr.un
  omega
section
variable {P : Program} {w : World} {K : PySem.W.Frag} {mg : Str → Option Value} {base : Heap} {k : Nat} {f : Addr} {fd : FuncData} {x qual : Str} {st : Stmt} {ps : List Str} {sp : Sp}
theorem Fun.kbn {n : Nat} {ks : List Str} {g : List Value → List Value → List Value} {gV : List V → List V → List V} (F : Fun K x qual st f fd)
    (h : ∀ (kV doc pm : Value) (an : Option Addr) (cdv ct : Value) (us ws : List Value), us.length = n → ws.length = ks.length → bindArgs (PySem.W.fnOf x qual (defArgs st) (defBody st) (defScope st) .none kV doc pm an cdv ct) ⟨us, ks.zip ws⟩ = pure (ps.zip (g us ws)))
    (rel : ∀ {vs : List V} {us : List Value} {zs : List V} {ws : List Value}, Vals vs us → Vals zs ws → Vals (gV vs zs) (g us ws)) : KBn K fd ps n ks g gV := by
  obtain ⟨oc, od, kV, doc, pm, an, cdv, ct, osl, rfl, lk, hcd⟩ := F.ex
  exact ⟨fun s us ws _ h1 h2 => .of_eq (h kV doc pm an cdv ct us ws h1 h2), rel⟩
theorem cal_of (F : FnOk P w K mg base CX0 k f fd ps sp) (hm : mg x = some (.ref f)) (kp : PySem.W.keepIn K (.ref f) = true) (b : Binds K fd ps []) : C8.Cal P w K mg base k x sp [] := ⟨f, fd, ps, [], F, hm, kp, b, .nil⟩
theorem calK_of {n : Nat} {ks : List Str} {g : List Value → List Value → List Value} {gV : List V → List V → List V} (F : FnOk P w K mg base CX0 k f fd ps sp) (hm : mg x = some (.ref f)) (kp : PySem.W.keepIn K (.ref f) = true) (b : KBn K fd ps n ks g gV) : CalK P w K mg base k x sp n ks gV := ⟨f, fd, ps, g, F, hm, kp, b⟩
/-- an own exception class by its facts -/
theorem xcls_mk {C : Addr} {nm q : Str} {N : Addr} {bs bm : List Value} {sn : List Str} {sub : List Value} {ab : Bool} {col : Option Bool} {dd : Option Addr} {m0 m1 m2 m3 m5 : Option Value}
    (xL : K.lookup C = some (excClassObj nm q C N bs bm true sn sub ab col dd m0 m1 m2 m3 m5 "ValueError.__new__")) (ve : PySem.HandSPX.refsVE bm = true)
    (sa : PySem.W.findIn K (.ref C) "__setattr__" = some (some (.builtin "object.__setattr__"))) (ga : PySem.W.findIn K (.ref C) "__getattribute__" = some (some (.builtin "BaseException.__getattribute__"))) (gg : PySem.W.findIn K (.ref C) "__getattr__" = some none)
    (ha : PySem.W.findIn K (.ref C) "__class__" = some (some (.builtin "object.__class__"))) (kC : PySem.W.keepIn K (.ref C) = true) : XCls K C bm := ⟨⟨nm, q, N, bs, sn, sub, ab, col, dd, m0, m1, m2, m3, m5, xL⟩, ve, sa, ga, gg, ha, kC⟩
/-- its own __init__ -/
theorem ok_xinit {C PE0 : Addr} {m fld B : Str} {ps : List Str} {b : List Stmt} (F : Fun K x qual st f fd) (sc : FnScope ps ps (defScope st)) (h2 : ps.length = 2)
    (hd : ∀ (cdv : Value) (A : Around) (outer : List Env) (s : Shared) (H : Hp) (E : XK), PSs (cxOf CX0 P w K mg base ps qual (defScope st) f cdv A outer s H E).nox (defBody st) (tx_init K m fld)) : FnOk P w K mg base CX0 1 f fd ps (spx_init K C fld) :=
  F.ok sc (fun vs H Q E h => by
    obtain ⟨a, v, rfl, _⟩ := h
    exact h2.symm) fun cdv A outer s H vs Q E hr h => ⟨_, hd cdv A outer s H E, px_init h2 vs H Q E h⟩
theorem calE_of {C : Addr} {bm : List Value} (X : XCls K C bm) (iC : PySem.W.findIn K (.ref C) "__init__" = some (some (.ref f))) (tI : PySem.W.typeIn K (.ref f) = some (.type "function")) (F : FnOk P w K mg base CX0 k f fd ps sp) (b : Binds K fd ps []) (hm : mg x = some (.ref C)) :
    CalE P w K mg base k x C sp := ⟨f, fd, ps, X.oex, iC, tI, F, b, hm⟩
theorem calEK_of {C : Addr} {bm : List Value} {kn : Str} (X : XCls K C bm) (iC : PySem.W.findIn K (.ref C) "__init__" = some (some (.ref f))) (tI : PySem.W.typeIn K (.ref f) = some (.type "function")) (F : FnOk P w K mg base CX0 k f fd ps sp) (hm : mg x = some (.ref C))
    (b : KBn K fd ps 1 [kn] (fun us ws => us ++ ws) (fun vs zs => vs ++ zs)) : CalEK P w K mg base k x C sp kn := ⟨f, fd, ps, X.oex, iC, tI, F, hm, b⟩
end
end BL

set_option Elab.async false
set_option linter.all false
set_option maxRecDepth 100000
set_option maxHeartbeats 4000000
namespace BL
open PySem PySem.Spec PyProof.Rows L2
/-! ### values and promises -/
structure Cs where
  InvalidName : Addr
  DuplicateName : Addr
  InvalidCapacity : Addr
  InvalidAction : Addr
  InvalidOutcome : Addr
  InvalidTie : Addr
  Contradiction : Addr
  InvalidSymbol : Addr
  InvalidNumber : Addr
  InvalidText : Addr
  InvalidForm : Addr
  Mismatch : Addr
  PourError : Addr
abbrev k_LETTERS : V := .str "abcdefghijklmnopqrstuvwxyz"
abbrev k_LONGEST_NAME : V := .int 6
/-- the source made -/
def sp_source (K : PySem.W.Frag) (kg kc : Str) : Sp := fun vs H Q _ => ∃ (a : Addr) (ns : List Int), vs = [.ref a] ∧ SqL K H a (ns.map V.int) ∧ ns.length ≤ 63 ∧
  ∀ (p g cl : Addr) (H' : Hp), H g = none → H p = none → Src kg kc H' p g cl 0 → Same H H' → Q (.ref p) H'
/-- an option chosen -/
def sp_choice (K : PySem.W.Frag) (kg kc : Str) : Sp := fun vs H Q _ => ∃ (p g cl : Addr) (n : Nat) (x : V), vs = [.ref p, x] ∧ Src kg kc H p g cl n ∧ n ≤ 2 ^ 40 ∧
  ((∃ (a : Addr) (xs : List V), x = .ref a ∧ SqL K H a xs ∧ a ≠ p ∧ a ≠ g ∧ xs ≠ [] ∧ xs.length ≤ 2 ^ 20 ∧ ∀ (v : V) (H' : Hp), v ∈ xs → Src kg kc H' p g cl (n + 1) → Sx (SrcS p g) H H' → Q v H') ∨
   (∃ z : Str, x = .str z ∧ 1 ≤ z.length ∧ z.length ≤ 2 ^ 20 ∧ ∀ (c : Nat) (H' : Hp), c ∈ z.cps.toList → Src kg kc H' p g cl (n + 1) → Sx (SrcS p g) H H' → Q (.str ⟨#[c]⟩) H'))
/-- a text of at most ten signs -/
def sp_text (kg kc : Str) : Sp := fun vs H Q _ => ∃ (p g cl : Addr) (n : Nat), vs = [.ref p] ∧ Src kg kc H p g cl n ∧ n ≤ 2 ^ 39 ∧
  ∀ (l : List Nat) (H' : Hp), l.length ≤ 10 → (∀ c ∈ l, c < 128) → Src kg kc H' p g cl (n + 20) → Sx (SrcS p g) H H' → Q (.str (SX.S l)) H'
/-- any value -/
def Val1 (H : Hp) (v : V) : Prop := (∃ l : List Nat, v = .str (SX.S l) ∧ l.length ≤ 10 ∧ ∀ c ∈ l, c < 128) ∨ v = .non ∨ (∃ i, v = .int i) ∨ (∃ b, v = .bl b) ∨ (∃ a xs, v = .ref a ∧ H a = some (.lst xs)) ∨ (∃ a xs, v = .ref a ∧ H a = some (.tup xs)) ∨ (∃ a kvs, v = .ref a ∧ H a = some (.dK kvs))
def sp_value (K : PySem.W.Frag) (kg kc : Str) : Sp := fun vs H Q _ => ∃ (p g cl : Addr) (n : Nat), vs = [.ref p] ∧ Src kg kc H p g cl n ∧ n ≤ 2 ^ 39 ∧
  ∀ (v : V) (H' : Hp), Val1 H' v → Src kg kc H' p g cl (n + 30) → Sx (SrcS p g) H H' → Q v H'
abbrev abc : Str := "abcdefghijklmnopqrstuvwxyz"
def nameL (l : List Nat) : Bool := decide (1 ≤ l.length) && (decide (l.length ≤ 6) && l.all fun c => decide (c ∈ abc.cps.toList))
def nameV : V → Bool
  | .str z => nameL z.cps.toList
  | _ => false
def sp_is_name (K : PySem.W.Frag) : Sp := fun vs H Q _ => ∃ v : V, vs = [v] ∧ Val1 H v ∧ ∀ H', Same H H' → Q (.bl (nameV v)) H'
def cls12 (C : Cs) : List Addr := [C.InvalidName, C.DuplicateName, C.InvalidCapacity, C.InvalidAction, C.InvalidOutcome, C.InvalidTie, C.Contradiction, C.InvalidSymbol, C.InvalidNumber, C.InvalidText, C.InvalidForm, C.Mismatch]
structure CsOk (K : PySem.W.Frag) (C : Cs) : Prop where
  all : ∀ D ∈ cls12 C, XCls K D (.ref C.PourError :: veT)
  pe : XCls K C.PourError veT
  kit : XKit K
  nd : (C.PourError :: cls12 C).Nodup
  f1 : PySem.W.findIn K (.ref C.InvalidName) "name" = some none
  f2 : PySem.W.findIn K (.ref C.DuplicateName) "name" = some none
  f3 : PySem.W.findIn K (.ref C.InvalidCapacity) "name" = some none
  f4 : PySem.W.findIn K (.ref C.InvalidAction) "index" = some none
  f5 : PySem.W.findIn K (.ref C.InvalidOutcome) "index" = some none
  f6 : PySem.W.findIn K (.ref C.InvalidTie) "index" = some none
  f7 : PySem.W.findIn K (.ref C.Contradiction) "certificate" = some none
  f8 : PySem.W.findIn K (.ref C.InvalidSymbol) "index" = some none
  f9 : PySem.W.findIn K (.ref C.InvalidNumber) "number" = some none
  f10 : PySem.W.findIn K (.ref C.InvalidText) "line" = some none
/-- rows of (error, field) -/
inductive FRow (K : PySem.W.Frag) (H : Hp) : List Addr → List Addr → List V → List PyData → List Addr → Prop
  | nil : FRow K H [] [] [] [] []
  | cons {t e D : Addr} {v : V} {d : PyData} {ts es Ds : List Addr} {vs : List V} {ds : List PyData} : H t = some (.tup [.ref e, v]) → ExAt H e D → Dp K H v d → FRow K H ts es vs ds Ds → FRow K H (t :: ts) (e :: es) (v :: vs) (d :: ds) (D :: Ds)
def fldD : List PyData := [.int 5, .str "a", .none, .int 3, .int 4, .int 2, .tuple [], .int 7, .int (-1), .int 9]
def sp_fields (K : PySem.W.Frag) (C : Cs) : Sp := fun vs H Q _ => vs = [] ∧ ∀ (p f s : Addr) (es ts : List Addr) (xs ws : List V) (H' : Hp), Same H H' → H' p = some (.tup [.ref f, .ref s]) → H' f = some (.lst (ts.map V.ref)) → H' s = some (.lst ws) →
  FRow K H' ts es xs fldD ((cls12 C).take 10) → DpAll K H' ws fldD → Q (.ref p) H'
def sp_kinds (K : PySem.W.Frag) (C : Cs) : Sp := fun vs H Q _ => ∃ a D bm, vs = [.ref a] ∧ ExAt H a D ∧ XCls K D bm ∧ (bm = .ref C.PourError :: veT ∨ bm = veT) ∧
  ∀ (p : Addr) (H' : Hp), Same H H' → H' p = some (.lst ((cls12 C).map fun E => .bl ((Value.ref D :: bm).contains (.ref E)))) → Q (.ref p) H'
def sp_law (K : PySem.W.Frag) : Sp := fun vs H Q _ => ∃ (a : Addr) (ns : List Int), vs = [.ref a] ∧ SqL K H a (ns.map V.int) ∧ ns.length ≤ 63 ∧ ∀ H', Q (.bl true) H'
abbrev n_law_source : List Str := ["_law_script", "_law_cell"]
def t_law_source (K : PySem.W.Frag) (C : Cs) : TS :=
  (tRet (tDisp [((tC (.str "great")), (tLc (iList K (tVar 0)) (gName 1) (tTest (tOp (rI0 fun i j => .bl (decide (j ≤ i))) (tVar 1) (tOp (rI CPow fun i j => .int (i ^ j.toNat)) (tC (.int 10)) (tC (.int 18))))) (tVar 1) [1])), ((tC (.str "rest")), (tC (.int 0))), ((tC (.str "count")), (tC (.int 0))), ((tC (.str "seed")), (tC (.int 7))), ((tC (.str "cells")), (tOp rCat (tLc (iList K (tVar 0)) (gName 1) tYes (tOp (rI (fun _ j => 0 < j) fun i j => .int (i % j)) (tVar 1) (tC (.int 2147483629))) [1]) (tLst (tCons (tC (.int 77)) tNil))))]))
abbrev n_law_draw : List Str := ["_law_source_here", "_law_bound", "_law_digit", "_law_turn", "_law_cell", "_law_seed", "_law_mixed"]
def t_law_draw (K : PySem.W.Frag) (C : Cs) : TS :=
  (C8.tCut (tIfS (tAnd (tTest (tOp rEq (tDGet (tVar 0) (tC (.str "rest"))) (tC (.int 0)))) (tTest (tOp (rNeD K) (tDGet (tVar 0) (tC (.str "great"))) (tLst tNil)))) (sDPut (tVar 0) (tC (.str "rest")) (tBM K "list" rPopAt (tDGet (tVar 0) (tC (.str "great"))) (tCons (tC (.int 0)) tNil))) tNext)
  (tSeq (tIfS (tTest (tOp (rI0 fun i j => .bl (decide (j < i))) (tDGet (tVar 0) (tC (.str "rest"))) (tC (.int 0)))) (tSeq (tAsg (tOp (rI (fun _ j => 0 < j) fun i j => .int (i % j)) (tDGet (tVar 0) (tC (.str "rest"))) (tVar 1)) (gName 2))
  (tSeq (sDPut (tVar 0) (tC (.str "rest")) (tOp (rI CDivW fun i j => .int (i / j)) (tDGet (tVar 0) (tC (.str "rest"))) (tVar 1)))
  (tRet (tVar 2)))) tNext)
  (tSeq (tAsg (tDGet (tVar 0) (tC (.str "count"))) (gName 3))
  (tSeq (sDPut (tVar 0) (tC (.str "count")) (tOp (rI0 fun i j => .int (i + j)) (tVar 3) (tC (.int 1))))
  (tSeq (tAsg (tOp (rIxL K) (tDGet (tVar 0) (tC (.str "cells"))) (tOp (rI (fun _ j => 0 < j) fun i j => .int (i % j)) (tVar 3) (tCB (rLenSq K) (tCons (tDGet (tVar 0) (tC (.str "cells"))) tNil)))) (gName 4))
  (tSeq (tAsg (tOp (rI (fun _ j => 0 < j) fun i j => .int (i % j)) (tOp (rI0 fun i j => .int (i + j)) (tOp (rI0 fun i j => .int (i + j)) (tOp (rI CMul fun i j => .int (i * j)) (tDGet (tVar 0) (tC (.str "seed"))) (tC (.int 48271))) (tOp (rI CMul fun i j => .int (i * j)) (tVar 4) (tOp (rI0 fun i j => .int (i + j)) (tOp (rI CMul fun i j => .int (i * j)) (tC (.int 2)) (tVar 3)) (tC (.int 3))))) (tOp (rI CPow fun i j => .int (i ^ j.toNat)) (tVar 3) (tC (.int 3)))) (tC (.int 2147483647))) (gName 5))
  (tSeq (sDPut (tVar 0) (tC (.str "seed")) (tVar 5))
  (tSeq (tAsg (tOp (rI0 fun i j => .int (i + j)) (tOp (rI CMul fun i j => .int (i * j)) (tOp (rI (fun _ j => 0 < j) fun i j => .int (i % j)) (tOp (rI CPow fun i j => .int (i ^ j.toNat)) (tVar 5) (tC (.int 2))) (tC (.int 2147483629))) (tC (.int 2147483587))) (tOp (rI (fun _ j => 0 < j) fun i j => .int (i % j)) (tOp (rI CPow fun i j => .int (i ^ j.toNat)) (tVar 5) (tC (.int 3))) (tC (.int 2147483579)))) (gName 6))
  (tRet (tOp (rI (fun _ j => 0 < j) fun i j => .int (i % j)) (tOp (rI CDivW fun i j => .int (i / j)) (tVar 6) (tC (.int 7))) (tVar 1)))))))))))
abbrev n_law_choice : List Str := ["_law_source_here", "_law_options"]
def t_law_choice (K : PySem.W.Frag) (C : Cs) : TS :=
  (tRet (tOp (rIxU K) (tVar 1) (tCall (sp_draw "great" "count") [] E0 (tCons (tVar 0) (tCons (tCB (rLenU K) (tCons (tVar 1) tNil)) tNil)))))
abbrev n_law_is_name : List Str := ["_law_item", "_law_letter"]
def t_law_is_name (K : PySem.W.Frag) (C : Cs) : TS :=
  (tSeq (tIfS (tOr (tNot (tB (tCB (rIsiU K) (tCons (tVar 0) (tCons (tC (.ty "str")) tNil))))) (tNot (tTest (tChain (rI0 fun i j => .bl (decide (i ≤ j))) (rI0 fun i j => .bl (decide (i ≤ j))) (tC (.int 1)) (tCB rLenStr (tCons (tVar 0) tNil)) (tC (.int 6)))))) (tRet (tC (.bl false))) tNext)
  (tRet (tOp (rEqD K) (tLc (iStr (tVar 0)) (gName 1) (tTest (tOp rNotInSg (tVar 1) (tC (.str "abcdefghijklmnopqrstuvwxyz")))) (tVar 1) [1]) (tLst tNil))))
abbrev n_is_name : List Str := ["value", "letter"]
def t_is_name (K : PySem.W.Frag) (C : Cs) : TS :=
  (tSeq (tIfS (tOr (tNot (tB (tCB (rIsiU K) (tCons (tVar 0) (tCons (tC (.ty "str")) tNil))))) (tNot (tTest (tChain (rI0 fun i j => .bl (decide (i ≤ j))) (rI0 fun i j => .bl (decide (i ≤ j))) (tC (.int 1)) (tCB rLenStr (tCons (tVar 0) tNil)) (tC k_LONGEST_NAME))))) (tRet (tC (.bl false))) tNext)
  (tRet (tCB (rAll K) (tCons (tLc (iStr (tVar 0)) (gName 1) tYes (tOp rInSg (tVar 1) (tC k_LETTERS)) [1]) tNil))))
abbrev n_law_text : List Str := ["_law_source_here", "_law_letters", "_law_text_here", "_law_k", "_law_place", "_law_character"]
def t_law_text (K : PySem.W.Frag) (C : Cs) : TS :=
  (tSeq (tAsg (tC (.str "abcdefghijklmnopqrstuvwxyz")) (gName 1))
  (tSeq (tAsg (tM1 (rJoin K) (tC (.str "")) (tLc (iRng1 (tCons (tCall (sp_draw "great" "count") [] E0 (tCons (tVar 0) (tCons (tC (.int 10)) tNil))) tNil)) (gName 3) tYes (tCall (sp_choice K "great" "count") [] E0 (tCons (tVar 0) (tCons (tVar 1) tNil))) [3])) (gName 2))
  (tSeq (tAsg (tCall (sp_draw "great" "count") [] E0 (tCons (tVar 0) (tCons (tOp (rI0 fun i j => .int (i + j)) (tCB rLenStr (tCons (tVar 2) tNil)) (tC (.int 1))) tNil))) (gName 4))
  (tSeq (tAsg (tCall (sp_choice K "great" "count") [] E0 (tCons (tVar 0) (tCons (tLst (tCons (tC (.str "")) (tCons (tC (.str "")) (tCons (tC (.str "")) (tCons (tC (.str "A")) (tCons (tC (.str "Z")) (tCons (tC (.str " ")) (tCons (tC (.str "1")) (tCons (tC (.str "_")) (tCons (tC (.str "-")) (tCons (tC (.str "\n")) (tCons (tC (.str "`")) (tCons (tC (.str "{")) tNil))))))))))))) tNil))) (gName 5))
  (tRet (tOp rAddS (tOp rAddS (tSl C8.rSlX (tVar 2) tNoPart (tPart (tVar 4))) (tVar 5)) (tSl C8.rSlX (tVar 2) (tPart (tVar 4)) tNoPart)))))))
abbrev n_law_value : List Str := ["_law_source_here", "_law_text_here"]
def t_law_value (K : PySem.W.Frag) (C : Cs) : TS :=
  (tSeq (tAsg (tCall (sp_text "great" "count") [] E0 (tCons (tVar 0) tNil)) (gName 1))
  (tRet (tCall (sp_choice K "great" "count") [] E0 (tCons (tVar 0) (tCons (tLst (tCons (tVar 1) (tCons (tVar 1) (tCons (tVar 1) (tCons (tVar 1) (tCons (tC .non) (tCons (tC (.int 5)) (tCons (tC (.bl true)) (tCons (tLst (tCons (tVar 1) tNil)) (tCons (tTup (tCons (tVar 1) tNil)) (tCons (tDisp [((tVar 1), (tC (.int 1)))]) (tCons (tUn (rU fun i => .int (-i)) (tC (.int 1))) (tCons (tTup tNil) tNil))))))))))))) tNil)))))
abbrev n_law_fields : List Str := ["_law_first", "_law_second"]
def t_law_fields (K : PySem.W.Frag) (C : Cs) : TS :=
  (tSeq (tAsg (tLst (tCons (tTup (tCons (tMkV C.InvalidName (spx_init K C.InvalidName "name") [] (tCons (tC (.int 5)) tNil)) (tCons (tXfV K "name" (tMkV C.InvalidName (spx_init K C.InvalidName "name") [] (tCons (tC (.int 5)) tNil))) tNil))) (tCons (tTup (tCons (tMkV C.DuplicateName (spx_init K C.DuplicateName "name") [] (tCons (tC (.str "a")) tNil)) (tCons (tXfV K "name" (tMkV C.DuplicateName (spx_init K C.DuplicateName "name") [] (tCons (tC (.str "a")) tNil))) tNil))) tNil))) (gName 0))
  (tSeq (tAsg (tOp rCat (tVar 0) (tLst (tCons (tTup (tCons (tMkV C.InvalidCapacity (spx_init K C.InvalidCapacity "name") [] (tCons (tC .non) tNil)) (tCons (tXfV K "name" (tMkV C.InvalidCapacity (spx_init K C.InvalidCapacity "name") [] (tCons (tC .non) tNil))) tNil))) (tCons (tTup (tCons (tMkV C.InvalidAction (spx_init K C.InvalidAction "index") [] (tCons (tC (.int 3)) tNil)) (tCons (tXfV K "index" (tMkV C.InvalidAction (spx_init K C.InvalidAction "index") [] (tCons (tC (.int 3)) tNil))) tNil))) tNil)))) (gName 0))
  (tSeq (tAsg (tOp rCat (tVar 0) (tLst (tCons (tTup (tCons (tMkV C.InvalidOutcome (spx_init K C.InvalidOutcome "index") [] (tCons (tC (.int 4)) tNil)) (tCons (tXfV K "index" (tMkV C.InvalidOutcome (spx_init K C.InvalidOutcome "index") [] (tCons (tC (.int 4)) tNil))) tNil))) (tCons (tTup (tCons (tMkV C.InvalidTie (spx_init K C.InvalidTie "index") [] (tCons (tC (.int 2)) tNil)) (tCons (tXfV K "index" (tMkV C.InvalidTie (spx_init K C.InvalidTie "index") [] (tCons (tC (.int 2)) tNil))) tNil))) tNil)))) (gName 0))
  (tSeq (tAsg (tOp rCat (tVar 0) (tLst (tCons (tTup (tCons (tMkV C.Contradiction (spx_init K C.Contradiction "certificate") [] (tCons (tTup tNil) tNil)) (tCons (tXfV K "certificate" (tMkV C.Contradiction (spx_init K C.Contradiction "certificate") [] (tCons (tTup tNil) tNil))) tNil))) (tCons (tTup (tCons (tMkV C.InvalidSymbol (spx_init K C.InvalidSymbol "index") [] (tCons (tC (.int 7)) tNil)) (tCons (tXfV K "index" (tMkV C.InvalidSymbol (spx_init K C.InvalidSymbol "index") [] (tCons (tC (.int 7)) tNil))) tNil))) tNil)))) (gName 0))
  (tSeq (tAsg (tOp rCat (tVar 0) (tLst (tCons (tTup (tCons (tMkV C.InvalidNumber (spx_init K C.InvalidNumber "number") [] (tCons (tUn (rU fun i => .int (-i)) (tC (.int 1))) tNil)) (tCons (tXfV K "number" (tMkV C.InvalidNumber (spx_init K C.InvalidNumber "number") [] (tCons (tUn (rU fun i => .int (-i)) (tC (.int 1))) tNil))) tNil))) (tCons (tTup (tCons (tMkV C.InvalidText (spx_init K C.InvalidText "line") [] (tCons (tC (.int 9)) tNil)) (tCons (tXfV K "line" (tMkV C.InvalidText (spx_init K C.InvalidText "line") [] (tCons (tC (.int 9)) tNil))) tNil))) tNil)))) (gName 0))
  (tSeq (tAsg (tLst (tCons (tXfV K "name" (tMkVK C.InvalidName (spx_init K C.InvalidName "name") (tCons (tC (.int 5)) tNil))) (tCons (tXfV K "name" (tMkVK C.DuplicateName (spx_init K C.DuplicateName "name") (tCons (tC (.str "a")) tNil))) (tCons (tXfV K "name" (tMkVK C.InvalidCapacity (spx_init K C.InvalidCapacity "name") (tCons (tC .non) tNil))) tNil)))) (gName 1))
  (tSeq (tAsg (tOp rCat (tVar 1) (tLst (tCons (tXfV K "index" (tMkVK C.InvalidAction (spx_init K C.InvalidAction "index") (tCons (tC (.int 3)) tNil))) (tCons (tXfV K "index" (tMkVK C.InvalidOutcome (spx_init K C.InvalidOutcome "index") (tCons (tC (.int 4)) tNil))) (tCons (tXfV K "index" (tMkVK C.InvalidTie (spx_init K C.InvalidTie "index") (tCons (tC (.int 2)) tNil))) tNil))))) (gName 1))
  (tSeq (tAsg (tOp rCat (tVar 1) (tLst (tCons (tXfV K "certificate" (tMkVK C.Contradiction (spx_init K C.Contradiction "certificate") (tCons (tTup tNil) tNil))) (tCons (tXfV K "index" (tMkVK C.InvalidSymbol (spx_init K C.InvalidSymbol "index") (tCons (tC (.int 7)) tNil))) tNil)))) (gName 1))
  (tSeq (tAsg (tOp rCat (tVar 1) (tLst (tCons (tXfV K "number" (tMkVK C.InvalidNumber (spx_init K C.InvalidNumber "number") (tCons (tUn (rU fun i => .int (-i)) (tC (.int 1))) tNil))) (tCons (tXfV K "line" (tMkVK C.InvalidText (spx_init K C.InvalidText "line") (tCons (tC (.int 9)) tNil))) tNil)))) (gName 1))
  (tRet (tTup (tCons (tVar 0) (tCons (tVar 1) tNil)))))))))))))
abbrev n_law_kinds : List Str := ["_law_error", "_law_marks"]
def t_law_kinds (K : PySem.W.Frag) (C : Cs) : TS :=
  (tSeq (tAsg (tLst (tCons (tCB (rIsiU K) (tCons (tVar 0) (tCons (tC (.ref C.InvalidName)) tNil))) (tCons (tCB (rIsiU K) (tCons (tVar 0) (tCons (tC (.ref C.DuplicateName)) tNil))) (tCons (tCB (rIsiU K) (tCons (tVar 0) (tCons (tC (.ref C.InvalidCapacity)) tNil))) tNil)))) (gName 1))
  (tSeq (tAsg (tOp rCat (tVar 1) (tLst (tCons (tCB (rIsiU K) (tCons (tVar 0) (tCons (tC (.ref C.InvalidAction)) tNil))) (tCons (tCB (rIsiU K) (tCons (tVar 0) (tCons (tC (.ref C.InvalidOutcome)) tNil))) (tCons (tCB (rIsiU K) (tCons (tVar 0) (tCons (tC (.ref C.InvalidTie)) tNil))) tNil))))) (gName 1))
  (tSeq (tAsg (tOp rCat (tVar 1) (tLst (tCons (tCB (rIsiU K) (tCons (tVar 0) (tCons (tC (.ref C.Contradiction)) tNil))) (tCons (tCB (rIsiU K) (tCons (tVar 0) (tCons (tC (.ref C.InvalidSymbol)) tNil))) tNil)))) (gName 1))
  (tSeq (tAsg (tOp rCat (tVar 1) (tLst (tCons (tCB (rIsiU K) (tCons (tVar 0) (tCons (tC (.ref C.InvalidNumber)) tNil))) (tCons (tCB (rIsiU K) (tCons (tVar 0) (tCons (tC (.ref C.InvalidText)) tNil))) tNil)))) (gName 1))
  (tRet (tOp rCat (tVar 1) (tLst (tCons (tCB (rIsiU K) (tCons (tVar 0) (tCons (tC (.ref C.InvalidForm)) tNil))) (tCons (tCB (rIsiU K) (tCons (tVar 0) (tCons (tC (.ref C.Mismatch)) tNil))) tNil)))))))))
abbrev n_law : List Str := ["_law_script", "_law_source_here", "_law_trial", "_law_item", "_law_expected", "_law_built", "_law_second", "_law_fields_here", "_law_error", "_law_field", "_law_errors", "_law_position", "_law_k"]
def t_law (K : PySem.W.Frag) (C : Cs) : TS :=
  (tSeq (tAsg (tCall (sp_source K "great" "count") [] E0 (tCons (tVar 0) tNil)) (gName 1))
  (tSeq (tFor (iRng1 (tCons (tC (.int 12)) tNil)) (gName 2) (tSeq (tAsg (tCall (sp_value K "great" "count") [] E0 (tCons (tVar 1) tNil)) (gName 3))
  (tSeq (tAsg (tCall (sp_is_name K) [] E0 (tCons (tVar 3) tNil)) (gName 4))
  (tIfS (tTest (tOp rNe (tCB (rRepr K) (tCons (tLst (tCons (tCall (sp_is_name K) [] E0 (tCons (tVar 3) tNil)) (tCons (tCallKn (sp_is_name K) 0 1 (fun _ zs => zs) tNil (tCons (tVar 3) tNil)) tNil))) tNil)) (tCB (rRepr K) (tCons (tLst (tCons (tVar 4) (tCons (tVar 4) tNil))) tNil)))) (tRet (tC (.bl false))) tNext))))
  (tSeq (tAsg (tCall (sp_fields K C) [] E0 tNil) (gTup K 2 (gCons (gName 5) (gCons (gName 6) gNil))))
  (tSeq (tAsg (tLst (tCons (tC (.int 5)) (tCons (tC (.str "a")) (tCons (tC .non) (tCons (tC (.int 3)) (tCons (tC (.int 4)) (tCons (tC (.int 2)) (tCons (tTup tNil) (tCons (tC (.int 7)) (tCons (tUn (rU fun i => .int (-i)) (tC (.int 1))) (tCons (tC (.int 9)) tNil))))))))))) (gName 7))
  (tSeq (tIfS (tOr (tTest (tOp rNe (tCB (rRepr K) (tCons (tLc (iList K (tVar 5)) (gTup K 2 (gCons (gName 8) (gCons (gName 9) gNil))) tYes (tVar 9) [8, 9]) tNil)) (tCB (rRepr K) (tCons (tVar 7) tNil)))) (tTest (tOp rNe (tCB (rRepr K) (tCons (tVar 6) tNil)) (tCB (rRepr K) (tCons (tVar 7) tNil))))) (tRet (tC (.bl false))) tNext)
  (tSeq (tAsg (tOp rCat (tLc (iList K (tVar 5)) (gTup K 2 (gCons (gName 8) (gCons (gName 9) gNil))) tYes (tVar 8) [8, 9]) (tLst (tCons (tExc1 C.InvalidForm (tC (.str "not a form"))) (tCons (tExc1 C.Mismatch (tC (.str "unlike names"))) tNil)))) (gName 10))
  (tSeq (tFor (iEnum K (tCons (tVar 10) tNil)) (gTup K 2 (gCons (gName 11) (gCons (gName 8) gNil))) (tSeq (tIfS (tTest (tOp (rNeD K) (tCall (sp_kinds K C) [] E0 (tCons (tVar 8) tNil)) (tLc (iRng1 (tCons (tC (.int 12)) tNil)) (gName 12) tYes (tOp rEq (tVar 12) (tVar 11)) [12]))) (tRet (tC (.bl false))) tNext)
  (tIfS (tOr (tNot (tB (tCB (rIsiU K) (tCons (tVar 8) (tCons (tC (.ref C.PourError)) tNil))))) (tNot (tB (tCB (rIsiU K) (tCons (tVar 8) (tCons (tC (.ty "ValueError")) tNil)))))) (tRet (tC (.bl false))) tNext)))
  (tRet (tAndV (tCB (rIsiU K) (tCons (tExc1 C.PourError (tC (.str "any"))) (tCons (tC (.ty "ValueError")) tNil))) (tOp (rIn K true) (tC (.bl true)) (tCall (sp_kinds K C) [] E0 (tCons (tExc1 C.PourError (tC (.str "any"))) tNil))))))))))))
end BL

set_option Elab.async false
set_option linter.all false
set_option maxRecDepth 100000
set_option maxHeartbeats 4000000
namespace BL
open PySem PySem.Spec PyProof.Rows L2
def pge : V → Bool
  | .int z => decide (10 ^ (18 : Int).toNat ≤ z)
  | _ => false
def pmod : V → V
  | .int z => .int (z % 2147483629)
  | v => v
theorem p_law_source {K : PySem.W.Frag} {C : Cs} (vs : List V) (H : Hp) (Q : VK) (E : XK) (h : sp_source K "great" "count" vs H Q E) : t_law_source K C { nx := fun _ H' => Q .non H', rt := Q } (L2.start n_law_source vs) H := by
  obtain ⟨a, ns, rfl, sq, hl, k⟩ := h
  have hln : (ns.map V.int).length ≤ sizeLine := by
    rw [List.length_map, sizeLine_eq]
    omega
  refine fun P hP => ?_
  have s0 : Same H (upd H P (.dK [])) := Same.upd hP
  refine ⟨_, rfl, a, rfl, ⟨_, s0.seq sq⟩, fun D1 hD1 => lc_pure (i := 1) pge id yields_list (fun H' s => s.seq (s0.seq sq)) hD1 hln (fun x hx H' Q s q => ?_) (fun x hx _ H' Q s q => ⟨_, rfl, q⟩) ?_⟩
  · obtain ⟨z, _, rfl⟩ := List.mem_map.mp hx
    exact ⟨_, rfl, _, _, rfl, rfl, ⟨by decide, by decide, by decide⟩, _, _, rfl, rfl, _, rfl, q⟩
  have e1 : ((ns.map V.int).filter pge).map id = (ns.filter (pge ∘ V.int)).map V.int := by
    rw [List.map_id, List.filter_map]
  rw [e1]
  have s1 := s0.trans (Same.upd (o := .lst ((ns.filter (pge ∘ V.int)).map V.int)) hD1)
  refine ⟨_, rfl, a, rfl, ⟨_, s1.seq sq⟩, fun D2 hD2 => lc_pure (i := 1) (fun _ => true) pmod yields_list (fun H' s => s.seq (s1.seq sq)) hD2 hln (fun x hx H' Q s q => q) (fun x hx _ H' Q s q => ?_) ?_⟩
  · obtain ⟨z, _, rfl⟩ := List.mem_map.mp hx
    exact ⟨_, rfl, _, _, rfl, rfl, (by show (0 : Int) < 2147483629; decide), q⟩
  have e2 : ((ns.map V.int).filter fun _ => true).map pmod = (ns.map fun z => z % 2147483629).map V.int := by
    rw [List.filter_eq_self.mpr (fun _ _ => rfl), List.map_map, List.map_map]
    rfl
  rw [e2]
  have s2 := s1.trans (Same.upd (o := .lst ((ns.map fun z => z % 2147483629).map V.int)) hD2)
  refine ⟨(by show 1 ≤ sizeLine; decide), fun q3 h3 => ?_⟩
  refine ⟨D2, q3, _, _, rfl, rfl, (by rw [upd_ne (ne_of_none upd_same h3)]; exact upd_same), upd_same, ?_, fun q4 h4 => ?_⟩
  · rw [List.length_map, List.length_map, sizeLine_eq]
    simp only [List.length_cons, List.length_nil]
    omega
  have u1 : Same (upd H P (.dK [])) _ := Same.upd (o := .lst ((ns.filter (pge ∘ V.int)).map V.int)) hD1
  have u2 := Same.upd (o := .lst ((ns.map fun z => z % 2147483629).map V.int)) hD2
  have u3 := Same.upd (o := .lst [V.int 77]) h3
  have u4 := Same.upd (o := .lst (((ns.map fun z => z % 2147483629).map V.int) ++ [V.int 77])) h4
  have hP4 := u4 _ _ (u3 _ _ (u2 _ _ (u1 _ _ upd_same)))
  have hG4 := u4 _ _ (u3 _ _ (u2 _ _ (upd_same (a := D1))))
  refine ⟨hP4, srcK "great" "count" D1 q4 0 0 7, rfl, (by show 5 ≤ 15; decide), ?_⟩
  rw [mergeK_nd (by show ([Sum.inr "great", Sum.inr "rest", Sum.inr "count", Sum.inr "seed", Sum.inr "cells"] : List Key).Nodup; decide +kernel)]
  have n1 : D1 ≠ P := ne_of_none upd_same hD1 |>.symm
  have n4 : q4 ≠ P := fun z => by rw [← z] at hP4; rw [upd_same] at hP4; cases hP4
  have n5 : D1 ≠ q4 := ne_of_none (u3 _ _ (u2 _ _ (upd_same (a := D1)))) h4
  refine k P D1 q4 _ ?_ hP ⟨0, 0, 7, ns.filter (pge ∘ V.int), (ns.map fun z => z % 2147483629) ++ [77], upd_same, ?_, ?_, n5, by decide, by decide, by decide, by decide, by decide, fun z hz => ?_, by simp, fun z hz => ?_⟩ ?_
  · cases q : H D1 with
    | none => rfl
    | some o =>
      have := s0 _ _ q
      rw [hD1] at this
      cases this
  · rw [upd_ne n1]
    exact hG4
  · rw [upd_ne n4, upd_same, List.map_append]
    rfl
  · obtain ⟨_, hz⟩ := List.mem_filter.mp hz
    have : (10 : Int) ^ (18 : Int).toNat ≤ z := of_decide_eq_true hz
    have : (10 : Int) ^ (18 : Int).toNat = 1000000000000000000 := by decide
    omega
  · rcases List.mem_append.mp hz with hz | hz
    · obtain ⟨y, _, rfl⟩ := List.mem_map.mp hz
      exact ⟨Int.emod_nonneg _ (by decide), Int.emod_lt_of_pos _ (by decide)⟩
    · obtain rfl := List.mem_singleton.mp hz
      decide
  · intro b o e
    rw [upd_ne (ne_of_none e hP)]
    exact u4 _ _ (u3 _ _ (u2 _ _ (u1 _ _ (s0 _ _ e))))
theorem p_law_draw {K : PySem.W.Frag} {C : Cs} (vs : List V) (H : Hp) (Q : VK) (E : XK) (h : sp_draw "great" "count" vs H Q E) : t_law_draw K C { nx := fun _ H' => Q .non H', rt := Q } (L2.start n_law_draw vs) H := by
  obtain ⟨p, g, cl, n, b, rfl, S0, hb1, hb2, hn, k⟩ := h
  obtain ⟨r, c, s, gs, cs, S, h5, h6, h7, h8, h9, h10, h11, h12⟩ := S0.at_
  have KK := kok_great
  refine ⟨fun σ' H' => ∃ r gs, σ' = [some (.ref p), some (.int b), none, none, none, none, none] ∧ SrcAt "great" "count" H' p g cl r c s gs cs ∧ 0 ≤ r ∧ (∀ z ∈ gs, 0 ≤ z) ∧ Sx (SrcS p g) H H', ?_, ?_⟩
  · -- the first if
    refine ⟨_, rfl, _, _, rfl, S.rest KK, rfl, _, rfl, ?_⟩
    refine if2 (fun hr => ?_) (fun hr => ?_)
    · have hr0 : r = 0 := by simpa using hr
      subst hr0
      refine ⟨_, rfl, _, _, rfl, S.great KK, (by show 0 ≤ sizeLine; decide), fun q hq => ?_⟩
      have S1 := S.same (Same.upd (o := .lst []) hq)
      refine ⟨.list (gs.map PyData.int), .list [], .lst (.of S1.gr) (dpAll_ints gs), .lst (.of upd_same) .nil, ?_, rfl, _, rfl, ?_⟩
      · exact shaped_ints gs
      refine if2 (fun hg => ?_) (fun hg => ?_)
      · cases gs with
        | nil => simp [PyData.eqv, PyData.eqvAll] at hg
        | cons z gs =>
          refine ⟨_, rfl, _, _, rfl, S1.great KK, .inl ⟨rfl, _, .of S1.gr⟩, _, _, 0, 0, .int z, rfl, rfl, S1.gr, by decide, by decide, by simp [seqIndex?], rfl, ?_⟩
          have S2 := S1.pop gs
          refine ⟨_, rfl, _, _, rfl, S2.putRest KK z, z, gs, rfl, S2.put z c s, h10 z List.mem_cons_self, fun y hy => h10 y (List.mem_cons_of_mem _ hy), ?_⟩
          exact ((Sx.new hq).trans (Sx.put (.inr rfl))).trans (Sx.put (.inl rfl))
      · exact ⟨0, gs, rfl, S1, by omega, h10, .new hq⟩
    · exact ⟨r, gs, rfl, S, h5, h10, Sx.refl _ _⟩
  · rintro σ' H1 ⟨r, gs, rfl, S, h5, h10, X1⟩
    refine ⟨_, rfl, _, _, rfl, S.rest KK, _, _, rfl, rfl, _, rfl, ?_⟩
    refine if2 (fun hr => ?_) (fun hr => ?_)
    · refine ⟨_, rfl, _, _, rfl, S.rest KK, _, rfl, _, _, rfl, rfl, (by omega), ?_⟩
      refine ⟨_, rfl, _, _, rfl, S.rest KK, _, rfl, _, _, rfl, rfl, (wide_div (b := 200) (by omega) (by omega) (by decide) (by decide)), ?_⟩
      refine ⟨_, rfl, _, _, rfl, S.putRest KK (r / b), _, rfl, ?_⟩
      refine k _ _ (Int.emod_nonneg _ (by omega)) (Int.emod_lt_of_pos _ (by omega)) ?_ (X1.trans (Sx.put (.inl rfl)))
      exact Src.of (S.put (r / b) c s) ⟨Int.ediv_nonneg h5 (by omega), h6, by omega, h8, h9, h10, h11, h12⟩
    · refine ⟨_, rfl, _, _, rfl, S.count KK, ?_⟩
      refine ⟨_, rfl, _, _, rfl, rfl, _, rfl, _, _, rfl, S.putCount KK (c + 1), ?_⟩
      have S1 := S.put r (c + 1) s
      have hlen : 0 < cs.length := List.length_pos_iff.mpr h11
      refine ⟨_, rfl, _, _, rfl, S1.cells KK, _, rfl, _, rfl, _, _, rfl, S1.cells KK, _, _, rfl, .inl (.of S1.ce), _, _, rfl, rfl, (by rw [List.length_map]; omega), ?_⟩
      obtain ⟨j, hj, hjl⟩ : ∃ j : Nat, c % ((cs.map V.int).length : Int) = j ∧ j < cs.length := by
        rw [List.length_map]
        have h1 : 0 ≤ c % (cs.length : Int) := Int.emod_nonneg _ (by omega)
        have h2 : c % (cs.length : Int) < cs.length := Int.emod_lt_of_pos _ (by omega)
        exact ⟨(c % (cs.length : Int)).toNat, by omega, by omega⟩
      have hx : (cs.map V.int)[j]? = some (.int cs[j]) := by simp [hjl]
      have hcell := h12 cs[j] (List.getElem_mem hjl)
      refine ⟨_, _, _, _, rfl, rfl, .of S1.ce, (by rw [hj]; exact atI_nat hx), ?_⟩
      have hpow : c.natAbs < 2 ^ 64 := by omega
      refine ⟨_, rfl, _, _, rfl, S1.seed KK, _, _, rfl, rfl, (.inl ⟨by omega, by omega⟩), _, rfl, _, rfl, _, _, rfl, rfl, (.inl ⟨by decide, by decide⟩), _, _, rfl, rfl, _, _, rfl, rfl, (.inl ⟨by omega, by omega⟩), _, _, rfl, rfl, _, rfl, _, _, rfl, rfl, ⟨by decide, by decide, hpow⟩, _, _, rfl, rfl, _, _, rfl, rfl, (by show (0 : Int) < 2147483647; decide), ?_⟩
      show gName 5 (V.int ((s * 48271 + cs[j] * (2 * c + 3) + c ^ (3 : Int).toNat) % 2147483647)) _ _ _
      generalize hs2 : (s * 48271 + cs[j] * (2 * c + 3) + c ^ (3 : Int).toNat) % 2147483647 = s2
      have hs0 : 0 ≤ s2 := by rw [← hs2]; exact Int.emod_nonneg _ (by decide)
      have hs1 : s2 < 2147483647 := by rw [← hs2]; exact Int.emod_lt_of_pos _ (by decide)
      refine ⟨_, rfl, _, rfl, _, _, rfl, S1.putSeed KK s2, ?_⟩
      have S2 := S1.put r (c + 1) s2
      have hp2 : s2.natAbs < 2 ^ 64 := by omega
      refine ⟨_, rfl, _, _, rfl, rfl, ⟨by decide, by decide, hp2⟩, _, _, rfl, rfl, (by show (0 : Int) < 2147483629; decide), _, _, rfl, rfl, (.inl ⟨?_, ?_⟩), _, rfl, _, _, rfl, rfl, ⟨by decide, by decide, hp2⟩, _, _, rfl, rfl, (by show (0 : Int) < 2147483579; decide), _, _, rfl, rfl, ?_⟩
      · have := Int.emod_nonneg (s2 ^ (2 : Int).toNat) (show (2147483629 : Int) ≠ 0 by decide)
        omega
      · have := Int.emod_lt_of_pos (s2 ^ (2 : Int).toNat) (show (0 : Int) < 2147483629 by decide)
        omega
      refine ⟨_, rfl, _, _, rfl, rfl, (wide_div (b := 10) (by decide) (by decide) (by decide) (by decide)), _, rfl, _, _, rfl, rfl, (by omega), ?_⟩
      refine k _ _ (Int.emod_nonneg _ (by omega)) (Int.emod_lt_of_pos _ (by omega)) ?_ ((X1.trans (Sx.put (.inl rfl))).trans (Sx.put (.inl rfl)))
      exact Src.of S2 ⟨h5, by omega, by omega, hs0, hs1, h10, h11, h12⟩

theorem p_law_choice {K : PySem.W.Frag} {C : Cs} (vs : List V) (H : Hp) (Q : VK) (E : XK) (h : sp_choice K "great" "count" vs H Q E) : t_law_choice K C { nx := fun _ H' => Q .non H', rt := Q } (L2.start n_law_choice vs) H := by
  obtain ⟨p, g, cl, n, x, rfl, S0, hn, h⟩ := h
  have big : (2 : Nat) ^ 20 ≤ sizeLine := by rw [sizeLine_eq]; decide
  rcases h with ⟨a, xs, rfl, sq, np, ng, ne, hl, k⟩ | ⟨z, rfl, h1, h2, k⟩
  · have hp : 0 < xs.length := List.length_pos_iff.mpr ne
    refine ⟨_, rfl, _, rfl, _, rfl, .inl ⟨a, xs, rfl, .inl sq, p, g, cl, n, xs.length, rfl, S0, by omega, by omega, hn, fun d H' d0 d1 S' X' => ?_⟩⟩
    obtain ⟨j, rfl⟩ : ∃ j : Nat, d = j := ⟨d.toNat, by omega⟩
    have hj : j < xs.length := by omega
    refine .inl (.inl ⟨a, xs, j, xs[j], rfl, rfl, X'.sqL (fun z => z.elim np ng) sq, atI_nat (by simp [hj]), k _ _ (List.getElem_mem hj) S' X'⟩)
  · refine ⟨_, rfl, _, rfl, _, rfl, .inr (.inl ⟨z, rfl, by omega, p, g, cl, n, z.length, rfl, S0, by omega, by omega, hn, fun d H' d0 d1 S' X' => ?_⟩)⟩
    obtain ⟨j, rfl⟩ : ∃ j : Nat, d = j := ⟨d.toNat, by omega⟩
    have hj : j < z.cps.toList.length := by
      have : z.cps.toList.length = z.length := by simp [Str.length]
      omega
    refine .inl (.inr (.inr ⟨z, j, z.cps.toList[j], rfl, rfl, by omega, atI_nat (by simp [hj]), k _ _ (List.getElem_mem hj) S' X'⟩))
theorem abc_app {ls : List Nat} {c : Nat} (h : ∀ c ∈ ls, c < 128) (hc : c ∈ abc.cps.toList) : ∀ d ∈ ls ++ [c], d < 128 := fun d hd => by
  rcases List.mem_append.mp hd with hd | hd
  · exact h d hd
  · obtain rfl := List.mem_singleton.mp hd
    have h2 : ∀ e ∈ abc.cps.toList, e < 128 := by decide +kernel
    exact h2 _ hc
theorem p_law_text {K : PySem.W.Frag} {C : Cs} (vs : List V) (H : Hp) (Q : VK) (E : XK) (h : sp_text "great" "count" vs H Q E) : t_law_text K C { nx := fun _ H' => Q .non H', rt := Q } (L2.start n_law_text vs) H := by
  obtain ⟨p, g, cl, n, rfl, S0, hn, k⟩ := h
  have big : 16777216 ≤ sizeLine := by rw [sizeLine_eq]; decide
  refine ⟨⟨_, rfl⟩, _, rfl, p, g, cl, n, 10, rfl, S0, by decide, by decide, by omega, fun d H1 d0 d1 S1 X1 => ?_⟩
  obtain ⟨m, rfl⟩ : ∃ m : Nat, d = m := ⟨d.toNat, by omega⟩
  refine ⟨(m : Int), rfl, by omega, by omega, fun D hD => ?_⟩
  have nD := S1.ne hD
  refine lc_walk (Y := yields_range) (fun i H' => ∃ ls : List Nat, ls.length = i ∧ (∀ c ∈ ls, c < 128) ∧ H' D = some (.lst (ls.map fun c => V.str (SX.S [c]))) ∧ Src "great" "count" H' p g cl (n + 1 + i) ∧ Sx (SrcS p g) H1 H') ?_ (fun i H' _ _ => trivial) ?_ ?_
  · exact ⟨[], rfl, fun _ z => by simp at z, upd_same, S1.keep (Same.upd hD), Sx.new hD⟩
  · rintro i x H' hx ⟨ls, rfl, h8, hD', S', X'⟩
    obtain ⟨hi, rfl⟩ := rng_get hx
    refine ⟨rfl, _, rfl, _, rfl, p, g, cl, _, _, rfl, S', by omega, .inr ⟨abc, rfl, by decide, by decide, fun c H2 hc S2 X2 => ?_⟩⟩
    refine ⟨_, X2.src hD' nD.1 nD.2.1, ?_, ls ++ [c], by simp, abc_app h8 hc, ?_, ?_, (X'.trans X2).upd_new hD⟩
    · rw [List.length_map]
      omega
    · rw [upd_same, List.map_append]
      rfl
    · exact S2.off nD
  rintro H2 ⟨ls, hl, h8, hD2, S2, X2⟩
  rw [rng_len] at hl S2
  have hm : (m : Int).toNat = m := by omega
  rw [hm] at hl S2
  refine ⟨_, D, ls.map fun c => SX.S [c], rfl, rfl, .inl (.of (by rw [hD2, List.map_map]; rfl)), ?_, ?_⟩
  · rw [sum_one, List.length_map]
    show _ + _ * 0 ≤ _
    omega
  rw [join_one]
  have hz : (SX.S ls).length ≤ 9 := by rw [SX.S_len]; omega
  refine ⟨_, rfl, _, rfl, _, rfl, by omega, _, _, rfl, rfl, p, g, cl, _, _, rfl, S2, by omega, by omega, by omega, fun d H3 d0 d1 S3 X3 => ?_⟩
  rw [SX.S_len] at d1
  refine ⟨_, rfl, (by show 12 ≤ sizeLine; omega), fun q hq => ?_⟩
  have nq := S3.ne hq
  have S4 := S3.keep (Same.upd (o := .lst [.str "", .str "", .str "", .str "A", .str "Z", .str " ", .str "1", .str "_", .str "-", .str "\n", .str "`", .str "{"]) hq)
  refine ⟨p, g, cl, _, _, rfl, S4, by omega, .inl ⟨q, _, rfl, .of upd_same, nq.1, nq.2.1, by simp, by decide, fun v H5 hv S5 X5 => ?_⟩⟩
  obtain ⟨c, rfl, hc, hc8⟩ : ∃ c : List Nat, v = .str (SX.S c) ∧ c.length ≤ 1 ∧ ∀ d ∈ c, d < 128 := by
    simp only [List.mem_cons, List.not_mem_nil, or_false] at hv
    rcases hv with rfl | rfl | rfl | rfl | rfl | rfl | rfl | rfl | rfl | rfl | rfl | rfl <;> exact ⟨_, rfl, by decide, by decide⟩
  have hsz : (SX.S ls).length ≤ sizeLine := by omega
  refine ⟨_, rfl, _, rfl, _, rfl, _, rfl, hsz, _, rfl, _, _, rfl, rfl, ?_, _, rfl, _, rfl, _, rfl, _, rfl, hsz, _, _, rfl, rfl, ?_, ?_⟩
  all_goals rw [SX.slice_to d0]
  · rw [SX.S_len, SX.S_len, List.length_take]
    omega
  · rw [SX.S_cat, SX.slice_from d0, SX.S_len, SX.S_len, List.length_append, List.length_take, List.length_drop]
    omega
  · rw [SX.S_cat, SX.slice_from d0, SX.S_cat]
    refine k _ _ ?_ ?_ (S5.mono (by omega)) ?_
    · rw [List.length_append, List.length_append, List.length_take, List.length_drop]
      omega
    · intro e he
      rcases List.mem_append.mp he with he | he
      · rcases List.mem_append.mp he with he | he
        · exact h8 e (List.mem_of_mem_take he)
        · exact hc8 e he
      · exact h8 e (List.mem_of_mem_drop he)
    · exact (X1.trans X2).trans ((X3.trans (Sx.new hq)).trans X5)
theorem p_law_value {K : PySem.W.Frag} {C : Cs} (vs : List V) (H : Hp) (Q : VK) (E : XK) (h : sp_value K "great" "count" vs H Q E) : t_law_value K C { nx := fun _ H' => Q .non H', rt := Q } (L2.start n_law_value vs) H := by
  obtain ⟨p, g, cl, n, rfl, S0, hn, k⟩ := h
  refine ⟨_, rfl, p, g, cl, n, rfl, S0, hn, fun l H1 hl hl8 S1 X1 => ?_⟩
  refine ⟨_, rfl, _, rfl, _, rfl, _, rfl, _, rfl, _, rfl, (by show 1 ≤ sizeLine; decide), fun q1 h1 => ⟨_, rfl, (by show 1 ≤ sizeLine; decide), fun q2 h2 => fun q3 h3 => ⟨_, rfl, upd_same, [(.inr (SX.S l), .int 1)], rfl, by show 1 ≤ 15; decide, ?_⟩⟩⟩
  rw [mergeK_nd (by simp), upd_upd]
  refine ⟨_, rfl, (by show 0 ≤ sizeLine; decide), fun q4 h4 => ⟨(by show 12 ≤ sizeLine; decide), fun q5 h5 => ?_⟩⟩
  have u1 := Same.upd (o := .lst [V.str (SX.S l)]) h1
  have u2 := Same.upd (o := .tup [V.str (SX.S l)]) h2
  have u3 := Same.upd (o := .dK [((Sum.inr (SX.S l) : Key), V.int 1)]) h3
  have u4 := Same.upd (o := .tup []) h4
  have U := ((u1.trans u2).trans (u3.trans u4)).trans (Same.upd (o := .lst [.str (SX.S l), .str (SX.S l), .str (SX.S l), .str (SX.S l), .non, .int 5, .bl true, .ref q1, .ref q2, .ref q3, .int (-1), .ref q4]) h5)
  have S2 := S1.keep U
  have m1 := S1.ne h1
  have m2 := S1.ne (u1.free h2)
  have m3 := S1.ne ((u1.trans u2).free h3)
  have m4 := S1.ne (((u1.trans u2).trans u3).free h4)
  have m5 := S1.ne (((u1.trans u2).trans (u3.trans u4)).free h5)
  have g5 := fun {o : HO} {b : Addr} (e : _ = some o) => Same.upd (o := .lst [.str (SX.S l), .str (SX.S l), .str (SX.S l), .str (SX.S l), .non, .int 5, .bl true, .ref q1, .ref q2, .ref q3, .int (-1), .ref q4]) h5 b o e
  refine ⟨p, g, cl, _, _, rfl, S2, by omega, .inl ⟨q5, _, rfl, .of upd_same, m5.1, m5.2.1, by simp, by show 12 ≤ 2 ^ 20; decide, fun v H2 hv S3 X3 => k v H2 ?_ (S3.mono (by omega)) ((X1.trans (.of U)).trans X3)⟩⟩
  simp only [List.mem_cons, List.not_mem_nil, or_false] at hv
  rcases hv with rfl | rfl | rfl | rfl | rfl | rfl | rfl | rfl | rfl | rfl | rfl | rfl
  · exact .inl ⟨l, rfl, hl, hl8⟩
  · exact .inl ⟨l, rfl, hl, hl8⟩
  · exact .inl ⟨l, rfl, hl, hl8⟩
  · exact .inl ⟨l, rfl, hl, hl8⟩
  · exact .inr (.inl rfl)
  · exact .inr (.inr (.inl ⟨_, rfl⟩))
  · exact .inr (.inr (.inr (.inl ⟨_, rfl⟩)))
  · exact .inr (.inr (.inr (.inr (.inl ⟨_, _, rfl, X3.src (g5 (u4 _ _ (u3 _ _ (u2 _ _ upd_same)))) m1.1 m1.2.1⟩))))
  · exact .inr (.inr (.inr (.inr (.inr (.inl ⟨_, _, rfl, X3.src (g5 (u4 _ _ (u3 _ _ upd_same))) m2.1 m2.2.1⟩)))))
  · exact .inr (.inr (.inr (.inr (.inr (.inr ⟨_, _, rfl, X3.src (g5 (u4 _ _ upd_same)) m3.1 m3.2.1⟩)))))
  · exact .inr (.inr (.inl ⟨_, rfl⟩))
  · exact .inr (.inr (.inr (.inr (.inr (.inl ⟨_, _, rfl, X3.src (g5 upd_same) m4.1 m4.2.1⟩)))))

theorem Val1.same {H H' : Hp} {v : V} (h : Val1 H v) (e : Same H H') : Val1 H' v := by
  rcases h with h | h | h | h | ⟨a, xs, rfl, h⟩ | ⟨a, xs, rfl, h⟩ | ⟨a, xs, rfl, h⟩
  · exact .inl h
  · exact .inr (.inl h)
  · exact .inr (.inr (.inl h))
  · exact .inr (.inr (.inr (.inl h)))
  · exact .inr (.inr (.inr (.inr (.inl ⟨_, _, rfl, e _ _ h⟩))))
  · exact .inr (.inr (.inr (.inr (.inr (.inl ⟨_, _, rfl, e _ _ h⟩)))))
  · exact .inr (.inr (.inr (.inr (.inr (.inr ⟨_, _, rfl, e _ _ h⟩)))))
/-- a value is a text, or isinstance says no and it is no name -/
theorem val1_cases {K : PySem.W.Frag} {H : Hp} {v : V} (h : Val1 H v) : (∃ l : List Nat, v = .str (SX.S l) ∧ l.length ≤ 10 ∧ ∀ c ∈ l, c < 128) ∨ (nameV v = false ∧ ∃ n : String, TyOf K H v (.type n) ∧ kitB n "str" = some false) := by
  rcases h with h | rfl | ⟨i, rfl⟩ | ⟨b, rfl⟩ | ⟨a, xs, rfl, h⟩ | ⟨a, xs, rfl, h⟩ | ⟨a, xs, rfl, h⟩
  · exact .inl h
  · exact .inr ⟨rfl, _, .non, by decide +kernel⟩
  · exact .inr ⟨rfl, _, .int i, by decide +kernel⟩
  · exact .inr ⟨rfl, _, .bl b, by decide +kernel⟩
  · exact .inr ⟨rfl, _, .lst h, by decide +kernel⟩
  · exact .inr ⟨rfl, _, .tup h, by decide +kernel⟩
  · exact .inr ⟨rfl, _, .dK h, by decide +kernel⟩
theorem sgs_S (l : List Nat) : sgs (SX.S l) = l.map fun c => V.str (SX.S [c]) := rfl
theorem nameL_false {l : List Nat} (h : ¬ (1 ≤ (l.length : Int) ∧ (l.length : Int) ≤ 6)) : nameV (.str (SX.S l)) = false := by
  show nameL l = false
  unfold nameL
  cases h1 : decide (1 ≤ l.length) with
  | false => rfl
  | true =>
    cases h2 : decide (l.length ≤ 6) with
    | false => rfl
    | true =>
      have := of_decide_eq_true h1
      have := of_decide_eq_true h2
      omega
theorem nameL_true {l : List Nat} (h : 1 ≤ (l.length : Int) ∧ (l.length : Int) ≤ 6) : nameV (.str (SX.S l)) = l.all fun c => decide (c ∈ abc.cps.toList) := by
  show nameL l = _
  unfold nameL
  rw [decide_eq_true (by omega : 1 ≤ l.length), decide_eq_true (by omega : l.length ≤ 6)]
  rfl
def inAbc : V → V
  | .str z => .bl (decide (z.cps.toList.head! ∈ abc.cps.toList))
  | v => v
def notAbc : V → Bool
  | .str z => !decide (z.cps.toList.head! ∈ abc.cps.toList)
  | _ => false
theorem p_is_name {K : PySem.W.Frag} {C : Cs} (vs : List V) (H : Hp) (Q : VK) (E : XK) (h : sp_is_name K vs H Q E) : t_is_name K C { nx := fun _ H' => Q .non H', rt := Q } (L2.start n_is_name vs) H := by
  obtain ⟨v, rfl, hv, k⟩ := h
  rcases val1_cases (K := K) hv with ⟨l, rfl, hl, hl8⟩ | ⟨hn, n, ty, kt⟩
  · have hsz : (SX.S l).length ≤ sizeLine := by
      rw [SX.S_len, sizeLine_eq]
      omega
    refine ⟨_, rfl, isi_ty (.str _) (by decide +kernel) ⟨true, rfl, ifF rfl ⟨_, rfl, _, rfl, hsz, _, _, rfl, rfl, _, rfl, ?_⟩⟩⟩
    rw [SX.S_len]
    refine if2 (fun h1 => ?_) (fun h1 => ?_)
    · have h1 := of_decide_eq_true h1
      refine ⟨_, _, rfl, rfl, _, rfl, if2 (fun h2 => ?_) (fun h2 => ?_)⟩
      · have h2 : ¬ ((l.length : Int) ≤ 6) := by simpa using h2
        rw [← nameL_false (l := l) (fun z => h2 z.2)]
        exact k _ (Same.refl _)
      · have h2 : (l.length : Int) ≤ 6 := by simpa using h2
        refine ⟨_, rfl, _, rfl, fun D hD => lc_pure (i := 1) (fun _ => true) inAbc yields_str (fun _ _ => trivial) hD (by rw [sgs_len]; exact hsz) (fun x hx H' Q s q => q) (fun x hx _ H' Q s q => ?_) ?_⟩
        · rw [sgs_S] at hx
          obtain ⟨c, _, rfl⟩ := List.mem_map.mp hx
          exact ⟨_, rfl, c, _, rfl, rfl, q⟩
        · refine ⟨D, l.map fun c => decide (c ∈ abc.cps.toList), rfl, .of ?_, ?_⟩
          · rw [upd_same, List.filter_eq_self.mpr (fun _ _ => rfl), sgs_S, List.map_map, List.map_map]
            rfl
          · have e : (l.map fun c => decide (c ∈ abc.cps.toList)).all id = nameV (.str (SX.S l)) := by
              rw [nameL_true ⟨h1, h2⟩, List.all_map]
              rfl
            rw [e]
            exact k _ (Same.upd hD)
    · have h1 : ¬ (1 ≤ (l.length : Int)) := by simpa using h1
      refine ⟨_, rfl, ?_⟩
      refine ifT rfl ?_
      rw [← nameL_false (l := l) (fun z => h1 z.1)]
      exact k _ (Same.refl _)
  · refine ⟨_, rfl, isi_ty ty kt ⟨false, rfl, ifT rfl (ifT rfl ?_)⟩⟩
    rw [← hn]
    exact k _ (Same.refl _)
theorem p_law_is_name {K : PySem.W.Frag} {C : Cs} (vs : List V) (H : Hp) (Q : VK) (E : XK) (h : sp_is_name K vs H Q E) : t_law_is_name K C { nx := fun _ H' => Q .non H', rt := Q } (L2.start n_law_is_name vs) H := by
  obtain ⟨v, rfl, hv, k⟩ := h
  rcases val1_cases (K := K) hv with ⟨l, rfl, hl, hl8⟩ | ⟨hn, n, ty, kt⟩
  · have hsz : (SX.S l).length ≤ sizeLine := by
      rw [SX.S_len, sizeLine_eq]
      omega
    refine ⟨_, rfl, isi_ty (.str _) (by decide +kernel) ⟨true, rfl, ifF rfl ⟨_, rfl, _, rfl, hsz, _, _, rfl, rfl, _, rfl, ?_⟩⟩⟩
    rw [SX.S_len]
    refine if2 (fun h1 => ?_) (fun h1 => ?_)
    · have h1 := of_decide_eq_true h1
      refine ⟨_, _, rfl, rfl, _, rfl, if2 (fun h2 => ?_) (fun h2 => ?_)⟩
      · have h2 : ¬ ((l.length : Int) ≤ 6) := by simpa using h2
        rw [← nameL_false (l := l) (fun z => h2 z.2)]
        exact k _ (Same.refl _)
      · have h2 : (l.length : Int) ≤ 6 := by simpa using h2
        refine ⟨_, rfl, _, rfl, fun D hD => lc_pure (i := 1) notAbc id yields_str (fun _ _ => trivial) hD (by rw [sgs_len]; exact hsz) (fun x hx H' Q s q => ?_) (fun x hx _ H' Q s q => ⟨_, rfl, q⟩) ?_⟩
        · rw [sgs_S] at hx
          obtain ⟨c, _, rfl⟩ := List.mem_map.mp hx
          exact ⟨_, rfl, c, _, rfl, rfl, _, rfl, q⟩
        · refine ⟨(by show 0 ≤ sizeLine; decide), fun q hq => ?_⟩
          have e1 : ((sgs (SX.S l)).filter notAbc).map id = (l.filter fun c => !decide (c ∈ abc.cps.toList)).map fun c => V.str (SX.S [c]) := by
            rw [List.map_id, sgs_S, List.filter_map]
            rfl
          have hl2 : (l.filter fun c => !decide (c ∈ abc.cps.toList)).length ≤ 10 := Nat.le_trans (List.length_filter_le _ _) hl
          refine ⟨.list ((l.filter fun c => !decide (c ∈ abc.cps.toList)).map fun c => .str (SX.S [c])), .list [], .lst (.of (Same.upd hq _ _ upd_same)) ?_, .lst (.of upd_same) .nil, ?_, rfl, ?_⟩
          · rw [e1]
            exact dpAll_strs _
          · exact shaped_strs _ fun c hc => strOk_sg (hl8 c (List.mem_filter.mp hc).1)
          · have e : PyData.eqv (.list ((l.filter fun c => !decide (c ∈ abc.cps.toList)).map fun c => .str (SX.S [c]))) (.list []) = nameV (.str (SX.S l)) := by
              rw [nameL_true ⟨h1, h2⟩]
              cases e3 : l.filter fun c => !decide (c ∈ abc.cps.toList) with
              | nil =>
                rw [List.map_nil]
                have : l.all (fun c => decide (c ∈ abc.cps.toList)) = true := by
                  rw [List.all_eq_true]
                  intro c hc
                  have := List.filter_eq_nil_iff.mp e3 c hc
                  simpa using this
                rw [this]
                simp [PyData.eqv, PyData.eqvAll]
              | cons c r =>
                have hm : c ∈ l.filter fun c => !decide (c ∈ abc.cps.toList) := by rw [e3]; exact List.mem_cons_self
                obtain ⟨hc, hn⟩ := List.mem_filter.mp hm
                have : l.all (fun c => decide (c ∈ abc.cps.toList)) = false := by
                  rw [List.all_eq_false]
                  exact ⟨c, hc, by simpa using hn⟩
                rw [this]
                simp [PyData.eqv, PyData.eqvAll]
            rw [e]
            exact k _ ((Same.upd hD).trans (Same.upd hq))
    · have h1 : ¬ (1 ≤ (l.length : Int)) := by simpa using h1
      refine ⟨_, rfl, ?_⟩
      refine ifT rfl ?_
      rw [← nameL_false (l := l) (fun z => h1 z.1)]
      exact k _ (Same.refl _)
  · refine ⟨_, rfl, isi_ty ty kt ⟨false, rfl, ifT rfl (ifT rfl ?_)⟩⟩
    rw [← hn]
    exact k _ (Same.refl _)
end BL

set_option Elab.async false
set_option linter.all false
set_option maxRecDepth 100000
set_option maxHeartbeats 4000000
namespace BL
open PySem PySem.Spec PyProof.Rows L2
section
variable {K : PySem.W.Frag} {C : Cs}
theorem FRow.same {H H' : Hp} (e : Same H H') : ∀ {ts es : List Addr} {vs : List V} {ds : List PyData} {Ds : List Addr}, FRow K H ts es vs ds Ds → FRow K H' ts es vs ds Ds
  | _, _, _, _, _, .nil => .nil
  | _, _, _, _, _, .cons h1 h2 h3 h4 => .cons (e _ _ h1) (h2.same e) (Dp.same e h3) (FRow.same e h4)
theorem FRow.app {H : Hp} : ∀ {ts es ts' es' : List Addr} {vs vs' : List V} {ds ds' : List PyData} {Ds Ds' : List Addr}, FRow K H ts es vs ds Ds → FRow K H ts' es' vs' ds' Ds' → FRow K H (ts ++ ts') (es ++ es') (vs ++ vs') (ds ++ ds') (Ds ++ Ds')
  | _, _, _, _, _, _, _, _, _, _, .nil, h => h
  | _, _, _, _, _, _, _, _, _, _, .cons h1 h2 h3 h4, h => .cons h1 h2 h3 (FRow.app h4 h)
theorem DpAll.app {H : Hp} : ∀ {vs vs' : List V} {ds ds' : List PyData}, DpAll K H vs ds → DpAll K H vs' ds' → DpAll K H (vs ++ vs') (ds ++ ds')
  | _, _, _, _, .nil, h => h
  | _, _, _, _, .cons h1 h4, h => .cons h1 (DpAll.app h4 h)
/-- te makes data -/
def MkVal (K : PySem.W.Frag) (te : TE) (d : PyData) : Prop := ∀ σ H Q, (∀ v H', Same H H' → Dp K H' v d → Q v H') → te σ H Q
def MkVals (K : PySem.W.Frag) (ta : TA) (ds : List PyData) : Prop := ∀ σ H Q, (∀ vs H', Same H H' → DpAll K H' vs ds → Q vs H') → ta σ H Q
def MkPair (K : PySem.W.Frag) (te : TE) (D : Addr) (d : PyData) : Prop := ∀ σ H Q, (∀ q e v H', Same H H' → H' q = some (.tup [.ref e, v]) → ExAt H' e D → Dp K H' v d → Q (.ref q) H') → te σ H Q
theorem mk_int (i : Int) : MkVal K (tC (.int i)) (.int i) := fun σ H Q h => h _ _ (Same.refl _) (.int i)
theorem mk_str (i : Str) : MkVal K (tC (.str i)) (.str i) := fun σ H Q h => h _ _ (Same.refl _) (.str i)
theorem mk_non : MkVal K (tC .non) .none := fun σ H Q h => h _ _ (Same.refl _) .non
theorem mk_neg (i : Int) : MkVal K (tUn (rU fun i => .int (-i)) (tC (.int i))) (.int (-i)) := fun σ H Q h => ⟨_, rfl, h _ _ (Same.refl _) (.int _)⟩
theorem mk_tup0 : MkVal K (tTup tNil) (.tuple []) := fun σ H Q h => ⟨by show 0 ≤ sizeLine; decide, fun p hp => h _ _ (Same.upd hp) (.tup (.of upd_same) .nil)⟩
theorem mk_nil : MkVals K tNil [] := fun σ H Q h => h _ _ (Same.refl _) .nil
theorem mk_cons {te : TE} {ta : TA} {d : PyData} {ds : List PyData} (h1 : MkVal K te d) (h2 : MkVals K ta ds) : MkVals K (tCons te ta) (d :: ds) := fun σ H Q h =>
  h1 _ _ _ fun v H1 s1 d1 => h2 _ _ _ fun vs H2 s2 d2 => h _ _ (s1.trans s2) (.cons (Dp.same s2 d1) d2)
section
variable {D : Addr} {bm : List Value} {f : Str} {te : TE} {d : PyData}
theorem mk_exc (T : XCls K D bm) (no : PySem.W.findIn K (.ref D) f = some none) (ht : MkVal K te d) (σ : L2.St) (H : Hp) (Q : VK) (h : ∀ e v H', Same H H' → ExF H' e D f v → Dp K H' v d → Q (.ref e) H') : tMkV D (spx_init K D f) [] (tCons te tNil) σ H Q := by
  refine i_cons (ht _ _ _ fun v H1 s1 d1 => ?_)
  exact ⟨by show 1 ≤ 1000; decide, mkv_ex T.oex no fun a H2 _ s2 x => h a v H2 (s1.trans s2) x (Dp.same s2 d1)⟩
theorem mk_fld (T : XCls K D bm) (no : PySem.W.findIn K (.ref D) f = some none) (ht : MkVal K te d) : MkVal K (tXfV K f (tMkV D (spx_init K D f) [] (tCons te tNil))) d := fun σ H Q h => by
  refine mk_exc (f := f) T no ht σ H (fun x H1 => ∃ (a C d : Addr) (fs : List (Str × V)) (v : V), x = .ref a ∧ H1 a = some (exo a C (some d)) ∧ H1 d = some (exd d fs) ∧ XRead K C f ∧ fs.lookup f = some v ∧ Q v H1) fun e v H1 s1 x d1 => ?_
  obtain ⟨dx, x1, x2⟩ := x
  exact ⟨e, D, dx, _, v, rfl, x1, x2, T.read no, (by simp [List.lookup]), h _ _ s1 d1⟩
theorem mk_excK (T : XCls K D bm) (no : PySem.W.findIn K (.ref D) f = some none) (ht : MkVal K te d) (σ : L2.St) (H : Hp) (Q : VK) (h : ∀ e v H', Same H H' → ExF H' e D f v → Dp K H' v d → Q (.ref e) H') : tMkVK D (spx_init K D f) (tCons te tNil) σ H Q := by
  refine i_cons (ht _ _ _ fun v H1 s1 d1 => ?_)
  exact ⟨rfl, mkv_ex T.oex no fun a H2 _ s2 x => h a v H2 (s1.trans s2) x (Dp.same s2 d1)⟩
theorem mk_fldK (T : XCls K D bm) (no : PySem.W.findIn K (.ref D) f = some none) (ht : MkVal K te d) : MkVal K (tXfV K f (tMkVK D (spx_init K D f) (tCons te tNil))) d := fun σ H Q h => by
  refine mk_excK (f := f) T no ht σ H (fun x H1 => ∃ (a C d : Addr) (fs : List (Str × V)) (v : V), x = .ref a ∧ H1 a = some (exo a C (some d)) ∧ H1 d = some (exd d fs) ∧ XRead K C f ∧ fs.lookup f = some v ∧ Q v H1) fun e v H1 s1 x d1 => ?_
  obtain ⟨dx, x1, x2⟩ := x
  exact ⟨e, D, dx, _, v, rfl, x1, x2, T.read no, (by simp [List.lookup]), h _ _ s1 d1⟩
theorem mk_pair (T : XCls K D bm) (no : PySem.W.findIn K (.ref D) f = some none) (ht : MkVal K te d) : MkPair K (tTup (tCons (tMkV D (spx_init K D f) [] (tCons te tNil)) (tCons (tXfV K f (tMkV D (spx_init K D f) [] (tCons te tNil))) tNil))) D d := fun σ H Q h => by
  refine i_tup (i_cons (mk_exc T no ht _ _ _ fun e v0 H1 s1 x1 _ => ?_))
  refine i_cons (mk_fld T no ht _ _ _ fun v H2 s2 d2 => ?_)
  refine ⟨by show 2 ≤ sizeLine; decide, fun p hp => ?_⟩
  have s3 := Same.upd (o := .tup [.ref e, v]) hp
  exact h p e v _ ((s1.trans s2).trans s3) upd_same ((x1.same (s2.trans s3)).at_) (Dp.same s3 d2)
end
theorem row_two {te1 te2 : TE} {D1 D2 : Addr} {d1 d2 : PyData} (h1 : MkPair K te1 D1 d1) (h2 : MkPair K te2 D2 d2) (σ : L2.St) (H : Hp) (Q : VK)
    (h : ∀ f' t1 t2 e1 e2 v1 v2 H', Same H H' → H' f' = some (.lst ([t1, t2].map V.ref)) → FRow K H' [t1, t2] [e1, e2] [v1, v2] [d1, d2] [D1, D2] → Q (.ref f') H') : tLst (tCons te1 (tCons te2 tNil)) σ H Q :=
  i_lst <| i_cons <| h1 _ _ _ fun q1 e1 v1 H1 s1 a1 b1 c1 => i_cons <| h2 _ _ _ fun q2 e2 v2 H2 s2 a2 b2 c2 => ⟨by show 2 ≤ sizeLine; decide, fun p hp => by
    have s3 := Same.upd (o := .lst [V.ref q1, V.ref q2]) hp
    exact h p q1 q2 e1 e2 v1 v2 _ ((s1.trans s2).trans s3) upd_same (.cons ((s2.trans s3) _ _ a1) (b1.same (s2.trans s3)) (Dp.same (s2.trans s3) c1) (.cons (s3 _ _ a2) (b2.same s3) (Dp.same s3 c2) .nil))⟩
theorem row_cat {te1 te2 : TE} {D1 D2 f : Addr} {d1 d2 : PyData} {ts es Ds : List Addr} {vs : List V} {ds : List PyData} {σ : L2.St} {H : Hp} {Q : VK} (h1 : MkPair K te1 D1 d1) (h2 : MkPair K te2 D2 d2)
    (e0 : σ[0]? = some (some (.ref f))) (hf : H f = some (.lst (ts.map V.ref))) (hr : FRow K H ts es vs ds Ds) (hl : ts.length ≤ 100)
    (h : ∀ f' t1 t2 e1 e2 v1 v2 H', Same H H' → H' f' = some (.lst ((ts ++ [t1, t2]).map V.ref)) → FRow K H' (ts ++ [t1, t2]) (es ++ [e1, e2]) (vs ++ [v1, v2]) (ds ++ [d1, d2]) (Ds ++ [D1, D2]) → Q (.ref f') H') :
    tOp rCat (tVar 0) (tLst (tCons te1 (tCons te2 tNil))) σ H Q :=
  ⟨_, e0, row_two h1 h2 _ _ _ fun f' t1 t2 e1 e2 v1 v2 H' s hf' r => ⟨f, f', _, _, rfl, rfl, s _ _ hf, hf', by
    have : 16777216 ≤ sizeLine := by rw [sizeLine_eq]; decide
    rw [List.length_map, List.length_map]
    show _ + 2 ≤ _
    omega, fun p hp => by
      have s3 := Same.upd (o := .lst (ts.map V.ref ++ [t1, t2].map V.ref)) hp
      refine h p t1 t2 e1 e2 v1 v2 _ (s.trans s3) (by rw [upd_same, List.map_append]) (.app (hr.same (s.trans s3)) (r.same s3))⟩⟩
theorem vals_lst {ta : TA} {ds : List PyData} {σ : L2.St} {H : Hp} {Q : VK} (h1 : MkVals K ta ds) (hl : ds.length ≤ 100)
    (h : ∀ f' vs' H', Same H H' → H' f' = some (.lst vs') → DpAll K H' vs' ds → Q (.ref f') H') : tLst ta σ H Q :=
  i_lst <| h1 _ _ _ fun vs H1 s1 d1 => ⟨by
    have : 16777216 ≤ sizeLine := by rw [sizeLine_eq]; decide
    have := dpAll_len d1
    omega, fun p hp => h p vs _ (s1.trans (Same.upd hp)) upd_same (DpAll.same (Same.upd hp) d1)⟩
theorem vals_cat {ta : TA} {f : Addr} {ds ds' : List PyData} {vs : List V} {i : Nat} {σ : L2.St} {H : Hp} {Q : VK} (h1 : MkVals K ta ds') (e0 : σ[i]? = some (some (.ref f))) (hf : H f = some (.lst vs)) (hr : DpAll K H vs ds) (hl : ds.length ≤ 100) (hl' : ds'.length ≤ 100)
    (h : ∀ f' vs' H', Same H H' → H' f' = some (.lst vs') → DpAll K H' vs' (ds ++ ds') → Q (.ref f') H') : tOp rCat (tVar i) (tLst ta) σ H Q :=
  ⟨_, e0, vals_lst h1 hl' fun f' vs' H' s hf' r => ⟨f, f', _, _, rfl, rfl, s _ _ hf, hf', by
    have : 16777216 ≤ sizeLine := by rw [sizeLine_eq]; decide
    have := dpAll_len hr
    have := dpAll_len r
    omega, fun p hp => h p _ _ (s.trans (Same.upd hp)) upd_same (DpAll.app (DpAll.same (s.trans (Same.upd hp)) hr) (DpAll.same (Same.upd hp) r))⟩⟩
end
theorem p_law_fields {K : PySem.W.Frag} {C : Cs} (ok : CsOk K C) (vs : List V) (H : Hp) (Q : VK) (E : XK) (h : sp_fields K C vs H Q E) : t_law_fields K C { nx := fun _ H' => Q .non H', rt := Q } (L2.start n_law_fields vs) H := by
  obtain ⟨rfl, k⟩ := h
  have a1 := ok.all C.InvalidName (by simp [cls12])
  have a2 := ok.all C.DuplicateName (by simp [cls12])
  have a3 := ok.all C.InvalidCapacity (by simp [cls12])
  have a4 := ok.all C.InvalidAction (by simp [cls12])
  have a5 := ok.all C.InvalidOutcome (by simp [cls12])
  have a6 := ok.all C.InvalidTie (by simp [cls12])
  have a7 := ok.all C.Contradiction (by simp [cls12])
  have a8 := ok.all C.InvalidSymbol (by simp [cls12])
  have a9 := ok.all C.InvalidNumber (by simp [cls12])
  have a10 := ok.all C.InvalidText (by simp [cls12])
  unfold t_law_fields
  rw [show L2.start n_law_fields [] = [none, none] from rfl]
  refine i_seq (i_set (row_two (mk_pair a1 ok.f1 (mk_int 5)) (mk_pair a2 ok.f2 (mk_str "a")) _ _ _ fun g1 t1 t2 e1 e2 v1 v2 H1 s1 b1 r1 => ?_))
  dsimp only
  refine i_seq (i_set (row_cat (mk_pair a3 ok.f3 mk_non) (mk_pair a4 ok.f4 (mk_int 3)) rfl b1 r1 (by show 2 ≤ 100; decide) fun g2 t3 t4 e3 e4 v3 v4 H2 s2 b2 r2 => ?_))
  dsimp only
  refine i_seq (i_set (row_cat (mk_pair a5 ok.f5 (mk_int 4)) (mk_pair a6 ok.f6 (mk_int 2)) rfl b2 r2 (by show 4 ≤ 100; decide) fun g3 t5 t6 e5 e6 v5 v6 H3 s3 b3 r3 => ?_))
  dsimp only
  refine i_seq (i_set (row_cat (mk_pair a7 ok.f7 mk_tup0) (mk_pair a8 ok.f8 (mk_int 7)) rfl b3 r3 (by show 6 ≤ 100; decide) fun g4 t7 t8 e7 e8 v7 v8 H4 s4 b4 r4 => ?_))
  dsimp only
  refine i_seq (i_set (row_cat (mk_pair a9 ok.f9 (mk_neg 1)) (mk_pair a10 ok.f10 (mk_int 9)) rfl b4 r4 (by show 8 ≤ 100; decide) fun g5 t9 t10 e9 e10 v9 v10 H5 s5 b5 r5 => ?_))
  dsimp only
  refine i_seq (i_set (vals_lst (mk_cons (mk_fldK a1 ok.f1 (mk_int 5)) (mk_cons (mk_fldK a2 ok.f2 (mk_str "a")) (mk_cons (mk_fldK a3 ok.f3 mk_non) mk_nil))) (by decide) fun l1 w1 H6 s6 c1 x1 => ?_))
  dsimp only
  refine i_seq (i_set (vals_cat (mk_cons (mk_fldK a4 ok.f4 (mk_int 3)) (mk_cons (mk_fldK a5 ok.f5 (mk_int 4)) (mk_cons (mk_fldK a6 ok.f6 (mk_int 2)) mk_nil))) rfl c1 x1 (by decide) (by decide) fun l2 w2 H7 s7 c2 x2 => ?_))
  dsimp only
  refine i_seq (i_set (vals_cat (mk_cons (mk_fldK a7 ok.f7 mk_tup0) (mk_cons (mk_fldK a8 ok.f8 (mk_int 7)) mk_nil)) rfl c2 x2 (by decide) (by decide) fun l3 w3 H8 s8 c3 x3 => ?_))
  dsimp only
  refine i_seq (i_set (vals_cat (mk_cons (mk_fldK a9 ok.f9 (mk_neg 1)) (mk_cons (mk_fldK a10 ok.f10 (mk_int 9)) mk_nil)) rfl c3 x3 (by decide) (by decide) fun l4 w4 H9 s9 c4 x4 => ?_))
  dsimp only
  refine ⟨_, rfl, _, rfl, (by show 2 ≤ sizeLine; decide), fun q hq => ?_⟩
  have s69 := ((s6.trans s7).trans (s8.trans s9)).trans (Same.upd (o := .tup [V.ref g5, V.ref l4]) hq)
  exact k q g5 l4 _ _ _ w4 _ (((s1.trans s2).trans (s3.trans s4)).trans (s5.trans s69)) upd_same (s69 _ _ b5) (Same.upd hq _ _ c4) (r5.same s69) (DpAll.same (Same.upd hq) x4)
end BL

set_option Elab.async false
set_option linter.all false
set_option maxRecDepth 100000
set_option maxHeartbeats 4000000
namespace BL
open PySem PySem.Spec PyProof.Rows L2
section
variable {K : PySem.W.Frag} {C : Cs} {a : Addr}
/-- te reads slot 0 and changes nothing -/
def PuA (a : Addr) (H0 : Hp) (ta : TA) (vs : List V) : Prop := ∀ σ : L2.St, σ[0]? = some (some (.ref a)) → ∀ H Q, Same H0 H → Q vs H → ta σ H Q
theorem pu_nil {H0 : Hp} : PuA a H0 tNil [] := fun _ _ _ _ _ q => q
theorem pu_isx {D : Addr} {bm : List Value} {H0 : Hp} {ta : TA} {vs : List V} (ok : CsOk K C) (T : XCls K D bm) (x : ExAt H0 a D) {E : Addr} (hE : E ∈ cls12 C) (h : PuA a H0 ta vs) :
    PuA a H0 (tCons (tCB (rIsiU K) (tCons (tVar 0) (tCons (tC (.ref E)) tNil))) ta) (.bl ((Value.ref D :: bm).contains (.ref E)) :: vs) := fun σ e H Q s q => by
  refine i_cons (i_cb (i_cons ⟨_, e, isi_x (x.same s) T (ok.all E hE) ok.kit ?_⟩))
  exact h σ e H _ s q
theorem pu_lst {H0 : Hp} {ta : TA} {vs : List V} {σ : L2.St} {H : Hp} {Q : VK} (h : PuA a H0 ta vs) (e : σ[0]? = some (some (.ref a))) (s : Same H0 H) (hl : vs.length ≤ 1000) (q : ∀ l H', Same H H' → H' l = some (.lst vs) → Q (.ref l) H') : tLst ta σ H Q := by
  refine i_lst (h σ e H _ s ⟨?_, fun p hp => q p _ (Same.upd hp) upd_same⟩)
  rw [sizeLine_eq]
  omega
theorem pu_cat {H0 : Hp} {ta : TA} {vs ws : List V} {σ : L2.St} {H : Hp} {Q : VK} {l : Addr} (h : PuA a H0 ta vs) (e : σ[0]? = some (some (.ref a))) (e1 : σ[1]? = some (some (.ref l))) (hw : H l = some (.lst ws)) (s : Same H0 H) (hl : vs.length ≤ 1000) (hl' : ws.length ≤ 1000)
    (q : ∀ l H', Same H H' → H' l = some (.lst (ws ++ vs)) → Q (.ref l) H') : tOp rCat (tVar 1) (tLst ta) σ H Q := by
  refine ⟨_, e1, pu_lst h e s hl fun l' H' s' h' => ⟨l, l', ws, vs, rfl, rfl, s' _ _ hw, h', ?_, fun p hp => q p _ (s'.trans (Same.upd hp)) upd_same⟩⟩
  rw [sizeLine_eq]
  omega
theorem p_law_kinds (ok : CsOk K C) (vs : List V) (H : Hp) (Q : VK) (E : XK) (h : sp_kinds K C vs H Q E) : t_law_kinds K C { nx := fun _ H' => Q .non H', rt := Q } (L2.start n_law_kinds vs) H := by
  obtain ⟨a, D, bm, rfl, x, T, hbm, k⟩ := h
  unfold t_law_kinds
  rw [show L2.start n_law_kinds [V.ref a] = [some (.ref a), none] from rfl]
  refine i_seq (i_set (pu_lst (pu_isx ok T x (E := C.InvalidName) (by simp [cls12]) (pu_isx ok T x (E := C.DuplicateName) (by simp [cls12]) (pu_isx ok T x (E := C.InvalidCapacity) (by simp [cls12]) pu_nil))) rfl (Same.refl _) (by show 3 ≤ 1000; decide) fun l1 H1 s1 h1 => ?_))
  dsimp only
  refine i_seq (i_set (pu_cat (pu_isx ok T x (E := C.InvalidAction) (by simp [cls12]) (pu_isx ok T x (E := C.InvalidOutcome) (by simp [cls12]) (pu_isx ok T x (E := C.InvalidTie) (by simp [cls12]) pu_nil))) rfl rfl h1 s1 (by show 3 ≤ 1000; decide) (by show 3 ≤ 1000; decide) fun l2 H2 s2 h2 => ?_))
  dsimp only
  refine i_seq (i_set (pu_cat (pu_isx ok T x (E := C.Contradiction) (by simp [cls12]) (pu_isx ok T x (E := C.InvalidSymbol) (by simp [cls12]) pu_nil)) rfl rfl h2 (s1.trans s2) (by show 2 ≤ 1000; decide) (by show 6 ≤ 1000; decide) fun l3 H3 s3 h3 => ?_))
  dsimp only
  refine i_seq (i_set (pu_cat (pu_isx ok T x (E := C.InvalidNumber) (by simp [cls12]) (pu_isx ok T x (E := C.InvalidText) (by simp [cls12]) pu_nil)) rfl rfl h3 ((s1.trans s2).trans s3) (by show 2 ≤ 1000; decide) (by show 8 ≤ 1000; decide) fun l4 H4 s4 h4 => ?_))
  dsimp only
  refine i_ret (pu_cat (pu_isx ok T x (E := C.InvalidForm) (by simp [cls12]) (pu_isx ok T x (E := C.Mismatch) (by simp [cls12]) pu_nil)) rfl rfl h4 (((s1.trans s2).trans s3).trans s4) (by show 2 ≤ 1000; decide) (by show 10 ≤ 1000; decide) fun l5 H5 s5 h5 => ?_)
  exact k _ _ ((((s1.trans s2).trans s3).trans s4).trans s5) h5
/-- the rows at a place -/
theorem FRow.at_ {H : Hp} : ∀ {ts es : List Addr} {vs : List V} {ds : List PyData} {Ds : List Addr} {i : Nat} {x : V}, FRow K H ts es vs ds Ds → (ts.map V.ref)[i]? = some x → ∃ t e v, x = .ref t ∧ es[i]? = some e ∧ vs[i]? = some v ∧ H t = some (.tup [.ref e, v])
  | _, _, _, _, _, i, _, .nil, h => by simp at h
  | _, _, _, _, _, 0, _, .cons h1 _ _ _, h => by
    simp at h
    exact ⟨_, _, _, h.symm, rfl, rfl, h1⟩
  | _, _, _, _, _, i + 1, _, .cons _ _ _ r, h => by
    rw [List.map_cons, List.getElem?_cons_succ] at h
    obtain ⟨t, e, v, a, b, c, d⟩ := FRow.at_ r h
    exact ⟨t, e, v, a, by rw [List.getElem?_cons_succ]; exact b, by rw [List.getElem?_cons_succ]; exact c, d⟩
theorem FRow.len {H : Hp} : ∀ {ts es : List Addr} {vs : List V} {ds : List PyData} {Ds : List Addr}, FRow K H ts es vs ds Ds → ts.length = ds.length ∧ es.length = ds.length ∧ vs.length = ds.length ∧ Ds.length = ds.length
  | _, _, _, _, _, .nil => ⟨rfl, rfl, rfl, rfl⟩
  | _, _, _, _, _, .cons _ _ _ r => by
    obtain ⟨a, b, c, d⟩ := FRow.len r
    exact ⟨by rw [List.length_cons, List.length_cons, a], by rw [List.length_cons, List.length_cons, b], by rw [List.length_cons, List.length_cons, c], by rw [List.length_cons, List.length_cons, d]⟩
theorem FRow.dp {H : Hp} : ∀ {ts es : List Addr} {vs : List V} {ds : List PyData} {Ds : List Addr}, FRow K H ts es vs ds Ds → DpAll K H vs ds
  | _, _, _, _, _, .nil => .nil
  | _, _, _, _, _, .cons _ _ h r => .cons h (FRow.dp r)
/-- errors of given classes -/
inductive ExL (H : Hp) : List Addr → List Addr → Prop
  | nil : ExL H [] []
  | cons {e D : Addr} {es Ds : List Addr} : ExAt H e D → ExL H es Ds → ExL H (e :: es) (D :: Ds)
theorem ExL.same {H H' : Hp} (s : Same H H') : ∀ {es Ds : List Addr}, ExL H es Ds → ExL H' es Ds
  | _, _, .nil => .nil
  | _, _, .cons h r => .cons (h.same s) (r.same s)
theorem ExL.app {H : Hp} : ∀ {es Ds es' Ds' : List Addr}, ExL H es Ds → ExL H es' Ds' → ExL H (es ++ es') (Ds ++ Ds')
  | _, _, _, _, .nil, h => h
  | _, _, _, _, .cons h r, h' => .cons h (r.app h')
theorem ExL.at_ {H : Hp} : ∀ {es Ds : List Addr} {i : Nat} {x : V}, ExL H es Ds → (es.map V.ref)[i]? = some x → ∃ e D, x = .ref e ∧ Ds[i]? = some D ∧ ExAt H e D
  | _, _, i, _, .nil, h => by simp at h
  | _, _, 0, _, .cons h1 _, h => by
    simp at h
    exact ⟨_, _, h.symm, rfl, h1⟩
  | _, _, i + 1, _, .cons _ r, h => by
    rw [List.map_cons, List.getElem?_cons_succ] at h
    obtain ⟨e, D, a, b, c⟩ := r.at_ h
    exact ⟨e, D, a, by rw [List.getElem?_cons_succ]; exact b, c⟩
theorem FRow.exl {H : Hp} : ∀ {ts es : List Addr} {vs : List V} {ds : List PyData} {Ds : List Addr}, FRow K H ts es vs ds Ds → ExL H es Ds
  | _, _, _, _, _, .nil => .nil
  | _, _, _, _, _, .cons _ h _ r => .cons h r.exl
end
theorem bls_shown (b : Bool) : (PyData.list [.bool b, .bool b]).shown.length ≤ sizeLine := by
  refine PyData.shown_fits (B := 13) (by decide) (by decide) ?_ ?_
  · cases b <;> decide +kernel
  · cases b <;> decide +kernel
theorem fld_shown : (PyData.list fldD).shown.length ≤ sizeLine := PyData.shown_fits (B := 13) (by decide) (by decide) (by decide +kernel) (by decide +kernel)
theorem repr_d {K : PySem.W.Frag} {H : Hp} {a : Addr} {ds : List PyData} {vs : List V} {Q : VK} (h : H a = some (.lst vs)) (hd : DpAll K H vs ds) (h1 : (PyData.list ds).showable = true) (h2 : (PyData.list ds).hasDict = false) (h3 : (PyData.list ds).depth ≤ 64) (h4 : (PyData.list ds).shown.length ≤ sizeLine)
    (q : Q (.str (PyData.list ds).shown) H) : rRepr K [.ref a] H Q := ⟨a, .list ds, rfl, .lst (.of h) hd, h1, h2, h3, h4, q⟩
theorem repr_b {K : PySem.W.Frag} {H : Hp} {a : Addr} {b : Bool} {Q : VK} (h : H a = some (.lst [.bl b, .bl b])) (q : Q (.str (PyData.list [.bool b, .bool b]).shown) H) : rRepr K [.ref a] H Q :=
  repr_d h (.cons (.bl b) (.cons (.bl b) .nil)) (by cases b <;> decide +kernel) (by cases b <;> decide +kernel) (by cases b <;> decide +kernel) (bls_shown b) q
theorem repr_f {K : PySem.W.Frag} {H : Hp} {a : Addr} {vs : List V} {Q : VK} (h : H a = some (.lst vs)) (hd : DpAll K H vs fldD) (q : Q (.str (PyData.list fldD).shown) H) : rRepr K [.ref a] H Q :=
  repr_d h hd (by decide +kernel) (by decide +kernel) (by decide +kernel) fld_shown q
theorem fld_mk {K : PySem.W.Frag} : MkVals K (tCons (tC (.int 5)) (tCons (tC (.str "a")) (tCons (tC .non) (tCons (tC (.int 3)) (tCons (tC (.int 4)) (tCons (tC (.int 2)) (tCons (tTup tNil) (tCons (tC (.int 7)) (tCons (tUn (rU fun i => .int (-i)) (tC (.int 1))) (tCons (tC (.int 9)) tNil)))))))))) fldD :=
  mk_cons (mk_int 5) (mk_cons (mk_str "a") (mk_cons mk_non (mk_cons (mk_int 3) (mk_cons (mk_int 4) (mk_cons (mk_int 2) (mk_cons mk_tup0 (mk_cons (mk_int 7) (mk_cons (mk_neg 1) (mk_cons (mk_int 9) mk_nil)))))))))
/-- the marks of an error -/
theorem marks_eq {C : Cs} {D : Addr} {i : Nat} (nd : (C.PourError :: cls12 C).Nodup) (h : (cls12 C)[i]? = some D) (j : Nat) {E : Addr} (hj : (cls12 C)[j]? = some E) : (Value.ref D :: Value.ref C.PourError :: veT).contains (.ref E) = decide (j = i) := by
  obtain ⟨n0, n1⟩ := List.nodup_cons.mp nd
  have hE : E ≠ C.PourError := fun z => n0 (z ▸ List.mem_of_getElem? hj)
  have e1 : (veT.contains (.ref E)) = false := by simp [veT]
  rw [List.contains_cons, List.contains_cons, e1, Bool.or_false]
  have e2 : ((Value.ref E == Value.ref C.PourError)) = false := by simpa using hE
  rw [e2, Bool.or_false]
  by_cases e : j = i
  · subst e
    rw [h] at hj
    cases hj
    simp
  · have : E ≠ D := fun z => e (by
      subst z
      obtain ⟨q1, r1⟩ := List.getElem?_eq_some_iff.mp h
      obtain ⟨q2, r2⟩ := List.getElem?_eq_some_iff.mp hj
      exact (List.getElem_inj n1).mp (r2.trans r1.symm))
    simpa [e] using this
end BL

set_option Elab.async false
set_option linter.all false
set_option maxRecDepth 100000
set_option maxHeartbeats 4000000
namespace BL
open PySem PySem.Spec PyProof.Rows L2
section
variable {K : PySem.W.Frag} {C : Cs}
/-- a comprehension over the rows that keeps one of both -/
theorem lc_rows {l : Addr} {ts es : List Addr} {xs : List V} {ds : List PyData} {Ds : List Addr} {σ : L2.St} {H : Hp} {Q : VK} (pick : V → V → V) (te : TE) (h5 : σ[5]? = some (some (.ref l))) (h8 : 9 < σ.length) (hf : H l = some (.lst (ts.map V.ref))) (hr : FRow K H ts es xs ds Ds) (hl : ts.length ≤ 100)
    (ht : ∀ (σ : L2.St) (e : Addr) (v : V) (H : Hp) (Q : VK), 9 < σ.length → Q (pick (.ref e) v) H → te (((σ.set 9 none).set 8 none |>.set 8 (some (.ref e))).set 9 (some v)) H Q)
    (q : ∀ D H', Same H H' → H' D = some (.lst (List.zipWith pick (es.map V.ref) xs)) → Q (.ref D) H') : tLc (iList K (tVar 5)) (gTup K 2 (gCons (gName 8) (gCons (gName 9) gNil))) tYes te [8, 9] σ H Q := by
  refine ⟨_, h5, l, rfl, ⟨_, .of hf⟩, fun D hD => ?_⟩
  obtain ⟨n1, n2, n3, _⟩ := hr.len
  refine lc_walk (Y := yields_list (K := K) (a := l) (xs := ts.map V.ref)) (fun i H' => H' = upd H D (.lst ((List.zipWith pick (es.map V.ref) xs).take i))) (by simp) (fun i H' _ e => ?_) ?_ ?_
  · rw [e]
    exact .of (Same.upd hD _ _ hf)
  · rintro i x H' hx rfl
    have hi : i < ts.length := by
      have := (List.getElem?_eq_some_iff.mp hx).1
      rwa [List.length_map] at this
    obtain ⟨t, e, v, rfl, he, hv, htup⟩ := hr.at_ hx
    refine ⟨t, _, rfl, .of (Same.upd hD _ _ htup), rfl, _, _, rfl, _, _, rfl, rfl, ?_, ?_⟩
    · show ((((((σ.set 9 none).set 8 none).set 8 (some (V.ref e))).set 9 (some v)).set 9 none).set 8 none) = (σ.set 9 none).set 8 none
      rw [List.set_set, List.set_set, List.set_comm _ _ (by decide : (8:Nat) ≠ 9), List.set_set, List.set_set]
    · refine ht σ e v _ _ h8 ⟨_, upd_same, ?_, ?_⟩
      · have : 16777216 ≤ sizeLine := by rw [sizeLine_eq]; decide
        rw [List.length_take]
        omega
      · rw [upd_upd, List.take_add_one]
        congr 2
        have : (List.zipWith pick (es.map V.ref) xs)[i]? = some (pick (.ref e) v) := by
          rw [List.getElem?_zipWith, List.getElem?_map, he, hv]
          rfl
        rw [this]
        rfl
  · rintro H' rfl
    refine q D _ (Same.upd hD) ?_
    rw [upd_same, List.length_map, List.take_of_length_le]
    rw [List.length_zipWith, List.length_map]
    omega
theorem zip_fst : ∀ {es : List Addr} {xs : List V}, es.length = xs.length → List.zipWith (fun e _ => e) (es.map V.ref) xs = es.map V.ref
  | [], [], _ => rfl
  | e :: es, x :: xs, h => by
    rw [List.map_cons, List.zipWith_cons_cons, zip_fst (by simpa using h)]
  | [], _ :: _, h => by simp at h
  | _ :: _, [], h => by simp at h
theorem zip_snd : ∀ {es : List Addr} {xs : List V}, es.length = xs.length → List.zipWith (fun _ v => v) (es.map V.ref) xs = xs
  | [], [], _ => rfl
  | e :: es, x :: xs, h => by
    rw [List.map_cons, List.zipWith_cons_cons, zip_snd (by simpa using h)]
  | [], _ :: _, h => by simp at h
  | _ :: _, [], h => by simp at h
/-- the twelve trials -/
theorem law_trials {Dn : Ends} {a p g cl : Addr} {H : Hp} (S : Src "great" "count" H p g cl 0) (k : ∀ x2 x3 x4 H', Dn.nx [some (.ref a), some (.ref p), x2, x3, x4, none, none, none, none, none, none, none, none] H') :
    tFor (iRng1 (tCons (tC (.int 12)) tNil)) (gName 2) (tSeq (tAsg (tCall (sp_value K "great" "count") [] E0 (tCons (tVar 1) tNil)) (gName 3))
      (tSeq (tAsg (tCall (sp_is_name K) [] E0 (tCons (tVar 3) tNil)) (gName 4))
      (tIfS (tTest (tOp rNe (tCB (rRepr K) (tCons (tLst (tCons (tCall (sp_is_name K) [] E0 (tCons (tVar 3) tNil)) (tCons (tCallKn (sp_is_name K) 0 1 (fun _ zs => zs) tNil (tCons (tVar 3) tNil)) tNil))) tNil)) (tCB (rRepr K) (tCons (tLst (tCons (tVar 4) (tCons (tVar 4) tNil))) tNil)))) (tRet (tC (.bl false))) tNext)))
      Dn [some (.ref a), some (.ref p), none, none, none, none, none, none, none, none, none, none, none] H := by
  refine ⟨12, rfl, by decide, by decide, for_walk (Y := yields_range) (fun i σ H' => (∃ x2 x3 x4, σ = [some (.ref a), some (.ref p), x2, x3, x4, none, none, none, none, none, none, none, none]) ∧ Src "great" "count" H' p g cl (30 * i)) ⟨⟨_, _, _, rfl⟩, S⟩ (fun _ _ _ _ _ => trivial) ?_ ?_⟩
  · rintro i x σ H1 hx ⟨⟨x2, x3, x4, rfl⟩, S1⟩
    obtain ⟨hi, rfl⟩ := rng_get hx
    have hi : i < 12 := hi
    refine ⟨_, rfl, p, g, cl, 30 * i, rfl, S1, by omega, fun v H2 hv S2 X2 => ?_⟩
    refine ⟨_, rfl, v, rfl, hv, fun H3 s3 => ?_⟩
    refine ⟨_, rfl, v, rfl, hv.same s3, fun H4 s4 => ⟨_, rfl, rfl, rfl, v, rfl, (hv.same s3).same s4, fun H5 s5 => ⟨(by show 2 ≤ sizeLine; decide), fun q hq => ?_⟩⟩⟩
    refine i_nil (repr_b upd_same ?_)
    refine ⟨_, rfl, _, rfl, (by show 2 ≤ sizeLine; decide), fun q2 h2 => ?_⟩
    refine i_nil (repr_b upd_same ?_)
    refine ⟨rfl, _, rfl, ifF (by simp) ?_⟩
    refine ⟨⟨_, _, _, rfl⟩, ?_⟩
    have := S2.keep (((s3.trans s4).trans s5).trans ((Same.upd (o := .lst [V.bl (nameV v), V.bl (nameV v)]) hq).trans (Same.upd (o := .lst [V.bl (nameV v), V.bl (nameV v)]) h2)))
    exact this.mono (by omega)
  · rintro σ H' ⟨⟨x2, x3, x4, rfl⟩, _⟩
    exact k _ _ _ _
theorem eqv_bls (l : List Bool) : PyData.eqv (.list (l.map PyData.bool)) (.list (l.map PyData.bool)) = true := by
  refine SeqAt.eqv_refl _ ?_
  simp [PyData.canLay0, lay_bls]
/-- all errors are told apart -/
theorem law_errors (ok : CsOk K C) {Dn : Ends} {s0 s1 s2 s3 s4 s5 s6 s7 s9 : Option V} {l : Addr} {es : List Addr} {H : Hp} (hl : H l = some (.lst (es.map V.ref))) (hx : ExL H es (cls12 C)) (hn : es.length = 12)
    (k : ∀ x8 x11 x12 H', Dn.nx [s0, s1, s2, s3, s4, s5, s6, s7, x8, s9, some (.ref l), x11, x12] H') (y8 y11 y12 : Option V) :
    tFor (iEnum K (tCons (tVar 10) tNil)) (gTup K 2 (gCons (gName 11) (gCons (gName 8) gNil))) (tSeq (tIfS (tTest (tOp (rNeD K) (tCall (sp_kinds K C) [] E0 (tCons (tVar 8) tNil)) (tLc (iRng1 (tCons (tC (.int 12)) tNil)) (gName 12) tYes (tOp rEq (tVar 12) (tVar 11)) [12]))) (tRet (tC (.bl false))) tNext)
      (tIfS (tOr (tNot (tB (tCB (rIsiU K) (tCons (tVar 8) (tCons (tC (.ref C.PourError)) tNil))))) (tNot (tB (tCB (rIsiU K) (tCons (tVar 8) (tCons (tC (.ty "ValueError")) tNil)))))) (tRet (tC (.bl false))) tNext))
      Dn [s0, s1, s2, s3, s4, s5, s6, s7, y8, s9, some (.ref l), y11, y12] H := by
  refine ⟨_, rfl, l, _, rfl, .of hl, for_enum (K := K) (a := l) (xs := es.map V.ref) (fun i σ H' => (∃ x8 x11 x12, σ = [s0, s1, s2, s3, s4, s5, s6, s7, x8, s9, some (.ref l), x11, x12]) ∧ Same H H') ⟨⟨_, _, _, rfl⟩, Same.refl _⟩ (fun i σ H' _ p => .of (p.2 _ _ hl)) ?_ ?_⟩
  · rintro i x σ H1 T hxi ⟨⟨x8, x11, x12, rfl⟩, sm⟩ hT
    obtain ⟨e, D, rfl, hD, xa⟩ := hx.at_ hxi
    have sT := Same.upd (o := .tup [.int (i : Nat), V.ref e]) hT
    have TD := ok.all D (List.mem_of_getElem? hD)
    refine ⟨T, _, rfl, .of upd_same, rfl, _, _, rfl, _, _, rfl, rfl, ?_⟩
    refine ⟨_, rfl, e, D, _, rfl, xa.same (sm.trans sT), TD, .inl rfl, fun m H2 s2 hm => ?_⟩
    refine ⟨12, rfl, by decide, by decide, fun D2 hD2 => lc_pure (i := 12) (fun _ => true) (fun x => .bl (decide (x = V.int (i : Nat)))) yields_range (fun _ _ => trivial) hD2 (by rw [rng_len]; show 12 ≤ sizeLine; decide) (fun x hx H' Q s q => q) (fun x hx _ H' Q s q => ?_) ?_⟩
    · obtain ⟨j, _, rfl⟩ := List.mem_map.mp hx
      exact ⟨_, rfl, _, rfl, rfl, q⟩
    · have e1 : (cls12 C).map (fun E => V.bl ((Value.ref D :: Value.ref C.PourError :: veT).contains (.ref E))) = ((List.range 12).map fun j => decide (j = i)).map V.bl := by
        refine List.ext_getElem? fun j => ?_
        rw [List.getElem?_map, List.getElem?_map, List.getElem?_map]
        by_cases hj : j < 12
        · have hj2 : j < (cls12 C).length := hj
          have hjE : (cls12 C)[j]? = some (cls12 C)[j] := List.getElem?_eq_getElem hj2
          rw [hjE, List.getElem?_range hj]
          show some (V.bl _) = some (V.bl _)
          rw [marks_eq ok.nd hD j hjE]
        · have hj2 : (cls12 C).length ≤ j := Nat.le_of_not_lt hj
          rw [List.getElem?_eq_none hj2, List.getElem?_eq_none (by rw [List.length_range]; omega)]
          rfl
      have e2 : ((rng 0 (12 : Int).toNat).filter fun _ => true).map (fun x => V.bl (decide (x = V.int (i : Nat)))) = ((List.range 12).map fun j => decide (j = i)).map V.bl := by
        rw [List.filter_eq_self.mpr (fun _ _ => rfl)]
        unfold rng
        rw [List.map_map, List.map_map]
        refine List.map_congr_left fun j _ => ?_
        show V.bl (decide (V.int (0 + (j : Nat)) = V.int (i : Nat))) = V.bl (decide (j = i))
        congr 1
        rw [decide_eq_decide]
        constructor
        · intro z
          have z := V.int.inj z
          omega
        · intro z
          subst z
          congr 1
          omega
      rw [e2]
      rw [e1] at hm
      have s3 := Same.upd (o := .lst (((List.range 12).map fun j => decide (j = i)).map V.bl)) hD2
      refine ⟨_, _, .lst (.of (s3 _ _ hm)) (dpAll_bls _), .lst (.of upd_same) (dpAll_bls _), shaped_bls _, shaped_bls _, _, rfl, ?_⟩
      refine ifF (by rw [eqv_bls]; rfl) ?_
      have xa3 := xa.same ((sm.trans sT).trans (s2.trans s3))
      refine ⟨_, rfl, isi_x xa3 TD ok.pe ok.kit ⟨_, rfl, ?_⟩⟩
      refine ifF (by simp) ?_
      refine ⟨_, rfl, isi_xt xa3 TD ok.kit (by decide +kernel) ⟨_, rfl, ?_⟩⟩
      refine ifF (by decide +kernel) ?_
      exact ⟨⟨_, _, _, rfl⟩, (sm.trans sT).trans (s2.trans s3)⟩
  · rintro σ H' ⟨⟨x8, x11, x12, rfl⟩, _⟩
    exact k _ _ _ _

theorem p_law (ok : CsOk K C) (vs : List V) (H : Hp) (Q : VK) (E : XK) (h : sp_law K vs H Q E) : t_law K C { nx := fun _ H' => Q .non H', rt := Q } (L2.start n_law vs) H := by
  obtain ⟨a, ns, rfl, sq, hl, k⟩ := h
  unfold t_law
  rw [show L2.start n_law [V.ref a] = [some (.ref a), none, none, none, none, none, none, none, none, none, none, none, none] from rfl]
  refine i_seq (i_set ⟨_, rfl, a, ns, rfl, sq, hl, fun p g cl H1 hg hp S s1 => ?_⟩)
  dsimp only
  refine i_seq (law_trials S fun x2 x3 x4 H2 => ?_)
  dsimp only
  refine i_seq (i_asg ⟨rfl, fun q f s es ts xs ws H3 s3 hq hf hs fr dw => ?_⟩)
  refine ⟨q, _, rfl, .of hq, rfl, _, _, rfl, _, _, rfl, rfl, ?_⟩
  dsimp only
  refine i_seq (i_set (vals_lst (K := K) fld_mk (by decide) fun l4 w4 H4 s4 h4 d4 => ?_))
  dsimp only
  obtain ⟨n1, n2, n3, n4⟩ := fr.len
  have h10 : ts.length ≤ 100 := by rw [n1]; decide
  refine i_seq (i_if (i_or (i_test (i_op (i_cb (i_cons (lc_rows (fun _ v => v) (tVar 9) rfl (by show 9 < 13; decide) (s4 _ _ hf) (fr.same s4) h10 (fun σ e v H Q hσ q => ⟨v, by simp [hσ], q⟩) fun D5 H5 s5 h5 => ?_)))))))
  rw [zip_snd (n2.trans n3.symm)] at h5
  refine i_nil (repr_f h5 (DpAll.same (s4.trans s5) fr.dp) ?_)
  refine ⟨_, rfl, i_nil (repr_f (s5 _ _ h4) (DpAll.same s5 d4) ?_)⟩
  refine ⟨rfl, _, rfl, ifF (by simp) ?_⟩
  refine ⟨_, rfl, i_nil (repr_f ((s4.trans s5) _ _ hs) (DpAll.same (s4.trans s5) dw) ?_)⟩
  refine ⟨_, rfl, i_nil (repr_f (s5 _ _ h4) (DpAll.same s5 d4) ?_)⟩
  refine ⟨rfl, _, rfl, ifF (by simp) ?_⟩
  show tSeq _ _ _ _ _
  refine i_seq (i_set (i_op (lc_rows (fun e _ => e) (tVar 8) rfl (by show 9 < 13; decide) ((s4.trans s5) _ _ hf) (fr.same (s4.trans s5)) h10 (fun σ e v H Q hσ q => ⟨.ref e, ?_, q⟩) fun D6 H6 s6 h6 => ?_)))
  · rw [List.getElem?_set_ne (by decide), List.getElem?_set_self]
    simp
    omega
  rw [zip_fst (n2.trans n3.symm)] at h6
  refine i_lst (i_cons fun e11 q11 => i_cons fun e12 q12 => ⟨(by show 2 ≤ sizeLine; decide), fun lp hp => ?_⟩)
  have t1 := Same.upd (o := ExO (.ref C.InvalidForm) e11) q11
  have t2 := Same.upd (o := ExO (.ref C.Mismatch) e12) q12
  have t3 := Same.upd (o := .lst [V.ref e11, V.ref e12]) hp
  refine ⟨D6, lp, es.map V.ref, [V.ref e11, V.ref e12], rfl, rfl, t3 _ _ (t2 _ _ (t1 _ _ h6)), upd_same, ?_, fun l hl => ?_⟩
  · rw [List.length_map, n2]
    show 12 ≤ sizeLine
    decide
  have t4 := Same.upd (o := .lst (es.map V.ref ++ [V.ref e11, V.ref e12])) hl
  have hes : ExL _ (es ++ [e11, e12]) (cls12 C) := ((fr.exl.same ((s4.trans s5).trans (s6.trans ((t1.trans t2).trans (t3.trans t4))))).app (.cons (.inl (t4 _ _ (t3 _ _ (t2 _ _ upd_same)))) (.cons (.inl (t4 _ _ (t3 _ _ upd_same))) .nil)) : ExL _ (es ++ [e11, e12]) ((cls12 C).take 10 ++ [C.InvalidForm, C.Mismatch]))
  dsimp only
  refine i_seq (law_errors ok (es := es ++ [e11, e12]) (by rw [upd_same, List.map_append]; rfl) hes (by rw [List.length_append, n2]; rfl) (fun x8 x11 x12 H7 => ?_) _ _ _)
  dsimp only
  refine i_ret ?_
  refine i_cb (i_cons fun e hp => ?_)
  refine isi_xt (.inl upd_same) ok.pe ok.kit (t := "ValueError") (by decide +kernel) ?_
  refine ⟨_, rfl, ?_⟩
  refine ifT (by decide +kernel) ?_
  refine fun e2 hp2 => ?_
  refine ⟨e2, C.PourError, _, rfl, .inl upd_same, ok.pe, .inr rfl, fun m H8 s8 h8 => ?_⟩
  refine ⟨m, _, rfl, .inl (.of h8), rfl, ?_, ?_⟩
  · simp [flatV]
  · have e : inV (.bl true) ((cls12 C).map fun E => V.bl ((Value.ref C.PourError :: veT).contains (.ref E))) = false := by
      unfold inV
      rw [List.any_map, List.any_eq_false]
      intro E hE
      have n : E ≠ C.PourError := fun z => (List.nodup_cons.mp ok.nd).1 (z ▸ hE)
      simp [eqV, veT, n]
    rw [e]
    exact k _
end
end BL

set_option Elab.async false
set_option linter.all false
set_option maxRecDepth 100000
set_option maxHeartbeats 4000000
namespace BL
open PySem PySem.Spec PyProof.Rows L2
def topS (i : Nat) : Stmt := PySem.Challenge.pw_blindpour_k01_names_and_exceptions.main.body.getD i (.Pass ⟨0, 0, 0, 0⟩)
abbrev s_law_source : Stmt := (topS 19)
theorem sc_law_source : FnScope n_law_source ["_law_script"] (defScope s_law_source) := ⟨rfl, rfl, rfl, by decide +kernel, rfl, by decide +kernel, by decide +kernel⟩
abbrev s_law_draw : Stmt := (topS 20)
theorem sc_law_draw : FnScope n_law_draw ["_law_source_here", "_law_bound"] (defScope s_law_draw) := ⟨rfl, rfl, rfl, by decide +kernel, rfl, by decide +kernel, by decide +kernel⟩
abbrev s_law_choice : Stmt := (topS 21)
theorem sc_law_choice : FnScope n_law_choice ["_law_source_here", "_law_options"] (defScope s_law_choice) := ⟨rfl, rfl, rfl, by decide +kernel, rfl, by decide +kernel, by decide +kernel⟩
abbrev s_law_is_name : Stmt := (topS 22)
theorem sc_law_is_name : FnScope n_law_is_name ["_law_item"] (defScope s_law_is_name) := ⟨rfl, rfl, rfl, by decide +kernel, rfl, by decide +kernel, by decide +kernel⟩
abbrev s_is_name : Stmt := (topS 3)
theorem sc_is_name : FnScope n_is_name ["value"] (defScope s_is_name) := ⟨rfl, rfl, rfl, by decide +kernel, rfl, by decide +kernel, by decide +kernel⟩
abbrev s_law_text : Stmt := (topS 23)
theorem sc_law_text : FnScope n_law_text ["_law_source_here"] (defScope s_law_text) := ⟨rfl, rfl, rfl, by decide +kernel, rfl, by decide +kernel, by decide +kernel⟩
abbrev s_law_value : Stmt := (topS 24)
theorem sc_law_value : FnScope n_law_value ["_law_source_here"] (defScope s_law_value) := ⟨rfl, rfl, rfl, by decide +kernel, rfl, by decide +kernel, by decide +kernel⟩
abbrev s_law_fields : Stmt := (topS 25)
theorem sc_law_fields : FnScope n_law_fields [] (defScope s_law_fields) := ⟨rfl, rfl, rfl, by decide +kernel, rfl, by decide +kernel, by decide +kernel⟩
abbrev s_law_kinds : Stmt := (topS 26)
theorem sc_law_kinds : FnScope n_law_kinds ["_law_error"] (defScope s_law_kinds) := ⟨rfl, rfl, rfl, by decide +kernel, rfl, by decide +kernel, by decide +kernel⟩
abbrev s_law : Stmt := (topS 27)
theorem sc_law : FnScope n_law ["_law_script"] (defScope s_law) := ⟨rfl, rfl, rfl, by decide +kernel, rfl, by decide +kernel, by decide +kernel⟩
abbrev s_InvalidName_init : Stmt := inClass (topS 6) 0
theorem sc_InvalidName_init : FnScope ["self", "name"] ["self", "name"] (defScope s_InvalidName_init) := ⟨rfl, rfl, rfl, by decide +kernel, rfl, by decide +kernel, by decide +kernel⟩
abbrev s_DuplicateName_init : Stmt := inClass (topS 7) 0
theorem sc_DuplicateName_init : FnScope ["self", "name"] ["self", "name"] (defScope s_DuplicateName_init) := ⟨rfl, rfl, rfl, by decide +kernel, rfl, by decide +kernel, by decide +kernel⟩
abbrev s_InvalidCapacity_init : Stmt := inClass (topS 8) 0
theorem sc_InvalidCapacity_init : FnScope ["self", "name"] ["self", "name"] (defScope s_InvalidCapacity_init) := ⟨rfl, rfl, rfl, by decide +kernel, rfl, by decide +kernel, by decide +kernel⟩
abbrev s_InvalidAction_init : Stmt := inClass (topS 9) 0
theorem sc_InvalidAction_init : FnScope ["self", "index"] ["self", "index"] (defScope s_InvalidAction_init) := ⟨rfl, rfl, rfl, by decide +kernel, rfl, by decide +kernel, by decide +kernel⟩
abbrev s_InvalidOutcome_init : Stmt := inClass (topS 10) 0
theorem sc_InvalidOutcome_init : FnScope ["self", "index"] ["self", "index"] (defScope s_InvalidOutcome_init) := ⟨rfl, rfl, rfl, by decide +kernel, rfl, by decide +kernel, by decide +kernel⟩
abbrev s_InvalidTie_init : Stmt := inClass (topS 11) 0
theorem sc_InvalidTie_init : FnScope ["self", "index"] ["self", "index"] (defScope s_InvalidTie_init) := ⟨rfl, rfl, rfl, by decide +kernel, rfl, by decide +kernel, by decide +kernel⟩
abbrev s_Contradiction_init : Stmt := inClass (topS 12) 0
theorem sc_Contradiction_init : FnScope ["self", "certificate"] ["self", "certificate"] (defScope s_Contradiction_init) := ⟨rfl, rfl, rfl, by decide +kernel, rfl, by decide +kernel, by decide +kernel⟩
abbrev s_InvalidSymbol_init : Stmt := inClass (topS 13) 0
theorem sc_InvalidSymbol_init : FnScope ["self", "index"] ["self", "index"] (defScope s_InvalidSymbol_init) := ⟨rfl, rfl, rfl, by decide +kernel, rfl, by decide +kernel, by decide +kernel⟩
abbrev s_InvalidNumber_init : Stmt := inClass (topS 14) 0
theorem sc_InvalidNumber_init : FnScope ["self", "number"] ["self", "number"] (defScope s_InvalidNumber_init) := ⟨rfl, rfl, rfl, by decide +kernel, rfl, by decide +kernel, by decide +kernel⟩
abbrev s_InvalidText_init : Stmt := inClass (topS 15) 0
theorem sc_InvalidText_init : FnScope ["self", "line"] ["self", "line"] (defScope s_InvalidText_init) := ⟨rfl, rfl, rfl, by decide +kernel, rfl, by decide +kernel, by decide +kernel⟩
structure Txt (K : PySem.W.Frag) (mg : Str → Option Value) (C : Cs) : Prop where
  b_ValueError : mg "ValueError" = none
  b_all : mg "all" = none
  b_enumerate : mg "enumerate" = none
  b_isinstance : mg "isinstance" = none
  b_len : mg "len" = none
  b_range : mg "range" = none
  b_repr : mg "repr" = none
  b_str : mg "str" = none
  g_LETTERS : ∃ u, mg "LETTERS" = some u ∧ RelV k_LETTERS u
  g_LONGEST_NAME : ∃ u, mg "LONGEST_NAME" = some u ∧ RelV k_LONGEST_NAME u
  k_InvalidForm : PySem.W.keepIn K (.ref C.InvalidForm) = true
  k_Mismatch : PySem.W.keepIn K (.ref C.Mismatch) = true
  k_PourError : PySem.W.keepIn K (.ref C.PourError) = true
  m_Contradiction : mg "Contradiction" = some (.ref C.Contradiction)
  m_DuplicateName : mg "DuplicateName" = some (.ref C.DuplicateName)
  m_InvalidAction : mg "InvalidAction" = some (.ref C.InvalidAction)
  m_InvalidCapacity : mg "InvalidCapacity" = some (.ref C.InvalidCapacity)
  m_InvalidForm : mg "InvalidForm" = some (.ref C.InvalidForm)
  m_InvalidName : mg "InvalidName" = some (.ref C.InvalidName)
  m_InvalidNumber : mg "InvalidNumber" = some (.ref C.InvalidNumber)
  m_InvalidOutcome : mg "InvalidOutcome" = some (.ref C.InvalidOutcome)
  m_InvalidSymbol : mg "InvalidSymbol" = some (.ref C.InvalidSymbol)
  m_InvalidText : mg "InvalidText" = some (.ref C.InvalidText)
  m_InvalidTie : mg "InvalidTie" = some (.ref C.InvalidTie)
  m_Mismatch : mg "Mismatch" = some (.ref C.Mismatch)
  m_PourError : mg "PourError" = some (.ref C.PourError)
  xq_InvalidForm : PySem.W.excIn K C.InvalidForm veT "ValueError.__new__" = true
  xq_Mismatch : PySem.W.excIn K C.Mismatch veT "ValueError.__new__" = true
  xq_PourError : PySem.W.excIn K C.PourError veT "ValueError.__new__" = true
  cr : ClX.CRead K C.PourError (.type "type")
  fi : PySem.W.findCls K (.ref C.PourError) (.type "type") "__init__" = some (.val (.builtin "ValueError.__init__"))
  ok : CsOk K C
section
variable {P : Program} {w : World} {K : PySem.W.Frag} {mg : Str → Option Value} {base : Heap} {C : Cs}
theorem ok_InvalidName_init {f : Addr} {fd : FuncData} (F : Fun K "__init__" "InvalidName.__init__" s_InvalidName_init f fd) (T : Txt K mg C) : FnOk P w K mg base CX0 1 f fd ["self", "name"] (spx_init K C.InvalidName "name") :=
  ok_xinit (B := "PourError") (b := []) (PE0 := C.PourError) F sc_InvalidName_init rfl fun cdv A outer s H E => pss_cons (ps_expr (pe_peinit rfl T.m_PourError T.cr T.fi (pa_cons (pv 0) (pa_cons pe_str pa_nil)))) (pss_one (ps_ost (pv 0) (pv 1)))
theorem ok_DuplicateName_init {f : Addr} {fd : FuncData} (F : Fun K "__init__" "DuplicateName.__init__" s_DuplicateName_init f fd) (T : Txt K mg C) : FnOk P w K mg base CX0 1 f fd ["self", "name"] (spx_init K C.DuplicateName "name") :=
  ok_xinit (B := "PourError") (b := []) (PE0 := C.PourError) F sc_DuplicateName_init rfl fun cdv A outer s H E => pss_cons (ps_expr (pe_peinit rfl T.m_PourError T.cr T.fi (pa_cons (pv 0) (pa_cons pe_str pa_nil)))) (pss_one (ps_ost (pv 0) (pv 1)))
theorem ok_InvalidCapacity_init {f : Addr} {fd : FuncData} (F : Fun K "__init__" "InvalidCapacity.__init__" s_InvalidCapacity_init f fd) (T : Txt K mg C) : FnOk P w K mg base CX0 1 f fd ["self", "name"] (spx_init K C.InvalidCapacity "name") :=
  ok_xinit (B := "PourError") (b := []) (PE0 := C.PourError) F sc_InvalidCapacity_init rfl fun cdv A outer s H E => pss_cons (ps_expr (pe_peinit rfl T.m_PourError T.cr T.fi (pa_cons (pv 0) (pa_cons pe_str pa_nil)))) (pss_one (ps_ost (pv 0) (pv 1)))
theorem ok_InvalidAction_init {f : Addr} {fd : FuncData} (F : Fun K "__init__" "InvalidAction.__init__" s_InvalidAction_init f fd) (T : Txt K mg C) : FnOk P w K mg base CX0 1 f fd ["self", "index"] (spx_init K C.InvalidAction "index") :=
  ok_xinit (B := "PourError") (b := []) (PE0 := C.PourError) F sc_InvalidAction_init rfl fun cdv A outer s H E => pss_cons (ps_expr (pe_peinit rfl T.m_PourError T.cr T.fi (pa_cons (pv 0) (pa_cons pe_str pa_nil)))) (pss_one (ps_ost (pv 0) (pv 1)))
theorem ok_InvalidOutcome_init {f : Addr} {fd : FuncData} (F : Fun K "__init__" "InvalidOutcome.__init__" s_InvalidOutcome_init f fd) (T : Txt K mg C) : FnOk P w K mg base CX0 1 f fd ["self", "index"] (spx_init K C.InvalidOutcome "index") :=
  ok_xinit (B := "PourError") (b := []) (PE0 := C.PourError) F sc_InvalidOutcome_init rfl fun cdv A outer s H E => pss_cons (ps_expr (pe_peinit rfl T.m_PourError T.cr T.fi (pa_cons (pv 0) (pa_cons pe_str pa_nil)))) (pss_one (ps_ost (pv 0) (pv 1)))
theorem ok_InvalidTie_init {f : Addr} {fd : FuncData} (F : Fun K "__init__" "InvalidTie.__init__" s_InvalidTie_init f fd) (T : Txt K mg C) : FnOk P w K mg base CX0 1 f fd ["self", "index"] (spx_init K C.InvalidTie "index") :=
  ok_xinit (B := "PourError") (b := []) (PE0 := C.PourError) F sc_InvalidTie_init rfl fun cdv A outer s H E => pss_cons (ps_expr (pe_peinit rfl T.m_PourError T.cr T.fi (pa_cons (pv 0) (pa_cons pe_str pa_nil)))) (pss_one (ps_ost (pv 0) (pv 1)))
theorem ok_Contradiction_init {f : Addr} {fd : FuncData} (F : Fun K "__init__" "Contradiction.__init__" s_Contradiction_init f fd) (T : Txt K mg C) : FnOk P w K mg base CX0 1 f fd ["self", "certificate"] (spx_init K C.Contradiction "certificate") :=
  ok_xinit (B := "PourError") (b := []) (PE0 := C.PourError) F sc_Contradiction_init rfl fun cdv A outer s H E => pss_cons (ps_expr (pe_peinit rfl T.m_PourError T.cr T.fi (pa_cons (pv 0) (pa_cons pe_str pa_nil)))) (pss_one (ps_ost (pv 0) (pv 1)))
theorem ok_InvalidSymbol_init {f : Addr} {fd : FuncData} (F : Fun K "__init__" "InvalidSymbol.__init__" s_InvalidSymbol_init f fd) (T : Txt K mg C) : FnOk P w K mg base CX0 1 f fd ["self", "index"] (spx_init K C.InvalidSymbol "index") :=
  ok_xinit (B := "PourError") (b := []) (PE0 := C.PourError) F sc_InvalidSymbol_init rfl fun cdv A outer s H E => pss_cons (ps_expr (pe_peinit rfl T.m_PourError T.cr T.fi (pa_cons (pv 0) (pa_cons pe_str pa_nil)))) (pss_one (ps_ost (pv 0) (pv 1)))
theorem ok_InvalidNumber_init {f : Addr} {fd : FuncData} (F : Fun K "__init__" "InvalidNumber.__init__" s_InvalidNumber_init f fd) (T : Txt K mg C) : FnOk P w K mg base CX0 1 f fd ["self", "number"] (spx_init K C.InvalidNumber "number") :=
  ok_xinit (B := "PourError") (b := []) (PE0 := C.PourError) F sc_InvalidNumber_init rfl fun cdv A outer s H E => pss_cons (ps_expr (pe_peinit rfl T.m_PourError T.cr T.fi (pa_cons (pv 0) (pa_cons pe_str pa_nil)))) (pss_one (ps_ost (pv 0) (pv 1)))
theorem ok_InvalidText_init {f : Addr} {fd : FuncData} (F : Fun K "__init__" "InvalidText.__init__" s_InvalidText_init f fd) (T : Txt K mg C) : FnOk P w K mg base CX0 1 f fd ["self", "line"] (spx_init K C.InvalidText "line") :=
  ok_xinit (B := "PourError") (b := []) (PE0 := C.PourError) F sc_InvalidText_init rfl fun cdv A outer s H E => pss_cons (ps_expr (pe_peinit rfl T.m_PourError T.cr T.fi (pa_cons (pv 0) (pa_cons pe_str pa_nil)))) (pss_one (ps_ost (pv 0) (pv 1)))
theorem ok_law_source {f : Addr} {fd : FuncData} (F : Fun K "_law_source" "_law_source" s_law_source f fd) (T : Txt K mg C)  : FnOk P w K mg base CX0 1 f fd ["_law_script"] (sp_source K "great" "count") :=
  F.ok sc_law_source (fun vs H Q E h => by first | (obtain ⟨rfl, _⟩ := h; rfl) | (obtain ⟨_, rfl, _⟩ := h; rfl) | (obtain ⟨_, _, rfl, _⟩ := h; rfl) | (obtain ⟨_, _, _, rfl, _⟩ := h; rfl) | (obtain ⟨_, _, _, _, rfl, _⟩ := h; rfl) | (obtain ⟨_, _, _, _, _, rfl, _⟩ := h; rfl) | (obtain ⟨_, _, _, _, _, _, rfl, _⟩ := h; rfl)) (fun cdv A outer s H vs Q E hr h => ⟨t_law_source K C, (pss_one (ps_ret (pe_disp (pps_cons pe_str (pe_lc (own := [("_law_cell", 1)]) (g := (gName 1)) (tt := (tTest (tOp (rI0 fun i j => .bl (decide (j ≤ i))) (tVar 1) (tOp (rI CPow fun i j => .int (i ^ j.toNat)) (tC (.int 10)) (tC (.int 18)))))) rfl sc_law_source.nd (pi_list (pv 0)) (blkOk_by (own := [("_law_cell", 1)]) (N := n_law_source) (sc := defScope s_law_source) (by decide +kernel)) (fun _ _ _ _ _ => (pg_name (i := 1) sc_law_source.nd rfl (by first | exact Or.inl rfl | exact Or.inr rfl))) (fun _ _ _ _ _ => (pts_one (pt_cmpR op_ge (pv 1) (pe_op op_pow pe_int pe_int) (nomark _)))) (fun _ _ _ _ _ => (pv 1))) (pps_cons pe_str pe_int (pps_cons pe_str pe_int (pps_cons pe_str pe_int (pps_cons pe_str (pe_op op_cat (pe_lc (own := [("_law_cell", 1)]) (g := (gName 1)) (tt := tYes) rfl sc_law_source.nd (pi_list (pv 0)) (blkOk_by (own := [("_law_cell", 1)]) (N := n_law_source) (sc := defScope s_law_source) (by decide +kernel)) (fun _ _ _ _ _ => (pg_name (i := 1) sc_law_source.nd rfl (by first | exact Or.inl rfl | exact Or.inr rfl))) (fun _ _ _ _ _ => pts_nil) (fun _ _ _ _ _ => (pe_op op_mod (pv 1) pe_int))) (pe_lst (pa_cons pe_int pa_nil))) pps_nil))))) rfl rfl (fun z => by cases z) (by decide)))), p_law_source vs H Q E h⟩)
theorem ok_law_draw {f : Addr} {fd : FuncData} (F : Fun K "_law_draw" "_law_draw" s_law_draw f fd) (T : Txt K mg C)  : FnOk P w K mg base CX0 1 f fd ["_law_source_here", "_law_bound"] (sp_draw "great" "count") :=
  F.ok sc_law_draw (fun vs H Q E h => by first | (obtain ⟨rfl, _⟩ := h; rfl) | (obtain ⟨_, rfl, _⟩ := h; rfl) | (obtain ⟨_, _, rfl, _⟩ := h; rfl) | (obtain ⟨_, _, _, rfl, _⟩ := h; rfl) | (obtain ⟨_, _, _, _, rfl, _⟩ := h; rfl) | (obtain ⟨_, _, _, _, _, rfl, _⟩ := h; rfl) | (obtain ⟨_, _, _, _, _, _, rfl, _⟩ := h; rfl)) (fun cdv A outer s H vs Q E hr h => ⟨t_law_draw K C, (C8.pss_cut (ps_if (PW.pt (pw_and (pt_cmpR op_eq (pe_dget (hu_of hr) (pv 0) pe_str (fun _ _ => rfl)) pe_int (nomark _)) (pw_and1 (pt_cmpR (op_neD hr.units) (pe_dget (hu_of hr) (pv 0) pe_str (fun _ _ => rfl)) (pe_lst pa_nil) (nomark _))))) (pss_one (ps_dput (hu_of hr) (pv 0) pe_str (pe_bm PySem.F.plainAttrs_list PySem.F.slot_list_pop PySem.F.type_list_pop mt_popAt (pe_dget (hu_of hr) (pv 0) pe_str (fun _ _ => rfl)) (pa_cons pe_int pa_nil)) rfl)) pss_nil)
  (pss_cons (ps_if (pt_cmpR op_gt (pe_dget (hu_of hr) (pv 0) pe_str (fun _ _ => rfl)) pe_int (nomark _)) (pss_cons (ps_set (i := 2) sc_law_draw.nd rfl (by first | exact Or.inl rfl | exact Or.inr rfl) (pe_op op_mod (pe_dget (hu_of hr) (pv 0) pe_str (fun _ _ => rfl)) (pv 1)))
  (pss_cons (ps_dput (hu_of hr) (pv 0) pe_str (pe_op op_fdivW (pe_dget (hu_of hr) (pv 0) pe_str (fun _ _ => rfl)) (pv 1)) rfl)
  (pss_one (ps_ret (pv 2))))) pss_nil)
  (pss_cons (ps_set (i := 3) sc_law_draw.nd rfl (by first | exact Or.inl rfl | exact Or.inr rfl) (pe_dget (hu_of hr) (pv 0) pe_str (fun _ _ => rfl)))
  (pss_cons (ps_dput (hu_of hr) (pv 0) pe_str (pe_op op_add (pv 3) pe_int) rfl)
  (pss_cons (ps_set (i := 4) sc_law_draw.nd rfl (by first | exact Or.inl rfl | exact Or.inr rfl) (pe_ix ix_list (pe_dget (hu_of hr) (pv 0) pe_str (fun _ _ => rfl)) (pe_op op_mod (pv 3) (pe_callB call_len_seq rfl T.b_len PySem.boot_len (pa_cons (pe_dget (hu_of hr) (pv 0) pe_str (fun _ _ => rfl)) pa_nil))) (fun _ _ => rfl)))
  (pss_cons (ps_set (i := 5) sc_law_draw.nd rfl (by first | exact Or.inl rfl | exact Or.inr rfl) (pe_op op_mod (pe_op op_add (pe_op op_add (pe_op op_mul (pe_dget (hu_of hr) (pv 0) pe_str (fun _ _ => rfl)) pe_int) (pe_op op_mul (pv 4) (pe_op op_add (pe_op op_mul pe_int (pv 3)) pe_int))) (pe_op op_pow (pv 3) pe_int)) pe_int))
  (pss_cons (ps_dput (hu_of hr) (pv 0) pe_str (pv 5) rfl)
  (pss_cons (ps_set (i := 6) sc_law_draw.nd rfl (by first | exact Or.inl rfl | exact Or.inr rfl) (pe_op op_add (pe_op op_mul (pe_op op_mod (pe_op op_pow (pv 5) pe_int) pe_int) pe_int) (pe_op op_mod (pe_op op_pow (pv 5) pe_int) pe_int)))
  (pss_one (ps_ret (pe_op op_mod (pe_op op_fdivW (pv 6) pe_int) (pv 1)))))))))))), p_law_draw vs H Q E h⟩)
theorem ok_law_choice {f : Addr} {fd : FuncData} (F : Fun K "_law_choice" "_law_choice" s_law_choice f fd) (T : Txt K mg C) (c_law_draw : C8.Cal P w K mg base 1 "_law_draw" (sp_draw "great" "count") []) : FnOk P w K mg base CX0 2 f fd ["_law_source_here", "_law_options"] (sp_choice K "great" "count") :=
  F.ok sc_law_choice (fun vs H Q E h => by first | (obtain ⟨rfl, _⟩ := h; rfl) | (obtain ⟨_, rfl, _⟩ := h; rfl) | (obtain ⟨_, _, rfl, _⟩ := h; rfl) | (obtain ⟨_, _, _, rfl, _⟩ := h; rfl) | (obtain ⟨_, _, _, _, rfl, _⟩ := h; rfl) | (obtain ⟨_, _, _, _, _, rfl, _⟩ := h; rfl) | (obtain ⟨_, _, _, _, _, _, rfl, _⟩ := h; rfl)) (fun cdv A outer s H vs Q E hr h => ⟨t_law_choice K C, (pss_one (ps_ret (pe_ix (ix_any (hu_of hr)) (pv 1) (C8.pe_c c_law_draw hr (by decide) rfl (pa_cons (pv 0) (pa_cons (pe_callB call_lenU rfl T.b_len PySem.boot_len (pa_cons (pv 1) pa_nil)) pa_nil))) (fun _ _ => rfl)))), p_law_choice vs H Q E h⟩)
theorem ok_law_is_name {f : Addr} {fd : FuncData} (F : Fun K "_law_is_name" "_law_is_name" s_law_is_name f fd) (T : Txt K mg C)  : FnOk P w K mg base CX0 1 f fd ["_law_item"] (sp_is_name K) :=
  F.ok sc_law_is_name (fun vs H Q E h => by first | (obtain ⟨rfl, _⟩ := h; rfl) | (obtain ⟨_, rfl, _⟩ := h; rfl) | (obtain ⟨_, _, rfl, _⟩ := h; rfl) | (obtain ⟨_, _, _, rfl, _⟩ := h; rfl) | (obtain ⟨_, _, _, _, rfl, _⟩ := h; rfl) | (obtain ⟨_, _, _, _, _, rfl, _⟩ := h; rfl) | (obtain ⟨_, _, _, _, _, _, rfl, _⟩ := h; rfl)) (fun cdv A outer s H vs Q E hr h => ⟨t_law_is_name K C, (pss_cons (ps_if (PW.pt (pw_or (pt_not (pt_val (pe_callB call_isiU rfl T.b_isinstance (by decide +kernel) (pa_cons (pv 0) (pa_cons (pe_bltn rfl T.b_str (by decide +kernel) rfl) pa_nil))))) (pw_or1 (pt_not (pt_chain op_le op_le pe_int (pe_callB call_len_str rfl T.b_len PySem.boot_len (pa_cons (pv 0) pa_nil)) pe_int))))) (pss_one (ps_ret pe_bl)) pss_nil)
  (pss_one (ps_ret (pe_cmpR (op_eqD hr.units) (pe_lc (own := [("_law_letter", 1)]) (g := (gName 1)) (tt := (tTest (tOp rNotInSg (tVar 1) (tC (.str "abcdefghijklmnopqrstuvwxyz"))))) rfl sc_law_is_name.nd (pi_str (pv 0)) (blkOk_by (own := [("_law_letter", 1)]) (N := n_law_is_name) (sc := defScope s_law_is_name) (by decide +kernel)) (fun _ _ _ _ _ => (pg_name (i := 1) sc_law_is_name.nd rfl (by first | exact Or.inl rfl | exact Or.inr rfl))) (fun _ _ _ _ _ => (pts_one (pt_cmpR op_notIn_sg (pv 1) pe_str rfl))) (fun _ _ _ _ _ => (pv 1))) (pe_lst pa_nil) (nomark _))))), p_law_is_name vs H Q E h⟩)
theorem ok_is_name {f : Addr} {fd : FuncData} (F : Fun K "is_name" "is_name" s_is_name f fd) (T : Txt K mg C)  : FnOk P w K mg base CX0 1 f fd ["value"] (sp_is_name K) :=
  F.ok sc_is_name (fun vs H Q E h => by first | (obtain ⟨rfl, _⟩ := h; rfl) | (obtain ⟨_, rfl, _⟩ := h; rfl) | (obtain ⟨_, _, rfl, _⟩ := h; rfl) | (obtain ⟨_, _, _, rfl, _⟩ := h; rfl) | (obtain ⟨_, _, _, _, rfl, _⟩ := h; rfl) | (obtain ⟨_, _, _, _, _, rfl, _⟩ := h; rfl) | (obtain ⟨_, _, _, _, _, _, rfl, _⟩ := h; rfl)) (fun cdv A outer s H vs Q E hr h => ⟨t_is_name K C, (pss_cons (ps_if (PW.pt (pw_or (pt_not (pt_val (pe_callB call_isiU rfl T.b_isinstance (by decide +kernel) (pa_cons (pv 0) (pa_cons (pe_bltn rfl T.b_str (by decide +kernel) rfl) pa_nil))))) (pw_or1 (pt_not (pt_chain op_le op_le pe_int (pe_callB call_len_str rfl T.b_len PySem.boot_len (pa_cons (pv 0) pa_nil)) (C8.pe_gc rfl T.g_LONGEST_NAME)))))) (pss_one (ps_ret pe_bl)) pss_nil)
  (pss_one (ps_ret (pe_callB (cr_all rfl) rfl T.b_all (by decide +kernel) (pa_cons (pe_lc (own := [("letter", 1)]) (g := (gName 1)) (tt := tYes) rfl sc_is_name.nd (pi_str (pv 0)) (blkOk_by (own := [("letter", 1)]) (N := n_is_name) (sc := defScope s_is_name) (by decide +kernel)) (fun _ _ _ _ _ => (pg_name (i := 1) sc_is_name.nd rfl (by first | exact Or.inl rfl | exact Or.inr rfl))) (fun _ _ _ _ _ => pts_nil) (fun _ _ _ _ _ => (pe_cmpR op_in_sg (pv 1) (C8.pe_gc rfl T.g_LETTERS) rfl))) pa_nil))))), p_is_name vs H Q E h⟩)
theorem ok_law_text {f : Addr} {fd : FuncData} (F : Fun K "_law_text" "_law_text" s_law_text f fd) (T : Txt K mg C) (c_law_draw : C8.Cal P w K mg base 1 "_law_draw" (sp_draw "great" "count") []) (c_law_choice : C8.Cal P w K mg base 2 "_law_choice" (sp_choice K "great" "count") []) : FnOk P w K mg base CX0 3 f fd ["_law_source_here"] (sp_text "great" "count") :=
  F.ok sc_law_text (fun vs H Q E h => by first | (obtain ⟨rfl, _⟩ := h; rfl) | (obtain ⟨_, rfl, _⟩ := h; rfl) | (obtain ⟨_, _, rfl, _⟩ := h; rfl) | (obtain ⟨_, _, _, rfl, _⟩ := h; rfl) | (obtain ⟨_, _, _, _, rfl, _⟩ := h; rfl) | (obtain ⟨_, _, _, _, _, rfl, _⟩ := h; rfl) | (obtain ⟨_, _, _, _, _, _, rfl, _⟩ := h; rfl)) (fun cdv A outer s H vs Q E hr h => ⟨t_law_text K C, (pss_cons (ps_set (i := 1) sc_law_text.nd rfl (by first | exact Or.inl rfl | exact Or.inr rfl) pe_str)
  (pss_cons (ps_set (i := 2) sc_law_text.nd rfl (by first | exact Or.inl rfl | exact Or.inr rfl) (pe_join pe_str (pe_lc (own := [("_law_k", 3)]) (g := (gName 3)) (tt := tYes) rfl sc_law_text.nd (pi_range1 rfl T.b_range (pa_cons (C8.pe_c c_law_draw hr (by decide) rfl (pa_cons (pv 0) (pa_cons pe_int pa_nil))) pa_nil)) (blkOk_by (own := [("_law_k", 3)]) (N := n_law_text) (sc := defScope s_law_text) (by decide +kernel)) (fun _ _ _ _ _ => (pg_name (i := 3) sc_law_text.nd rfl (by first | exact Or.inl rfl | exact Or.inr rfl))) (fun _ _ _ _ _ => pts_nil) (fun _ _ _ _ _ => (C8.pe_c c_law_choice hr (by decide) rfl (pa_cons (pv 0) (pa_cons (pv 1) pa_nil)))))))
  (pss_cons (ps_set (i := 4) sc_law_text.nd rfl (by first | exact Or.inl rfl | exact Or.inr rfl) (C8.pe_c c_law_draw hr (by decide) rfl (pa_cons (pv 0) (pa_cons (pe_op op_add (pe_callB call_len_str rfl T.b_len PySem.boot_len (pa_cons (pv 2) pa_nil)) pe_int) pa_nil))))
  (pss_cons (ps_set (i := 5) sc_law_text.nd rfl (by first | exact Or.inl rfl | exact Or.inr rfl) (C8.pe_c c_law_choice hr (by decide) rfl (pa_cons (pv 0) (pa_cons (pe_lst (pa_cons pe_str (pa_cons pe_str (pa_cons pe_str (pa_cons pe_str (pa_cons pe_str (pa_cons pe_str (pa_cons pe_str (pa_cons pe_str (pa_cons pe_str (pa_cons pe_str (pa_cons pe_str (pa_cons pe_str pa_nil))))))))))))) pa_nil))))
  (pss_one (ps_ret (pe_op op_add_str (pe_op op_add_str (pe_slice C8.sl_txt (pv 2) po_none (po_some (pv 4))) (pv 5)) (pe_slice C8.sl_txt (pv 2) (po_some (pv 4)) po_none)))))))), p_law_text vs H Q E h⟩)
theorem ok_law_value {f : Addr} {fd : FuncData} (F : Fun K "_law_value" "_law_value" s_law_value f fd) (T : Txt K mg C) (c_law_text : C8.Cal P w K mg base 3 "_law_text" (sp_text "great" "count") []) (c_law_choice : C8.Cal P w K mg base 2 "_law_choice" (sp_choice K "great" "count") []) : FnOk P w K mg base CX0 4 f fd ["_law_source_here"] (sp_value K "great" "count") :=
  F.ok sc_law_value (fun vs H Q E h => by first | (obtain ⟨rfl, _⟩ := h; rfl) | (obtain ⟨_, rfl, _⟩ := h; rfl) | (obtain ⟨_, _, rfl, _⟩ := h; rfl) | (obtain ⟨_, _, _, rfl, _⟩ := h; rfl) | (obtain ⟨_, _, _, _, rfl, _⟩ := h; rfl) | (obtain ⟨_, _, _, _, _, rfl, _⟩ := h; rfl) | (obtain ⟨_, _, _, _, _, _, rfl, _⟩ := h; rfl)) (fun cdv A outer s H vs Q E hr h => ⟨t_law_value K C, (pss_cons (ps_set (i := 1) sc_law_value.nd rfl (by first | exact Or.inl rfl | exact Or.inr rfl) (C8.pe_c c_law_text hr (by decide) rfl (pa_cons (pv 0) pa_nil)))
  (pss_one (ps_ret (C8.pe_c c_law_choice hr (by decide) rfl (pa_cons (pv 0) (pa_cons (pe_lst (pa_cons (pv 1) (pa_cons (pv 1) (pa_cons (pv 1) (pa_cons (pv 1) (pa_cons pe_non (pa_cons pe_int (pa_cons pe_bl (pa_cons (pe_lst (pa_cons (pv 1) pa_nil)) (pa_cons (pe_tup (pa_cons (pv 1) pa_nil)) (pa_cons (pe_disp (pps_cons (pv 1) pe_int pps_nil) rfl rfl (fun z => by cases z) (by decide)) (pa_cons (pe_un un_neg pe_int) (pa_cons (pe_tup pa_nil) pa_nil))))))))))))) pa_nil)))))), p_law_value vs H Q E h⟩)
theorem ok_law_fields {f : Addr} {fd : FuncData} (F : Fun K "_law_fields" "_law_fields" s_law_fields f fd) (T : Txt K mg C) (e_DuplicateName : CalE P w K mg base 1 "DuplicateName" C.DuplicateName (spx_init K C.DuplicateName "name")) (e_InvalidName : CalE P w K mg base 1 "InvalidName" C.InvalidName (spx_init K C.InvalidName "name")) (e_InvalidAction : CalE P w K mg base 1 "InvalidAction" C.InvalidAction (spx_init K C.InvalidAction "index")) (e_InvalidCapacity : CalE P w K mg base 1 "InvalidCapacity" C.InvalidCapacity (spx_init K C.InvalidCapacity "name")) (e_InvalidTie : CalE P w K mg base 1 "InvalidTie" C.InvalidTie (spx_init K C.InvalidTie "index")) (e_InvalidOutcome : CalE P w K mg base 1 "InvalidOutcome" C.InvalidOutcome (spx_init K C.InvalidOutcome "index")) (e_InvalidSymbol : CalE P w K mg base 1 "InvalidSymbol" C.InvalidSymbol (spx_init K C.InvalidSymbol "index")) (e_Contradiction : CalE P w K mg base 1 "Contradiction" C.Contradiction (spx_init K C.Contradiction "certificate")) (e_InvalidText : CalE P w K mg base 1 "InvalidText" C.InvalidText (spx_init K C.InvalidText "line")) (e_InvalidNumber : CalE P w K mg base 1 "InvalidNumber" C.InvalidNumber (spx_init K C.InvalidNumber "number")) (ek_InvalidCapacity : CalEK P w K mg base 1 "InvalidCapacity" C.InvalidCapacity (spx_init K C.InvalidCapacity "name") "name") (ek_DuplicateName : CalEK P w K mg base 1 "DuplicateName" C.DuplicateName (spx_init K C.DuplicateName "name") "name") (ek_InvalidName : CalEK P w K mg base 1 "InvalidName" C.InvalidName (spx_init K C.InvalidName "name") "name") (ek_InvalidTie : CalEK P w K mg base 1 "InvalidTie" C.InvalidTie (spx_init K C.InvalidTie "index") "index") (ek_InvalidOutcome : CalEK P w K mg base 1 "InvalidOutcome" C.InvalidOutcome (spx_init K C.InvalidOutcome "index") "index") (ek_InvalidAction : CalEK P w K mg base 1 "InvalidAction" C.InvalidAction (spx_init K C.InvalidAction "index") "index") (ek_InvalidSymbol : CalEK P w K mg base 1 "InvalidSymbol" C.InvalidSymbol (spx_init K C.InvalidSymbol "index") "index") (ek_Contradiction : CalEK P w K mg base 1 "Contradiction" C.Contradiction (spx_init K C.Contradiction "certificate") "certificate") (ek_InvalidText : CalEK P w K mg base 1 "InvalidText" C.InvalidText (spx_init K C.InvalidText "line") "line") (ek_InvalidNumber : CalEK P w K mg base 1 "InvalidNumber" C.InvalidNumber (spx_init K C.InvalidNumber "number") "number") : FnOk P w K mg base CX0 3 f fd [] (sp_fields K C) :=
  F.ok sc_law_fields (fun vs H Q E h => by first | (obtain ⟨rfl, _⟩ := h; rfl) | (obtain ⟨_, rfl, _⟩ := h; rfl) | (obtain ⟨_, _, rfl, _⟩ := h; rfl) | (obtain ⟨_, _, _, rfl, _⟩ := h; rfl) | (obtain ⟨_, _, _, _, rfl, _⟩ := h; rfl) | (obtain ⟨_, _, _, _, _, rfl, _⟩ := h; rfl) | (obtain ⟨_, _, _, _, _, _, rfl, _⟩ := h; rfl)) (fun cdv A outer s H vs Q E hr h => ⟨t_law_fields K C, (pss_cons (ps_set (i := 0) sc_law_fields.nd rfl (by first | exact Or.inl rfl | exact Or.inr rfl) (pe_lst (pa_cons (pe_tup (pa_cons (pe_mke e_InvalidName hr (by decide) rfl (pa_cons pe_int pa_nil)) (pa_cons (pe_xfv (pe_mke e_InvalidName hr (by decide) rfl (pa_cons pe_int pa_nil))) pa_nil))) (pa_cons (pe_tup (pa_cons (pe_mke e_DuplicateName hr (by decide) rfl (pa_cons pe_str pa_nil)) (pa_cons (pe_xfv (pe_mke e_DuplicateName hr (by decide) rfl (pa_cons pe_str pa_nil))) pa_nil))) pa_nil))))
  (pss_cons (ps_set (i := 0) sc_law_fields.nd rfl (by first | exact Or.inl rfl | exact Or.inr rfl) (pe_op op_cat (pv 0) (pe_lst (pa_cons (pe_tup (pa_cons (pe_mke e_InvalidCapacity hr (by decide) rfl (pa_cons pe_non pa_nil)) (pa_cons (pe_xfv (pe_mke e_InvalidCapacity hr (by decide) rfl (pa_cons pe_non pa_nil))) pa_nil))) (pa_cons (pe_tup (pa_cons (pe_mke e_InvalidAction hr (by decide) rfl (pa_cons pe_int pa_nil)) (pa_cons (pe_xfv (pe_mke e_InvalidAction hr (by decide) rfl (pa_cons pe_int pa_nil))) pa_nil))) pa_nil)))))
  (pss_cons (ps_set (i := 0) sc_law_fields.nd rfl (by first | exact Or.inl rfl | exact Or.inr rfl) (pe_op op_cat (pv 0) (pe_lst (pa_cons (pe_tup (pa_cons (pe_mke e_InvalidOutcome hr (by decide) rfl (pa_cons pe_int pa_nil)) (pa_cons (pe_xfv (pe_mke e_InvalidOutcome hr (by decide) rfl (pa_cons pe_int pa_nil))) pa_nil))) (pa_cons (pe_tup (pa_cons (pe_mke e_InvalidTie hr (by decide) rfl (pa_cons pe_int pa_nil)) (pa_cons (pe_xfv (pe_mke e_InvalidTie hr (by decide) rfl (pa_cons pe_int pa_nil))) pa_nil))) pa_nil)))))
  (pss_cons (ps_set (i := 0) sc_law_fields.nd rfl (by first | exact Or.inl rfl | exact Or.inr rfl) (pe_op op_cat (pv 0) (pe_lst (pa_cons (pe_tup (pa_cons (pe_mke e_Contradiction hr (by decide) rfl (pa_cons (pe_tup pa_nil) pa_nil)) (pa_cons (pe_xfv (pe_mke e_Contradiction hr (by decide) rfl (pa_cons (pe_tup pa_nil) pa_nil))) pa_nil))) (pa_cons (pe_tup (pa_cons (pe_mke e_InvalidSymbol hr (by decide) rfl (pa_cons pe_int pa_nil)) (pa_cons (pe_xfv (pe_mke e_InvalidSymbol hr (by decide) rfl (pa_cons pe_int pa_nil))) pa_nil))) pa_nil)))))
  (pss_cons (ps_set (i := 0) sc_law_fields.nd rfl (by first | exact Or.inl rfl | exact Or.inr rfl) (pe_op op_cat (pv 0) (pe_lst (pa_cons (pe_tup (pa_cons (pe_mke e_InvalidNumber hr (by decide) rfl (pa_cons (pe_un un_neg pe_int) pa_nil)) (pa_cons (pe_xfv (pe_mke e_InvalidNumber hr (by decide) rfl (pa_cons (pe_un un_neg pe_int) pa_nil))) pa_nil))) (pa_cons (pe_tup (pa_cons (pe_mke e_InvalidText hr (by decide) rfl (pa_cons pe_int pa_nil)) (pa_cons (pe_xfv (pe_mke e_InvalidText hr (by decide) rfl (pa_cons pe_int pa_nil))) pa_nil))) pa_nil)))))
  (pss_cons (ps_set (i := 1) sc_law_fields.nd rfl (by first | exact Or.inl rfl | exact Or.inr rfl) (pe_lst (pa_cons (pe_xfv (pe_mkek ek_InvalidName hr (by decide) rfl (pk_cons pe_int pk_nil))) (pa_cons (pe_xfv (pe_mkek ek_DuplicateName hr (by decide) rfl (pk_cons pe_str pk_nil))) (pa_cons (pe_xfv (pe_mkek ek_InvalidCapacity hr (by decide) rfl (pk_cons pe_non pk_nil))) pa_nil)))))
  (pss_cons (ps_set (i := 1) sc_law_fields.nd rfl (by first | exact Or.inl rfl | exact Or.inr rfl) (pe_op op_cat (pv 1) (pe_lst (pa_cons (pe_xfv (pe_mkek ek_InvalidAction hr (by decide) rfl (pk_cons pe_int pk_nil))) (pa_cons (pe_xfv (pe_mkek ek_InvalidOutcome hr (by decide) rfl (pk_cons pe_int pk_nil))) (pa_cons (pe_xfv (pe_mkek ek_InvalidTie hr (by decide) rfl (pk_cons pe_int pk_nil))) pa_nil))))))
  (pss_cons (ps_set (i := 1) sc_law_fields.nd rfl (by first | exact Or.inl rfl | exact Or.inr rfl) (pe_op op_cat (pv 1) (pe_lst (pa_cons (pe_xfv (pe_mkek ek_Contradiction hr (by decide) rfl (pk_cons (pe_tup pa_nil) pk_nil))) (pa_cons (pe_xfv (pe_mkek ek_InvalidSymbol hr (by decide) rfl (pk_cons pe_int pk_nil))) pa_nil)))))
  (pss_cons (ps_set (i := 1) sc_law_fields.nd rfl (by first | exact Or.inl rfl | exact Or.inr rfl) (pe_op op_cat (pv 1) (pe_lst (pa_cons (pe_xfv (pe_mkek ek_InvalidNumber hr (by decide) rfl (pk_cons (pe_un un_neg pe_int) pk_nil))) (pa_cons (pe_xfv (pe_mkek ek_InvalidText hr (by decide) rfl (pk_cons pe_int pk_nil))) pa_nil)))))
  (pss_one (ps_ret (pe_tup (pa_cons (pv 0) (pa_cons (pv 1) pa_nil)))))))))))))), p_law_fields T.ok vs H Q E h⟩)
theorem ok_law_kinds {f : Addr} {fd : FuncData} (F : Fun K "_law_kinds" "_law_kinds" s_law_kinds f fd) (T : Txt K mg C)  : FnOk P w K mg base CX0 1 f fd ["_law_error"] (sp_kinds K C) :=
  F.ok sc_law_kinds (fun vs H Q E h => by first | (obtain ⟨rfl, _⟩ := h; rfl) | (obtain ⟨_, rfl, _⟩ := h; rfl) | (obtain ⟨_, _, rfl, _⟩ := h; rfl) | (obtain ⟨_, _, _, rfl, _⟩ := h; rfl) | (obtain ⟨_, _, _, _, rfl, _⟩ := h; rfl) | (obtain ⟨_, _, _, _, _, rfl, _⟩ := h; rfl) | (obtain ⟨_, _, _, _, _, _, rfl, _⟩ := h; rfl)) (fun cdv A outer s H vs Q E hr h => ⟨t_law_kinds K C, (pss_cons (ps_set (i := 1) sc_law_kinds.nd rfl (by first | exact Or.inl rfl | exact Or.inr rfl) (pe_lst (pa_cons (pe_callB call_isiU rfl T.b_isinstance (by decide +kernel) (pa_cons (pv 0) (pa_cons (pe_glob rfl T.m_InvalidName rfl) pa_nil))) (pa_cons (pe_callB call_isiU rfl T.b_isinstance (by decide +kernel) (pa_cons (pv 0) (pa_cons (pe_glob rfl T.m_DuplicateName rfl) pa_nil))) (pa_cons (pe_callB call_isiU rfl T.b_isinstance (by decide +kernel) (pa_cons (pv 0) (pa_cons (pe_glob rfl T.m_InvalidCapacity rfl) pa_nil))) pa_nil)))))
  (pss_cons (ps_set (i := 1) sc_law_kinds.nd rfl (by first | exact Or.inl rfl | exact Or.inr rfl) (pe_op op_cat (pv 1) (pe_lst (pa_cons (pe_callB call_isiU rfl T.b_isinstance (by decide +kernel) (pa_cons (pv 0) (pa_cons (pe_glob rfl T.m_InvalidAction rfl) pa_nil))) (pa_cons (pe_callB call_isiU rfl T.b_isinstance (by decide +kernel) (pa_cons (pv 0) (pa_cons (pe_glob rfl T.m_InvalidOutcome rfl) pa_nil))) (pa_cons (pe_callB call_isiU rfl T.b_isinstance (by decide +kernel) (pa_cons (pv 0) (pa_cons (pe_glob rfl T.m_InvalidTie rfl) pa_nil))) pa_nil))))))
  (pss_cons (ps_set (i := 1) sc_law_kinds.nd rfl (by first | exact Or.inl rfl | exact Or.inr rfl) (pe_op op_cat (pv 1) (pe_lst (pa_cons (pe_callB call_isiU rfl T.b_isinstance (by decide +kernel) (pa_cons (pv 0) (pa_cons (pe_glob rfl T.m_Contradiction rfl) pa_nil))) (pa_cons (pe_callB call_isiU rfl T.b_isinstance (by decide +kernel) (pa_cons (pv 0) (pa_cons (pe_glob rfl T.m_InvalidSymbol rfl) pa_nil))) pa_nil)))))
  (pss_cons (ps_set (i := 1) sc_law_kinds.nd rfl (by first | exact Or.inl rfl | exact Or.inr rfl) (pe_op op_cat (pv 1) (pe_lst (pa_cons (pe_callB call_isiU rfl T.b_isinstance (by decide +kernel) (pa_cons (pv 0) (pa_cons (pe_glob rfl T.m_InvalidNumber rfl) pa_nil))) (pa_cons (pe_callB call_isiU rfl T.b_isinstance (by decide +kernel) (pa_cons (pv 0) (pa_cons (pe_glob rfl T.m_InvalidText rfl) pa_nil))) pa_nil)))))
  (pss_one (ps_ret (pe_op op_cat (pv 1) (pe_lst (pa_cons (pe_callB call_isiU rfl T.b_isinstance (by decide +kernel) (pa_cons (pv 0) (pa_cons (pe_glob rfl T.m_InvalidForm rfl) pa_nil))) (pa_cons (pe_callB call_isiU rfl T.b_isinstance (by decide +kernel) (pa_cons (pv 0) (pa_cons (pe_glob rfl T.m_Mismatch rfl) pa_nil))) pa_nil)))))))))), p_law_kinds T.ok vs H Q E h⟩)
theorem ok_law {f : Addr} {fd : FuncData} (F : Fun K "law" "law" s_law f fd) (T : Txt K mg C) (c_law_source : C8.Cal P w K mg base 1 "_law_source" (sp_source K "great" "count") []) (c_law_value : C8.Cal P w K mg base 4 "_law_value" (sp_value K "great" "count") []) (c_law_is_name : C8.Cal P w K mg base 1 "_law_is_name" (sp_is_name K) []) (c_is_name : C8.Cal P w K mg base 1 "is_name" (sp_is_name K) []) (c_law_fields : C8.Cal P w K mg base 3 "_law_fields" (sp_fields K C) []) (c_law_kinds : C8.Cal P w K mg base 1 "_law_kinds" (sp_kinds K C) []) (c_is_name_K0_value : CalK P w K mg base 1 "is_name" (sp_is_name K) 0 ["value"] (fun _ zs => zs)) : FnOkG P w K mg base CX0 5 f fd ["_law_script"] (sp_law K) :=
  Fun.okG F sc_law (fun vs H Q E h => by first | (obtain ⟨rfl, _⟩ := h; rfl) | (obtain ⟨_, rfl, _⟩ := h; rfl) | (obtain ⟨_, _, rfl, _⟩ := h; rfl) | (obtain ⟨_, _, _, rfl, _⟩ := h; rfl) | (obtain ⟨_, _, _, _, rfl, _⟩ := h; rfl) | (obtain ⟨_, _, _, _, _, rfl, _⟩ := h; rfl) | (obtain ⟨_, _, _, _, _, _, rfl, _⟩ := h; rfl)) (fun cdv A outer s H vs Q E hg hr h => ⟨t_law K C, (pss_cons (ps_set (i := 1) sc_law.nd rfl (by first | exact Or.inl rfl | exact Or.inr rfl) (C8.pe_c c_law_source hr (by decide) rfl (pa_cons (pv 0) pa_nil)))
  (pss_cons (ps_for PassesOwn.never rfl (pi_range1 rfl T.b_range (pa_cons pe_int pa_nil)) (pg_name (i := 2) sc_law.nd rfl (by first | exact Or.inl rfl | exact Or.inr rfl)) (pss_cons (ps_set (i := 3) sc_law.nd rfl (by first | exact Or.inl rfl | exact Or.inr rfl) (C8.pe_c c_law_value hr (by decide) rfl (pa_cons (pv 1) pa_nil)))
  (pss_cons (ps_set (i := 4) sc_law.nd rfl (by first | exact Or.inl rfl | exact Or.inr rfl) (C8.pe_c c_law_is_name hr (by decide) rfl (pa_cons (pv 3) pa_nil)))
  (pss_one (ps_if (pt_cmpR op_ne (pe_callB (call_reprD hg (hu80 hr)) rfl T.b_repr (by decide +kernel) (pa_cons (pe_lst (pa_cons (C8.pe_c c_is_name hr (by decide) rfl (pa_cons (pv 3) pa_nil)) (pa_cons (pe_ck0 c_is_name_K0_value hr (by decide) rfl (pk_cons (pv 3) pk_nil)) pa_nil))) pa_nil)) (pe_callB (call_reprD hg (hu80 hr)) rfl T.b_repr (by decide +kernel) (pa_cons (pe_lst (pa_cons (pv 4) (pa_cons (pv 4) pa_nil))) pa_nil)) (nomark _)) (pss_one (ps_ret pe_bl)) pss_nil)))))
  (pss_cons (ps_asg (pe_c0 c_law_fields hr (by decide) rfl) (pg_tup rfl (pgs_cons (pg_name (i := 5) sc_law.nd rfl (by first | exact Or.inl rfl | exact Or.inr rfl)) (pgs_cons (pg_name (i := 6) sc_law.nd rfl (by first | exact Or.inl rfl | exact Or.inr rfl)) pgs_nil))))
  (pss_cons (ps_set (i := 7) sc_law.nd rfl (by first | exact Or.inl rfl | exact Or.inr rfl) (pe_lst (pa_cons pe_int (pa_cons pe_str (pa_cons pe_non (pa_cons pe_int (pa_cons pe_int (pa_cons pe_int (pa_cons (pe_tup pa_nil) (pa_cons pe_int (pa_cons (pe_un un_neg pe_int) (pa_cons pe_int pa_nil))))))))))))
  (pss_cons (ps_if (PW.pt (pw_or (pt_cmpR op_ne (pe_callB (call_reprD hg (hu80 hr)) rfl T.b_repr (by decide +kernel) (pa_cons (pe_lc (own := [("_law_error", 8), ("_law_field", 9)]) (g := (gTup K 2 (gCons (gName 8) (gCons (gName 9) gNil)))) (tt := tYes) rfl sc_law.nd (pi_list (pv 5)) (blkOk_by (own := [("_law_error", 8), ("_law_field", 9)]) (N := n_law) (sc := defScope s_law) (by decide +kernel)) (fun _ _ _ _ _ => (pg_tup rfl (pgs_cons (pg_name (i := 8) sc_law.nd rfl (by first | exact Or.inl rfl | exact Or.inr rfl)) (pgs_cons (pg_name (i := 9) sc_law.nd rfl (by first | exact Or.inl rfl | exact Or.inr rfl)) pgs_nil)))) (fun _ _ _ _ _ => pts_nil) (fun _ _ _ _ _ => (pv 9))) pa_nil)) (pe_callB (call_reprD hg (hu80 hr)) rfl T.b_repr (by decide +kernel) (pa_cons (pv 7) pa_nil)) (nomark _)) (pw_or1 (pt_cmpR op_ne (pe_callB (call_reprD hg (hu80 hr)) rfl T.b_repr (by decide +kernel) (pa_cons (pv 6) pa_nil)) (pe_callB (call_reprD hg (hu80 hr)) rfl T.b_repr (by decide +kernel) (pa_cons (pv 7) pa_nil)) (nomark _))))) (pss_one (ps_ret pe_bl)) pss_nil)
  (pss_cons (ps_set (i := 10) sc_law.nd rfl (by first | exact Or.inl rfl | exact Or.inr rfl) (pe_op op_cat (pe_lc (own := [("_law_error", 8), ("_law_field", 9)]) (g := (gTup K 2 (gCons (gName 8) (gCons (gName 9) gNil)))) (tt := tYes) rfl sc_law.nd (pi_list (pv 5)) (blkOk_by (own := [("_law_error", 8), ("_law_field", 9)]) (N := n_law) (sc := defScope s_law) (by decide +kernel)) (fun _ _ _ _ _ => (pg_tup rfl (pgs_cons (pg_name (i := 8) sc_law.nd rfl (by first | exact Or.inl rfl | exact Or.inr rfl)) (pgs_cons (pg_name (i := 9) sc_law.nd rfl (by first | exact Or.inl rfl | exact Or.inr rfl)) pgs_nil)))) (fun _ _ _ _ _ => pts_nil) (fun _ _ _ _ _ => (pv 8))) (pe_lst (pa_cons (pe_exc1' PySem.F.excBase_ValueError T.xq_InvalidForm T.m_InvalidForm T.k_InvalidForm rfl pe_str) (pa_cons (pe_exc1' PySem.F.excBase_ValueError T.xq_Mismatch T.m_Mismatch T.k_Mismatch rfl pe_str) pa_nil)))))
  (pss_cons (ps_for PassesOwn.never rfl (pi_enum rfl T.b_enumerate (pa_cons (pv 10) pa_nil)) (pg_tup rfl (pgs_cons (pg_name (i := 11) sc_law.nd rfl (by first | exact Or.inl rfl | exact Or.inr rfl)) (pgs_cons (pg_name (i := 8) sc_law.nd rfl (by first | exact Or.inl rfl | exact Or.inr rfl)) pgs_nil))) (pss_cons (ps_if (pt_cmpR (op_neD hr.units) (C8.pe_c c_law_kinds hr (by decide) rfl (pa_cons (pv 8) pa_nil)) (pe_lc (own := [("_law_k", 12)]) (g := (gName 12)) (tt := tYes) rfl sc_law.nd (pi_range1 rfl T.b_range (pa_cons pe_int pa_nil)) (blkOk_by (own := [("_law_k", 12)]) (N := n_law) (sc := defScope s_law) (by decide +kernel)) (fun _ _ _ _ _ => (pg_name (i := 12) sc_law.nd rfl (by first | exact Or.inl rfl | exact Or.inr rfl))) (fun _ _ _ _ _ => pts_nil) (fun _ _ _ _ _ => (pe_cmpR op_eq (pv 12) (pv 11) (nomark _)))) (nomark _)) (pss_one (ps_ret pe_bl)) pss_nil)
  (pss_one (ps_if (PW.pt (pw_or (pt_not (pt_val (pe_callB call_isiU rfl T.b_isinstance (by decide +kernel) (pa_cons (pv 8) (pa_cons (pe_glob rfl T.m_PourError rfl) pa_nil))))) (pw_or1 (pt_not (pt_val (pe_callB call_isiU rfl T.b_isinstance (by decide +kernel) (pa_cons (pv 8) (pa_cons (pe_bltn rfl T.b_ValueError (by decide +kernel) rfl) pa_nil)))))))) (pss_one (ps_ret pe_bl)) pss_nil))))
  (pss_one (ps_ret (pe_and (pe_callB call_isiU rfl T.b_isinstance (by decide +kernel) (pa_cons (pe_exc1' PySem.F.excBase_ValueError T.xq_PourError T.m_PourError T.k_PourError rfl pe_str) (pa_cons (pe_bltn rfl T.b_ValueError (by decide +kernel) rfl) pa_nil))) (pe_one (pe_cmpR op_notIn_seq pe_bl (C8.pe_c c_law_kinds hr (by decide) rfl (pa_cons (pe_exc1' PySem.F.excBase_ValueError T.xq_PourError T.m_PourError T.k_PourError rfl pe_str) pa_nil)) rfl)))))))))))), p_law T.ok vs H Q E h⟩)
end
theorem all_mk {l : PySem.W.OpenLaw} {w : World} {K : PySem.W.Frag} {h : Heap} {mg : Str → Option Value} {fa : Addr} (X : K.In h) (G : h.Ns mainGlobals mg) (hfa : mg "law" = some (.ref fa))
    {C_InvalidName C_DuplicateName C_InvalidCapacity C_InvalidAction C_InvalidOutcome C_InvalidTie C_Contradiction C_InvalidSymbol C_InvalidNumber C_InvalidText C_InvalidForm C_Mismatch C_PourError : Addr}
    {tk_LETTERS : Nat}
    {tk_LONGEST_NAME : Nat}
    {nm_InvalidName q_InvalidName : Str} {N_InvalidName : Addr} {bs_InvalidName : List Value} {sn_InvalidName : List Str} {sub_InvalidName : List Value} {ab_InvalidName : Bool} {col_InvalidName : Option Bool} {dd_InvalidName : Option Addr} {m0_InvalidName m1_InvalidName m2_InvalidName m3_InvalidName m5_InvalidName : Option Value}
    {f_InvalidName : Addr} {oc_InvalidName : Value} {od_InvalidName an_InvalidName : Option Addr} {sl_InvalidName : Array (Option Value)} {kV_InvalidName doc_InvalidName pm_InvalidName cd_InvalidName ct_InvalidName : Value}
    {nm_DuplicateName q_DuplicateName : Str} {N_DuplicateName : Addr} {bs_DuplicateName : List Value} {sn_DuplicateName : List Str} {sub_DuplicateName : List Value} {ab_DuplicateName : Bool} {col_DuplicateName : Option Bool} {dd_DuplicateName : Option Addr} {m0_DuplicateName m1_DuplicateName m2_DuplicateName m3_DuplicateName m5_DuplicateName : Option Value}
    {f_DuplicateName : Addr} {oc_DuplicateName : Value} {od_DuplicateName an_DuplicateName : Option Addr} {sl_DuplicateName : Array (Option Value)} {kV_DuplicateName doc_DuplicateName pm_DuplicateName cd_DuplicateName ct_DuplicateName : Value}
    {nm_InvalidCapacity q_InvalidCapacity : Str} {N_InvalidCapacity : Addr} {bs_InvalidCapacity : List Value} {sn_InvalidCapacity : List Str} {sub_InvalidCapacity : List Value} {ab_InvalidCapacity : Bool} {col_InvalidCapacity : Option Bool} {dd_InvalidCapacity : Option Addr} {m0_InvalidCapacity m1_InvalidCapacity m2_InvalidCapacity m3_InvalidCapacity m5_InvalidCapacity : Option Value}
    {f_InvalidCapacity : Addr} {oc_InvalidCapacity : Value} {od_InvalidCapacity an_InvalidCapacity : Option Addr} {sl_InvalidCapacity : Array (Option Value)} {kV_InvalidCapacity doc_InvalidCapacity pm_InvalidCapacity cd_InvalidCapacity ct_InvalidCapacity : Value}
    {nm_InvalidAction q_InvalidAction : Str} {N_InvalidAction : Addr} {bs_InvalidAction : List Value} {sn_InvalidAction : List Str} {sub_InvalidAction : List Value} {ab_InvalidAction : Bool} {col_InvalidAction : Option Bool} {dd_InvalidAction : Option Addr} {m0_InvalidAction m1_InvalidAction m2_InvalidAction m3_InvalidAction m5_InvalidAction : Option Value}
    {f_InvalidAction : Addr} {oc_InvalidAction : Value} {od_InvalidAction an_InvalidAction : Option Addr} {sl_InvalidAction : Array (Option Value)} {kV_InvalidAction doc_InvalidAction pm_InvalidAction cd_InvalidAction ct_InvalidAction : Value}
    {nm_InvalidOutcome q_InvalidOutcome : Str} {N_InvalidOutcome : Addr} {bs_InvalidOutcome : List Value} {sn_InvalidOutcome : List Str} {sub_InvalidOutcome : List Value} {ab_InvalidOutcome : Bool} {col_InvalidOutcome : Option Bool} {dd_InvalidOutcome : Option Addr} {m0_InvalidOutcome m1_InvalidOutcome m2_InvalidOutcome m3_InvalidOutcome m5_InvalidOutcome : Option Value}
    {f_InvalidOutcome : Addr} {oc_InvalidOutcome : Value} {od_InvalidOutcome an_InvalidOutcome : Option Addr} {sl_InvalidOutcome : Array (Option Value)} {kV_InvalidOutcome doc_InvalidOutcome pm_InvalidOutcome cd_InvalidOutcome ct_InvalidOutcome : Value}
    {nm_InvalidTie q_InvalidTie : Str} {N_InvalidTie : Addr} {bs_InvalidTie : List Value} {sn_InvalidTie : List Str} {sub_InvalidTie : List Value} {ab_InvalidTie : Bool} {col_InvalidTie : Option Bool} {dd_InvalidTie : Option Addr} {m0_InvalidTie m1_InvalidTie m2_InvalidTie m3_InvalidTie m5_InvalidTie : Option Value}
    {f_InvalidTie : Addr} {oc_InvalidTie : Value} {od_InvalidTie an_InvalidTie : Option Addr} {sl_InvalidTie : Array (Option Value)} {kV_InvalidTie doc_InvalidTie pm_InvalidTie cd_InvalidTie ct_InvalidTie : Value}
    {nm_Contradiction q_Contradiction : Str} {N_Contradiction : Addr} {bs_Contradiction : List Value} {sn_Contradiction : List Str} {sub_Contradiction : List Value} {ab_Contradiction : Bool} {col_Contradiction : Option Bool} {dd_Contradiction : Option Addr} {m0_Contradiction m1_Contradiction m2_Contradiction m3_Contradiction m5_Contradiction : Option Value}
    {f_Contradiction : Addr} {oc_Contradiction : Value} {od_Contradiction an_Contradiction : Option Addr} {sl_Contradiction : Array (Option Value)} {kV_Contradiction doc_Contradiction pm_Contradiction cd_Contradiction ct_Contradiction : Value}
    {nm_InvalidSymbol q_InvalidSymbol : Str} {N_InvalidSymbol : Addr} {bs_InvalidSymbol : List Value} {sn_InvalidSymbol : List Str} {sub_InvalidSymbol : List Value} {ab_InvalidSymbol : Bool} {col_InvalidSymbol : Option Bool} {dd_InvalidSymbol : Option Addr} {m0_InvalidSymbol m1_InvalidSymbol m2_InvalidSymbol m3_InvalidSymbol m5_InvalidSymbol : Option Value}
    {f_InvalidSymbol : Addr} {oc_InvalidSymbol : Value} {od_InvalidSymbol an_InvalidSymbol : Option Addr} {sl_InvalidSymbol : Array (Option Value)} {kV_InvalidSymbol doc_InvalidSymbol pm_InvalidSymbol cd_InvalidSymbol ct_InvalidSymbol : Value}
    {nm_InvalidNumber q_InvalidNumber : Str} {N_InvalidNumber : Addr} {bs_InvalidNumber : List Value} {sn_InvalidNumber : List Str} {sub_InvalidNumber : List Value} {ab_InvalidNumber : Bool} {col_InvalidNumber : Option Bool} {dd_InvalidNumber : Option Addr} {m0_InvalidNumber m1_InvalidNumber m2_InvalidNumber m3_InvalidNumber m5_InvalidNumber : Option Value}
    {f_InvalidNumber : Addr} {oc_InvalidNumber : Value} {od_InvalidNumber an_InvalidNumber : Option Addr} {sl_InvalidNumber : Array (Option Value)} {kV_InvalidNumber doc_InvalidNumber pm_InvalidNumber cd_InvalidNumber ct_InvalidNumber : Value}
    {nm_InvalidText q_InvalidText : Str} {N_InvalidText : Addr} {bs_InvalidText : List Value} {sn_InvalidText : List Str} {sub_InvalidText : List Value} {ab_InvalidText : Bool} {col_InvalidText : Option Bool} {dd_InvalidText : Option Addr} {m0_InvalidText m1_InvalidText m2_InvalidText m3_InvalidText m5_InvalidText : Option Value}
    {f_InvalidText : Addr} {oc_InvalidText : Value} {od_InvalidText an_InvalidText : Option Addr} {sl_InvalidText : Array (Option Value)} {kV_InvalidText doc_InvalidText pm_InvalidText cd_InvalidText ct_InvalidText : Value}
    {nm_InvalidForm q_InvalidForm : Str} {N_InvalidForm : Addr} {bs_InvalidForm : List Value} {sn_InvalidForm : List Str} {sub_InvalidForm : List Value} {ab_InvalidForm : Bool} {col_InvalidForm : Option Bool} {dd_InvalidForm : Option Addr} {m0_InvalidForm m1_InvalidForm m2_InvalidForm m3_InvalidForm m5_InvalidForm : Option Value}
    {nm_Mismatch q_Mismatch : Str} {N_Mismatch : Addr} {bs_Mismatch : List Value} {sn_Mismatch : List Str} {sub_Mismatch : List Value} {ab_Mismatch : Bool} {col_Mismatch : Option Bool} {dd_Mismatch : Option Addr} {m0_Mismatch m1_Mismatch m2_Mismatch m3_Mismatch m5_Mismatch : Option Value}
    {nm_PourError q_PourError : Str} {N_PourError : Addr} {bs_PourError : List Value} {sn_PourError : List Str} {sub_PourError : List Value} {ab_PourError : Bool} {col_PourError : Option Bool} {dd_PourError : Option Addr} {m0_PourError m1_PourError m2_PourError m3_PourError m5_PourError : Option Value}
    {f_law_source : Addr} {oc_law_source : Value} {od_law_source an_law_source : Option Addr} {sl_law_source : Array (Option Value)} {kV_law_source doc_law_source pm_law_source cd_law_source ct_law_source : Value}
    {f_law_draw : Addr} {oc_law_draw : Value} {od_law_draw an_law_draw : Option Addr} {sl_law_draw : Array (Option Value)} {kV_law_draw doc_law_draw pm_law_draw cd_law_draw ct_law_draw : Value}
    {f_law_choice : Addr} {oc_law_choice : Value} {od_law_choice an_law_choice : Option Addr} {sl_law_choice : Array (Option Value)} {kV_law_choice doc_law_choice pm_law_choice cd_law_choice ct_law_choice : Value}
    {f_law_is_name : Addr} {oc_law_is_name : Value} {od_law_is_name an_law_is_name : Option Addr} {sl_law_is_name : Array (Option Value)} {kV_law_is_name doc_law_is_name pm_law_is_name cd_law_is_name ct_law_is_name : Value}
    {f_is_name : Addr} {oc_is_name : Value} {od_is_name an_is_name : Option Addr} {sl_is_name : Array (Option Value)} {kV_is_name doc_is_name pm_is_name cd_is_name ct_is_name : Value}
    {f_law_text : Addr} {oc_law_text : Value} {od_law_text an_law_text : Option Addr} {sl_law_text : Array (Option Value)} {kV_law_text doc_law_text pm_law_text cd_law_text ct_law_text : Value}
    {f_law_value : Addr} {oc_law_value : Value} {od_law_value an_law_value : Option Addr} {sl_law_value : Array (Option Value)} {kV_law_value doc_law_value pm_law_value cd_law_value ct_law_value : Value}
    {f_law_fields : Addr} {oc_law_fields : Value} {od_law_fields an_law_fields : Option Addr} {sl_law_fields : Array (Option Value)} {kV_law_fields doc_law_fields pm_law_fields cd_law_fields ct_law_fields : Value}
    {f_law_kinds : Addr} {oc_law_kinds : Value} {od_law_kinds an_law_kinds : Option Addr} {sl_law_kinds : Array (Option Value)} {kV_law_kinds doc_law_kinds pm_law_kinds cd_law_kinds ct_law_kinds : Value}
    {f_law : Addr} {oc_law : Value} {od_law an_law : Option Addr} {sl_law : Array (Option Value)} {kV_law doc_law pm_law cd_law ct_law : Value}
    (z_ValueError : PySem.W.nsIn K mainGlobals "ValueError" = some none)
    (z_all : PySem.W.nsIn K mainGlobals "all" = some none)
    (z_enumerate : PySem.W.nsIn K mainGlobals "enumerate" = some none)
    (z_isinstance : PySem.W.nsIn K mainGlobals "isinstance" = some none)
    (z_len : PySem.W.nsIn K mainGlobals "len" = some none)
    (z_range : PySem.W.nsIn K mainGlobals "range" = some none)
    (z_repr : PySem.W.nsIn K mainGlobals "repr" = some none)
    (z_str : PySem.W.nsIn K mainGlobals "str" = some none)
    (gl_LETTERS : PySem.W.nsIn K mainGlobals "LETTERS" = some (some (.str "abcdefghijklmnopqrstuvwxyz" tk_LETTERS)))
    (gl_LONGEST_NAME : PySem.W.nsIn K mainGlobals "LONGEST_NAME" = some (some (.int 6 tk_LONGEST_NAME)))
    (aC_InvalidName : PySem.W.nsIn K mainGlobals "InvalidName" = some (some (.ref C_InvalidName)))
    (xL_InvalidName : K.lookup C_InvalidName = some (excClassObj nm_InvalidName q_InvalidName C_InvalidName N_InvalidName bs_InvalidName (.ref C_PourError :: veT) true sn_InvalidName sub_InvalidName ab_InvalidName col_InvalidName dd_InvalidName m0_InvalidName m1_InvalidName m2_InvalidName m3_InvalidName m5_InvalidName "ValueError.__new__"))
    (sa_InvalidName : PySem.W.findIn K (.ref C_InvalidName) "__setattr__" = some (some (.builtin "object.__setattr__")))
    (ga_InvalidName : PySem.W.findIn K (.ref C_InvalidName) "__getattribute__" = some (some (.builtin "BaseException.__getattribute__")))
    (gg_InvalidName : PySem.W.findIn K (.ref C_InvalidName) "__getattr__" = some none)
    (ha_InvalidName : PySem.W.findIn K (.ref C_InvalidName) "__class__" = some (some (.builtin "object.__class__")))
    (kC_InvalidName : PySem.W.keepIn K (.ref C_InvalidName) = true)
    (nf_InvalidName : PySem.W.findIn K (.ref C_InvalidName) "name" = some none)
    (iC_InvalidName : PySem.W.findIn K (.ref C_InvalidName) "__init__" = some (some (.ref f_InvalidName)))
    (tI_InvalidName : PySem.W.typeIn K (.ref f_InvalidName) = some (.type "function"))
    (lI_InvalidName : K.lookup f_InvalidName = some ⟨oc_InvalidName, od_InvalidName, .func (PySem.W.fnOf "__init__" "InvalidName.__init__" (defArgs s_InvalidName_init) (defBody s_InvalidName_init) (defScope s_InvalidName_init) .none kV_InvalidName doc_InvalidName pm_InvalidName an_InvalidName cd_InvalidName ct_InvalidName), sl_InvalidName⟩)
    (cI_InvalidName : PySem.W.codeIn K cd_InvalidName "InvalidName.__init__" = true)
    (kI_InvalidName : PySem.W.keepIn K (.ref f_InvalidName) = true)
    (aC_DuplicateName : PySem.W.nsIn K mainGlobals "DuplicateName" = some (some (.ref C_DuplicateName)))
    (xL_DuplicateName : K.lookup C_DuplicateName = some (excClassObj nm_DuplicateName q_DuplicateName C_DuplicateName N_DuplicateName bs_DuplicateName (.ref C_PourError :: veT) true sn_DuplicateName sub_DuplicateName ab_DuplicateName col_DuplicateName dd_DuplicateName m0_DuplicateName m1_DuplicateName m2_DuplicateName m3_DuplicateName m5_DuplicateName "ValueError.__new__"))
    (sa_DuplicateName : PySem.W.findIn K (.ref C_DuplicateName) "__setattr__" = some (some (.builtin "object.__setattr__")))
    (ga_DuplicateName : PySem.W.findIn K (.ref C_DuplicateName) "__getattribute__" = some (some (.builtin "BaseException.__getattribute__")))
    (gg_DuplicateName : PySem.W.findIn K (.ref C_DuplicateName) "__getattr__" = some none)
    (ha_DuplicateName : PySem.W.findIn K (.ref C_DuplicateName) "__class__" = some (some (.builtin "object.__class__")))
    (kC_DuplicateName : PySem.W.keepIn K (.ref C_DuplicateName) = true)
    (nf_DuplicateName : PySem.W.findIn K (.ref C_DuplicateName) "name" = some none)
    (iC_DuplicateName : PySem.W.findIn K (.ref C_DuplicateName) "__init__" = some (some (.ref f_DuplicateName)))
    (tI_DuplicateName : PySem.W.typeIn K (.ref f_DuplicateName) = some (.type "function"))
    (lI_DuplicateName : K.lookup f_DuplicateName = some ⟨oc_DuplicateName, od_DuplicateName, .func (PySem.W.fnOf "__init__" "DuplicateName.__init__" (defArgs s_DuplicateName_init) (defBody s_DuplicateName_init) (defScope s_DuplicateName_init) .none kV_DuplicateName doc_DuplicateName pm_DuplicateName an_DuplicateName cd_DuplicateName ct_DuplicateName), sl_DuplicateName⟩)
    (cI_DuplicateName : PySem.W.codeIn K cd_DuplicateName "DuplicateName.__init__" = true)
    (kI_DuplicateName : PySem.W.keepIn K (.ref f_DuplicateName) = true)
    (aC_InvalidCapacity : PySem.W.nsIn K mainGlobals "InvalidCapacity" = some (some (.ref C_InvalidCapacity)))
    (xL_InvalidCapacity : K.lookup C_InvalidCapacity = some (excClassObj nm_InvalidCapacity q_InvalidCapacity C_InvalidCapacity N_InvalidCapacity bs_InvalidCapacity (.ref C_PourError :: veT) true sn_InvalidCapacity sub_InvalidCapacity ab_InvalidCapacity col_InvalidCapacity dd_InvalidCapacity m0_InvalidCapacity m1_InvalidCapacity m2_InvalidCapacity m3_InvalidCapacity m5_InvalidCapacity "ValueError.__new__"))
    (sa_InvalidCapacity : PySem.W.findIn K (.ref C_InvalidCapacity) "__setattr__" = some (some (.builtin "object.__setattr__")))
    (ga_InvalidCapacity : PySem.W.findIn K (.ref C_InvalidCapacity) "__getattribute__" = some (some (.builtin "BaseException.__getattribute__")))
    (gg_InvalidCapacity : PySem.W.findIn K (.ref C_InvalidCapacity) "__getattr__" = some none)
    (ha_InvalidCapacity : PySem.W.findIn K (.ref C_InvalidCapacity) "__class__" = some (some (.builtin "object.__class__")))
    (kC_InvalidCapacity : PySem.W.keepIn K (.ref C_InvalidCapacity) = true)
    (nf_InvalidCapacity : PySem.W.findIn K (.ref C_InvalidCapacity) "name" = some none)
    (iC_InvalidCapacity : PySem.W.findIn K (.ref C_InvalidCapacity) "__init__" = some (some (.ref f_InvalidCapacity)))
    (tI_InvalidCapacity : PySem.W.typeIn K (.ref f_InvalidCapacity) = some (.type "function"))
    (lI_InvalidCapacity : K.lookup f_InvalidCapacity = some ⟨oc_InvalidCapacity, od_InvalidCapacity, .func (PySem.W.fnOf "__init__" "InvalidCapacity.__init__" (defArgs s_InvalidCapacity_init) (defBody s_InvalidCapacity_init) (defScope s_InvalidCapacity_init) .none kV_InvalidCapacity doc_InvalidCapacity pm_InvalidCapacity an_InvalidCapacity cd_InvalidCapacity ct_InvalidCapacity), sl_InvalidCapacity⟩)
    (cI_InvalidCapacity : PySem.W.codeIn K cd_InvalidCapacity "InvalidCapacity.__init__" = true)
    (kI_InvalidCapacity : PySem.W.keepIn K (.ref f_InvalidCapacity) = true)
    (aC_InvalidAction : PySem.W.nsIn K mainGlobals "InvalidAction" = some (some (.ref C_InvalidAction)))
    (xL_InvalidAction : K.lookup C_InvalidAction = some (excClassObj nm_InvalidAction q_InvalidAction C_InvalidAction N_InvalidAction bs_InvalidAction (.ref C_PourError :: veT) true sn_InvalidAction sub_InvalidAction ab_InvalidAction col_InvalidAction dd_InvalidAction m0_InvalidAction m1_InvalidAction m2_InvalidAction m3_InvalidAction m5_InvalidAction "ValueError.__new__"))
    (sa_InvalidAction : PySem.W.findIn K (.ref C_InvalidAction) "__setattr__" = some (some (.builtin "object.__setattr__")))
    (ga_InvalidAction : PySem.W.findIn K (.ref C_InvalidAction) "__getattribute__" = some (some (.builtin "BaseException.__getattribute__")))
    (gg_InvalidAction : PySem.W.findIn K (.ref C_InvalidAction) "__getattr__" = some none)
    (ha_InvalidAction : PySem.W.findIn K (.ref C_InvalidAction) "__class__" = some (some (.builtin "object.__class__")))
    (kC_InvalidAction : PySem.W.keepIn K (.ref C_InvalidAction) = true)
    (nf_InvalidAction : PySem.W.findIn K (.ref C_InvalidAction) "index" = some none)
    (iC_InvalidAction : PySem.W.findIn K (.ref C_InvalidAction) "__init__" = some (some (.ref f_InvalidAction)))
    (tI_InvalidAction : PySem.W.typeIn K (.ref f_InvalidAction) = some (.type "function"))
    (lI_InvalidAction : K.lookup f_InvalidAction = some ⟨oc_InvalidAction, od_InvalidAction, .func (PySem.W.fnOf "__init__" "InvalidAction.__init__" (defArgs s_InvalidAction_init) (defBody s_InvalidAction_init) (defScope s_InvalidAction_init) .none kV_InvalidAction doc_InvalidAction pm_InvalidAction an_InvalidAction cd_InvalidAction ct_InvalidAction), sl_InvalidAction⟩)
    (cI_InvalidAction : PySem.W.codeIn K cd_InvalidAction "InvalidAction.__init__" = true)
    (kI_InvalidAction : PySem.W.keepIn K (.ref f_InvalidAction) = true)
    (aC_InvalidOutcome : PySem.W.nsIn K mainGlobals "InvalidOutcome" = some (some (.ref C_InvalidOutcome)))
    (xL_InvalidOutcome : K.lookup C_InvalidOutcome = some (excClassObj nm_InvalidOutcome q_InvalidOutcome C_InvalidOutcome N_InvalidOutcome bs_InvalidOutcome (.ref C_PourError :: veT) true sn_InvalidOutcome sub_InvalidOutcome ab_InvalidOutcome col_InvalidOutcome dd_InvalidOutcome m0_InvalidOutcome m1_InvalidOutcome m2_InvalidOutcome m3_InvalidOutcome m5_InvalidOutcome "ValueError.__new__"))
    (sa_InvalidOutcome : PySem.W.findIn K (.ref C_InvalidOutcome) "__setattr__" = some (some (.builtin "object.__setattr__")))
    (ga_InvalidOutcome : PySem.W.findIn K (.ref C_InvalidOutcome) "__getattribute__" = some (some (.builtin "BaseException.__getattribute__")))
    (gg_InvalidOutcome : PySem.W.findIn K (.ref C_InvalidOutcome) "__getattr__" = some none)
    (ha_InvalidOutcome : PySem.W.findIn K (.ref C_InvalidOutcome) "__class__" = some (some (.builtin "object.__class__")))
    (kC_InvalidOutcome : PySem.W.keepIn K (.ref C_InvalidOutcome) = true)
    (nf_InvalidOutcome : PySem.W.findIn K (.ref C_InvalidOutcome) "index" = some none)
    (iC_InvalidOutcome : PySem.W.findIn K (.ref C_InvalidOutcome) "__init__" = some (some (.ref f_InvalidOutcome)))
    (tI_InvalidOutcome : PySem.W.typeIn K (.ref f_InvalidOutcome) = some (.type "function"))
    (lI_InvalidOutcome : K.lookup f_InvalidOutcome = some ⟨oc_InvalidOutcome, od_InvalidOutcome, .func (PySem.W.fnOf "__init__" "InvalidOutcome.__init__" (defArgs s_InvalidOutcome_init) (defBody s_InvalidOutcome_init) (defScope s_InvalidOutcome_init) .none kV_InvalidOutcome doc_InvalidOutcome pm_InvalidOutcome an_InvalidOutcome cd_InvalidOutcome ct_InvalidOutcome), sl_InvalidOutcome⟩)
    (cI_InvalidOutcome : PySem.W.codeIn K cd_InvalidOutcome "InvalidOutcome.__init__" = true)
    (kI_InvalidOutcome : PySem.W.keepIn K (.ref f_InvalidOutcome) = true)
    (aC_InvalidTie : PySem.W.nsIn K mainGlobals "InvalidTie" = some (some (.ref C_InvalidTie)))
    (xL_InvalidTie : K.lookup C_InvalidTie = some (excClassObj nm_InvalidTie q_InvalidTie C_InvalidTie N_InvalidTie bs_InvalidTie (.ref C_PourError :: veT) true sn_InvalidTie sub_InvalidTie ab_InvalidTie col_InvalidTie dd_InvalidTie m0_InvalidTie m1_InvalidTie m2_InvalidTie m3_InvalidTie m5_InvalidTie "ValueError.__new__"))
    (sa_InvalidTie : PySem.W.findIn K (.ref C_InvalidTie) "__setattr__" = some (some (.builtin "object.__setattr__")))
    (ga_InvalidTie : PySem.W.findIn K (.ref C_InvalidTie) "__getattribute__" = some (some (.builtin "BaseException.__getattribute__")))
    (gg_InvalidTie : PySem.W.findIn K (.ref C_InvalidTie) "__getattr__" = some none)
    (ha_InvalidTie : PySem.W.findIn K (.ref C_InvalidTie) "__class__" = some (some (.builtin "object.__class__")))
    (kC_InvalidTie : PySem.W.keepIn K (.ref C_InvalidTie) = true)
    (nf_InvalidTie : PySem.W.findIn K (.ref C_InvalidTie) "index" = some none)
    (iC_InvalidTie : PySem.W.findIn K (.ref C_InvalidTie) "__init__" = some (some (.ref f_InvalidTie)))
    (tI_InvalidTie : PySem.W.typeIn K (.ref f_InvalidTie) = some (.type "function"))
    (lI_InvalidTie : K.lookup f_InvalidTie = some ⟨oc_InvalidTie, od_InvalidTie, .func (PySem.W.fnOf "__init__" "InvalidTie.__init__" (defArgs s_InvalidTie_init) (defBody s_InvalidTie_init) (defScope s_InvalidTie_init) .none kV_InvalidTie doc_InvalidTie pm_InvalidTie an_InvalidTie cd_InvalidTie ct_InvalidTie), sl_InvalidTie⟩)
    (cI_InvalidTie : PySem.W.codeIn K cd_InvalidTie "InvalidTie.__init__" = true)
    (kI_InvalidTie : PySem.W.keepIn K (.ref f_InvalidTie) = true)
    (aC_Contradiction : PySem.W.nsIn K mainGlobals "Contradiction" = some (some (.ref C_Contradiction)))
    (xL_Contradiction : K.lookup C_Contradiction = some (excClassObj nm_Contradiction q_Contradiction C_Contradiction N_Contradiction bs_Contradiction (.ref C_PourError :: veT) true sn_Contradiction sub_Contradiction ab_Contradiction col_Contradiction dd_Contradiction m0_Contradiction m1_Contradiction m2_Contradiction m3_Contradiction m5_Contradiction "ValueError.__new__"))
    (sa_Contradiction : PySem.W.findIn K (.ref C_Contradiction) "__setattr__" = some (some (.builtin "object.__setattr__")))
    (ga_Contradiction : PySem.W.findIn K (.ref C_Contradiction) "__getattribute__" = some (some (.builtin "BaseException.__getattribute__")))
    (gg_Contradiction : PySem.W.findIn K (.ref C_Contradiction) "__getattr__" = some none)
    (ha_Contradiction : PySem.W.findIn K (.ref C_Contradiction) "__class__" = some (some (.builtin "object.__class__")))
    (kC_Contradiction : PySem.W.keepIn K (.ref C_Contradiction) = true)
    (nf_Contradiction : PySem.W.findIn K (.ref C_Contradiction) "certificate" = some none)
    (iC_Contradiction : PySem.W.findIn K (.ref C_Contradiction) "__init__" = some (some (.ref f_Contradiction)))
    (tI_Contradiction : PySem.W.typeIn K (.ref f_Contradiction) = some (.type "function"))
    (lI_Contradiction : K.lookup f_Contradiction = some ⟨oc_Contradiction, od_Contradiction, .func (PySem.W.fnOf "__init__" "Contradiction.__init__" (defArgs s_Contradiction_init) (defBody s_Contradiction_init) (defScope s_Contradiction_init) .none kV_Contradiction doc_Contradiction pm_Contradiction an_Contradiction cd_Contradiction ct_Contradiction), sl_Contradiction⟩)
    (cI_Contradiction : PySem.W.codeIn K cd_Contradiction "Contradiction.__init__" = true)
    (kI_Contradiction : PySem.W.keepIn K (.ref f_Contradiction) = true)
    (aC_InvalidSymbol : PySem.W.nsIn K mainGlobals "InvalidSymbol" = some (some (.ref C_InvalidSymbol)))
    (xL_InvalidSymbol : K.lookup C_InvalidSymbol = some (excClassObj nm_InvalidSymbol q_InvalidSymbol C_InvalidSymbol N_InvalidSymbol bs_InvalidSymbol (.ref C_PourError :: veT) true sn_InvalidSymbol sub_InvalidSymbol ab_InvalidSymbol col_InvalidSymbol dd_InvalidSymbol m0_InvalidSymbol m1_InvalidSymbol m2_InvalidSymbol m3_InvalidSymbol m5_InvalidSymbol "ValueError.__new__"))
    (sa_InvalidSymbol : PySem.W.findIn K (.ref C_InvalidSymbol) "__setattr__" = some (some (.builtin "object.__setattr__")))
    (ga_InvalidSymbol : PySem.W.findIn K (.ref C_InvalidSymbol) "__getattribute__" = some (some (.builtin "BaseException.__getattribute__")))
    (gg_InvalidSymbol : PySem.W.findIn K (.ref C_InvalidSymbol) "__getattr__" = some none)
    (ha_InvalidSymbol : PySem.W.findIn K (.ref C_InvalidSymbol) "__class__" = some (some (.builtin "object.__class__")))
    (kC_InvalidSymbol : PySem.W.keepIn K (.ref C_InvalidSymbol) = true)
    (nf_InvalidSymbol : PySem.W.findIn K (.ref C_InvalidSymbol) "index" = some none)
    (iC_InvalidSymbol : PySem.W.findIn K (.ref C_InvalidSymbol) "__init__" = some (some (.ref f_InvalidSymbol)))
    (tI_InvalidSymbol : PySem.W.typeIn K (.ref f_InvalidSymbol) = some (.type "function"))
    (lI_InvalidSymbol : K.lookup f_InvalidSymbol = some ⟨oc_InvalidSymbol, od_InvalidSymbol, .func (PySem.W.fnOf "__init__" "InvalidSymbol.__init__" (defArgs s_InvalidSymbol_init) (defBody s_InvalidSymbol_init) (defScope s_InvalidSymbol_init) .none kV_InvalidSymbol doc_InvalidSymbol pm_InvalidSymbol an_InvalidSymbol cd_InvalidSymbol ct_InvalidSymbol), sl_InvalidSymbol⟩)
    (cI_InvalidSymbol : PySem.W.codeIn K cd_InvalidSymbol "InvalidSymbol.__init__" = true)
    (kI_InvalidSymbol : PySem.W.keepIn K (.ref f_InvalidSymbol) = true)
    (aC_InvalidNumber : PySem.W.nsIn K mainGlobals "InvalidNumber" = some (some (.ref C_InvalidNumber)))
    (xL_InvalidNumber : K.lookup C_InvalidNumber = some (excClassObj nm_InvalidNumber q_InvalidNumber C_InvalidNumber N_InvalidNumber bs_InvalidNumber (.ref C_PourError :: veT) true sn_InvalidNumber sub_InvalidNumber ab_InvalidNumber col_InvalidNumber dd_InvalidNumber m0_InvalidNumber m1_InvalidNumber m2_InvalidNumber m3_InvalidNumber m5_InvalidNumber "ValueError.__new__"))
    (sa_InvalidNumber : PySem.W.findIn K (.ref C_InvalidNumber) "__setattr__" = some (some (.builtin "object.__setattr__")))
    (ga_InvalidNumber : PySem.W.findIn K (.ref C_InvalidNumber) "__getattribute__" = some (some (.builtin "BaseException.__getattribute__")))
    (gg_InvalidNumber : PySem.W.findIn K (.ref C_InvalidNumber) "__getattr__" = some none)
    (ha_InvalidNumber : PySem.W.findIn K (.ref C_InvalidNumber) "__class__" = some (some (.builtin "object.__class__")))
    (kC_InvalidNumber : PySem.W.keepIn K (.ref C_InvalidNumber) = true)
    (nf_InvalidNumber : PySem.W.findIn K (.ref C_InvalidNumber) "number" = some none)
    (iC_InvalidNumber : PySem.W.findIn K (.ref C_InvalidNumber) "__init__" = some (some (.ref f_InvalidNumber)))
    (tI_InvalidNumber : PySem.W.typeIn K (.ref f_InvalidNumber) = some (.type "function"))
    (lI_InvalidNumber : K.lookup f_InvalidNumber = some ⟨oc_InvalidNumber, od_InvalidNumber, .func (PySem.W.fnOf "__init__" "InvalidNumber.__init__" (defArgs s_InvalidNumber_init) (defBody s_InvalidNumber_init) (defScope s_InvalidNumber_init) .none kV_InvalidNumber doc_InvalidNumber pm_InvalidNumber an_InvalidNumber cd_InvalidNumber ct_InvalidNumber), sl_InvalidNumber⟩)
    (cI_InvalidNumber : PySem.W.codeIn K cd_InvalidNumber "InvalidNumber.__init__" = true)
    (kI_InvalidNumber : PySem.W.keepIn K (.ref f_InvalidNumber) = true)
    (aC_InvalidText : PySem.W.nsIn K mainGlobals "InvalidText" = some (some (.ref C_InvalidText)))
    (xL_InvalidText : K.lookup C_InvalidText = some (excClassObj nm_InvalidText q_InvalidText C_InvalidText N_InvalidText bs_InvalidText (.ref C_PourError :: veT) true sn_InvalidText sub_InvalidText ab_InvalidText col_InvalidText dd_InvalidText m0_InvalidText m1_InvalidText m2_InvalidText m3_InvalidText m5_InvalidText "ValueError.__new__"))
    (sa_InvalidText : PySem.W.findIn K (.ref C_InvalidText) "__setattr__" = some (some (.builtin "object.__setattr__")))
    (ga_InvalidText : PySem.W.findIn K (.ref C_InvalidText) "__getattribute__" = some (some (.builtin "BaseException.__getattribute__")))
    (gg_InvalidText : PySem.W.findIn K (.ref C_InvalidText) "__getattr__" = some none)
    (ha_InvalidText : PySem.W.findIn K (.ref C_InvalidText) "__class__" = some (some (.builtin "object.__class__")))
    (kC_InvalidText : PySem.W.keepIn K (.ref C_InvalidText) = true)
    (nf_InvalidText : PySem.W.findIn K (.ref C_InvalidText) "line" = some none)
    (iC_InvalidText : PySem.W.findIn K (.ref C_InvalidText) "__init__" = some (some (.ref f_InvalidText)))
    (tI_InvalidText : PySem.W.typeIn K (.ref f_InvalidText) = some (.type "function"))
    (lI_InvalidText : K.lookup f_InvalidText = some ⟨oc_InvalidText, od_InvalidText, .func (PySem.W.fnOf "__init__" "InvalidText.__init__" (defArgs s_InvalidText_init) (defBody s_InvalidText_init) (defScope s_InvalidText_init) .none kV_InvalidText doc_InvalidText pm_InvalidText an_InvalidText cd_InvalidText ct_InvalidText), sl_InvalidText⟩)
    (cI_InvalidText : PySem.W.codeIn K cd_InvalidText "InvalidText.__init__" = true)
    (kI_InvalidText : PySem.W.keepIn K (.ref f_InvalidText) = true)
    (aC_InvalidForm : PySem.W.nsIn K mainGlobals "InvalidForm" = some (some (.ref C_InvalidForm)))
    (xL_InvalidForm : K.lookup C_InvalidForm = some (excClassObj nm_InvalidForm q_InvalidForm C_InvalidForm N_InvalidForm bs_InvalidForm (.ref C_PourError :: veT) true sn_InvalidForm sub_InvalidForm ab_InvalidForm col_InvalidForm dd_InvalidForm m0_InvalidForm m1_InvalidForm m2_InvalidForm m3_InvalidForm m5_InvalidForm "ValueError.__new__"))
    (sa_InvalidForm : PySem.W.findIn K (.ref C_InvalidForm) "__setattr__" = some (some (.builtin "object.__setattr__")))
    (ga_InvalidForm : PySem.W.findIn K (.ref C_InvalidForm) "__getattribute__" = some (some (.builtin "BaseException.__getattribute__")))
    (gg_InvalidForm : PySem.W.findIn K (.ref C_InvalidForm) "__getattr__" = some none)
    (ha_InvalidForm : PySem.W.findIn K (.ref C_InvalidForm) "__class__" = some (some (.builtin "object.__class__")))
    (kC_InvalidForm : PySem.W.keepIn K (.ref C_InvalidForm) = true)
    (xq_InvalidForm : PySem.W.excIn K C_InvalidForm [.type "ValueError", .type "Exception", .type "BaseException", .type "object"] "ValueError.__new__" = true)
    (aC_Mismatch : PySem.W.nsIn K mainGlobals "Mismatch" = some (some (.ref C_Mismatch)))
    (xL_Mismatch : K.lookup C_Mismatch = some (excClassObj nm_Mismatch q_Mismatch C_Mismatch N_Mismatch bs_Mismatch (.ref C_PourError :: veT) true sn_Mismatch sub_Mismatch ab_Mismatch col_Mismatch dd_Mismatch m0_Mismatch m1_Mismatch m2_Mismatch m3_Mismatch m5_Mismatch "ValueError.__new__"))
    (sa_Mismatch : PySem.W.findIn K (.ref C_Mismatch) "__setattr__" = some (some (.builtin "object.__setattr__")))
    (ga_Mismatch : PySem.W.findIn K (.ref C_Mismatch) "__getattribute__" = some (some (.builtin "BaseException.__getattribute__")))
    (gg_Mismatch : PySem.W.findIn K (.ref C_Mismatch) "__getattr__" = some none)
    (ha_Mismatch : PySem.W.findIn K (.ref C_Mismatch) "__class__" = some (some (.builtin "object.__class__")))
    (kC_Mismatch : PySem.W.keepIn K (.ref C_Mismatch) = true)
    (xq_Mismatch : PySem.W.excIn K C_Mismatch [.type "ValueError", .type "Exception", .type "BaseException", .type "object"] "ValueError.__new__" = true)
    (aC_PourError : PySem.W.nsIn K mainGlobals "PourError" = some (some (.ref C_PourError)))
    (xL_PourError : K.lookup C_PourError = some (excClassObj nm_PourError q_PourError C_PourError N_PourError bs_PourError veT true sn_PourError sub_PourError ab_PourError col_PourError dd_PourError m0_PourError m1_PourError m2_PourError m3_PourError m5_PourError "ValueError.__new__"))
    (sa_PourError : PySem.W.findIn K (.ref C_PourError) "__setattr__" = some (some (.builtin "object.__setattr__")))
    (ga_PourError : PySem.W.findIn K (.ref C_PourError) "__getattribute__" = some (some (.builtin "BaseException.__getattribute__")))
    (gg_PourError : PySem.W.findIn K (.ref C_PourError) "__getattr__" = some none)
    (ha_PourError : PySem.W.findIn K (.ref C_PourError) "__class__" = some (some (.builtin "object.__class__")))
    (kC_PourError : PySem.W.keepIn K (.ref C_PourError) = true)
    (xq_PourError : PySem.W.excIn K C_PourError [.type "ValueError", .type "Exception", .type "BaseException", .type "object"] "ValueError.__new__" = true)
    (rdP : PySem.W.readsIn K C_PourError (.type "type") = true)
    (gaP : PySem.W.specialIn K (.ref C_PourError) "__getattribute__" = some (some (.builtin "type.__getattribute__")))
    (fiP : PySem.W.findCls K (.ref C_PourError) (.type "type") "__init__" = some (.val (.builtin "ValueError.__init__")))
    (hnP : PySem.W.specialIn K (.builtin "object.__class__") "__get__" = some (some (.builtin "getset_descriptor.__get__")))
    (htP : PySem.W.takesIn K (.builtin "object.__class__") = some true)
    (ndP : ([C_PourError, C_InvalidName, C_DuplicateName, C_InvalidCapacity, C_InvalidAction, C_InvalidOutcome, C_InvalidTie, C_Contradiction, C_InvalidSymbol, C_InvalidNumber, C_InvalidText, C_InvalidForm, C_Mismatch] : List Addr).Nodup)
    (a_law_source : PySem.W.nsIn K mainGlobals "_law_source" = some (some (.ref f_law_source)))
    (l_law_source : K.lookup f_law_source = some ⟨oc_law_source, od_law_source, .func (PySem.W.fnOf "_law_source" "_law_source" (defArgs s_law_source) (defBody s_law_source) (defScope s_law_source) .none kV_law_source doc_law_source pm_law_source an_law_source cd_law_source ct_law_source), sl_law_source⟩)
    (q_law_source : PySem.W.codeIn K cd_law_source "_law_source" = true)
    (k_law_source : PySem.W.keepIn K (.ref f_law_source) = true)
    (a_law_draw : PySem.W.nsIn K mainGlobals "_law_draw" = some (some (.ref f_law_draw)))
    (l_law_draw : K.lookup f_law_draw = some ⟨oc_law_draw, od_law_draw, .func (PySem.W.fnOf "_law_draw" "_law_draw" (defArgs s_law_draw) (defBody s_law_draw) (defScope s_law_draw) .none kV_law_draw doc_law_draw pm_law_draw an_law_draw cd_law_draw ct_law_draw), sl_law_draw⟩)
    (q_law_draw : PySem.W.codeIn K cd_law_draw "_law_draw" = true)
    (k_law_draw : PySem.W.keepIn K (.ref f_law_draw) = true)
    (a_law_choice : PySem.W.nsIn K mainGlobals "_law_choice" = some (some (.ref f_law_choice)))
    (l_law_choice : K.lookup f_law_choice = some ⟨oc_law_choice, od_law_choice, .func (PySem.W.fnOf "_law_choice" "_law_choice" (defArgs s_law_choice) (defBody s_law_choice) (defScope s_law_choice) .none kV_law_choice doc_law_choice pm_law_choice an_law_choice cd_law_choice ct_law_choice), sl_law_choice⟩)
    (q_law_choice : PySem.W.codeIn K cd_law_choice "_law_choice" = true)
    (k_law_choice : PySem.W.keepIn K (.ref f_law_choice) = true)
    (a_law_is_name : PySem.W.nsIn K mainGlobals "_law_is_name" = some (some (.ref f_law_is_name)))
    (l_law_is_name : K.lookup f_law_is_name = some ⟨oc_law_is_name, od_law_is_name, .func (PySem.W.fnOf "_law_is_name" "_law_is_name" (defArgs s_law_is_name) (defBody s_law_is_name) (defScope s_law_is_name) .none kV_law_is_name doc_law_is_name pm_law_is_name an_law_is_name cd_law_is_name ct_law_is_name), sl_law_is_name⟩)
    (q_law_is_name : PySem.W.codeIn K cd_law_is_name "_law_is_name" = true)
    (k_law_is_name : PySem.W.keepIn K (.ref f_law_is_name) = true)
    (a_is_name : PySem.W.nsIn K mainGlobals "is_name" = some (some (.ref f_is_name)))
    (l_is_name : K.lookup f_is_name = some ⟨oc_is_name, od_is_name, .func (PySem.W.fnOf "is_name" "is_name" (defArgs s_is_name) (defBody s_is_name) (defScope s_is_name) .none kV_is_name doc_is_name pm_is_name an_is_name cd_is_name ct_is_name), sl_is_name⟩)
    (q_is_name : PySem.W.codeIn K cd_is_name "is_name" = true)
    (k_is_name : PySem.W.keepIn K (.ref f_is_name) = true)
    (a_law_text : PySem.W.nsIn K mainGlobals "_law_text" = some (some (.ref f_law_text)))
    (l_law_text : K.lookup f_law_text = some ⟨oc_law_text, od_law_text, .func (PySem.W.fnOf "_law_text" "_law_text" (defArgs s_law_text) (defBody s_law_text) (defScope s_law_text) .none kV_law_text doc_law_text pm_law_text an_law_text cd_law_text ct_law_text), sl_law_text⟩)
    (q_law_text : PySem.W.codeIn K cd_law_text "_law_text" = true)
    (k_law_text : PySem.W.keepIn K (.ref f_law_text) = true)
    (a_law_value : PySem.W.nsIn K mainGlobals "_law_value" = some (some (.ref f_law_value)))
    (l_law_value : K.lookup f_law_value = some ⟨oc_law_value, od_law_value, .func (PySem.W.fnOf "_law_value" "_law_value" (defArgs s_law_value) (defBody s_law_value) (defScope s_law_value) .none kV_law_value doc_law_value pm_law_value an_law_value cd_law_value ct_law_value), sl_law_value⟩)
    (q_law_value : PySem.W.codeIn K cd_law_value "_law_value" = true)
    (k_law_value : PySem.W.keepIn K (.ref f_law_value) = true)
    (a_law_fields : PySem.W.nsIn K mainGlobals "_law_fields" = some (some (.ref f_law_fields)))
    (l_law_fields : K.lookup f_law_fields = some ⟨oc_law_fields, od_law_fields, .func (PySem.W.fnOf "_law_fields" "_law_fields" (defArgs s_law_fields) (defBody s_law_fields) (defScope s_law_fields) .none kV_law_fields doc_law_fields pm_law_fields an_law_fields cd_law_fields ct_law_fields), sl_law_fields⟩)
    (q_law_fields : PySem.W.codeIn K cd_law_fields "_law_fields" = true)
    (k_law_fields : PySem.W.keepIn K (.ref f_law_fields) = true)
    (a_law_kinds : PySem.W.nsIn K mainGlobals "_law_kinds" = some (some (.ref f_law_kinds)))
    (l_law_kinds : K.lookup f_law_kinds = some ⟨oc_law_kinds, od_law_kinds, .func (PySem.W.fnOf "_law_kinds" "_law_kinds" (defArgs s_law_kinds) (defBody s_law_kinds) (defScope s_law_kinds) .none kV_law_kinds doc_law_kinds pm_law_kinds an_law_kinds cd_law_kinds ct_law_kinds), sl_law_kinds⟩)
    (q_law_kinds : PySem.W.codeIn K cd_law_kinds "_law_kinds" = true)
    (k_law_kinds : PySem.W.keepIn K (.ref f_law_kinds) = true)
    (a_law : PySem.W.nsIn K mainGlobals "law" = some (some (.ref f_law)))
    (l_law : K.lookup f_law = some ⟨oc_law, od_law, .func (PySem.W.fnOf "law" "law" (defArgs s_law) (defBody s_law) (defScope s_law) .none kV_law doc_law pm_law an_law cd_law ct_law), sl_law⟩)
    (q_law : PySem.W.codeIn K cd_law "law" = true)
    (k_law : PySem.W.keepIn K (.ref f_law) = true) : LawAtG l w K CX0 5 63 "_law_script" mg fa h := by
  have ea := hfa.symm.trans (PySem.W.mg_of X G a_law)
  cases ea
  have X_InvalidName : XCls K C_InvalidName (.ref C_PourError :: veT) := xcls_mk xL_InvalidName (by first | rfl | decide +kernel) sa_InvalidName ga_InvalidName gg_InvalidName ha_InvalidName kC_InvalidName
  have X_DuplicateName : XCls K C_DuplicateName (.ref C_PourError :: veT) := xcls_mk xL_DuplicateName (by first | rfl | decide +kernel) sa_DuplicateName ga_DuplicateName gg_DuplicateName ha_DuplicateName kC_DuplicateName
  have X_InvalidCapacity : XCls K C_InvalidCapacity (.ref C_PourError :: veT) := xcls_mk xL_InvalidCapacity (by first | rfl | decide +kernel) sa_InvalidCapacity ga_InvalidCapacity gg_InvalidCapacity ha_InvalidCapacity kC_InvalidCapacity
  have X_InvalidAction : XCls K C_InvalidAction (.ref C_PourError :: veT) := xcls_mk xL_InvalidAction (by first | rfl | decide +kernel) sa_InvalidAction ga_InvalidAction gg_InvalidAction ha_InvalidAction kC_InvalidAction
  have X_InvalidOutcome : XCls K C_InvalidOutcome (.ref C_PourError :: veT) := xcls_mk xL_InvalidOutcome (by first | rfl | decide +kernel) sa_InvalidOutcome ga_InvalidOutcome gg_InvalidOutcome ha_InvalidOutcome kC_InvalidOutcome
  have X_InvalidTie : XCls K C_InvalidTie (.ref C_PourError :: veT) := xcls_mk xL_InvalidTie (by first | rfl | decide +kernel) sa_InvalidTie ga_InvalidTie gg_InvalidTie ha_InvalidTie kC_InvalidTie
  have X_Contradiction : XCls K C_Contradiction (.ref C_PourError :: veT) := xcls_mk xL_Contradiction (by first | rfl | decide +kernel) sa_Contradiction ga_Contradiction gg_Contradiction ha_Contradiction kC_Contradiction
  have X_InvalidSymbol : XCls K C_InvalidSymbol (.ref C_PourError :: veT) := xcls_mk xL_InvalidSymbol (by first | rfl | decide +kernel) sa_InvalidSymbol ga_InvalidSymbol gg_InvalidSymbol ha_InvalidSymbol kC_InvalidSymbol
  have X_InvalidNumber : XCls K C_InvalidNumber (.ref C_PourError :: veT) := xcls_mk xL_InvalidNumber (by first | rfl | decide +kernel) sa_InvalidNumber ga_InvalidNumber gg_InvalidNumber ha_InvalidNumber kC_InvalidNumber
  have X_InvalidText : XCls K C_InvalidText (.ref C_PourError :: veT) := xcls_mk xL_InvalidText (by first | rfl | decide +kernel) sa_InvalidText ga_InvalidText gg_InvalidText ha_InvalidText kC_InvalidText
  have X_InvalidForm : XCls K C_InvalidForm (.ref C_PourError :: veT) := xcls_mk xL_InvalidForm (by first | rfl | decide +kernel) sa_InvalidForm ga_InvalidForm gg_InvalidForm ha_InvalidForm kC_InvalidForm
  have X_Mismatch : XCls K C_Mismatch (.ref C_PourError :: veT) := xcls_mk xL_Mismatch (by first | rfl | decide +kernel) sa_Mismatch ga_Mismatch gg_Mismatch ha_Mismatch kC_Mismatch
  have X_PourError : XCls K C_PourError veT := xcls_mk xL_PourError (by first | rfl | decide +kernel) sa_PourError ga_PourError gg_PourError ha_PourError kC_PourError
  let C : Cs := ⟨C_InvalidName, C_DuplicateName, C_InvalidCapacity, C_InvalidAction, C_InvalidOutcome, C_InvalidTie, C_Contradiction, C_InvalidSymbol, C_InvalidNumber, C_InvalidText, C_InvalidForm, C_Mismatch, C_PourError⟩
  have T : Txt K mg C := { b_ValueError := PySem.W.mg_none_of X G z_ValueError, b_all := PySem.W.mg_none_of X G z_all, b_enumerate := PySem.W.mg_none_of X G z_enumerate, b_isinstance := PySem.W.mg_none_of X G z_isinstance, b_len := PySem.W.mg_none_of X G z_len, b_range := PySem.W.mg_none_of X G z_range, b_repr := PySem.W.mg_none_of X G z_repr, b_str := PySem.W.mg_none_of X G z_str, g_LETTERS := ⟨_, PySem.W.mg_of X G gl_LETTERS, ⟨tk_LETTERS, rfl⟩⟩, g_LONGEST_NAME := ⟨_, PySem.W.mg_of X G gl_LONGEST_NAME, ⟨tk_LONGEST_NAME, rfl⟩⟩, k_InvalidForm := kC_InvalidForm, k_Mismatch := kC_Mismatch, k_PourError := kC_PourError, m_Contradiction := PySem.W.mg_of X G aC_Contradiction, m_DuplicateName := PySem.W.mg_of X G aC_DuplicateName, m_InvalidAction := PySem.W.mg_of X G aC_InvalidAction, m_InvalidCapacity := PySem.W.mg_of X G aC_InvalidCapacity, m_InvalidForm := PySem.W.mg_of X G aC_InvalidForm, m_InvalidName := PySem.W.mg_of X G aC_InvalidName, m_InvalidNumber := PySem.W.mg_of X G aC_InvalidNumber, m_InvalidOutcome := PySem.W.mg_of X G aC_InvalidOutcome, m_InvalidSymbol := PySem.W.mg_of X G aC_InvalidSymbol, m_InvalidText := PySem.W.mg_of X G aC_InvalidText, m_InvalidTie := PySem.W.mg_of X G aC_InvalidTie, m_Mismatch := PySem.W.mg_of X G aC_Mismatch, m_PourError := PySem.W.mg_of X G aC_PourError, xq_InvalidForm := xq_InvalidForm, xq_Mismatch := xq_Mismatch, xq_PourError := xq_PourError, cr := ⟨rdP, gaP⟩, fi := fiP, ok := { all := (fun D hD => by simp only [cls12, List.mem_cons, List.not_mem_nil, or_false] at hD; rcases hD with rfl | rfl | rfl | rfl | rfl | rfl | rfl | rfl | rfl | rfl | rfl | rfl <;> first | exact X_InvalidName | exact X_DuplicateName | exact X_InvalidCapacity | exact X_InvalidAction | exact X_InvalidOutcome | exact X_InvalidTie | exact X_Contradiction | exact X_InvalidSymbol | exact X_InvalidNumber | exact X_InvalidText | exact X_InvalidForm | exact X_Mismatch), pe := X_PourError, kit := ⟨hnP, htP⟩, nd := ndP, f1 := nf_InvalidName, f2 := nf_DuplicateName, f3 := nf_InvalidCapacity, f4 := nf_InvalidAction, f5 := nf_InvalidOutcome, f6 := nf_InvalidTie, f7 := nf_Contradiction, f8 := nf_InvalidSymbol, f9 := nf_InvalidNumber, f10 := nf_InvalidText } }
  have F_InvalidName := fun_mk (st := s_InvalidName_init) lI_InvalidName cI_InvalidName kI_InvalidName
  have B_InvalidName := F_InvalidName.binds (ps := ["self", "name"]) fun _ _ _ _ _ _ us hl => match us, hl with | [_, _], _ => rfl
  have BK_InvalidName := Fun.kbn (n := 1) (ks := ["name"]) (ps := ["self", "name"]) (g := fun us ws => us ++ ws) (gV := fun vs zs => vs ++ zs) F_InvalidName (fun _ _ _ _ _ _ us ws h1 h2 => match us, ws, h1, h2 with | [_], [_], _, _ => rfl) (fun r1 r2 => r1.append r2)
  have F_DuplicateName := fun_mk (st := s_DuplicateName_init) lI_DuplicateName cI_DuplicateName kI_DuplicateName
  have B_DuplicateName := F_DuplicateName.binds (ps := ["self", "name"]) fun _ _ _ _ _ _ us hl => match us, hl with | [_, _], _ => rfl
  have BK_DuplicateName := Fun.kbn (n := 1) (ks := ["name"]) (ps := ["self", "name"]) (g := fun us ws => us ++ ws) (gV := fun vs zs => vs ++ zs) F_DuplicateName (fun _ _ _ _ _ _ us ws h1 h2 => match us, ws, h1, h2 with | [_], [_], _, _ => rfl) (fun r1 r2 => r1.append r2)
  have F_InvalidCapacity := fun_mk (st := s_InvalidCapacity_init) lI_InvalidCapacity cI_InvalidCapacity kI_InvalidCapacity
  have B_InvalidCapacity := F_InvalidCapacity.binds (ps := ["self", "name"]) fun _ _ _ _ _ _ us hl => match us, hl with | [_, _], _ => rfl
  have BK_InvalidCapacity := Fun.kbn (n := 1) (ks := ["name"]) (ps := ["self", "name"]) (g := fun us ws => us ++ ws) (gV := fun vs zs => vs ++ zs) F_InvalidCapacity (fun _ _ _ _ _ _ us ws h1 h2 => match us, ws, h1, h2 with | [_], [_], _, _ => rfl) (fun r1 r2 => r1.append r2)
  have F_InvalidAction := fun_mk (st := s_InvalidAction_init) lI_InvalidAction cI_InvalidAction kI_InvalidAction
  have B_InvalidAction := F_InvalidAction.binds (ps := ["self", "index"]) fun _ _ _ _ _ _ us hl => match us, hl with | [_, _], _ => rfl
  have BK_InvalidAction := Fun.kbn (n := 1) (ks := ["index"]) (ps := ["self", "index"]) (g := fun us ws => us ++ ws) (gV := fun vs zs => vs ++ zs) F_InvalidAction (fun _ _ _ _ _ _ us ws h1 h2 => match us, ws, h1, h2 with | [_], [_], _, _ => rfl) (fun r1 r2 => r1.append r2)
  have F_InvalidOutcome := fun_mk (st := s_InvalidOutcome_init) lI_InvalidOutcome cI_InvalidOutcome kI_InvalidOutcome
  have B_InvalidOutcome := F_InvalidOutcome.binds (ps := ["self", "index"]) fun _ _ _ _ _ _ us hl => match us, hl with | [_, _], _ => rfl
  have BK_InvalidOutcome := Fun.kbn (n := 1) (ks := ["index"]) (ps := ["self", "index"]) (g := fun us ws => us ++ ws) (gV := fun vs zs => vs ++ zs) F_InvalidOutcome (fun _ _ _ _ _ _ us ws h1 h2 => match us, ws, h1, h2 with | [_], [_], _, _ => rfl) (fun r1 r2 => r1.append r2)
  have F_InvalidTie := fun_mk (st := s_InvalidTie_init) lI_InvalidTie cI_InvalidTie kI_InvalidTie
  have B_InvalidTie := F_InvalidTie.binds (ps := ["self", "index"]) fun _ _ _ _ _ _ us hl => match us, hl with | [_, _], _ => rfl
  have BK_InvalidTie := Fun.kbn (n := 1) (ks := ["index"]) (ps := ["self", "index"]) (g := fun us ws => us ++ ws) (gV := fun vs zs => vs ++ zs) F_InvalidTie (fun _ _ _ _ _ _ us ws h1 h2 => match us, ws, h1, h2 with | [_], [_], _, _ => rfl) (fun r1 r2 => r1.append r2)
  have F_Contradiction := fun_mk (st := s_Contradiction_init) lI_Contradiction cI_Contradiction kI_Contradiction
  have B_Contradiction := F_Contradiction.binds (ps := ["self", "certificate"]) fun _ _ _ _ _ _ us hl => match us, hl with | [_, _], _ => rfl
  have BK_Contradiction := Fun.kbn (n := 1) (ks := ["certificate"]) (ps := ["self", "certificate"]) (g := fun us ws => us ++ ws) (gV := fun vs zs => vs ++ zs) F_Contradiction (fun _ _ _ _ _ _ us ws h1 h2 => match us, ws, h1, h2 with | [_], [_], _, _ => rfl) (fun r1 r2 => r1.append r2)
  have F_InvalidSymbol := fun_mk (st := s_InvalidSymbol_init) lI_InvalidSymbol cI_InvalidSymbol kI_InvalidSymbol
  have B_InvalidSymbol := F_InvalidSymbol.binds (ps := ["self", "index"]) fun _ _ _ _ _ _ us hl => match us, hl with | [_, _], _ => rfl
  have BK_InvalidSymbol := Fun.kbn (n := 1) (ks := ["index"]) (ps := ["self", "index"]) (g := fun us ws => us ++ ws) (gV := fun vs zs => vs ++ zs) F_InvalidSymbol (fun _ _ _ _ _ _ us ws h1 h2 => match us, ws, h1, h2 with | [_], [_], _, _ => rfl) (fun r1 r2 => r1.append r2)
  have F_InvalidNumber := fun_mk (st := s_InvalidNumber_init) lI_InvalidNumber cI_InvalidNumber kI_InvalidNumber
  have B_InvalidNumber := F_InvalidNumber.binds (ps := ["self", "number"]) fun _ _ _ _ _ _ us hl => match us, hl with | [_, _], _ => rfl
  have BK_InvalidNumber := Fun.kbn (n := 1) (ks := ["number"]) (ps := ["self", "number"]) (g := fun us ws => us ++ ws) (gV := fun vs zs => vs ++ zs) F_InvalidNumber (fun _ _ _ _ _ _ us ws h1 h2 => match us, ws, h1, h2 with | [_], [_], _, _ => rfl) (fun r1 r2 => r1.append r2)
  have F_InvalidText := fun_mk (st := s_InvalidText_init) lI_InvalidText cI_InvalidText kI_InvalidText
  have B_InvalidText := F_InvalidText.binds (ps := ["self", "line"]) fun _ _ _ _ _ _ us hl => match us, hl with | [_, _], _ => rfl
  have BK_InvalidText := Fun.kbn (n := 1) (ks := ["line"]) (ps := ["self", "line"]) (g := fun us ws => us ++ ws) (gV := fun vs zs => vs ++ zs) F_InvalidText (fun _ _ _ _ _ _ us ws h1 h2 => match us, ws, h1, h2 with | [_], [_], _, _ => rfl) (fun r1 r2 => r1.append r2)
  have F_law_source := fun_mk (st := s_law_source) l_law_source q_law_source k_law_source
  have B_law_source := F_law_source.binds (ps := ["_law_script"]) fun _ _ _ _ _ _ us hl => match us, hl with | [_], _ => rfl
  have F_law_draw := fun_mk (st := s_law_draw) l_law_draw q_law_draw k_law_draw
  have B_law_draw := F_law_draw.binds (ps := ["_law_source_here", "_law_bound"]) fun _ _ _ _ _ _ us hl => match us, hl with | [_, _], _ => rfl
  have F_law_choice := fun_mk (st := s_law_choice) l_law_choice q_law_choice k_law_choice
  have B_law_choice := F_law_choice.binds (ps := ["_law_source_here", "_law_options"]) fun _ _ _ _ _ _ us hl => match us, hl with | [_, _], _ => rfl
  have F_law_is_name := fun_mk (st := s_law_is_name) l_law_is_name q_law_is_name k_law_is_name
  have B_law_is_name := F_law_is_name.binds (ps := ["_law_item"]) fun _ _ _ _ _ _ us hl => match us, hl with | [_], _ => rfl
  have F_is_name := fun_mk (st := s_is_name) l_is_name q_is_name k_is_name
  have B_is_name := F_is_name.binds (ps := ["value"]) fun _ _ _ _ _ _ us hl => match us, hl with | [_], _ => rfl
  have F_law_text := fun_mk (st := s_law_text) l_law_text q_law_text k_law_text
  have B_law_text := F_law_text.binds (ps := ["_law_source_here"]) fun _ _ _ _ _ _ us hl => match us, hl with | [_], _ => rfl
  have F_law_value := fun_mk (st := s_law_value) l_law_value q_law_value k_law_value
  have B_law_value := F_law_value.binds (ps := ["_law_source_here"]) fun _ _ _ _ _ _ us hl => match us, hl with | [_], _ => rfl
  have F_law_fields := fun_mk (st := s_law_fields) l_law_fields q_law_fields k_law_fields
  have B_law_fields := F_law_fields.binds (ps := []) fun _ _ _ _ _ _ us hl => match us, hl with | [], _ => rfl
  have F_law_kinds := fun_mk (st := s_law_kinds) l_law_kinds q_law_kinds k_law_kinds
  have B_law_kinds := F_law_kinds.binds (ps := ["_law_error"]) fun _ _ _ _ _ _ us hl => match us, hl with | [_], _ => rfl
  have F_law := fun_mk (st := s_law) l_law q_law k_law
  refine ⟨PySem.W.fnOf "law" "law" (defArgs s_law) (defBody s_law) (defScope s_law) .none kV_law doc_law pm_law an_law cd_law ct_law, [], (sp_law K), (fun p hp => by simp at hp), fun s v => .of_eq rfl, fun H a ns hn hb _ hS => ⟨a, ns, rfl, hS, hn, fun _ => rfl⟩, fun base _ _ _ => ?_⟩
  have O_InvalidName := ok_InvalidName_init (P := l.prog) (w := w) (base := base) F_InvalidName T
  have E_InvalidName := calE_of X_InvalidName iC_InvalidName tI_InvalidName O_InvalidName B_InvalidName T.m_InvalidName
  have EK_InvalidName := calEK_of X_InvalidName iC_InvalidName tI_InvalidName O_InvalidName (PySem.W.mg_of X G aC_InvalidName) BK_InvalidName
  have O_DuplicateName := ok_DuplicateName_init (P := l.prog) (w := w) (base := base) F_DuplicateName T
  have E_DuplicateName := calE_of X_DuplicateName iC_DuplicateName tI_DuplicateName O_DuplicateName B_DuplicateName T.m_DuplicateName
  have EK_DuplicateName := calEK_of X_DuplicateName iC_DuplicateName tI_DuplicateName O_DuplicateName (PySem.W.mg_of X G aC_DuplicateName) BK_DuplicateName
  have O_InvalidCapacity := ok_InvalidCapacity_init (P := l.prog) (w := w) (base := base) F_InvalidCapacity T
  have E_InvalidCapacity := calE_of X_InvalidCapacity iC_InvalidCapacity tI_InvalidCapacity O_InvalidCapacity B_InvalidCapacity T.m_InvalidCapacity
  have EK_InvalidCapacity := calEK_of X_InvalidCapacity iC_InvalidCapacity tI_InvalidCapacity O_InvalidCapacity (PySem.W.mg_of X G aC_InvalidCapacity) BK_InvalidCapacity
  have O_InvalidAction := ok_InvalidAction_init (P := l.prog) (w := w) (base := base) F_InvalidAction T
  have E_InvalidAction := calE_of X_InvalidAction iC_InvalidAction tI_InvalidAction O_InvalidAction B_InvalidAction T.m_InvalidAction
  have EK_InvalidAction := calEK_of X_InvalidAction iC_InvalidAction tI_InvalidAction O_InvalidAction (PySem.W.mg_of X G aC_InvalidAction) BK_InvalidAction
  have O_InvalidOutcome := ok_InvalidOutcome_init (P := l.prog) (w := w) (base := base) F_InvalidOutcome T
  have E_InvalidOutcome := calE_of X_InvalidOutcome iC_InvalidOutcome tI_InvalidOutcome O_InvalidOutcome B_InvalidOutcome T.m_InvalidOutcome
  have EK_InvalidOutcome := calEK_of X_InvalidOutcome iC_InvalidOutcome tI_InvalidOutcome O_InvalidOutcome (PySem.W.mg_of X G aC_InvalidOutcome) BK_InvalidOutcome
  have O_InvalidTie := ok_InvalidTie_init (P := l.prog) (w := w) (base := base) F_InvalidTie T
  have E_InvalidTie := calE_of X_InvalidTie iC_InvalidTie tI_InvalidTie O_InvalidTie B_InvalidTie T.m_InvalidTie
  have EK_InvalidTie := calEK_of X_InvalidTie iC_InvalidTie tI_InvalidTie O_InvalidTie (PySem.W.mg_of X G aC_InvalidTie) BK_InvalidTie
  have O_Contradiction := ok_Contradiction_init (P := l.prog) (w := w) (base := base) F_Contradiction T
  have E_Contradiction := calE_of X_Contradiction iC_Contradiction tI_Contradiction O_Contradiction B_Contradiction T.m_Contradiction
  have EK_Contradiction := calEK_of X_Contradiction iC_Contradiction tI_Contradiction O_Contradiction (PySem.W.mg_of X G aC_Contradiction) BK_Contradiction
  have O_InvalidSymbol := ok_InvalidSymbol_init (P := l.prog) (w := w) (base := base) F_InvalidSymbol T
  have E_InvalidSymbol := calE_of X_InvalidSymbol iC_InvalidSymbol tI_InvalidSymbol O_InvalidSymbol B_InvalidSymbol T.m_InvalidSymbol
  have EK_InvalidSymbol := calEK_of X_InvalidSymbol iC_InvalidSymbol tI_InvalidSymbol O_InvalidSymbol (PySem.W.mg_of X G aC_InvalidSymbol) BK_InvalidSymbol
  have O_InvalidNumber := ok_InvalidNumber_init (P := l.prog) (w := w) (base := base) F_InvalidNumber T
  have E_InvalidNumber := calE_of X_InvalidNumber iC_InvalidNumber tI_InvalidNumber O_InvalidNumber B_InvalidNumber T.m_InvalidNumber
  have EK_InvalidNumber := calEK_of X_InvalidNumber iC_InvalidNumber tI_InvalidNumber O_InvalidNumber (PySem.W.mg_of X G aC_InvalidNumber) BK_InvalidNumber
  have O_InvalidText := ok_InvalidText_init (P := l.prog) (w := w) (base := base) F_InvalidText T
  have E_InvalidText := calE_of X_InvalidText iC_InvalidText tI_InvalidText O_InvalidText B_InvalidText T.m_InvalidText
  have EK_InvalidText := calEK_of X_InvalidText iC_InvalidText tI_InvalidText O_InvalidText (PySem.W.mg_of X G aC_InvalidText) BK_InvalidText
  have O_law_source := ok_law_source (P := l.prog) (w := w) (base := base) F_law_source T 
  have Q_law_source := cal_of O_law_source (PySem.W.mg_of X G a_law_source) k_law_source B_law_source
  have O_law_draw := ok_law_draw (P := l.prog) (w := w) (base := base) F_law_draw T 
  have Q_law_draw := cal_of O_law_draw (PySem.W.mg_of X G a_law_draw) k_law_draw B_law_draw
  have O_law_choice := ok_law_choice (P := l.prog) (w := w) (base := base) F_law_choice T Q_law_draw
  have Q_law_choice := cal_of O_law_choice (PySem.W.mg_of X G a_law_choice) k_law_choice B_law_choice
  have O_law_is_name := ok_law_is_name (P := l.prog) (w := w) (base := base) F_law_is_name T 
  have Q_law_is_name := cal_of O_law_is_name (PySem.W.mg_of X G a_law_is_name) k_law_is_name B_law_is_name
  have O_is_name := ok_is_name (P := l.prog) (w := w) (base := base) F_is_name T 
  have Q_is_name := cal_of O_is_name (PySem.W.mg_of X G a_is_name) k_is_name B_is_name
  have O_law_text := ok_law_text (P := l.prog) (w := w) (base := base) F_law_text T Q_law_draw Q_law_choice
  have Q_law_text := cal_of O_law_text (PySem.W.mg_of X G a_law_text) k_law_text B_law_text
  have O_law_value := ok_law_value (P := l.prog) (w := w) (base := base) F_law_value T Q_law_text Q_law_choice
  have Q_law_value := cal_of O_law_value (PySem.W.mg_of X G a_law_value) k_law_value B_law_value
  have O_law_fields := ok_law_fields (P := l.prog) (w := w) (base := base) F_law_fields T E_DuplicateName E_InvalidName E_InvalidAction E_InvalidCapacity E_InvalidTie E_InvalidOutcome E_InvalidSymbol E_Contradiction E_InvalidText E_InvalidNumber EK_InvalidCapacity EK_DuplicateName EK_InvalidName EK_InvalidTie EK_InvalidOutcome EK_InvalidAction EK_InvalidSymbol EK_Contradiction EK_InvalidText EK_InvalidNumber
  have Q_law_fields := cal_of O_law_fields (PySem.W.mg_of X G a_law_fields) k_law_fields B_law_fields
  have O_law_kinds := ok_law_kinds (P := l.prog) (w := w) (base := base) F_law_kinds T 
  have Q_law_kinds := cal_of O_law_kinds (PySem.W.mg_of X G a_law_kinds) k_law_kinds B_law_kinds
  exact ok_law F_law T Q_law_source Q_law_value Q_law_is_name Q_is_name Q_law_fields Q_law_kinds (calK_of O_is_name (PySem.W.mg_of X G a_is_name) k_is_name (Fun.kbn (n := 0) (ks := ["value"]) (ps := ["value"]) (g := (fun _ ws => ws)) (gV := (fun _ zs => zs)) F_is_name (fun _ _ _ _ _ _ us ws h1 h2 => match us, ws, h1, h2 with | [], [_], _, _ => rfl) (fun _ r2 => r2)))
end BL
open PySem PySem.W PyProof.Rows
set_option maxRecDepth 100000 in
set_option maxHeartbeats 0 in
theorem PySem.Challenge.cw_blindpour_k01_names_and_exceptions_holds : PySem.Challenge.rw_blindpour_k01_names_and_exceptions.Holds := by
  w_on; o_law; k_head; (case hw => w_witness2)
  k_fill
  refine BL.walk_ofG (l := PySem.Challenge.rw_blindpour_k01_names_and_exceptions) (n := 63) (k := 5) (x := "_law_script") (CX := fun _ => L2.CX0) rfl (by decide) rfl ⟨rfl, by decide, by decide⟩ (fun w h Y => PySem.W.kIn_of Y) ?F (fun _ _ _ _ _ z => z)
  case F =>
    intro w mg fa h Y KX G hmg
    refine' BL.all_mk KX G hmg ?z_ValueError ?z_all ?z_enumerate ?z_isinstance ?z_len ?z_range ?z_repr ?z_str ?gl_LETTERS ?gl_LONGEST_NAME ?aC_InvalidName ?xL_InvalidName ?sa_InvalidName ?ga_InvalidName ?gg_InvalidName ?ha_InvalidName ?kC_InvalidName ?nf_InvalidName ?iC_InvalidName ?tI_InvalidName ?lI_InvalidName ?cI_InvalidName ?kI_InvalidName ?aC_DuplicateName ?xL_DuplicateName ?sa_DuplicateName ?ga_DuplicateName ?gg_DuplicateName ?ha_DuplicateName ?kC_DuplicateName ?nf_DuplicateName ?iC_DuplicateName ?tI_DuplicateName ?lI_DuplicateName ?cI_DuplicateName ?kI_DuplicateName ?aC_InvalidCapacity ?xL_InvalidCapacity ?sa_InvalidCapacity ?ga_InvalidCapacity ?gg_InvalidCapacity ?ha_InvalidCapacity ?kC_InvalidCapacity ?nf_InvalidCapacity ?iC_InvalidCapacity ?tI_InvalidCapacity ?lI_InvalidCapacity ?cI_InvalidCapacity ?kI_InvalidCapacity ?aC_InvalidAction ?xL_InvalidAction ?sa_InvalidAction ?ga_InvalidAction ?gg_InvalidAction ?ha_InvalidAction ?kC_InvalidAction ?nf_InvalidAction ?iC_InvalidAction ?tI_InvalidAction ?lI_InvalidAction ?cI_InvalidAction ?kI_InvalidAction ?aC_InvalidOutcome ?xL_InvalidOutcome ?sa_InvalidOutcome ?ga_InvalidOutcome ?gg_InvalidOutcome ?ha_InvalidOutcome ?kC_InvalidOutcome ?nf_InvalidOutcome ?iC_InvalidOutcome ?tI_InvalidOutcome ?lI_InvalidOutcome ?cI_InvalidOutcome ?kI_InvalidOutcome ?aC_InvalidTie ?xL_InvalidTie ?sa_InvalidTie ?ga_InvalidTie ?gg_InvalidTie ?ha_InvalidTie ?kC_InvalidTie ?nf_InvalidTie ?iC_InvalidTie ?tI_InvalidTie ?lI_InvalidTie ?cI_InvalidTie ?kI_InvalidTie ?aC_Contradiction ?xL_Contradiction ?sa_Contradiction ?ga_Contradiction ?gg_Contradiction ?ha_Contradiction ?kC_Contradiction ?nf_Contradiction ?iC_Contradiction ?tI_Contradiction ?lI_Contradiction ?cI_Contradiction ?kI_Contradiction ?aC_InvalidSymbol ?xL_InvalidSymbol ?sa_InvalidSymbol ?ga_InvalidSymbol ?gg_InvalidSymbol ?ha_InvalidSymbol ?kC_InvalidSymbol ?nf_InvalidSymbol ?iC_InvalidSymbol ?tI_InvalidSymbol ?lI_InvalidSymbol ?cI_InvalidSymbol ?kI_InvalidSymbol ?aC_InvalidNumber ?xL_InvalidNumber ?sa_InvalidNumber ?ga_InvalidNumber ?gg_InvalidNumber ?ha_InvalidNumber ?kC_InvalidNumber ?nf_InvalidNumber ?iC_InvalidNumber ?tI_InvalidNumber ?lI_InvalidNumber ?cI_InvalidNumber ?kI_InvalidNumber ?aC_InvalidText ?xL_InvalidText ?sa_InvalidText ?ga_InvalidText ?gg_InvalidText ?ha_InvalidText ?kC_InvalidText ?nf_InvalidText ?iC_InvalidText ?tI_InvalidText ?lI_InvalidText ?cI_InvalidText ?kI_InvalidText ?aC_InvalidForm ?xL_InvalidForm ?sa_InvalidForm ?ga_InvalidForm ?gg_InvalidForm ?ha_InvalidForm ?kC_InvalidForm ?xq_InvalidForm ?aC_Mismatch ?xL_Mismatch ?sa_Mismatch ?ga_Mismatch ?gg_Mismatch ?ha_Mismatch ?kC_Mismatch ?xq_Mismatch ?aC_PourError ?xL_PourError ?sa_PourError ?ga_PourError ?gg_PourError ?ha_PourError ?kC_PourError ?xq_PourError ?rdP ?gaP ?fiP ?hnP ?htP ?ndP ?a_law_source ?l_law_source ?q_law_source ?k_law_source ?a_law_draw ?l_law_draw ?q_law_draw ?k_law_draw ?a_law_choice ?l_law_choice ?q_law_choice ?k_law_choice ?a_law_is_name ?l_law_is_name ?q_law_is_name ?k_law_is_name ?a_is_name ?l_is_name ?q_is_name ?k_is_name ?a_law_text ?l_law_text ?q_law_text ?k_law_text ?a_law_value ?l_law_value ?q_law_value ?k_law_value ?a_law_fields ?l_law_fields ?q_law_fields ?k_law_fields ?a_law_kinds ?l_law_kinds ?q_law_kinds ?k_law_kinds ?a_law ?l_law ?q_law ?k_law
    case z_ValueError => first | k_is | k_exc | decide +kernel | rfl
    case z_all => first | k_is | k_exc | decide +kernel | rfl
    case z_enumerate => first | k_is | k_exc | decide +kernel | rfl
    case z_isinstance => first | k_is | k_exc | decide +kernel | rfl
    case z_len => first | k_is | k_exc | decide +kernel | rfl
    case z_range => first | k_is | k_exc | decide +kernel | rfl
    case z_repr => first | k_is | k_exc | decide +kernel | rfl
    case z_str => first | k_is | k_exc | decide +kernel | rfl
    case gl_LETTERS => first | k_is | k_exc | decide +kernel | rfl
    case gl_LONGEST_NAME => first | k_is | k_exc | decide +kernel | rfl
    case aC_InvalidName => first | k_is | k_exc | decide +kernel | rfl
    case xL_InvalidName => first | k_is | k_exc | decide +kernel | rfl
    case sa_InvalidName => first | k_is | k_exc | decide +kernel | rfl
    case ga_InvalidName => first | k_is | k_exc | decide +kernel | rfl
    case gg_InvalidName => first | k_is | k_exc | decide +kernel | rfl
    case ha_InvalidName => first | k_is | k_exc | decide +kernel | rfl
    case kC_InvalidName => first | k_is | k_exc | decide +kernel | rfl
    case nf_InvalidName => first | k_is | k_exc | decide +kernel | rfl
    case iC_InvalidName => first | k_is | k_exc | decide +kernel | rfl
    case tI_InvalidName => first | k_is | k_exc | decide +kernel | rfl
    case lI_InvalidName => first | k_is | k_exc | decide +kernel | rfl
    case cI_InvalidName => first | k_is | k_exc | decide +kernel | rfl
    case kI_InvalidName => first | k_is | k_exc | decide +kernel | rfl
    case aC_DuplicateName => first | k_is | k_exc | decide +kernel | rfl
    case xL_DuplicateName => first | k_is | k_exc | decide +kernel | rfl
    case sa_DuplicateName => first | k_is | k_exc | decide +kernel | rfl
    case ga_DuplicateName => first | k_is | k_exc | decide +kernel | rfl
    case gg_DuplicateName => first | k_is | k_exc | decide +kernel | rfl
    case ha_DuplicateName => first | k_is | k_exc | decide +kernel | rfl
    case kC_DuplicateName => first | k_is | k_exc | decide +kernel | rfl
    case nf_DuplicateName => first | k_is | k_exc | decide +kernel | rfl
    case iC_DuplicateName => first | k_is | k_exc | decide +kernel | rfl
    case tI_DuplicateName => first | k_is | k_exc | decide +kernel | rfl
    case lI_DuplicateName => first | k_is | k_exc | decide +kernel | rfl
    case cI_DuplicateName => first | k_is | k_exc | decide +kernel | rfl
    case kI_DuplicateName => first | k_is | k_exc | decide +kernel | rfl
    case aC_InvalidCapacity => first | k_is | k_exc | decide +kernel | rfl
    case xL_InvalidCapacity => first | k_is | k_exc | decide +kernel | rfl
    case sa_InvalidCapacity => first | k_is | k_exc | decide +kernel | rfl
    case ga_InvalidCapacity => first | k_is | k_exc | decide +kernel | rfl
    case gg_InvalidCapacity => first | k_is | k_exc | decide +kernel | rfl
    case ha_InvalidCapacity => first | k_is | k_exc | decide +kernel | rfl
    case kC_InvalidCapacity => first | k_is | k_exc | decide +kernel | rfl
    case nf_InvalidCapacity => first | k_is | k_exc | decide +kernel | rfl
    case iC_InvalidCapacity => first | k_is | k_exc | decide +kernel | rfl
    case tI_InvalidCapacity => first | k_is | k_exc | decide +kernel | rfl
    case lI_InvalidCapacity => first | k_is | k_exc | decide +kernel | rfl
    case cI_InvalidCapacity => first | k_is | k_exc | decide +kernel | rfl
    case kI_InvalidCapacity => first | k_is | k_exc | decide +kernel | rfl
    case aC_InvalidAction => first | k_is | k_exc | decide +kernel | rfl
    case xL_InvalidAction => first | k_is | k_exc | decide +kernel | rfl
    case sa_InvalidAction => first | k_is | k_exc | decide +kernel | rfl
    case ga_InvalidAction => first | k_is | k_exc | decide +kernel | rfl
    case gg_InvalidAction => first | k_is | k_exc | decide +kernel | rfl
    case ha_InvalidAction => first | k_is | k_exc | decide +kernel | rfl
    case kC_InvalidAction => first | k_is | k_exc | decide +kernel | rfl
    case nf_InvalidAction => first | k_is | k_exc | decide +kernel | rfl
    case iC_InvalidAction => first | k_is | k_exc | decide +kernel | rfl
    case tI_InvalidAction => first | k_is | k_exc | decide +kernel | rfl
    case lI_InvalidAction => first | k_is | k_exc | decide +kernel | rfl
    case cI_InvalidAction => first | k_is | k_exc | decide +kernel | rfl
    case kI_InvalidAction => first | k_is | k_exc | decide +kernel | rfl
    case aC_InvalidOutcome => first | k_is | k_exc | decide +kernel | rfl
    case xL_InvalidOutcome => first | k_is | k_exc | decide +kernel | rfl
    case sa_InvalidOutcome => first | k_is | k_exc | decide +kernel | rfl
    case ga_InvalidOutcome => first | k_is | k_exc | decide +kernel | rfl
    case gg_InvalidOutcome => first | k_is | k_exc | decide +kernel | rfl
    case ha_InvalidOutcome => first | k_is | k_exc | decide +kernel | rfl
    case kC_InvalidOutcome => first | k_is | k_exc | decide +kernel | rfl
    case nf_InvalidOutcome => first | k_is | k_exc | decide +kernel | rfl
    case iC_InvalidOutcome => first | k_is | k_exc | decide +kernel | rfl
    case tI_InvalidOutcome => first | k_is | k_exc | decide +kernel | rfl
    case lI_InvalidOutcome => first | k_is | k_exc | decide +kernel | rfl
    case cI_InvalidOutcome => first | k_is | k_exc | decide +kernel | rfl
    case kI_InvalidOutcome => first | k_is | k_exc | decide +kernel | rfl
    case aC_InvalidTie => first | k_is | k_exc | decide +kernel | rfl
    case xL_InvalidTie => first | k_is | k_exc | decide +kernel | rfl
    case sa_InvalidTie => first | k_is | k_exc | decide +kernel | rfl
    case ga_InvalidTie => first | k_is | k_exc | decide +kernel | rfl
    case gg_InvalidTie => first | k_is | k_exc | decide +kernel | rfl
    case ha_InvalidTie => first | k_is | k_exc | decide +kernel | rfl
    case kC_InvalidTie => first | k_is | k_exc | decide +kernel | rfl
    case nf_InvalidTie => first | k_is | k_exc | decide +kernel | rfl
    case iC_InvalidTie => first | k_is | k_exc | decide +kernel | rfl
    case tI_InvalidTie => first | k_is | k_exc | decide +kernel | rfl
    case lI_InvalidTie => first | k_is | k_exc | decide +kernel | rfl
    case cI_InvalidTie => first | k_is | k_exc | decide +kernel | rfl
    case kI_InvalidTie => first | k_is | k_exc | decide +kernel | rfl
    case aC_Contradiction => first | k_is | k_exc | decide +kernel | rfl
    case xL_Contradiction => first | k_is | k_exc | decide +kernel | rfl
    case sa_Contradiction => first | k_is | k_exc | decide +kernel | rfl
    case ga_Contradiction => first | k_is | k_exc | decide +kernel | rfl
    case gg_Contradiction => first | k_is | k_exc | decide +kernel | rfl
    case ha_Contradiction => first | k_is | k_exc | decide +kernel | rfl
    case kC_Contradiction => first | k_is | k_exc | decide +kernel | rfl
    case nf_Contradiction => first | k_is | k_exc | decide +kernel | rfl
    case iC_Contradiction => first | k_is | k_exc | decide +kernel | rfl
    case tI_Contradiction => first | k_is | k_exc | decide +kernel | rfl
    case lI_Contradiction => first | k_is | k_exc | decide +kernel | rfl
    case cI_Contradiction => first | k_is | k_exc | decide +kernel | rfl
    case kI_Contradiction => first | k_is | k_exc | decide +kernel | rfl
    case aC_InvalidSymbol => first | k_is | k_exc | decide +kernel | rfl
    case xL_InvalidSymbol => first | k_is | k_exc | decide +kernel | rfl
    case sa_InvalidSymbol => first | k_is | k_exc | decide +kernel | rfl
    case ga_InvalidSymbol => first | k_is | k_exc | decide +kernel | rfl
    case gg_InvalidSymbol => first | k_is | k_exc | decide +kernel | rfl
    case ha_InvalidSymbol => first | k_is | k_exc | decide +kernel | rfl
    case kC_InvalidSymbol => first | k_is | k_exc | decide +kernel | rfl
    case nf_InvalidSymbol => first | k_is | k_exc | decide +kernel | rfl
    case iC_InvalidSymbol => first | k_is | k_exc | decide +kernel | rfl
    case tI_InvalidSymbol => first | k_is | k_exc | decide +kernel | rfl
    case lI_InvalidSymbol => first | k_is | k_exc | decide +kernel | rfl
    case cI_InvalidSymbol => first | k_is | k_exc | decide +kernel | rfl
    case kI_InvalidSymbol => first | k_is | k_exc | decide +kernel | rfl
    case aC_InvalidNumber => first | k_is | k_exc | decide +kernel | rfl
    case xL_InvalidNumber => first | k_is | k_exc | decide +kernel | rfl
    case sa_InvalidNumber => first | k_is | k_exc | decide +kernel | rfl
    case ga_InvalidNumber => first | k_is | k_exc | decide +kernel | rfl
    case gg_InvalidNumber => first | k_is | k_exc | decide +kernel | rfl
    case ha_InvalidNumber => first | k_is | k_exc | decide +kernel | rfl
    case kC_InvalidNumber => first | k_is | k_exc | decide +kernel | rfl
    case nf_InvalidNumber => first | k_is | k_exc | decide +kernel | rfl
    case iC_InvalidNumber => first | k_is | k_exc | decide +kernel | rfl
    case tI_InvalidNumber => first | k_is | k_exc | decide +kernel | rfl
    case lI_InvalidNumber => first | k_is | k_exc | decide +kernel | rfl
    case cI_InvalidNumber => first | k_is | k_exc | decide +kernel | rfl
    case kI_InvalidNumber => first | k_is | k_exc | decide +kernel | rfl
    case aC_InvalidText => first | k_is | k_exc | decide +kernel | rfl
    case xL_InvalidText => first | k_is | k_exc | decide +kernel | rfl
    case sa_InvalidText => first | k_is | k_exc | decide +kernel | rfl
    case ga_InvalidText => first | k_is | k_exc | decide +kernel | rfl
    case gg_InvalidText => first | k_is | k_exc | decide +kernel | rfl
    case ha_InvalidText => first | k_is | k_exc | decide +kernel | rfl
    case kC_InvalidText => first | k_is | k_exc | decide +kernel | rfl
    case nf_InvalidText => first | k_is | k_exc | decide +kernel | rfl
    case iC_InvalidText => first | k_is | k_exc | decide +kernel | rfl
    case tI_InvalidText => first | k_is | k_exc | decide +kernel | rfl
    case lI_InvalidText => first | k_is | k_exc | decide +kernel | rfl
    case cI_InvalidText => first | k_is | k_exc | decide +kernel | rfl
    case kI_InvalidText => first | k_is | k_exc | decide +kernel | rfl
    case aC_InvalidForm => first | k_is | k_exc | decide +kernel | rfl
    case xL_InvalidForm => first | k_is | k_exc | decide +kernel | rfl
    case sa_InvalidForm => first | k_is | k_exc | decide +kernel | rfl
    case ga_InvalidForm => first | k_is | k_exc | decide +kernel | rfl
    case gg_InvalidForm => first | k_is | k_exc | decide +kernel | rfl
    case ha_InvalidForm => first | k_is | k_exc | decide +kernel | rfl
    case kC_InvalidForm => first | k_is | k_exc | decide +kernel | rfl
    case xq_InvalidForm => first | k_is | k_exc | decide +kernel | rfl
    case aC_Mismatch => first | k_is | k_exc | decide +kernel | rfl
    case xL_Mismatch => first | k_is | k_exc | decide +kernel | rfl
    case sa_Mismatch => first | k_is | k_exc | decide +kernel | rfl
    case ga_Mismatch => first | k_is | k_exc | decide +kernel | rfl
    case gg_Mismatch => first | k_is | k_exc | decide +kernel | rfl
    case ha_Mismatch => first | k_is | k_exc | decide +kernel | rfl
    case kC_Mismatch => first | k_is | k_exc | decide +kernel | rfl
    case xq_Mismatch => first | k_is | k_exc | decide +kernel | rfl
    case aC_PourError => first | k_is | k_exc | decide +kernel | rfl
    case xL_PourError => first | k_is | k_exc | decide +kernel | rfl
    case sa_PourError => first | k_is | k_exc | decide +kernel | rfl
    case ga_PourError => first | k_is | k_exc | decide +kernel | rfl
    case gg_PourError => first | k_is | k_exc | decide +kernel | rfl
    case ha_PourError => first | k_is | k_exc | decide +kernel | rfl
    case kC_PourError => first | k_is | k_exc | decide +kernel | rfl
    case xq_PourError => first | k_is | k_exc | decide +kernel | rfl
    case rdP => first | k_is | k_exc | decide +kernel | rfl
    case gaP => first | k_is | k_exc | decide +kernel | rfl
    case fiP => first | k_is | k_exc | decide +kernel | rfl
    case hnP => first | k_is | k_exc | decide +kernel | rfl
    case htP => first | k_is | k_exc | decide +kernel | rfl
    case ndP => first | k_is | k_exc | decide +kernel | rfl
    case a_law_source => first | k_is | k_exc | decide +kernel | rfl
    case l_law_source => first | k_is | k_exc | decide +kernel | rfl
    case q_law_source => first | k_is | k_exc | decide +kernel | rfl
    case k_law_source => first | k_is | k_exc | decide +kernel | rfl
    case a_law_draw => first | k_is | k_exc | decide +kernel | rfl
    case l_law_draw => first | k_is | k_exc | decide +kernel | rfl
    case q_law_draw => first | k_is | k_exc | decide +kernel | rfl
    case k_law_draw => first | k_is | k_exc | decide +kernel | rfl
    case a_law_choice => first | k_is | k_exc | decide +kernel | rfl
    case l_law_choice => first | k_is | k_exc | decide +kernel | rfl
    case q_law_choice => first | k_is | k_exc | decide +kernel | rfl
    case k_law_choice => first | k_is | k_exc | decide +kernel | rfl
    case a_law_is_name => first | k_is | k_exc | decide +kernel | rfl
    case l_law_is_name => first | k_is | k_exc | decide +kernel | rfl
    case q_law_is_name => first | k_is | k_exc | decide +kernel | rfl
    case k_law_is_name => first | k_is | k_exc | decide +kernel | rfl
    case a_is_name => first | k_is | k_exc | decide +kernel | rfl
    case l_is_name => first | k_is | k_exc | decide +kernel | rfl
    case q_is_name => first | k_is | k_exc | decide +kernel | rfl
    case k_is_name => first | k_is | k_exc | decide +kernel | rfl
    case a_law_text => first | k_is | k_exc | decide +kernel | rfl
    case l_law_text => first | k_is | k_exc | decide +kernel | rfl
    case q_law_text => first | k_is | k_exc | decide +kernel | rfl
    case k_law_text => first | k_is | k_exc | decide +kernel | rfl
    case a_law_value => first | k_is | k_exc | decide +kernel | rfl
    case l_law_value => first | k_is | k_exc | decide +kernel | rfl
    case q_law_value => first | k_is | k_exc | decide +kernel | rfl
    case k_law_value => first | k_is | k_exc | decide +kernel | rfl
    case a_law_fields => first | k_is | k_exc | decide +kernel | rfl
    case l_law_fields => first | k_is | k_exc | decide +kernel | rfl
    case q_law_fields => first | k_is | k_exc | decide +kernel | rfl
    case k_law_fields => first | k_is | k_exc | decide +kernel | rfl
    case a_law_kinds => first | k_is | k_exc | decide +kernel | rfl
    case l_law_kinds => first | k_is | k_exc | decide +kernel | rfl
    case q_law_kinds => first | k_is | k_exc | decide +kernel | rfl
    case k_law_kinds => first | k_is | k_exc | decide +kernel | rfl
    case a_law => first | k_is | k_exc | decide +kernel | rfl
    case l_law => first | k_is | k_exc | decide +kernel | rfl
    case q_law => first | k_is | k_exc | decide +kernel | rfl
    case k_law => first | k_is | k_exc | decide +kernel | rfl

