import PyProof.Rows.All
import Wide.All
import OpenK.AllK
import Wide.FinOn
import HandS.ForMost
import HandS.ForExc
import HandS.ExcInit
import HandS.IsInst
import HandS.ExcIs
import PyProof.Rows.NestShow
import HandS.Wide
import HandS.Steps
import HandS.Defaults
import PyProof.ReprLen
import PyProof.FitsInt
import HandS.Property
import HandS.TupMul
import HandS.Star
import HandS.CallSlots
import HandS.Style
import HandS.Walk
import HandS.ExcField
import HandS.DictComp
import HandS.SortInts
import HandS.Records
import PyProof.FactsAll.object_2
import HandS.Text
import HandS.FStr
import HandS.RaiseMore
import KE.KMinKey
import HandS.SortKw
import HandS.Conv
import HandS.ClsMeth
import HandS.CallLocal
import HandS.More
import HandS.MakeKw
import PySem.Challenge.RW_heldground_k01_errors
section
set_option Elab.async false
set_option linter.all false
set_option maxRecDepth 100000
set_option maxHeartbeats 4000000
/-! Own errors of the package: the base's `__init__` called by the class's name, an error without arguments, an error with one field. -/
namespace L2
namespace Hg
open PySem PySem.Spec PyProof.Rows

/-- the base class at G has ValueError's own `__init__` -/
structure BaseInit (K : PySem.W.Frag) (G : Addr) : Prop where
  sp : PySem.W.specialIn K (.ref G) "__getattribute__" = some (some (.builtin "type.__getattribute__"))
  rd : PySem.W.readsIn K G (.type "type") = true
  fc : PySem.W.findCls K (.ref G) (.type "type") "__init__" = some (.val (.builtin "ValueError.__init__"))

section
variable {X : Cx} {e : Expr} {es : List Expr} {ta : TA} {p p1 p2 pos : Pos} {G C fI : Addr} {g x : Str}
theorem pe_ginit {pl : Sem Bool} (hg : Gl X g) (hm : X.mg g = some (.ref G)) (B : BaseInit X.K G) (ha : PA X (e :: es) ta)
    (hdb : (g == ("__debug__" : Str)) = false := by decide)
    (hc : eval (.Call (.Attribute (.Name g p1) "__init__" p2) (e :: es) [] pos) X.env = (do
      let ov ← eval (.Name g p1) X.env
      standAt p2.atName
      let (f, first) ← holding [ov] (getMethod ov "__init__" pl)
      callWith pos f first (backTo pos (starEach (e :: es) X.env)) (backToKw pos (keywordEach [] X.env))) := by rfl)
    (he : starEach (e :: es) X.env = (false, eval e X.env) :: starEach es X.env := by rfl)
    (hpl : (backTo pos (starEach es X.env)).any (·.1) = false := by rfl) :
    PE X (.Call (.Attribute (.Name g p1) "__init__" p2) (e :: es) [] pos) (tVeI X.K ta) := by
  refine ⟨fun pins s σ H Q I h => ?_⟩
  refine PySem.W.methodCall_KW (ld_glob I hg hm ?_ hdb) hc
  refine PySem.W.method_cls I.kIn B.sp (PySem.W.cls_value I.kIn B.rd B.fc (by decide +kernel) ?_)
  show wpAny _ _ (callWith pos (Value.builtin "ValueError.__init__") [] (backTo pos (starEach (e :: es) X.env)) []) _ _ _
  refine PyProof.Rows.callWith_method1 (thn (ha.run pos pins _ σ H _ (I.tok _) h) fun us s1 hq => ?_) he hpl
  obtain ⟨vs, H1, I1, r1, a, C, ws, ev, hl, T, ea, q⟩ := hq
  subst ev
  cases r1 with
  | @cons _ u0 _ ur ra rr =>
    obtain rfl : u0 = Value.ref a := ra
    have hz : ur.length ≤ sizeLine := by
      rw [← Paired.length rr, sizeLine_eq]; omega
    exact oinit_ok T I1 ea hz fun s' J => ⟨.non, H1, J, rfl, q⟩

/-- C(), the class's own `__init__` stores nothing -/
def tMkN (C : Addr) (sp : Sp) : St → Hp → XK → Prop := fun σ H Q => ∀ a, H a = none →
  sp [.ref a] (upd H a (exo a C none)) (fun v H2 => v = .non ∧ H2 a = some (exo a C none) ∧ Q (.ref C) none (del H2 a)) (fun _ _ _ => False)

theorem upd_del {H : Hp} {a : Addr} {o : HO} (h : H a = none) : del (upd H a o) a = H := by
  funext b
  unfold del
  by_cases hb : b = a
  · subst hb; rw [if_pos rfl, h]
  · rw [if_neg hb, upd_ne hb]

theorem mk_endN {pins : List (Addr × Obj)} {σ : St} {H1 H2 : Hp} {Q : XK} {hp hp2 h2 : Heap} {g1 g2 : Array GenState} {d1 d2 : Drawn} {t1 t2 : Nat} {os1 os2 : OsState} {a : Addr}
    (T : Raises X (.ref C)) (I1 : Inv X pins σ H1 ⟨hp, g1, d1, t1, os1⟩) (ha : hp.objs.size ≤ a)
    (k : ∀ b o, hp.get? b = some o → hp2.get? b = some o)
    (un : Un (frs X.stack) [] (upd H1 a (exo a C none)) H2 hp2 h2) (hok : HOk X.prog X.w H2 h2) (ho : os2 = os1) (hb : AllBare g2)
    (ea : H2 a = some (exo a C none)) (q : Q (.ref C) none (del H2 a)) : MkP X pins σ Q (.ref a) ⟨h2, g2, d2, t2, os2⟩ := by
  obtain ⟨t0, hoe⟩ := exo_at hok ea
  have hn : H1 a = none := I1.hok.fresh ha
  obtain ⟨Gh, gA, gB⟩ := restrict h2 fun b => decide (b ≠ a)
  have gk : ∀ b, b ≠ a → Gh.get? b = h2.get? b := fun b hb => gA b (decide_eq_true hb)
  have ge : Gh.get? a = none := gB a (by simp)
  have nha : ∀ {b : Addr} {o : Obj}, hp.get? b = some o → b ≠ a := fun {b o} z =>
    Nat.ne_of_lt (Nat.lt_of_lt_of_le (Heap.lt_size z) ha)
  have up : ∀ {b : Addr}, b ≠ a → H1 b = none → upd H1 a (exo a C none) b = none := fun {b} hb n => by
    rw [upd_ne hb]; exact n
  have U : Un (frs X.stack) [] H1 (del H2 a) hp Gh :=
    { keep := fun b o z n hf hx => by
        rw [gk b (nha z)]
        exact un.keep b o (k b o z) (up (nha z) n) hf hx
      slot := fun b o z n hf hx => by
        rw [gk b (nha z)]
        exact un.slot b o (k b o z) (up (nha z) n) hf hx
      free := fun b o z n hx => by
        rw [del_ne (nha z)]
        exact un.free b o (k b o z) (up (nha z) n) hx
      there := fun b o z hx => by
        rw [gk b (nha z)]
        exact un.there b o (k b o z) hx
      tups := fun b xs z => by
        rw [del_ne (ne_of_none z hn)]
        exact un.tups b xs ((upd_ne (ne_of_none z hn)).trans z)
      frzs := fun b o v z => by
        rw [del_ne (ne_of_none z hn)]
        exact un.frzs b o v ((upd_ne (ne_of_none z hn)).trans z)
      tbls := fun b ps z => by
        rw [del_ne (ne_of_none z hn)]
        exact un.tbls b ps ((upd_ne (ne_of_none z hn)).trans z) }
  have hok3 : HOk X.prog X.w (del H2 a) Gh := fun b o z => by
    have hba : b ≠ a := fun w => by rw [w, del_same] at z; cases z
    rw [del_ne hba] at z
    have noa : ∀ {c : Addr}, H2 c = some (.own b) → c ≠ a := fun {c} hc => at_ne ea hc exo_own
    refine (hok b o z).stay (fun c v hc y => ?_) (fun c hc => ?_) (fun c xs hc => ?_)
    · have hca : c ≠ a := by
        rcases hc with hc | hc
        · rw [hc]; exact hba
        · exact noa hc
      rw [gk c hca]; exact y
    · rw [del_ne (noa hc)]; exact hc
    · rw [del_ne (at_ne ea hc exo_tup)]; exact hc
  have J : Inv X pins σ (del H2 a) ⟨Gh, g2, d2, t2, os2⟩ := I1.call' (ch := []) ho U hok3 hb fun b z => absurd z (by simp)
  refine ⟨a, _, _, ⟨Gh, g2, d2, t2, os2⟩, _, .ref C, none, rfl, J, fun b o z => ?_, ge, hoe, ⟨rfl, rfl⟩, rfl, rfl, del_same, rfl, hb, T, q⟩
  by_cases hba : b = a
  · rw [hba] at z
    have z' : Gh.get? a = some o := z
    rw [ge] at z'; cases z'
  · exact (gk b hba).symm.trans z

theorem pmk_oexN {CX : CXT} {k : Nat} {fd : FuncData} {ps : List Str} {sp : Sp} (T : OexC X.K C)
    (iC : PySem.W.findIn X.K (.ref C) "__init__" = some (some (.ref fI))) (tI : PySem.W.typeIn X.K (.ref fI) = some (.type "function"))
    (F1 : FnOk X.prog X.w X.K X.mg X.base CX k fI fd ps sp) (hr : Room (k + 1) X.A) (hb : Binds X.K fd ps [])
    (hx : Passes CX X (fun _ _ _ => False)) (hg : Gl X x) (hm : X.mg x = some (.ref C))
    (hdb : (x == ("__debug__" : Str)) = false := by decide) : PMk X (.Call (.Name x p) [] [] pos) (tMkN C sp) := by
  intro pins s σ H Q I h
  obtain ⟨nm, q, N, bs, bm, sn, sub, ab, col, dd, k0, k1, k2, k3, k5, hC, hbm⟩ := T.cls
  refine wpAny_Call_Name_kw (ld_glob I hg hm ?_ hdb)
  refine PySem.W.callWith_K0 I.kIn T.kC ?_
  show wpAny _ _ (call (.ref C) []) _ _ _
  obtain ⟨hp, gs, dr, tk, os⟩ := s
  have hsz : hp.objs.size ≤ hp.objs.size + 1 := Nat.le_succ _
  have hn : H (hp.objs.size + 1) = none := I.hok.fresh hsz
  have hq := h (hp.objs.size + 1) hn
  have kk : ∀ b o, hp.get? b = some o → ((hp.push (PySem.W.kdv_tup [])).push (PySem.HandSPX.excO C hp.objs.size)).get? b = some o :=
    fun b o z => Heap.get?_push_of_some _ (Heap.get?_push_of_some _ z)
  have hget : ((hp.push (PySem.W.kdv_tup [])).push (PySem.HandSPX.excO C hp.objs.size)).get? (hp.objs.size + 1) = some (PySem.HandSPX.excO C hp.objs.size) := by heap_get
  have I2 : Inv X pins σ (upd H (hp.objs.size + 1) (exo (hp.objs.size + 1) C none)) ⟨(hp.push (PySem.W.kdv_tup [])).push (PySem.HandSPX.excO C hp.objs.size), gs, dr, tk, os⟩ :=
    I.laid (t' := tk) (a := hp.objs.size + 1) (o := exo (hp.objs.size + 1) C none) (h' := (hp.push (PySem.W.kdv_tup [])).push (PySem.HandSPX.excO C hp.objs.size)) kk hsz (exo_ok hget)
  have r2 : Vals [V.ref (hp.objs.size + 1)] [Value.ref (hp.objs.size + 1)] := .cons rfl .nil
  have hl : ([Value.ref (hp.objs.size + 1)] ++ []).length = ps.length := by
    have z := r2.length
    rw [F1.len _ _ _ _ hq] at z
    exact z.symm
  refine wpAny_call (PySem.HandSPX.call_own F.excBase_ValueError (fun Y => PySem.HandSPX.refsVE_contains Y bm hbm) (I.kIn _ _ hC) (PySem.W.looks_findIn I.kIn iC) (fun self => PySem.W.bind_fn I.kIn self tI) (Nat.zero_le _)
    (codeAny_mono (F1.run _ X.stack _ _ ⟨[Value.ref (hp.objs.size + 1)], []⟩ [Value.ref (hp.objs.size + 1)] _ _ (fun _ _ _ => False) (hr.make C [] []) (I2.env0.make C [] []) (hb _ [Value.ref (hp.objs.size + 1)] I2.kIn hl) r2 hq) fun r s' hq' => ?_))
  cases r with
  | error er => exact hx pins σ _ _ er s' I2 hq'
  | ok fl =>
    cases fl with
    | ret u =>
      obtain ⟨v, H2, os2, bare2, un2, hok2, rv, ev, ea, q2⟩ := hq'
      subst ev
      obtain ⟨h2, g2, d2, t2, os'⟩ := s'
      exact ⟨rv, mk_endN (raises_own T.exC T.tyC) I hsz kk un2 hok2 os2 bare2 ea q2⟩
    | next => exact False.elim hq'
    | brk => exact False.elim hq'
    | cont => exact False.elim hq'
end

/-! ### promises of the errors' `__init__` -/
/-- no field -/
def spInitN (K : PySem.W.Frag) (C : Addr) : Sp := fun vs H Q _ => ∃ a, vs = [.ref a] ∧ OexC K C ∧ H a = some (exo a C none) ∧ Q .non H
/-- one field f -/
def spInitF (K : PySem.W.Frag) (C : Addr) (f : Str) : Sp := fun vs H Q _ => ∃ a x, vs = [.ref a, x] ∧ OexC K C ∧ PySem.W.findIn K (.ref C) f = some none ∧ H a = some (exo a C none) ∧
  ∀ dx, H dx = none → dx ≠ a → Q .non (upd (upd H dx (exd dx [(f, x)])) a (exo a C (some dx)))
theorem upd_three {H : Hp} {a d : Addr} {o1 o2 o3 o4 : HO} (h : H a = none) (hd : d ≠ a) : upd (del (upd (upd (upd H a o1) d o2) a o3) a) d o4 = upd H d o4 := by
  funext b
  by_cases hb : b = d
  · subst hb; rw [upd_same, upd_same]
  · rw [upd_ne hb, upd_ne hb]
    by_cases hba : b = a
    · subst hba; rw [del_same, h]
    · rw [del_ne hba, upd_ne hba, upd_ne hb, upd_ne hba]
section
variable {K : PySem.W.Frag} {C : Addr} {f : Str} {σ : St} {H : Hp} {Q : XK}
/-- C() read -/
theorem r_mkN (T : OexC K C) (k : Q (.ref C) none H) : tMkN C (spInitN K C) σ H Q := by
  intro a ha
  refine ⟨a, rfl, T, upd_same, rfl, upd_same, ?_⟩
  rw [upd_del ha]
  exact k
/-- C(x) read -/
theorem r_mkF {x : V} {ta : TA} (T : OexC K C) (hf : PySem.W.findIn K (.ref C) f = some none)
    (h : ta σ H fun vs H1 => ∃ x, vs = [x] ∧ ∀ d, H1 d = none → Q (.ref C) (some d) (upd H1 d (.xd [(f, x)])))
    (mono : ∀ {P P' : List V → Hp → Prop}, (∀ vs H, P vs H → P' vs H) → ta σ H P → ta σ H P') : tMkO C (spInitF K C f) [] ta σ H Q := by
  refine mono (fun vs H1 hq => ?_) h
  obtain ⟨x, rfl, q⟩ := hq
  refine ⟨(by show 1 ≤ 1000; decide), fun a ha => ?_⟩
  refine ⟨a, x, rfl, T, hf, upd_same, fun dx hdx ne => ⟨rfl, dx, [(f, x)], upd_same, ?_, ?_, ?_⟩⟩
  · rw [upd_ne ne, upd_same]
  · rw [upd_ne ne] at hdx; exact hdx
  · rw [upd_three ha ne]
    rw [upd_ne ne] at hdx
    exact q dx hdx
end
end Hg
end L2
end

section
set_option Elab.async false
set_option linter.all false
set_option maxRecDepth 100000
set_option maxHeartbeats 4000000
/-! Promises that hold where no repr is under way (guards empty), and repr of data. -/
namespace L2
namespace Hg
open PySem PySem.Spec PyProof.Rows

/-- a def's promise, asked where no guard is set -/
structure FnG (P : Program) (w : World) (K : PySem.W.Frag) (mg : Str → Option Value) (base : Heap) (CX : CXT) (k : Nat) (f : Addr) (fd : FuncData) (ps : List Str) (sp : Sp) : Prop where
  len : ∀ vs H Q E, sp vs H Q E → vs.length = ps.length
  run : ∀ (A : Around) (outer : List Env) (s : Shared) (H : Hp) (args : Args) (us : List Value) (vs : List V) (Q : VK) (E : XK),
    A.guards = some [] → Room k A → Env0 P w K mg base A outer s H → BindsTo s fd args (ps.zip us) → Vals vs us → sp vs H Q E →
    codeAny (model P w) A (.call (.ref f) args) (CR CX outer P w H s Q E) s

section
variable {P : Program} {w : World} {K : PySem.W.Frag} {mg : Str → Option Value} {base : Heap} {CX : CXT} {j k : Nat} {f : Addr} {fd : FuncData} {ps : List Str} {sp : Sp}
theorem _root_.L2.FnOk.g (F : FnOk P w K mg base CX k f fd ps sp) : FnG P w K mg base CX k f fd ps sp :=
  ⟨F.len, fun A outer s H args us vs Q E _ => F.run A outer s H args us vs Q E⟩

theorem fn_ofG {name qual : Str} {params : Arguments} {body : List Stmt} {scope : Scope} {dV kV doc pm cdv ct oc : Value} {an od : Option Addr}
    {osl : Array (Option Value)} {N : List Str} (lk : K.lookup f = some ⟨oc, od, .func (PySem.W.fnOf name qual params body scope dV kV doc pm an cdv ct), osl⟩)
    (hcd : PySem.W.codeIn K cdv qual = true) (S : FnScope N ps scope)
    (len : ∀ vs H Q E, sp vs H Q E → vs.length = ps.length)
    (hbody : ∀ (A : Around) (outer : List Env) (s : Shared) (H : Hp) (vs : List V) (Q : VK) (E : XK), A.guards = some [] →
      Room k (A.deeper (envOfC qual scope s.heap.objs.size f cdv)) → sp vs H Q E →
      ∃ t, PSs (cxOf CX P w K mg base N qual scope f cdv A outer s H E) body t ∧ t { nx := fun _ H' => Q .non H', rt := Q } (start N vs) H) :
    FnG P w K mg base CX (k + 1) f (PySem.W.fnOf name qual params body scope dV kV doc pm an cdv ct) ps sp := by
  constructor
  · exact len
  intro A outer s H args us vs Q E hgd hr e0 hb r hsp
  have hl := len _ _ _ _ hsp
  have old : ∀ b o, base.get? b = some o → s.heap.get? b = some o := fun b o z => (e0.bs b o z).1
  have KX : K.In s.heap := e0.mod.kin.keeps old
  have lim : s.heap.NoLimit := e0.mod.nolimit.keeps old
  have hkind : ∀ y ∈ ps.zip us, scope.names.lookup y.1 = some .local ∨
      (scope.names.lookup y.1 = some .cell ∧ ((cellsFrom (s.heap.objs.size + 1) scope.names []).lookup y.1).isSome = true) := by
    rintro ⟨n, v⟩ hy
    rcases S.par n (List.of_mem_zip hy).1 with q | q
    · exact Or.inl q
    · exact Or.inr ⟨q, PySem.W.cellsFrom_some _ _ _ (.inl q)⟩
  refine codeAny_call_function hr.depth (KX _ _ lk) rfl S.co S.gen rfl (PySem.W.codeRec_of KX hcd) (hb _ _ _ _ ?_)
  refine wpAny_newFunctionEnv_cells S.kind hkind fun env he s1 x => ?_
  subst he
  refine ⟨lim.keeps x.toInCall.keep, codeAny_func ?_⟩
  obtain ⟨t, ht, hq⟩ := hbody A outer s H vs Q E hgd (hr.deeper _) hsp
  have I : Inv (cxOf CX P w K mg base N qual scope f cdv A outer s H E) [] (start N vs) H s1 := inv_start S hr.hd e0 hl r x
  have fin : ∀ {s' : Shared} {σ' : St} {H' : Hp} {v : V} {u : Value}, Inv (cxOf CX P w K mg base N qual scope f cdv A outer s H E) [] σ' H' s' →
      RelV v u → Q v H' → CE outer P w H s Q u s' := fun J rv q => ⟨_, _, J.os, J.bare, J.base, J.hok, rv, q⟩
  refine wpAny_mono (ht.run [] s1 (start N vs) H _ I hq) (fun fl s' hs => ?_) fun e s' hs => hs
  cases fl with
  | ret u =>
    obtain ⟨v, σ', H', J, rv, q⟩ := hs
    exact fin J rv q
  | next =>
    obtain ⟨σ', H', J, q⟩ := hs
    exact fin (v := V.non) (u := Value.none) J rfl q
  | brk =>
    obtain ⟨_, _, _, q⟩ := hs
    cases q
  | cont =>
    obtain ⟨_, _, _, q⟩ := hs
    cases q

/-- a def of the text, by its body; no error leaves it -/
theorem okG {x qual : Str} {st : Stmt} {N : List Str} (F : Fun K x qual st f fd) (S : FnScope N ps (defScope st)) (len : ∀ vs H Q E, sp vs H Q E → vs.length = ps.length)
    (hbody : ∀ (cdv : Value) (A : Around) (outer : List Env) (s : Shared) (H : Hp) (vs : List V) (Q : VK) (E : XK), A.guards = some [] →
      Room k (A.deeper (envOfC qual (defScope st) s.heap.objs.size f cdv)) → sp vs H Q E →
      ∃ t, PSs (cxOf CX0 P w K mg base N qual (defScope st) f cdv A outer s H E).nox (defBody st) t ∧ t { nx := fun _ H' => Q .non H', rt := Q } (start N vs) H) :
    FnG P w K mg base CX0 (k + 1) f fd ps sp := by
  obtain ⟨oc, od, kV, doc, pm, an, cdv, ct, osl, rfl, lk, hcd⟩ := F.ex
  refine fn_ofG lk hcd S len fun A outer s H vs Q E hg hr hsp => ?_
  obtain ⟨t, h, q⟩ := hbody cdv A outer s H vs Q E hg hr hsp
  exact ⟨t, h.nox, q⟩
end

section
variable {X : Cx} {CX : CXT} {k : Nat} {f C : Addr} {fd : FuncData} {ps : List Str} {sp : Sp} {dvs : List V} {ds : List Value} {E : XK} {x m : Str} {p pos apos : Pos} {e o : Expr} {es : List Expr} {ta : TE} {t : TA}
theorem run_fnG {pins : List (Addr × Obj)} {σ : St} {H : Hp} {s : Shared} {Q : VK} {us : List Value} {vs : List V} (F : FnG X.prog X.w X.K X.mg X.base CX k f fd ps sp)
    (hg : X.A.guards = some []) (hr : Room k X.A) (hb : Binds X.K fd ps ds) (hd : Vals dvs ds) (hx : Passes CX X E)
    (I : Inv X pins σ H s) (r : Vals vs us) (h : sp (vs ++ dvs) H Q E) : wpAny (model X.prog X.w) X.A (call (.ref f) us) (EP X pins σ Q) X.xe s := by
  have r2 : Vals (vs ++ dvs) (us ++ ds) := r.append hd
  have hl : (us ++ ds).length = ps.length := by
    rw [← r2.length]
    exact F.len _ _ _ _ h
  have main := F.run X.A X.stack s H ⟨us, []⟩ (us ++ ds) (vs ++ dvs) Q E hg hr I.env0 (hb s us I.kIn hl) r2 h
  refine wpAny_call (codeAny_mono main fun r s' hq => ?_)
  cases r with
  | error er => exact hx pins σ H s er s' I hq
  | ok fl =>
    cases fl with
    | ret u => exact I.after hq
    | next => exact False.elim hq
    | brk => exact False.elim hq
    | cont => exact False.elim hq
theorem pe_callG (F : FnG X.prog X.w X.K X.mg X.base CX k f fd ps sp) (hgd : X.A.guards = some []) (hr : Room k X.A) (hg : Gl X x) (hm : X.mg x = some (.ref f)) (hk : PySem.W.keepIn X.K (.ref f) = true)
    (hb : Binds X.K fd ps ds) (hd : Vals dvs ds) (hx : Passes CX X E) (ha : PA X (e :: es) t) (hdb : (x == ("__debug__" : Str)) = false := by decide)
    (he : starEach (e :: es) X.env = (false, eval e X.env) :: starEach es X.env := by rfl) (hpl : (backTo pos (starEach es X.env)).any (·.1) = false := by rfl) :
    PE X (.Call (.Name x p) (e :: es) [] pos) (tCall sp dvs E t) := by
  refine ⟨fun pins s σ H Q I h => wpAny_Call_Name_kw (ld_glob I hg hm ?_ hdb)⟩
  exact PySem.W.callWith_K (h₀ := X.base) I.ok.mod.kin hk (thn (ha.run pos pins s σ H _ I h) fun us s1 ⟨vs, H1, I1, r, q⟩ => ⟨I1.kIn, run_fnG F hgd hr hb hd hx I1 r q⟩) he hpl
theorem pe_callG0 (F : FnG X.prog X.w X.K X.mg X.base CX k f fd ps sp) (hgd : X.A.guards = some []) (hr : Room k X.A) (hg : Gl X x) (hm : X.mg x = some (.ref f)) (hk : PySem.W.keepIn X.K (.ref f) = true)
    (hb : Binds X.K fd ps ds) (hd : Vals dvs ds) (hx : Passes CX X E) (hdb : (x == ("__debug__" : Str)) = false := by decide) : PE X (.Call (.Name x p) [] [] pos) (tCall sp dvs E tNil) := by
  refine ⟨fun pins s σ H Q I h => wpAny_Call_Name_kw (ld_glob I hg hm ?_ hdb)⟩
  exact PySem.W.callWith_K0 I.kIn hk (run_fnG (us := []) F hgd hr hb hd hx I .nil h)

/-- repr of data -/
def rRepr (K : PySem.W.Frag) : List V → Hp → VK → Prop := fun vs H Q => ∃ x d, vs = [x] ∧ Dp K H x d ∧ d.showable = true ∧ d.hasDict = false ∧ d.depth ≤ 60 ∧ d.shown.length ≤ sizeLine ∧ Q (.str d.shown) H
theorem call_repr (hgd : X.A.guards = some []) (hr : X.A.units + 64 < cLine) : CallR X (.builtin "repr") (rRepr X.K) := by
  intro pins s σ H vs us Q I r h
  obtain ⟨x, d, rfl, hd, hs, hn, hz, hl, q⟩ := h
  obtain ⟨u, rfl, rx⟩ := vals1 r
  obtain ⟨as, rd⟩ := Dp.reads I d x u hd rx
  cases d with
  | none => cases rd; exact PySem.P.repr_of_none ⟨.str _, H, I.tok _, ⟨_, rfl⟩, q⟩
  | bool b => cases rd; exact PySem.P.repr_of_bool ⟨.str _, H, I.tok _, ⟨_, rfl⟩, q⟩
  | int i => cases rd; exact PySem.P.repr_of_int (by simpa [PyData.showable] using hs) ⟨.str _, H, I.tok _, ⟨_, rfl⟩, q⟩
  | str y => cases rd; exact PySem.P.repr_of_str ⟨.str _, H, I.tok _, ⟨_, rfl⟩, q⟩ hl
  | list xs =>
    have hh := hd
    cases hh
    cases (show u = Value.ref _ from rx)
    exact repr_of_reads' rd hs (PyData.noDict_hsm hn) hgd (by omega) (fun _ _ z => z) (fun h' u tk hk => ⟨.str _, H, I.kept (t' := tk) hk, ⟨u, rfl⟩, q⟩) hl
  | tuple xs =>
    have hh := hd
    cases hh
    cases (show u = Value.ref _ from rx)
    exact repr_of_reads' rd hs (PyData.noDict_hsm hn) hgd (by omega) (fun _ _ z => z) (fun h' u tk hk => ⟨.str _, H, I.kept (t' := tk) hk, ⟨u, rfl⟩, q⟩) hl
  | dict _ => cases hn
end
end Hg
end L2
end

section
set_option Elab.async false
set_option linter.all false
set_option maxRecDepth 100000
set_option maxHeartbeats 4000000
/-! One rule an operator, for all the kinds that the package uses; readings in steps. -/
namespace L2
namespace Hg
open PySem PySem.Spec PyProof.Rows

/-! ### operators by values -/
def uAddI : R2 := rI0 fun i j => .int (i + j)
def uAddS : R2 := fun x y H Q => ∃ i j, x = .str i ∧ y = .str j ∧ i.length + j.length ≤ sizeLine ∧ Q (.str (i ++ j)) H
def uAdd (K : PySem.W.Frag) : R2 := fun x y H Q => uAddI x y H Q ∨ uAddS x y H Q ∨ rCat x y H Q ∨ rCatT K x y H Q
def uSub : R2 := rI0 fun i j => .int (i - j)
def uMul : R2 := fun x y H Q => rI CMul (fun i j => .int (i * j)) x y H Q ∨ rI CMulW (fun i j => .int (i * j)) x y H Q ∨ rRep x y H Q
def uDiv : R2 := fun x y H Q => rI CDiv (fun i j => .int (i / j)) x y H Q ∨ rI CDivW (fun i j => .int (i / j)) x y H Q
def uMod : R2 := rI (fun _ j => 0 < j) fun i j => .int (i % j)
def uPow : R2 := rI CPow fun i j => .int (i ^ j.toNat)
def uLt : R2 := rI0 fun i j => .bl (decide (i < j))
def uLe : R2 := rI0 fun i j => .bl (decide (i ≤ j))
def uGt : R2 := rI0 fun i j => .bl (decide (j < i))
def uGe : R2 := rI0 fun i j => .bl (decide (j ≤ i))
def uEq (K : PySem.W.Frag) : R2 := fun x y H Q => rEq x y H Q ∨ rEqD K x y H Q
def uNe (K : PySem.W.Frag) : R2 := fun x y H Q => rNe x y H Q ∨ rNeD K x y H Q
def uIn (K : PySem.W.Frag) : R2 := fun x y H Q => rIn K false x y H Q ∨ rInS x y H Q
def uNotIn (K : PySem.W.Frag) : R2 := fun x y H Q => rIn K true x y H Q ∨ rNotInS x y H Q
section
variable {X : Cx}
theorem o_add (K : PySem.W.Frag) (hK : X.K = K := by rfl) : OpR X (binaryOp .Add) (uAdd K) := hK ▸ OpR.or op_add (OpR.or op_add_str (OpR.or op_cat op_catT))
theorem o_sub : OpR X (binaryOp .Sub) uSub := op_sub
theorem o_mul : OpR X (binaryOp .Mult) uMul := OpR.or op_mul (OpR.or op_mulW op_rep)
theorem o_div : OpR X (binaryOp .FloorDiv) uDiv := OpR.or op_fdiv op_fdivW
theorem o_mod : OpR X (binaryOp .Mod) uMod := op_mod
theorem o_pow : OpR X (binaryOp .Pow) uPow := op_pow
theorem o_lt : OpR X (compareOp .Lt) uLt := op_lt
theorem o_le : OpR X (compareOp .LtE) uLe := op_le
theorem o_gt : OpR X (compareOp .Gt) uGt := op_gt
theorem o_ge : OpR X (compareOp .GtE) uGe := op_ge
theorem o_eq (K : PySem.W.Frag) (hu : X.A.units + 64 < cLine) (hK : X.K = K := by rfl) : OpR X (compareOp .Eq) (uEq K) := hK ▸ OpR.or op_eq (op_eqD hu)
theorem o_ne (K : PySem.W.Frag) (hu : X.A.units + 64 < cLine) (hK : X.K = K := by rfl) : OpR X (compareOp .NotEq) (uNe K) := hK ▸ OpR.or op_ne (op_neD hu)
theorem o_in (K : PySem.W.Frag) (hK : X.K = K := by rfl) : OpR X (compareOp .In) (uIn K) := hK ▸ OpR.or op_in_seq op_inS
theorem o_notIn (K : PySem.W.Frag) (hK : X.K = K := by rfl) : OpR X (compareOp .NotIn) (uNotIn K) := hK ▸ OpR.or op_notIn_seq op_notInS
theorem o_is : OpR X (compareOp .Is) rIsN := op_isN1
theorem o_isNot : OpR X (compareOp .IsNot) rNotN := op_notN1
theorem ix_u (K : PySem.W.Frag) (hK : X.K = K := by rfl) : IxR X (rIx K) := hK ▸ ix_seq
end

/-! ### calls of built-ins by values -/
def uLen (K : PySem.W.Frag) : List V → Hp → VK → Prop := fun xs H Q => (∃ x n, xs = [x] ∧ LenV K x H n ∧ Q (.int n) H) ∨ ∃ a kvs, xs = [V.ref a] ∧ H a = some (.dK kvs) ∧ Q (.int kvs.length) H
def uAbs : List V → Hp → VK → Prop := fun xs H Q => ∃ i, xs = [.int i] ∧ Q (.int (if i < 0 then -i else i)) H
def uMin2 : List V → Hp → VK → Prop := fun xs H Q => ∃ i j, xs = [.int i, .int j] ∧ Q (.int (if j < i then j else i)) H
def uMax2 : List V → Hp → VK → Prop := fun xs H Q => ∃ i j, xs = [.int i, .int j] ∧ Q (.int (if j > i then j else i)) H
def uInt : List V → Hp → VK → Prop := fun xs H Q => ((∃ i, xs = [.int i] ∧ Q (.int i) H) ∨ ∃ k, xs = [.bl k] ∧ Q (.int (if k then 1 else 0)) H) ∨ ∃ a n, xs = [.str a] ∧ PySem.intText? a = some n ∧ a.length ≤ 640 ∧ Q (.int n) H
def uList (K : PySem.W.Frag) : List V → Hp → VK → Prop := fun xs H Q => ∃ p ys, xs = [.ref p] ∧ (SqL K H p ys ∨ SqT K H p ys) ∧ ∀ l, H l = none → Q (.ref l) (upd H l (.lst ys))
def uTuple (K : PySem.W.Frag) : List V → Hp → VK → Prop := fun xs H Q => ∃ p ys, xs = [.ref p] ∧ ((SqL K H p ys ∧ ∀ l, H l = none → Q (.ref l) (upd H l (.tup ys))) ∨ (SqT K H p ys ∧ Q (.ref p) H))
section
variable {X : Cx}
theorem c_len (K : PySem.W.Frag) (hK : X.K = K := by rfl) : CallR X (.builtin "len") (uLen K) := hK ▸ CallR.or call_len call_lenD
theorem c_abs : CallR X (.builtin "abs") uAbs := call_abs
theorem c_min2 (hc : X.calm = true) : CallR X (.builtin "min") uMin2 := call_min2 hc
theorem c_max2 (hc : X.calm = true) : CallR X (.builtin "max") uMax2 := call_max2 hc
theorem c_int : CallR X (.type "int") uInt := CallR.or call_int1 call_int_str
theorem c_list (K : PySem.W.Frag) (hK : X.K = K := by rfl) : CallR X (.type "list") (uList K) := hK ▸ call_list_of
theorem c_tuple (K : PySem.W.Frag) (hK : X.K = K := by rfl) : CallR X (.type "tuple") (uTuple K) := hK ▸ call_tuple_of
theorem c_isi (K : PySem.W.Frag) (hK : X.K = K := by rfl) : CallR X (.builtin "isinstance") (rIsi K) := hK ▸ call_isi
theorem c_isiT (K : PySem.W.Frag) (hK : X.K = K := by rfl) : CallR X (.builtin "isinstance") (rIsiT K) := hK ▸ call_isiT
theorem c_repr (K : PySem.W.Frag) (hgd : X.A.guards = some []) (hr : X.A.units + 64 < cLine) (hK : X.K = K := by rfl) : CallR X (.builtin "repr") (rRepr K) := hK ▸ call_repr hgd hr
theorem c_sum (K : PySem.W.Frag) (hc : X.calm = true) (hK : X.K = K := by rfl) : CallR X (.builtin "sum") (rSum K) := hK ▸ cr_sum hc
theorem c_all (K : PySem.W.Frag) (hc : X.calm = true) (hK : X.K = K := by rfl) : CallR X (.builtin "all") (rAll K) := hK ▸ cr_all hc
theorem c_any (K : PySem.W.Frag) (hc : X.calm = true) (hK : X.K = K := by rfl) : CallR X (.builtin "any") (rAny K) := hK ▸ cr_any hc
end

/-! ### names of the module -/
section
variable {X : Cx} {x : Str} {pos : Pos}
theorem pe_gI {i : Int} (hg : Gl X x) (hm : ∃ t, X.mg x = some (.int i t)) (hd : (x == ("__debug__" : Str)) = false := by decide) : PE X (.Name x pos) (tC (.int i)) :=
  let ⟨_, h⟩ := hm
  pe_glob hg h ⟨_, rfl⟩ hd
theorem pe_gS {z : Str} (hg : Gl X x) (hm : ∃ t, X.mg x = some (.str z t)) (hd : (x == ("__debug__" : Str)) = false := by decide) : PE X (.Name x pos) (tC (.str z)) :=
  let ⟨_, h⟩ := hm
  pe_glob hg h ⟨_, rfl⟩ hd
theorem pe_gR {a : Addr} (hg : Gl X x) (hm : X.mg x = some (.ref a)) (hd : (x == ("__debug__" : Str)) = false := by decide) : PE X (.Name x pos) (tC (.ref a)) :=
  pe_glob hg hm rfl hd
theorem pe_bT {T : String} (hg : Gl X x) (hm : X.mg x = none) (hv : bootBuiltins x = some (.type T)) (hn : x ≠ "__name__" := by decide) (hd : (x == ("__debug__" : Str)) = false := by decide) : PE X (.Name x pos) (tC (.ty T)) :=
  pe_bltn hg hm hv rfl hn hd
end

/-! ### the written part by its name -/
section
variable {X : Cx} {a : Expr} {ta : TE} {K : PySem.W.Frag}
def tTr (K : PySem.W.Frag) (ta : TE) : TT := fun σ H Q => ta σ H fun x H' => ∃ k, TruV K x H' k ∧ Q k H'
theorem pt_tr (K : PySem.W.Frag) (ha : PE X a ta) (he : ∀ whole, isTrue a X.env whole = (do let v ← whole; standAt a.pos; holding [v] (truthy v)) := by intro _; rfl) (hK : X.K = K := by rfl) :
    PT X a (tTr K ta) := hK ▸ pt_truth ha he
theorem pe_fl {e : Expr} {f : Str} {pos : Pos} (K : PySem.W.Frag) (ha : PE X e ta) (hb : attributeBase e f X.env (eval e X.env) = eval e X.env := by rfl) (hK : X.K = K := by rfl) : PE X (.Attribute e f pos) (tFld K ta f) := hK ▸ pe_fld ha hb
theorem ps_fl {o value : Expr} {f : Str} {pos' pos : Pos} {tv : TE} (K : PySem.W.Frag) (ho : PE X o ta) (hv : PE X value tv) (hs : swapsWith value (some (.Attribute o f pos')) pos.line X.env = pure false := by rfl) (hK : X.K = K := by rfl) :
    PS X (.Assign [.Attribute o f pos'] value pos) (sFld K ta tv f) := hK ▸ ps_fld ho hv hs
end

section
variable {X : Cx} {tg e : Expr} {t : TE}
theorem pi_l (K : PySem.W.Frag) (ha : PE X e t) (hK : X.K = K := by rfl) : PI X tg e (iList K t) := hK ▸ pi_list ha
theorem pg_l {es : List Expr} {k n : Nat} {t : TGs} {pos : Pos} (K : PySem.W.Frag) (hc : X.calm = true) (h : PGs X es t) (hn : (assignEach es X.env).length = n := by rfl) (hst : (assignEach es X.env).findIdx? (·.1) = none := by rfl) (hK : X.K = K := by rfl) :
    PG X (.Tuple es k pos) (gLst K n t) := hK ▸ pg_lst hc h hn hst
theorem pg_t {es : List Expr} {k n : Nat} {t : TGs} {pos : Pos} (K : PySem.W.Frag) (hc : X.calm = true) (h : PGs X es t) (hn : (assignEach es X.env).length = n := by rfl) (hst : (assignEach es X.env).findIdx? (·.1) = none := by rfl) (hK : X.K = K := by rfl) :
    PG X (.Tuple es k pos) (gTup K n t) := hK ▸ pg_tup hc h hn hst
theorem pi_t (K : PySem.W.Frag) (ha : PE X e t) (hK : X.K = K := by rfl) : PI X tg e (iTup K t) := hK ▸ pi_tup ha
end
/-! ### errors that pass -/
section
variable {X : Cx}
theorem passF {P : Program} {w : World} : Passes (L2.CX P w) X E0 := by
  intro pins σ H s e s' I c
  obtain ⟨a, B, H', cls, d, _, _, _, _, _, _, _, h⟩ := c
  exact h.elim
theorem passT {E : XK} (tk : Takes X (fun cls d _ H => E cls d H)) : Passes (L2.CX X.prog X.w) X E := passes_call tk fun _ _ _ _ z => z
variable {CX : CXT} {k : Nat} {f C : Addr} {fd : FuncData} {ps : List Str} {sp : Sp} {dvs : List V} {ds : List Value} {E : St → XK} {x m : Str} {p pos apos : Pos} {e o : Expr} {es : List Expr} {ta : TE} {t : TA}
/-- C(..) where what is raised is wished at the slots -/
def tMakeS (C : Addr) (sp : Sp) (dvs : List V) (E : St → XK) (t : TA) : TE := fun σ H Q => t σ H fun vs H1 => ∀ x dx, H1 x = none → H1 dx = none → dx ≠ x →
  sp (.ref x :: (vs ++ dvs)) (upd (upd H1 dx (.own x)) x (.ins C dx [])) (fun v H2 => v = .non ∧ Q (.ref x) H2) (E σ)
theorem run_makeS {pins : List (Addr × Obj)} {σ : St} {H : Hp} {s : Shared} {Q : VK} {us : List Value} {vs : List V} (M : Mk X.K C f) (F : FnOk X.prog X.w X.K X.mg X.base CX k f fd ps sp) (hr : Room (k + 1) X.A)
    (hb : Binds X.K fd ps ds) (hd : Vals dvs ds) (hx : PassesAt CX X σ (E σ)) (I : Inv X pins σ H s) (r : Vals vs us)
    (h : ∀ x dx, H x = none → H dx = none → dx ≠ x → sp (.ref x :: (vs ++ dvs)) (upd (upd H dx (.own x)) x (.ins C dx [])) (fun v H2 => v = .non ∧ Q (.ref x) H2) (E σ)) :
    wpAny (model X.prog X.w) X.A (call (.ref C) us) (EP X pins σ Q) X.xe s := by
  have hq := h (s.heap.objs.size + 1) s.heap.objs.size (I.hok.fresh (Nat.le_succ _)) (I.hok.fresh (Nat.le_refl _)) (Nat.ne_of_lt (Nat.lt_succ_self _))
  have I2 := Inv.made (C := C) I
  have r2 : Vals (V.ref (s.heap.objs.size + 1) :: (vs ++ dvs)) (Value.ref (s.heap.objs.size + 1) :: (us ++ ds)) := .cons rfl (r.append hd)
  have hl : (Value.ref (s.heap.objs.size + 1) :: us ++ ds).length = ps.length := by
    have z := r2.length
    rw [F.len _ _ _ _ hq] at z
    exact z.symm
  have main := F.run _ X.stack _ _ ⟨Value.ref (s.heap.objs.size + 1) :: us, []⟩ (Value.ref (s.heap.objs.size + 1) :: (us ++ ds)) _ _ (E σ) (hr.make C us [])
    (I2.env0.make C us []) (hb _ (Value.ref (s.heap.objs.size + 1) :: us) I2.kIn hl) r2 hq
  refine wpAny_call (make_map (f := f) I.kIn M.makes M.init (beq_iff_eq.mp M.fn) (codeAny_mono main fun r s' hq' => ?_))
  cases r with
  | error er => exact hx pins _ _ er s' I2 hq'
  | ok fl =>
    cases fl with
    | ret u =>
      obtain ⟨v, H', I3, rv, ev, q3⟩ := I2.after hq'
      subst ev
      exact ⟨rv, ⟨V.ref (s.heap.objs.size + 1), H', I3, rfl, q3⟩⟩
    | next => exact False.elim hq'
    | brk => exact False.elim hq'
    | cont => exact False.elim hq'
theorem pe_makeS (M : Mk X.K C f) (F : FnOk X.prog X.w X.K X.mg X.base CX k f fd ps sp) (hr : Room (k + 1) X.A) (hg : Gl X x) (hm : X.mg x = some (.ref C)) (hb : Binds X.K fd ps ds) (hd : Vals dvs ds) (hx : ∀ σ, PassesAt CX X σ (E σ))
    (ha : PA X (e :: es) t) (hdb : (x == ("__debug__" : Str)) = false := by decide) (he : starEach (e :: es) X.env = (false, eval e X.env) :: starEach es X.env := by rfl) (hpl : (backTo pos (starEach es X.env)).any (·.1) = false := by rfl) :
    PE X (.Call (.Name x p) (e :: es) [] pos) (tMakeS C sp dvs E t) := by
  refine ⟨fun pins s σ H Q I h => wpAny_Call_Name_kw (ld_glob I hg hm ?_ hdb)⟩
  exact PySem.W.callWith_K (h₀ := X.base) I.ok.mod.kin M.kp (thn (ha.run pos pins s σ H _ I h) fun us s1 ⟨vs, H1, I1, r, q⟩ => ⟨I1.kIn, run_makeS M F hr hb hd (hx σ) I1 r q⟩) he hpl
end
end Hg
end L2
end

section
set_option Elab.async false
set_option linter.all false
set_option maxRecDepth 100000
set_option maxHeartbeats 4000000
/-! Readings, one step each (each is a reading's own definition, turned into a rule to be applied backwards). -/
namespace L2
namespace Hg
open PySem PySem.Spec PyProof.Rows
section
variable {K : PySem.W.Frag} {σ : St} {H : Hp} {Q : VK} {QB : Bool → Hp → Prop} {QL : List V → Hp → Prop} {QS : St → Hp → Prop} {D : Ends} {v x y : V} {i j : Nat} {ta tb tc te : TE} {t u : TT} {tl tr : TA} {ts t1 t2 : TS}
theorem sz {n : Nat} (h : n ≤ 100000) : n ≤ sizeLine := Nat.le_trans h (by decide)
theorem szl {n : Nat} (h : Nat.ble n 100000 = true) : n ≤ sizeLine := sz (Nat.le_of_ble_eq_true h)
theorem szlt {n : Nat} (h : Nat.ble n 100000 = true) : n < sizeLine := Nat.lt_of_le_of_lt (Nat.le_of_ble_eq_true h) (by decide : 100000 < sizeLine)
theorem at_upd {p q : Addr} {o u : HO} (n : q ≠ p) (h : H q = some o) : upd H p u q = some o := (upd_ne n).trans h
theorem free_upd {p q : Addr} {o : HO} (h : upd H p o q = none) : H q = none ∧ q ≠ p := by
  by_cases e : q = p
  · subst e; rw [upd_same] at h; cases h
  · exact ⟨(upd_ne e).symm.trans h, e⟩
/-! ### expressions -/
theorem r_var (h : σ[i]? = some (some v)) (k : Q v H) : tVar i σ H Q := ⟨v, h, k⟩
theorem r_c (k : Q v H) : tC v σ H Q := k
theorem r_op {r : R2} (k : ta σ H fun x H1 => tb σ H1 fun y H2 => r x y H2 Q) : tOp r ta tb σ H Q := k
theorem r_un {r : V → Hp → VK → Prop} (k : ta σ H fun x H1 => r x H1 Q) : tUn r ta σ H Q := k
theorem r_neg {a : Int} (k : Q (.int (-a)) H) : (rU fun i => .int (-i)) (.int a) H Q := ⟨a, rfl, k⟩
theorem r_cb {r : List V → Hp → VK → Prop} (k : tl σ H fun vs H1 => r vs H1 Q) : tCB r tl σ H Q := k
theorem r_nil (k : QL [] H) : tNil σ H QL := k
theorem r_cons (k : ta σ H fun x H1 => tr σ H1 fun xs H2 => QL (x :: xs) H2) : tCons ta tr σ H QL := k
theorem r_call {sp : Sp} {dvs : List V} {E : XK} (k : tl σ H fun vs H1 => sp (vs ++ dvs) H1 Q E) : tCall sp dvs E tl σ H Q := k
theorem r_callS {sp : Sp} {E : St → XK} (k : tl σ H fun vs H1 => sp vs H1 Q (E σ)) : tCallS sp E tl σ H Q := k
theorem r_tup (k : tl σ H fun xs H1 => xs.length ≤ sizeLine ∧ ∀ p, H1 p = none → Q (.ref p) (upd H1 p (.tup xs))) : tTup tl σ H Q := k
theorem r_lst (k : tl σ H fun xs H1 => xs.length ≤ sizeLine ∧ ∀ p, H1 p = none → Q (.ref p) (upd H1 p (.lst xs))) : tLst tl σ H Q := k
theorem r_if (k : t σ H fun c H1 => if c = true then ta σ H1 Q else tb σ H1 Q) : tIf t ta tb σ H Q := k
theorem r_test (k : te σ H fun x H' => ∃ c, x = .bl c ∧ QB c H') : tTest te σ H QB := k
theorem r_B (k : te σ H fun x H' => ∃ c, x = .bl c ∧ QB c H') : tB te σ H QB := k
theorem r_bl {b : Bool} {R : Bool → Prop} (k : R b) : ∃ c, V.bl b = .bl c ∧ R c := ⟨b, rfl, k⟩
theorem r_tru {b : Bool} {R : Bool → Prop} (k : R b) : ∃ c, TruV K (.bl b) H c ∧ R c := ⟨b, rfl, k⟩
theorem r_trK (k : te σ H fun x H' => ∃ c, TruV K x H' c ∧ QB c H') : tTr K te σ H QB := k
theorem r_and (k : t σ H fun c H1 => if c = true then u σ H1 QB else QB false H1) : tAnd t u σ H QB := k
theorem r_or (k : t σ H fun c H1 => if c = true then QB true H1 else u σ H1 QB) : tOr t u σ H QB := k
theorem r_not (k : t σ H fun c H1 => QB (!c) H1) : tNot t σ H QB := k
theorem r_andV (k : ta σ H fun x H1 => ∃ c, x = .bl c ∧ if c = true then tb σ H1 Q else Q (.bl false) H1) : tAndV ta tb σ H Q := k
theorem r_orV (k : ta σ H fun x H1 => ∃ c, x = .bl c ∧ if c = true then Q (.bl true) H1 else tb σ H1 Q) : tOrV ta tb σ H Q := k
theorem r_notV (k : ta σ H fun x H1 => ∃ c, x = .bl c ∧ Q (.bl (!c)) H1) : tNotV ta σ H Q := k
theorem r_chain {r r' : R2} (k : ta σ H fun x H1 => tb σ H1 fun y H2 => r x y H2 fun z H3 => ∃ c, z = .bl c ∧ (if c = true then tc σ H3 fun w H4 => r' y w H4 Q else Q (.bl false) H3)) : tChain r r' ta tb tc σ H Q := k
theorem r_ite {c : Bool} {A B : Prop} (h1 : c = true → A) (h2 : c = false → B) : if c = true then A else B := by
  cases c with
  | true => exact h1 rfl
  | false => exact h2 rfl
theorem r_T {A B : Prop} (h : A) : if true = true then A else B := h
theorem r_F {A B : Prop} (h : B) : if false = true then A else B := h
theorem r_nT {A B : Prop} (h : A) : if (!false) = true then A else B := h
theorem r_nF {A B : Prop} (h : B) : if (!true) = true then A else B := h
theorem r_Td {c : Prop} [Decidable c] {A B : Prop} (hc : c) (h : A) : if decide c = true then A else B := by rw [decide_eq_true hc]; exact h
theorem r_Fd {c : Prop} [Decidable c] {A B : Prop} (hc : ¬ c) (h : B) : if decide c = true then A else B := by rw [decide_eq_false hc]; exact h
theorem r_id {c : Prop} [Decidable c] {A B : Prop} (h1 : c → A) (h2 : ¬ c → B) : if decide c = true then A else B := by
  by_cases h : c
  · exact r_Td h (h1 h)
  · exact r_Fd h (h2 h)
/-! ### operators by values -/
theorem r_I0 {g : Int → Int → V} {a b : Int} (k : Q (g a b) H) : rI0 g (.int a) (.int b) H Q := ⟨a, b, rfl, rfl, k⟩
theorem r_I {C : Int → Int → Prop} {g : Int → Int → V} {a b : Int} (c : C a b) (k : Q (g a b) H) : rI C g (.int a) (.int b) H Q := ⟨a, b, rfl, rfl, c, k⟩
theorem r_addI {a b : Int} (k : Q (.int (a + b)) H) : uAdd K (.int a) (.int b) H Q := .inl ⟨a, b, rfl, rfl, k⟩
theorem r_addS {a b : Str} (z : a.length + b.length ≤ sizeLine) (k : Q (.str (a ++ b)) H) : uAdd K (.str a) (.str b) H Q := .inr (.inl ⟨a, b, rfl, rfl, z, k⟩)
theorem r_addL {a b : Addr} {xs ys : List V} (ha : H a = some (.lst xs)) (hb : H b = some (.lst ys)) (z : xs.length + ys.length ≤ sizeLine) (k : ∀ p, H p = none → Q (.ref p) (upd H p (.lst (xs ++ ys)))) : uAdd K (.ref a) (.ref b) H Q :=
  .inr (.inr (.inl ⟨a, b, xs, ys, rfl, rfl, ha, hb, z, k⟩))
theorem r_addT {a b : Addr} {xs ys : List V} (ha : SqT K H a xs) (hb : SqT K H b ys) (ne : xs ≠ []) (z : xs.length + ys.length ≤ sizeLine) (k0 : ys = [] → Q (.ref a) H) (k : ys ≠ [] → ∀ p, H p = none → Q (.ref p) (upd H p (.tup (xs ++ ys)))) : uAdd K (.ref a) (.ref b) H Q :=
  .inr (.inr (.inr ⟨a, b, xs, ys, rfl, rfl, ha, hb, ne, z, k0, k⟩))
theorem r_sub {a b : Int} (k : Q (.int (a - b)) H) : uSub (.int a) (.int b) H Q := ⟨a, b, rfl, rfl, k⟩
theorem r_mul {a b : Int} (c : CMul a b) (k : Q (.int (a * b)) H) : uMul (.int a) (.int b) H Q := .inl ⟨a, b, rfl, rfl, c, k⟩
theorem r_mulW {a b : Int} (c : CMulW a b) (k : Q (.int (a * b)) H) : uMul (.int a) (.int b) H Q := .inr (.inl ⟨a, b, rfl, rfl, c, k⟩)
theorem r_rep {a : Addr} {n : Int} {xs : List V} (ha : H a = some (.lst xs)) (h0 : -(2 ^ 63) ≤ n) (h1 : n < 2 ^ 63) (z : xs.length * n.toNat ≤ sizeLine) (k : ∀ p, H p = none → Q (.ref p) (upd H p (.lst (List.replicate n.toNat xs).flatten))) : uMul (.ref a) (.int n) H Q :=
  .inr (.inr ⟨a, n, xs, rfl, rfl, ha, h0, h1, z, k⟩)
theorem cmulL {a b : Int} (h : -(2 ^ 64) < a ∧ a < 2 ^ 64) : CMul a b := .inl h
theorem cmulR {a b : Int} (h : -(2 ^ 64) < b ∧ b < 2 ^ 64) : CMul a b := .inr h
theorem r_div {a b : Int} (h0 : 0 < b) (h1 : b < 1073741824) (k : Q (.int (a / b)) H) : uDiv (.int a) (.int b) H Q := .inl ⟨a, b, rfl, rfl, ⟨h0, h1⟩, k⟩
theorem r_divW {a b : Int} (c : CDivW a b) (k : Q (.int (a / b)) H) : uDiv (.int a) (.int b) H Q := .inr ⟨a, b, rfl, rfl, c, k⟩
theorem r_mod {a b : Int} (h0 : 0 < b) (k : Q (.int (a % b)) H) : uMod (.int a) (.int b) H Q := ⟨a, b, rfl, rfl, h0, k⟩
theorem r_pow {a b : Int} (c : CPow a b) (k : Q (.int (a ^ b.toNat)) H) : uPow (.int a) (.int b) H Q := ⟨a, b, rfl, rfl, c, k⟩
theorem r_lt {a b : Int} (k : Q (.bl (decide (a < b))) H) : uLt (.int a) (.int b) H Q := ⟨a, b, rfl, rfl, k⟩
theorem r_le {a b : Int} (k : Q (.bl (decide (a ≤ b))) H) : uLe (.int a) (.int b) H Q := ⟨a, b, rfl, rfl, k⟩
theorem r_gt {a b : Int} (k : Q (.bl (decide (b < a))) H) : uGt (.int a) (.int b) H Q := ⟨a, b, rfl, rfl, k⟩
theorem r_ge {a b : Int} (k : Q (.bl (decide (b ≤ a))) H) : uGe (.int a) (.int b) H Q := ⟨a, b, rfl, rfl, k⟩
theorem r_eq (s : scal x y = true) (k : Q (.bl (decide (x = y))) H) : uEq K x y H Q := .inl ⟨s, k⟩
theorem r_eqD {d e : PyData} (hd : Dp K H x d) (he : Dp K H y e) (sd : SeqAt.shaped d = true) (se : SeqAt.shaped e = true) (k : Q (.bl (PyData.eqv d e)) H) : uEq K x y H Q := .inr ⟨d, e, hd, he, sd, se, k⟩
theorem r_ne (s : scal x y = true) (k : Q (.bl (!decide (x = y))) H) : uNe K x y H Q := .inl ⟨s, k⟩
theorem r_neD {d e : PyData} (hd : Dp K H x d) (he : Dp K H y e) (sd : SeqAt.shaped d = true) (se : SeqAt.shaped e = true) (k : Q (.bl (!PyData.eqv d e)) H) : uNe K x y H Q := .inr ⟨d, e, hd, he, sd, se, k⟩
theorem r_isN (k : Q (.bl (decide (x = .non))) H) : rIsN x .non H Q := ⟨rfl, k⟩
theorem r_notN (k : Q (.bl (!decide (x = .non))) H) : rNotN x .non H Q := ⟨rfl, k⟩
theorem r_inQ {p : Addr} {xs : List V} (h : SqL K H p xs ∨ SqT K H p xs) (fx : flatV x = true) (fs : xs.all flatV = true) (k : Q (.bl (inV x xs)) H) : uIn K x (.ref p) H Q := .inl ⟨p, xs, rfl, h, fx, fs, k⟩
theorem r_inS {c : Nat} {z : Str} (k : Q (.bl (decide (c ∈ z.cps.toList))) H) : uIn K (.str ⟨#[c]⟩) (.str z) H Q := .inr ⟨c, z, rfl, rfl, k⟩
theorem r_ninQ {p : Addr} {xs : List V} (h : SqL K H p xs ∨ SqT K H p xs) (fx : flatV x = true) (fs : xs.all flatV = true) (k : Q (.bl (!inV x xs)) H) : uNotIn K x (.ref p) H Q := .inl ⟨p, xs, rfl, h, fx, fs, k⟩
/-- xs[i] of a list that stands in H (ixL), of any list or tuple that may be read -/
theorem r_ixL {p : Addr} {n : Int} {xs : List V} (h : SqL K H p xs) (ha : atI xs n = some v) (k : Q v H) : rIx K (.ref p) (.int n) H Q := .inl ⟨p, xs, n, v, rfl, rfl, h, ha, k⟩
theorem r_ixT {p : Addr} {n : Int} {xs : List V} (h : SqT K H p xs) (ha : atI xs n = some v) (k : Q v H) : rIx K (.ref p) (.int n) H Q := .inr (.inl ⟨p, xs, n, v, rfl, rfl, h, ha, k⟩)
theorem r_ixS {z : Str} {n : Int} {c : Nat} (h : z.length ≤ sizeLine) (ha : atI z.cps.toList n = some c) (k : Q (.str ⟨#[c]⟩) H) : rIx K (.str z) (.int n) H Q := .inr (.inr ⟨z, n, c, rfl, rfl, h, ha, k⟩)
/-! ### built-ins by values -/
theorem r_lenL {p : Addr} {xs : List V} (h : SqL K H p xs) (k : Q (.int (xs.length : Nat)) H) : uLen K [.ref p] H Q := .inl ⟨_, _, rfl, .inl ⟨xs, h, rfl⟩, k⟩
theorem r_lenT {p : Addr} {xs : List V} (h : SqT K H p xs) (k : Q (.int (xs.length : Nat)) H) : uLen K [.ref p] H Q := .inl ⟨_, _, rfl, .inr ⟨xs, h, rfl⟩, k⟩
theorem r_lenS {z : Str} (h : z.length ≤ sizeLine) (k : Q (.int (z.length : Nat)) H) : uLen K [.str z] H Q := .inl ⟨_, _, rfl, ⟨h, rfl⟩, k⟩
theorem r_lenD {p : Addr} {kvs : List (Key × V)} (h : H p = some (.dK kvs)) (k : Q (.int (kvs.length : Nat)) H) : uLen K [.ref p] H Q := .inr ⟨p, kvs, rfl, h, k⟩
theorem r_abs {a : Int} (k : Q (.int (if a < 0 then -a else a)) H) : uAbs [.int a] H Q := ⟨a, rfl, k⟩
theorem r_min2 {a b : Int} (k : Q (.int (if b < a then b else a)) H) : uMin2 [.int a, .int b] H Q := ⟨a, b, rfl, k⟩
theorem r_max2 {a b : Int} (k : Q (.int (if b > a then b else a)) H) : uMax2 [.int a, .int b] H Q := ⟨a, b, rfl, k⟩
theorem r_intI {a : Int} (k : Q (.int a) H) : uInt [.int a] H Q := .inl (.inl ⟨a, rfl, k⟩)
theorem r_intB {b : Bool} (k : Q (.int (if b then 1 else 0)) H) : uInt [.bl b] H Q := .inl (.inr ⟨b, rfl, k⟩)
theorem r_list {p : Addr} {xs : List V} (h : SqL K H p xs ∨ SqT K H p xs) (k : ∀ l, H l = none → Q (.ref l) (upd H l (.lst xs))) : uList K [.ref p] H Q := ⟨p, xs, rfl, h, k⟩
theorem r_tupL {p : Addr} {xs : List V} (h : SqL K H p xs) (k : ∀ l, H l = none → Q (.ref l) (upd H l (.tup xs))) : uTuple K [.ref p] H Q := ⟨p, xs, rfl, .inl ⟨h, k⟩⟩
theorem r_tupT {p : Addr} {xs : List V} (h : SqT K H p xs) (k : Q (.ref p) H) : uTuple K [.ref p] H Q := ⟨p, xs, rfl, .inr ⟨h, k⟩⟩
theorem r_isi {c : V} {t u : Value} {b : Bool} (hc : ClsV c u) (ht : TyX K H x t) (hk : PySem.W.kitOne K t u = some b) (k : Q (.bl b) H) : rIsi K [x, c] H Q := ⟨x, c, t, u, b, rfl, hc, ht, hk, k⟩
theorem r_repr {d : PyData} (hd : Dp K H x d) (hs : d.showable = true) (hn : d.hasDict = false) (hz : d.depth ≤ 60) (hl : d.shown.length ≤ sizeLine) (k : Q (.str d.shown) H) : rRepr K [x] H Q := ⟨x, d, rfl, hd, hs, hn, hz, hl, k⟩
/-! ### statements -/
theorem r_seq (k : t1 { D with nx := t2 D } σ H) : tSeq t1 t2 D σ H := k
theorem r_next (k : D.nx σ H) : tNext D σ H := k
theorem r_asg {g : TG} (k : te σ H fun x H1 => g x σ H1 D.nx) : tAsg te g D σ H := k
/-- the slots behind the store, written out -/
theorem r_gNameE {σ' : St} (e : σ.set i (some v) = σ') (k : QS σ' H) : gName i v σ H QS := by subst e; exact k
theorem r_gName (k : QS (σ.set i (some v)) H) : gName i v σ H QS := k
theorem r_gSub {to ti : TE} {s : TSet} (k : to σ H fun o H1 => ti σ H1 fun i H2 => s o i v H2 fun H3 => QS σ H3) : gSub to ti s v σ H QS := k
theorem r_setL {p : Addr} {n : Int} {xs : List V} {m : Nat} {QH : Hp → Prop} (h : H p = some (.lst xs)) (hi : ixN xs.length n = some m) (k : QH (upd H p (.lst (xs.set m v)))) : rSetL (.ref p) (.int n) v H QH := ⟨p, xs, n, m, rfl, rfl, h, hi, k⟩
theorem r_ret (k : te σ H D.rt) : tRet te D σ H := k
theorem r_ifS (k : t σ H fun b H1 => if b = true then t1 D σ H1 else t2 D σ H1) : tIfS t t1 t2 D σ H := k
theorem r_drop (k : te σ H fun _ H1 => D.nx σ H1) : tDrop te D σ H := k
theorem r_for {wi : TI} {g : TG} (k : wi σ H fun J H1 => ∃ W : Nat → Nat → St → Hp → Prop, (∃ m, W 0 m σ H1) ∧ ∀ i m σ H, W i m σ H →
  (J.stop i H ∧ D.nx σ H) ∨ (J.go i H ∧ ∃ N : St → Hp → Prop, (∀ σ' H', N σ' H' → ∃ m', m' < m ∧ W (i + 1) m' σ' H') ∧ ∀ x H', J.yld i H x H' → g x σ H' fun σ2 H2 => ts { D with nx := N, ct := N, bk := D.nx } σ2 H2)) : tFor wi g ts D σ H := k
/-- for k in range(n) -/
theorem r_forR {tl : TA} {n : Int} {g : TG} (Pv : Nat → St → Hp → Prop) (h : tl σ H fun vs H1 => vs = [.int n] ∧ -(2 ^ 62) ≤ n ∧ n < 2 ^ 62 ∧ Pv 0 σ H1)
    (mono : ∀ {P P' : List V → Hp → Prop}, (∀ vs H, P vs H → P' vs H) → tl σ H P → tl σ H P')
    (hs : ∀ i σ H, i < n.toNat → Pv i σ H → g (.int (i : Nat)) σ H fun σ2 H2 => ts { D with nx := Pv (i + 1), ct := Pv (i + 1), bk := D.nx } σ2 H2)
    (hd : ∀ σ H, Pv n.toNat σ H → D.nx σ H) : tFor (iRng1 tl) g ts D σ H := by
  refine mono (fun vs H1 q => ?_) h
  obtain ⟨rfl, h1, h2, q⟩ := q
  refine ⟨n, rfl, h1, h2, for_range (lo := 0) (n := n.toNat) Pv q (fun i σ H hi p => ?_) hd⟩
  rw [Int.zero_add]
  exact hs i σ H hi p
end
end Hg
end L2
end

section
set_option Elab.async false
set_option linter.all false
set_option maxRecDepth 100000
set_option maxHeartbeats 4000000
/-! A def of the text as one hypothesis: where it stands (DefAt), what it keeps (DefOk, DefG); classes and errors likewise; boxes of draws. -/
namespace L2
namespace Hg
open PySem PySem.Spec PyProof.Rows

structure DefAt (K : PySem.W.Frag) (mg : Str → Option Value) (x : Str) (st : Stmt) : Prop where
  ex : ∃ f fd, mg x = some (.ref f) ∧ Fun K x x st f fd
def DefOk (P : Program) (w : World) (K : PySem.W.Frag) (mg : Str → Option Value) (base : Heap) (CX : CXT) (k : Nat) (x : Str) (ps : List Str) (sp : Sp) : Prop :=
  ∃ f fd, mg x = some (.ref f) ∧ PySem.W.keepIn K (.ref f) = true ∧ FnOk P w K mg base CX k f fd ps sp ∧ Binds K fd ps []
def DefG (P : Program) (w : World) (K : PySem.W.Frag) (mg : Str → Option Value) (base : Heap) (CX : CXT) (k : Nat) (x : Str) (ps : List Str) (sp : Sp) : Prop :=
  ∃ f fd, mg x = some (.ref f) ∧ PySem.W.keepIn K (.ref f) = true ∧ FnG P w K mg base CX k f fd ps sp ∧ Binds K fd ps []
abbrev BindsBy (st : Stmt) (x : Str) (ps : List Str) : Prop := ∀ (kV doc pm : Value) (an : Option Addr) (cdv ct : Value) (us : List Value), us.length = ps.length →
  bindArgs (PySem.W.fnOf x x (defArgs st) (defBody st) (defScope st) .none kV doc pm an cdv ct) ⟨us, []⟩ = pure (ps.zip us)
section
variable {P : Program} {w : World} {K : PySem.W.Frag} {mg : Str → Option Value} {base : Heap} {k : Nat} {x : Str} {st : Stmt} {N ps : List Str} {sp : Sp}
theorem DefAt.ok (F : DefAt K mg x st) (S : FnScope N ps (defScope st)) (hb : BindsBy st x ps) (len : ∀ vs H Q E, sp vs H Q E → vs.length = ps.length)
    (hbody : ∀ (f : Addr) (cdv : Value) (A : Around) (outer : List Env) (s : Shared) (H : Hp) (vs : List V) (Q : VK) (E : XK), Room k (A.deeper (envOfC x (defScope st) s.heap.objs.size f cdv)) → sp vs H Q E →
      ∃ t, PSs (cxOf CX0 P w K mg base N x (defScope st) f cdv A outer s H E).nox (defBody st) t ∧ t { nx := fun _ H' => Q .non H', rt := Q } (start N vs) H) : DefOk P w K mg base CX0 (k + 1) x ps sp := by
  obtain ⟨f, fd, hm, F⟩ := F.ex
  exact ⟨f, fd, hm, F.kp, F.ok S len fun cdv A outer s H vs Q E hr h => hbody f cdv A outer s H vs Q E hr h, F.binds hb⟩
theorem DefAt.okX (F : DefAt K mg x st) (S : FnScope N ps (defScope st)) (hb : BindsBy st x ps) (len : ∀ vs H Q E, sp vs H Q E → vs.length = ps.length)
    (hbody : ∀ (f : Addr) (cdv : Value) (A : Around) (outer : List Env) (s : Shared) (H : Hp) (vs : List V) (Q : VK) (E : XK), Room k (A.deeper (envOfC x (defScope st) s.heap.objs.size f cdv)) → sp vs H Q E →
      ∃ t, PSs (cxOf (L2.CX P w) P w K mg base N x (defScope st) f cdv A outer s H E) (defBody st) t ∧ t { nx := fun _ H' => Q .non H', rt := Q } (start N vs) H) : DefOk P w K mg base (L2.CX P w) (k + 1) x ps sp := by
  obtain ⟨f, fd, hm, F⟩ := F.ex
  exact ⟨f, fd, hm, F.kp, F.okX S len fun cdv A outer s H vs Q E hr h => hbody f cdv A outer s H vs Q E hr h, F.binds hb⟩
theorem DefAt.okG (F : DefAt K mg x st) (S : FnScope N ps (defScope st)) (hb : BindsBy st x ps) (len : ∀ vs H Q E, sp vs H Q E → vs.length = ps.length)
    (hbody : ∀ (f : Addr) (cdv : Value) (A : Around) (outer : List Env) (s : Shared) (H : Hp) (vs : List V) (Q : VK) (E : XK), A.guards = some [] → Room k (A.deeper (envOfC x (defScope st) s.heap.objs.size f cdv)) → sp vs H Q E →
      ∃ t, PSs (cxOf CX0 P w K mg base N x (defScope st) f cdv A outer s H E).nox (defBody st) t ∧ t { nx := fun _ H' => Q .non H', rt := Q } (start N vs) H) : DefG P w K mg base CX0 (k + 1) x ps sp := by
  obtain ⟨f, fd, hm, F⟩ := F.ex
  exact ⟨f, fd, hm, F.kp, Hg.okG F S len fun cdv A outer s H vs Q E hg hr h => hbody f cdv A outer s H vs Q E hg hr h, F.binds hb⟩
end
section
variable {X : Cx} {CX : CXT} {k : Nat} {ps : List Str} {sp : Sp} {E : XK} {x : Str} {p pos : Pos} {e : Expr} {es : List Expr} {t : TA}
theorem pe_callD (F : DefOk X.prog X.w X.K X.mg X.base CX k x ps sp) (hr : Room k X.A) (hx : Passes CX X E) (hg : Gl X x) (ha : PA X (e :: es) t) (hdb : (x == ("__debug__" : Str)) = false := by decide)
    (he : starEach (e :: es) X.env = (false, eval e X.env) :: starEach es X.env := by rfl) (hpl : (backTo pos (starEach es X.env)).any (·.1) = false := by rfl) : PE X (.Call (.Name x p) (e :: es) [] pos) (tCall sp [] E t) :=
  let ⟨_, _, hm, hk, G, hb⟩ := F
  pe_call G hr hg hm hk hb .nil hx ha hdb he hpl
theorem pe_callD0 (F : DefOk X.prog X.w X.K X.mg X.base CX k x ps sp) (hr : Room k X.A) (hx : Passes CX X E) (hg : Gl X x) (hdb : (x == ("__debug__" : Str)) = false := by decide) : PE X (.Call (.Name x p) [] [] pos) (tCall sp [] E tNil) :=
  let ⟨_, _, hm, hk, G, hb⟩ := F
  pe_call0 G hr hg hm hk hb .nil hx hdb
theorem pe_callDG (F : DefG X.prog X.w X.K X.mg X.base CX k x ps sp) (hgd : X.A.guards = some []) (hr : Room k X.A) (hx : Passes CX X E) (hg : Gl X x) (ha : PA X (e :: es) t) (hdb : (x == ("__debug__" : Str)) = false := by decide)
    (he : starEach (e :: es) X.env = (false, eval e X.env) :: starEach es X.env := by rfl) (hpl : (backTo pos (starEach es X.env)).any (·.1) = false := by rfl) : PE X (.Call (.Name x p) (e :: es) [] pos) (tCall sp [] E t) :=
  let ⟨_, _, hm, hk, G, hb⟩ := F
  pe_callG G hgd hr hg hm hk hb .nil hx ha hdb he hpl
theorem pe_callDG0 (F : DefG X.prog X.w X.K X.mg X.base CX k x ps sp) (hgd : X.A.guards = some []) (hr : Room k X.A) (hx : Passes CX X E) (hg : Gl X x) (hdb : (x == ("__debug__" : Str)) = false := by decide) : PE X (.Call (.Name x p) [] [] pos) (tCall sp [] E tNil) :=
  let ⟨_, _, hm, hk, G, hb⟩ := F
  pe_callG0 G hgd hr hg hm hk hb .nil hx hdb
end

/-! ### errors -/
/-- the error class x at C: its own `__init__` st, over the base G named g -/
structure ErrAt (K : PySem.W.Frag) (mg : Str → Option Value) (x q : Str) (st : Stmt) (C : Addr) : Prop where
  hm : mg x = some (.ref C)
  cl : OexC K C
  it : ∃ f fd, PySem.W.findIn K (.ref C) "__init__" = some (some (.ref f)) ∧ PySem.W.typeIn K (.ref f) = some (.type "function") ∧ Fun K "__init__" q st f fd
structure BaseAt (K : PySem.W.Frag) (mg : Str → Option Value) (g : Str) (G : Addr) : Prop where
  hm : mg g = some (.ref G)
  bi : BaseInit K G
/-- what making such an error keeps -/
def ErrOk (P : Program) (w : World) (K : PySem.W.Frag) (mg : Str → Option Value) (base : Heap) (k : Nat) (x : Str) (C : Addr) (ps : List Str) (sp : Sp) : Prop :=
  mg x = some (.ref C) ∧ OexC K C ∧ ∃ f fd, PySem.W.findIn K (.ref C) "__init__" = some (some (.ref f)) ∧ PySem.W.typeIn K (.ref f) = some (.type "function") ∧ FnOk P w K mg base CX0 k f fd ps sp ∧ Binds K fd ps []
abbrev BindsAs (st : Stmt) (x q : Str) (ps : List Str) : Prop := ∀ (kV doc pm : Value) (an : Option Addr) (cdv ct : Value) (us : List Value), us.length = ps.length →
  bindArgs (PySem.W.fnOf x q (defArgs st) (defBody st) (defScope st) .none kV doc pm an cdv ct) ⟨us, []⟩ = pure (ps.zip us)
section
variable {P : Program} {w : World} {K : PySem.W.Frag} {mg : Str → Option Value} {base : Heap} {k : Nat} {x q : Str} {st : Stmt} {C : Addr} {N ps : List Str} {sp : Sp}
theorem ErrAt.ok (F : ErrAt K mg x q st C) (S : FnScope N ps (defScope st)) (hb : BindsAs st "__init__" q ps) (len : ∀ vs H Q E, sp vs H Q E → vs.length = ps.length)
    (hbody : ∀ (f : Addr) (cdv : Value) (A : Around) (outer : List Env) (s : Shared) (H : Hp) (vs : List V) (Q : VK) (E : XK), Room k (A.deeper (envOfC q (defScope st) s.heap.objs.size f cdv)) → sp vs H Q E →
      ∃ t, PSs (cxOf CX0 P w K mg base N q (defScope st) f cdv A outer s H E).nox (defBody st) t ∧ t { nx := fun _ H' => Q .non H', rt := Q } (start N vs) H) : ErrOk P w K mg base (k + 1) x C ps sp := by
  obtain ⟨f, fd, hi, ht, F1⟩ := F.it
  exact ⟨F.hm, F.cl, f, fd, hi, ht, F1.ok S len fun cdv A outer s H vs Q E hr h => hbody f cdv A outer s H vs Q E hr h, F1.binds hb⟩
end
section
variable {X : Cx} {k : Nat} {ps : List Str} {sp : Sp} {x : Str} {p pos : Pos} {C : Addr} {e : Expr} {es : List Expr} {ta : TA}
theorem pmkN (F : ErrOk X.prog X.w X.K X.mg X.base k x C ps sp) (hr : Room (k + 1) X.A) (hg : Gl X x) (hdb : (x == ("__debug__" : Str)) = false := by decide) : PMk X (.Call (.Name x p) [] [] pos) (tMkN C sp) :=
  let ⟨hm, T, _, _, iC, tI, F1, hb⟩ := F
  pmk_oexN T iC tI F1 hr hb (fun _ _ _ _ _ _ _ c => c.elim) hg hm hdb
theorem pmkF (F : ErrOk X.prog X.w X.K X.mg X.base k x C ps sp) (hr : Room (k + 1) X.A) (hg : Gl X x) (ha : PA X (e :: es) ta) (hdb : (x == ("__debug__" : Str)) = false := by decide)
    (he : starEach (e :: es) X.env = (false, eval e X.env) :: starEach es X.env := by rfl) (hpl : (backTo pos (starEach es X.env)).any (·.1) = false := by rfl) : PMk X (.Call (.Name x p) (e :: es) [] pos) (tMkO C sp [] ta) :=
  let ⟨hm, T, _, _, iC, tI, F1, hb⟩ := F
  pmk_oex T iC tI F1 hr hb .nil (fun _ _ _ _ _ _ _ c => c.elim) hg hm ha hdb he hpl
end

/-! ### classes -/
/-- the class x at C -/
structure ClsAt (K : PySem.W.Frag) (mg : Str → Option Value) (x : Str) (C : Addr) : Prop where
  hm : mg x = some (.ref C)
  cl : Cls K C
  mks : PySem.W.makesIn K C = true
  kp : PySem.W.keepIn K (.ref C) = true
/-- making an instance of x -/
def MakeOk (P : Program) (w : World) (K : PySem.W.Frag) (mg : Str → Option Value) (base : Heap) (CX : CXT) (k : Nat) (x : Str) (C : Addr) (ps : List Str) (dvs : List V) (sp : Sp) : Prop :=
  mg x = some (.ref C) ∧ ∃ f fd ds, Mk K C f ∧ FnOk P w K mg base CX k f fd ps sp ∧ Binds K fd ps ds ∧ Vals dvs ds
section
variable {X : Cx} {CX : CXT} {k : Nat} {ps : List Str} {dvs : List V} {sp : Sp} {E : XK} {ES : St → XK} {x : Str} {p pos : Pos} {C : Addr} {e : Expr} {es : List Expr} {t : TA}
theorem pe_makeD (F : MakeOk X.prog X.w X.K X.mg X.base CX k x C ps dvs sp) (hr : Room (k + 1) X.A) (hx : Passes CX X E) (hg : Gl X x) (ha : PA X (e :: es) t) (hdb : (x == ("__debug__" : Str)) = false := by decide)
    (he : starEach (e :: es) X.env = (false, eval e X.env) :: starEach es X.env := by rfl) (hpl : (backTo pos (starEach es X.env)).any (·.1) = false := by rfl) : PE X (.Call (.Name x p) (e :: es) [] pos) (tMake C sp dvs E t) :=
  let ⟨hm, _, _, _, M, G, hb, hd⟩ := F
  pe_make M G hr hg hm hb hd hx ha hdb he hpl
theorem pe_makeD0 (F : MakeOk X.prog X.w X.K X.mg X.base CX k x C ps dvs sp) (hr : Room (k + 1) X.A) (hx : Passes CX X E) (hg : Gl X x) (hdb : (x == ("__debug__" : Str)) = false := by decide) : PE X (.Call (.Name x p) [] [] pos) (tMake C sp dvs E tNil) :=
  let ⟨hm, _, _, _, M, G, hb, hd⟩ := F
  pe_make0 M G hr hg hm hb hd hx hdb
theorem pe_makeDS (F : MakeOk X.prog X.w X.K X.mg X.base CX k x C ps dvs sp) (hr : Room (k + 1) X.A) (hx : ∀ σ, PassesAt CX X σ (ES σ)) (hg : Gl X x) (ha : PA X (e :: es) t) (hdb : (x == ("__debug__" : Str)) = false := by decide)
    (he : starEach (e :: es) X.env = (false, eval e X.env) :: starEach es X.env := by rfl) (hpl : (backTo pos (starEach es X.env)).any (·.1) = false := by rfl) : PE X (.Call (.Name x p) (e :: es) [] pos) (tMakeS C sp dvs ES t) :=
  let ⟨hm, _, _, _, M, G, hb, hd⟩ := F
  pe_makeS M G hr hg hm hb hd hx ha hdb he hpl
end

/-! ### boxes of draws -/
/-- at b a list of three ints -/
def BoxAt (H : Hp) (b : Addr) : Prop := ∃ x y z : Int, H b = some (.lst [.int x, .int y, .int z])
/-- what was tracked stays, but for b, which is a box -/
structure Bx (b : Addr) (H H' : Hp) : Prop where
  keep : ∀ x o, x ≠ b → H x = some o → H' x = some o
  box : BoxAt H' b
theorem Bx.refl {b : Addr} {H : Hp} (h : BoxAt H b) : Bx b H H := ⟨fun _ _ _ z => z, h⟩
theorem Bx.trans {b : Addr} {H H1 H2 : Hp} (h : Bx b H H1) (g : Bx b H1 H2) : Bx b H H2 := ⟨fun x o n z => g.keep x o n (h.keep x o n z), g.box⟩
theorem Bx.upd {b p : Addr} {H H1 : Hp} {o : HO} (h : Bx b H H1) (hp : H1 p = none) : Bx b H (upd H1 p o) := by
  refine ⟨fun x u n z => ?_, ?_⟩
  · have q := h.keep x u n z
    rw [upd_ne (ne_of_none q hp)]; exact q
  · obtain ⟨x, y, z, q⟩ := h.box
    exact ⟨x, y, z, by rw [upd_ne (ne_of_none q hp)]; exact q⟩
theorem Bx.updD {b p : Addr} {H H1 : Hp} {o : HO} (h : Bx b H H1) (hp : H p = none) (n : p ≠ b) : Bx b H (L2.upd H1 p o) := by
  refine ⟨fun x u ne z => at_upd (ne_of_none z hp) (h.keep x u ne z), ?_⟩
  obtain ⟨x, y, z, q⟩ := h.box
  exact ⟨x, y, z, at_upd (Ne.symm n) q⟩
theorem Bx.set {b : Addr} {H H1 : Hp} (h : Bx b H H1) (x y z : Int) : Bx b H (L2.upd H1 b (.lst [.int x, .int y, .int z])) := ⟨fun a o n q => (upd_ne n).trans (h.keep a o n q), x, y, z, upd_same⟩
theorem BoxAt.upd {b p : Addr} {H : Hp} {o : HO} (h : BoxAt H b) (hp : H p = none) : BoxAt (upd H p o) b := ((Bx.refl h).upd hp).box
theorem BoxAt.ne {b p : Addr} {H : Hp} {o : HO} (h : BoxAt H b) (hp : H p = some o) (d : ∀ x y z : Int, o ≠ .lst [.int x, .int y, .int z]) : p ≠ b := by
  intro e
  subst e
  obtain ⟨x, y, z, q⟩ := h
  rw [hp] at q
  exact d x y z (Option.some.inj q)
theorem BoxAt.some {b : Addr} {H : Hp} (h : BoxAt H b) : ∃ o, H b = some o := let ⟨_, _, _, q⟩ := h; ⟨_, q⟩
theorem Bx.seqL {K : PySem.W.Frag} {b l : Addr} {H H' : Hp} {xs : List V} (h : Bx b H H') (n : l ≠ b) (q : SqL K H l xs) : SqL K H' l xs := by
  rcases q with (q | ⟨o, q⟩) | q
  · exact .inl (.inl (h.keep _ _ n q))
  · exact .inl (.inr ⟨o, h.keep _ _ n q⟩)
  · exact .inr q
theorem Bx.seqT {K : PySem.W.Frag} {b l : Addr} {H H' : Hp} {xs : List V} (h : Bx b H H') (n : l ≠ b) (q : SqT K H l xs) : SqT K H' l xs := by
  rcases q with (q | ⟨o, q⟩) | q
  · exact .inl (.inl (h.keep _ _ n q))
  · exact .inl (.inr ⟨o, h.keep _ _ n q⟩)
  · exact .inr q
theorem Bx.free {b p : Addr} {H H' : Hp} (h : Bx b H H') (hp : H' p = none) : H p = none := by
  cases e : H p with
  | none => rfl
  | some o =>
    by_cases n : p = b
    · subst n
      obtain ⟨x, y, z, q⟩ := h.box
      rw [hp] at q; cases q
    · rw [h.keep p o n e] at hp; cases hp
theorem Bx.seqF {K : PySem.W.Frag} {b l : Addr} {H H' : Hp} {xs : List V} (h : Bx b H H') (n : H b = none) (q : SqL K H l xs) : SqL K H' l xs := by
  rcases q with (q | ⟨o, q⟩) | q
  · exact .inl (.inl (h.keep _ _ (ne_of_none q n) q))
  · exact .inl (.inr ⟨o, h.keep _ _ (ne_of_none q n) q⟩)
  · exact .inr q
/-- a draw -/
def spTake : Sp := fun vs H Q _ => ∃ (b : Addr) (m : Int), vs = [.ref b, .int m] ∧ BoxAt H b ∧ 1 ≤ m ∧ m < 100000000000000000000 ∧
  ∀ (d : Int) (H' : Hp), 0 ≤ d → d < m → Bx b H H' → Q (.int d) H'
/-- a pick -/
def spPick (K : PySem.W.Frag) : Sp := fun vs H Q _ => ∃ (b l : Addr) (xs : List V), vs = [.ref b, .ref l] ∧ BoxAt H b ∧ (SqL K H l xs ∨ SqT K H l xs) ∧ l ≠ b ∧ 1 ≤ xs.length ∧ xs.length < 1000000 ∧
  ∀ (v : V) (H' : Hp), v ∈ xs → Bx b H H' → Q v H'
/-- a new box -/
def spBox (K : PySem.W.Frag) : Sp := fun vs H Q _ => ∃ (a : Addr) (ns : List Int) (k c : Int), vs = [.ref a, .int k, .int c] ∧ SqL K H a (ns.map V.int) ∧ 0 ≤ k ∧ k < 1000000 ∧ 0 ≤ c ∧ c < 1000000 ∧ ns.length ≤ 1000 ∧
  ∀ (b : Addr) (H' : Hp), H b = none → Bx b H H' → Q (.ref b) H'
end Hg
end L2
end

section
set_option Elab.async false
set_option linter.all false
set_option maxRecDepth 100000
set_option maxHeartbeats 400000
/-! Any values: None, bools, ints, texts, lists, tuples; their kinds, their data; what stays. -/
namespace L2
namespace Hg
open PySem PySem.Spec PyProof.Rows

/-- any value of a kind that isinstance can tell -/
inductive Kd (K : PySem.W.Frag) (H : Hp) : V → Prop
  | non : Kd K H .non
  | bl (b : Bool) : Kd K H (.bl b)
  | int (i : Int) : Kd K H (.int i)
  | str (x : Str) : Kd K H (.str x)
  | lst {a : Addr} {xs : List V} : SqL K H a xs → Kd K H (.ref a)
  | tup {a : Addr} {xs : List V} : SqT K H a xs → Kd K H (.ref a)
def isI : V → Bool | .int _ => true | _ => false
def isIB : V → Bool | .int _ => true | .bl _ => true | _ => false
def isB : V → Bool | .bl _ => true | _ => false
def isS : V → Bool | .str _ => true | _ => false
theorem tyx_list {K : PySem.W.Frag} {H : Hp} {a : Addr} {xs : List V} (h : SqL K H a xs) : TyX K H (.ref a) (.type "list") := by
  rcases h with (h | ⟨o, h⟩) | ⟨o, its, n, h, c, _⟩
  · exact .base (.lst h)
  · exact .base (.frz h)
  · exact .kList h c
theorem tyx_tup {K : PySem.W.Frag} {H : Hp} {a : Addr} {xs : List V} (h : SqT K H a xs) : TyX K H (.ref a) (.type "tuple") := by
  rcases h with (h | ⟨o, h⟩) | ⟨o, its, n, h, c, _⟩
  · exact .base (.tup h)
  · exact .fTuple h
  · exact .kTuple h c
section
variable {K : PySem.W.Frag} {H H' : Hp} {v : V}
theorem Kd.isi_int (h : Kd K H v) : ∃ t, TyX K H v t ∧ PySem.W.kitOne K t (.type "int") = some (isIB v) := by
  cases h with
  | non => exact ⟨_, .base .non, kit_ty (a := "NoneType") (by decide +kernel)⟩
  | bl b => exact ⟨_, .base (.bl b), kit_ty (a := "bool") (b := "int") (r := true) (by decide +kernel)⟩
  | int i => exact ⟨_, .base (.int i), kit_ty (a := "int") (b := "int") (r := true) (by decide +kernel)⟩
  | str x => exact ⟨_, .base (.str x), kit_ty (a := "str") (b := "int") (r := false) (by decide +kernel)⟩
  | lst h => exact ⟨_, tyx_list h, kit_ty (a := "list") (b := "int") (r := false) (by decide +kernel)⟩
  | tup h => exact ⟨_, tyx_tup h, kit_ty (a := "tuple") (b := "int") (r := false) (by decide +kernel)⟩
theorem Kd.isi_bool (h : Kd K H v) : ∃ t, TyX K H v t ∧ PySem.W.kitOne K t (.type "bool") = some (isB v) := by
  cases h with
  | non => exact ⟨_, .base .non, kit_ty (a := "NoneType") (by decide +kernel)⟩
  | bl b => exact ⟨_, .base (.bl b), kit_ty (a := "bool") (b := "bool") (r := true) (by decide +kernel)⟩
  | int i => exact ⟨_, .base (.int i), kit_ty (a := "int") (b := "bool") (r := false) (by decide +kernel)⟩
  | str x => exact ⟨_, .base (.str x), kit_ty (a := "str") (b := "bool") (r := false) (by decide +kernel)⟩
  | lst h => exact ⟨_, tyx_list h, kit_ty (a := "list") (b := "bool") (r := false) (by decide +kernel)⟩
  | tup h => exact ⟨_, tyx_tup h, kit_ty (a := "tuple") (b := "bool") (r := false) (by decide +kernel)⟩
theorem Kd.isi_str (h : Kd K H v) : ∃ t, TyX K H v t ∧ PySem.W.kitOne K t (.type "str") = some (isS v) := by
  cases h with
  | non => exact ⟨_, .base .non, kit_ty (a := "NoneType") (by decide +kernel)⟩
  | bl b => exact ⟨_, .base (.bl b), kit_ty (a := "bool") (b := "str") (r := false) (by decide +kernel)⟩
  | int i => exact ⟨_, .base (.int i), kit_ty (a := "int") (b := "str") (r := false) (by decide +kernel)⟩
  | str x => exact ⟨_, .base (.str x), kit_ty (a := "str") (b := "str") (r := true) (by decide +kernel)⟩
  | lst h => exact ⟨_, tyx_list h, kit_ty (a := "list") (b := "str") (r := false) (by decide +kernel)⟩
  | tup h => exact ⟨_, tyx_tup h, kit_ty (a := "tuple") (b := "str") (r := false) (by decide +kernel)⟩
theorem sameT {a : Addr} {xs : List V} (e : Same H H') (h : SqT K H a xs) : SqT K H' a xs := by
  rcases h with (h | ⟨o, h⟩) | h
  · exact .inl (.inl (e _ _ h))
  · exact .inl (.inr ⟨o, e _ _ h⟩)
  · exact .inr h
theorem Kd.mono (e : Same H H') (h : Kd K H v) : Kd K H' v := by
  cases h with
  | non => exact .non
  | bl b => exact .bl b
  | int i => exact .int i
  | str x => exact .str x
  | lst h => exact .lst (e.seq h)
  | tup h => exact .tup (sameT e h)
mutual
theorem Dp.mono (e : Same H H') : ∀ (d : PyData) (v : V), Dp K H v d → Dp K H' v d
  | .none, _, h => by cases h; exact .non
  | .bool b, _, h => by cases h; exact .bl b
  | .int i, _, h => by cases h; exact .int i
  | .str x, _, h => by cases h; exact .str x
  | .list ds, _, h => by
    cases h with
    | lst hs ha => exact .lst (e.seq hs) (DpAll.mono e ds _ ha)
  | .tuple ds, _, h => by
    cases h with
    | tup hs ha => exact .tup (sameT e hs) (DpAll.mono e ds _ ha)
  | .dict _, _, h => by cases h
theorem DpAll.mono (e : Same H H') : ∀ (ds : List PyData) (vs : List V), DpAll K H vs ds → DpAll K H' vs ds
  | [], _, h => by cases h; exact .nil
  | d :: ds, _, h => by
    cases h with
    | cons h1 h2 => exact .cons (Dp.mono e d _ h1) (DpAll.mono e ds _ h2)
end
theorem Dp.kd {d : PyData} (h : Dp K H v d) : Kd K H v := by
  cases h with
  | non => exact .non
  | bl b => exact .bl b
  | int i => exact .int i
  | str x => exact .str x
  | lst h _ => exact .lst h
  | tup h _ => exact .tup h
end
/-! ### the promises of `signs` -/
def fromV (v : V) (a b : Int) : Bool := match v with | .int i => decide (a ≤ i) && decide (i ≤ b) | _ => false
def numV (v : V) : Bool := match v with | .int i => decide (0 ≤ i) | _ => false
def spIsInt (K : PySem.W.Frag) : Sp := fun vs H Q _ => ∃ v, vs = [v] ∧ Kd K H v ∧ Q (.bl (isI v)) H
def spFrom (K : PySem.W.Frag) : Sp := fun vs H Q _ => ∃ v a b, vs = [v, .int a, .int b] ∧ Kd K H v ∧ Q (.bl (fromV v a b)) H
def spIsNum (K : PySem.W.Frag) : Sp := fun vs H Q _ => ∃ v, vs = [v] ∧ Kd K H v ∧ Q (.bl (numV v)) H
theorem isI_of (v : V) : (isIB v && !isB v) = isI v := by cases v <;> rfl
theorem isI_int {v : V} (h : isI v = true) : ∃ i, v = .int i := by
  cases v <;> first | exact ⟨_, rfl⟩ | cases h
/-! ### what stays of a heap but for a box -/
theorem same_del (H : Hp) (b : Addr) : Same (del H b) H := fun a o h => by
  unfold del at h
  split at h
  · cases h
  · exact h
theorem Bx.same {b : Addr} {H H' : Hp} (h : Bx b H H') : Same (del H b) (del H' b) := fun a o q => by
  unfold del at q ⊢
  split at q
  · cases q
  · rename_i n
    rw [if_neg n]
    exact h.keep a o n q
theorem same_new {H : Hp} {p : Addr} {o : HO} (h : H p = none) : Same H (upd H p o) := fun a u q => at_upd (ne_of_none q h) q
theorem bx_of_same {b : Addr} {H H' : Hp} (hb : BoxAt H b) (h : Same H H') : Bx b H H' :=
  ⟨fun a o _ q => h a o q, let ⟨x, y, z, q⟩ := hb; ⟨x, y, z, h _ _ q⟩⟩
theorem del_at {H : Hp} {a b : Addr} {o : HO} (n : a ≠ b) (h : H a = some o) : del H b a = some o := (del_ne n).trans h
/-! ### data that may be shown -/
/-- v is data of depth at most k, whose text has at most n signs -/
structure Sh (K : PySem.W.Frag) (H : Hp) (v : V) (d : PyData) (k n : Nat) : Prop where
  dp : Dp K H v d
  sw : d.showable = true
  nd : d.hasDict = false
  cl : d.canLay0 = true
  dpt : d.depth ≤ k
  len : d.shown.length ≤ n
section
variable {K : PySem.W.Frag} {H H' : Hp} {v : V} {d : PyData} {k k' n n' : Nat}
theorem Sh.mono (e : Same H H') (h : Sh K H v d k n) : Sh K H' v d k n := ⟨Dp.mono e _ _ h.dp, h.sw, h.nd, h.cl, h.dpt, h.len⟩
theorem Sh.up (h : Sh K H v d k n) (hk : k ≤ k') (hn : n ≤ n') : Sh K H v d k' n' := ⟨h.dp, h.sw, h.nd, h.cl, Nat.le_trans h.dpt hk, Nat.le_trans h.len hn⟩
theorem Sh.shaped (h : Sh K H v d k n) (hk : k ≤ 64) : SeqAt.shaped d = true := by
  unfold SeqAt.shaped
  rw [h.cl, decide_eq_true (Nat.le_trans h.dpt hk)] <;> rfl
theorem Sh.repr {Q : VK} (h : Sh K H v d k n) (hk : k ≤ 60) (hn : n ≤ 100000) (q : Q (.str d.shown) H) : rRepr K [v] H Q :=
  r_repr h.dp h.sw h.nd (Nat.le_trans h.dpt hk) (sz (Nat.le_trans h.len hn)) q
theorem sh_non : Sh K H .non .none 0 10 := ⟨.non, rfl, rfl, rfl, Nat.le_refl _, by decide +kernel⟩
theorem sh_bl (b : Bool) : Sh K H (.bl b) (.bool b) 0 10 := ⟨.bl b, rfl, rfl, rfl, Nat.le_refl _, by cases b <;> decide +kernel⟩
theorem sh_int {i : Int} (h : i.natAbs < 10 ^ 38) : Sh K H (.int i) (.int i) 0 40 := by
  refine ⟨.int i, ?_, rfl, rfl, Nat.le_refl _, ?_⟩
  · show decide (i.natAbs.log2 < 1920) = true
    refine decide_eq_true ?_
    by_cases h0 : i.natAbs = 0
    · rw [h0]; decide
    · refine (Nat.log2_lt h0).mpr (Nat.lt_trans h (by decide +kernel))
  · show (Str.ofString (toString i)).length ≤ 40
    have e := int_text_length_le10 (k := 38) (by decide) h
    refine Nat.le_trans ?_ (Nat.le_trans e (by decide))
    exact Nat.le_of_eq (PySem.ofString_length _)
theorem sh_str {x : Str} (ok : PyData.canLay0 (.str x) = true) (h : (reprText x).length ≤ n) : Sh K H (.str x) (.str x) 0 n := ⟨.str x, rfl, rfl, ok, Nat.le_refl _, h⟩
theorem sh_all {vs : List V} {ds : List PyData} (h : Paired (fun v d => Sh K H v d k n) vs ds) : DpAll K H vs ds ∧ PyData.showableAll ds = true ∧ PyData.hasDictAll ds = false ∧ PyData.canLayAll0 ds = true ∧ PyData.depthAll ds ≤ k ∧
    ((PyData.shownAll ds).map (·.length)).sum ≤ vs.length * n ∧ ds.length = vs.length ∧ (PyData.shownAll ds).length = vs.length := by
  induction h with
  | nil => exact ⟨.nil, rfl, rfl, rfl, Nat.zero_le _, Nat.zero_le _, rfl, rfl⟩
  | cons h _ ih =>
    obtain ⟨i1, i2, i3, i4, i5, i6, i7, i8⟩ := ih
    refine ⟨.cons h.dp i1, ?_, ?_, ?_, ?_, ?_, ?_, ?_⟩
    · simp only [PyData.showableAll, h.sw, i2, Bool.and_self]
    · simp only [PyData.hasDictAll, h.nd, i3, Bool.or_self]
    · simp only [PyData.canLayAll0, h.cl, i4, Bool.and_self]
    · simp only [PyData.depthAll]; exact Nat.max_le.mpr ⟨h.dpt, i5⟩
    · simp only [PyData.shownAll, List.map_cons, List.sum_cons, List.length_cons]
      have := h.len
      rw [Nat.succ_mul]
      omega
    · simp only [List.length_cons, i7]
    · simp only [PyData.shownAll, List.length_cons, i8]
theorem sh_tup {a : Addr} {vs : List V} {ds : List PyData} {m : Nat} (h : SqT K H a vs) (hp : Paired (fun v d => Sh K H v d k n) vs ds) (hl : vs.length * n + 2 * vs.length + 3 ≤ m) : Sh K H (.ref a) (.tuple ds) (k + 1) m := by
  obtain ⟨i1, i2, i3, i4, i5, i6, i7, i8⟩ := sh_all hp
  refine ⟨.tup h i1, ?_, ?_, ?_, ?_, ?_⟩
  · simp only [PyData.showable, i2]
  · simp only [PyData.hasDict, i3]
  · simp only [PyData.canLay0, i4]
  · simp only [PyData.depth]; omega
  · simp only [PyData.shown]
    have q := tupleText_len_le (PyData.shownAll ds)
    rw [i8] at q
    omega
theorem sh_lst {a : Addr} {vs : List V} {ds : List PyData} {m : Nat} (h : SqL K H a vs) (hp : Paired (fun v d => Sh K H v d k n) vs ds) (hl : vs.length * n + 2 * vs.length + 3 ≤ m) : Sh K H (.ref a) (.list ds) (k + 1) m := by
  obtain ⟨i1, i2, i3, i4, i5, i6, i7, i8⟩ := sh_all hp
  refine ⟨.lst h i1, ?_, ?_, ?_, ?_, ?_⟩
  · simp only [PyData.showable, i2]
  · simp only [PyData.hasDict, i3]
  · simp only [PyData.canLay0, i4]
  · simp only [PyData.depth]; omega
  · simp only [PyData.shown]
    have q := listText_len_le (PyData.shownAll ds)
    rw [i8] at q
    omega
end
/-! ### isinstance of a caught error -/
def rIsG (K : PySem.W.Frag) (a : Addr) (cls : Value) (d : Option Addr) : List V → Hp → VK → Prop := fun xs H Q => ∃ D : Addr, cls = .ref D ∧ d = none ∧ ExcC K D ∧ rIsE K D a xs H Q
theorem c_isG {X : Cx} {a : Addr} {cls : Value} {d : Option Addr} {oe : Obj} {pn : List (Addr × Obj)} (K : PySem.W.Frag) (hz : Zc cls d oe) (hf : ∃ vs, oe.data = .fields vs) (hK : X.K = K := by rfl) :
    CallR (X.suite a ((a, oe) :: pn)) (.builtin "isinstance") (rIsG K a cls d) := by
  subst hK
  intro pins s σ H xs us Q I r h
  obtain ⟨D, rfl, rfl, C, h⟩ := h
  exact call_isE C hz hf pins s σ H xs us Q I r h
theorem r_isG {K : PySem.W.Frag} {a D G : Addr} {b : Bool} {H : Hp} {Q : VK} (C : ExcC K D) (e : PySem.W.kitOne K (.ref D) (.ref G) = some b) (k : Q (.bl b) H) : rIsG K a (.ref D) none [.ref a, .ref G] H Q :=
  ⟨D, rfl, rfl, C, .ref G, .ref G, b, rfl, fun u h => h, e, k⟩
/-! ### fields -/
section
variable {K : PySem.W.Frag} {H : Hp} {Q : VK} {σ : St} {D : Ends} {ta tv : TE} {f : Str} {a C dx : Addr} {fs : List (Str × V)} {v : V}
theorem r_sFld (k : tv σ H fun y H1 => ta σ H1 fun x H2 => ∃ a C dx fs, x = .ref a ∧ H2 a = some (.ins C dx fs) ∧ Cls K C ∧ NoAttr K C f ∧ fs.length < 1000 ∧ D.nx σ (upd H2 a (.ins C dx (putF f y fs)))) : sFld K ta tv f D σ H := k
theorem r_put {R : Hp → Prop} (h : H a = some (.ins C dx fs)) (c : Cls K C) (n : NoAttr K C f) (z : fs.length < 1000) (k : R (upd H a (.ins C dx (putF f v fs)))) :
    ∃ a' C' dx' fs', V.ref a = .ref a' ∧ H a' = some (.ins C' dx' fs') ∧ Cls K C' ∧ NoAttr K C' f ∧ fs'.length < 1000 ∧ R (upd H a' (.ins C' dx' (putF f v fs'))) := ⟨a, C, dx, fs, rfl, h, c, n, z, k⟩
theorem r_fld (k : ta σ H fun x H1 => ∃ a C dx fs v, x = .ref a ∧ H1 a = some (.ins C dx fs) ∧ Cls K C ∧ NoAttr K C f ∧ fs.lookup f = some v ∧ Q v H1) : tFld K ta f σ H Q := k
theorem r_get {R : V → Prop} (h : H a = some (.ins C dx fs)) (c : Cls K C) (n : NoAttr K C f) (l : fs.lookup f = some v) (k : R v) :
    ∃ a' C' dx' fs' v', V.ref a = .ref a' ∧ H a' = some (.ins C' dx' fs') ∧ Cls K C' ∧ NoAttr K C' f ∧ fs'.lookup f = some v' ∧ R v' := ⟨a, C, dx, fs, v, rfl, h, c, n, l, k⟩
end
theorem putF_len {f : Str} {v : V} (l : List (Str × V)) : (putF f v l).length ≤ l.length + 1 := length_putF f v l
/-! ### dicts -/
section
variable {σ : St} {H : Hp} {Q : VK} {D : Ends} {td ty tv : TE}
theorem r_disp {trs : List (TE × TE)} (k : ∀ p, H p = none → tPairs trs σ (upd H p (.dK [])) fun ps H2 => H2 p = some (.dK []) ∧ ∃ kvs : List (Key × V), ps = kvs.map (fun kv => (kV kv.1, kv.2)) ∧ kvs.length ≤ 15 ∧ Q (.ref p) (upd H2 p (.dK (mergeK [] kvs)))) : tDisp trs σ H Q := k
theorem r_pairs {QP : List (V × V) → Hp → Prop} {r : List (TE × TE)} (k : td σ H fun x H1 => tv σ H1 fun y H2 => tPairs r σ H2 fun ps H3 => QP ((x, y) :: ps) H3) : tPairs ((td, tv) :: r) σ H QP := k
theorem r_pairs0 {QP : List (V × V) → Hp → Prop} (k : QP [] H) : tPairs [] σ H QP := k
theorem r_dput (k : tv σ H fun v H1 => td σ H1 fun x H2 => ty σ H2 fun y H3 => ∃ a H4, x = .ref a ∧ DPut H3 a y v H4 ∧ D.nx σ H4) : sDPut td ty tv D σ H := k
theorem r_dget (k : td σ H fun x H1 => ty σ H1 fun y H2 => ∃ a v, x = .ref a ∧ DGet H2 a y (some v) ∧ Q v H2) : tDGet td ty σ H Q := k
theorem r_dg {p : Addr} {kvs : List (Key × V)} {k : Key} {v : V} {R : V → Prop} (h : H p = some (.dK kvs)) (e : valV kvs k = some v) (q : R v) : ∃ a w, V.ref p = .ref a ∧ DGet H a (kV k) (some w) ∧ R w :=
  ⟨p, v, rfl, by rw [← e]; exact DGet.k h, q⟩
theorem r_dp {p : Addr} {kvs : List (Key × V)} {k : Key} {v : V} {R : Hp → Prop} (h : H p = some (.dK kvs)) (z : kvs.length < sizeLine) (q : R (upd H p (.dK (putK kvs k v)))) : ∃ a H4, V.ref p = .ref a ∧ DPut H a (kV k) v H4 ∧ R H4 :=
  ⟨p, _, rfl, DPut.k h z, q⟩
end
/-! ### loops and comprehensions -/
section
variable {σ : St} {H : Hp} {Q : VK} {D : Ends} {K : PySem.W.Frag}
theorem r_rng1 {ta : TA} {R : It → Hp → Prop} (k : ta σ H fun vs H1 => ∃ j : Int, vs = [.int j] ∧ -(2 ^ 62) ≤ j ∧ j < 2 ^ 62 ∧ R (Itr 0 j.toNat) H1) : iRng1 ta σ H R := k
theorem r_rng2 {ta : TA} {R : It → Hp → Prop} (k : ta σ H fun vs H1 => ∃ i j : Int, vs = [.int i, .int j] ∧ (-(2 ^ 62) ≤ i ∧ i < 2 ^ 62 ∧ -(2 ^ 62) ≤ j ∧ j < 2 ^ 62) ∧ R (Itr i (j - i).toNat) H1) : iRng2 ta σ H R := k
theorem r_iL {tl : TE} {R : It → Hp → Prop} (k : tl σ H fun x H1 => ∃ a, x = .ref a ∧ (∃ xs, SqL K H1 a xs) ∧ R (Itl K a) H1) : iList K tl σ H R := k
theorem r_iT {tl : TE} {R : It → Hp → Prop} (k : tl σ H fun x H1 => ∃ a, x = .ref a ∧ (∃ xs, SqT K H1 a xs) ∧ R (Itt K a) H1) : iTup K tl σ H R := k
theorem r_lc {wi : TI} {g : TG} {tt : TT} {te : TE} {vs : List Nat} (k : wi σ H fun J H1 => ∀ D, H1 D = none → ∃ W : Nat → Nat → Hp → Prop, (∃ m, W 0 m (upd H1 D (.lst []))) ∧ ∀ i m H, W i m H →
  (J.stop i H ∧ Q (.ref D) H) ∨ (J.go i H ∧ ∃ Nx : Hp → Prop, (∀ H', Nx H' → ∃ m', m' < m ∧ W (i + 1) m' H') ∧ ∀ x H', J.yld i H x H' → g x (wipe σ vs) H' fun σ2 H2 => wipe σ2 vs = wipe σ vs ∧ tt σ2 H2 fun b H3 =>
    if b = true then te σ2 H3 fun y H4 => ∃ acc, H4 D = some (.lst acc) ∧ acc.length < sizeLine ∧ Nx (upd H4 D (.lst (acc ++ [y]))) else Nx H3)) : tLc wi g tt te vs σ H Q := k
theorem r_gT {n : Nat} {t : TGs} {QS : St → Hp → Prop} {p : Addr} {xs : List V} (h : SqT K H p xs) (e : xs.length = n) (k : t xs σ H QS) : gTup K n t (.ref p) σ H QS := ⟨p, xs, rfl, h, e, k⟩
theorem r_gL {n : Nat} {t : TGs} {QS : St → Hp → Prop} {p : Addr} {xs : List V} (h : SqL K H p xs) (e : xs.length = n) (k : t xs σ H QS) : gLst K n t (.ref p) σ H QS := ⟨p, xs, rfl, h, e, k⟩
theorem r_gCons {t : TG} {u : TGs} {QS : St → Hp → Prop} {v : V} {r : List V} (k : t v σ H fun σ' H' => u r σ' H' QS) : gCons t u (v :: r) σ H QS := ⟨v, r, rfl, k⟩
theorem r_gNil {QS : St → Hp → Prop} (k : QS σ H) : gNil [] σ H QS := ⟨rfl, k⟩
theorem r_yes {QB : Bool → Hp → Prop} (k : QB true H) : tYes σ H QB := k
theorem take_succ {α : Type} : ∀ {l : List α} {i : Nat} {x : α}, l[i]? = some x → l.take (i + 1) = l.take i ++ [x]
  | [], i, x, h => by simp at h
  | a :: l, 0, x, h => by
    simp at h
    subst h
    rfl
  | a :: l, i + 1, x, h => by
    have ih := take_succ (l := l) (i := i) (x := x) (by simpa using h)
    simp only [List.take_succ_cons, ih, List.cons_append]
end
/-! ### what calls raise -/
theorem r_veI {K : PySem.W.Frag} {ta : TA} {σ : St} {H : Hp} {Q : VK} (k : ta σ H fun vs H1 => ∃ (a C : Addr) (ws : List V), vs = .ref a :: ws ∧ ws.length ≤ 1000 ∧ OexC K C ∧ H1 a = some (exo a C none) ∧ Q .non H1) : tVeI K ta σ H Q := k
theorem r_makeS {C : Addr} {sp : Sp} {dvs : List V} {E : St → XK} {t : TA} {σ : St} {H : Hp} {Q : VK} (k : t σ H fun vs H1 => ∀ x dx, H1 x = none → H1 dx = none → dx ≠ x →
  sp (.ref x :: (vs ++ dvs)) (upd (upd H1 dx (.own x)) x (.ins C dx [])) (fun v H2 => v = .non ∧ Q (.ref x) H2) (E σ)) : tMakeS C sp dvs E t σ H Q := k
theorem r_make {C : Addr} {sp : Sp} {dvs : List V} {E : XK} {t : TA} {σ : St} {H : Hp} {Q : VK} (k : t σ H fun vs H1 => ∀ x dx, H1 x = none → H1 dx = none → dx ≠ x →
  sp (.ref x :: (vs ++ dvs)) (upd (upd H1 dx (.own x)) x (.ins C dx [])) (fun v H2 => v = .non ∧ Q (.ref x) H2) E) : tMake C sp dvs E t σ H Q := k
end Hg
end L2
end

section
set_option Elab.async false
set_option linter.all false
set_option maxRecDepth 100000
set_option maxHeartbeats 4000000
/-! Methods and properties of own classes as one hypothesis; tuple * int; what stays of a heap. -/
namespace L2
namespace Hg
open PySem PySem.Spec PyProof.Rows

/-! ### methods -/
structure MetAt (K : PySem.W.Frag) (C : Addr) (m q : Str) (st : Stmt) : Prop where
  cl : Cls K C
  ex : ∃ f fd, Meth K C m f ∧ Fun K m q st f fd
def MetOk (P : Program) (w : World) (K : PySem.W.Frag) (mg : Str → Option Value) (base : Heap) (CX : CXT) (k : Nat) (C : Addr) (m : Str) (ps : List Str) (sp : Sp) : Prop :=
  Cls K C ∧ ∃ f fd, Meth K C m f ∧ FnOk P w K mg base CX k f fd ps sp ∧ Binds K fd ps []
structure PrpAt (K : PySem.W.Frag) (C : Addr) (m q : Str) (st : Stmt) : Prop where
  cl : Cls K C
  ex : ∃ p g fd, PropOf K C m p g ∧ Fun K m q st g fd
def PrpOk (P : Program) (w : World) (K : PySem.W.Frag) (mg : Str → Option Value) (base : Heap) (CX : CXT) (k : Nat) (C : Addr) (m : Str) (sp : Sp) : Prop :=
  Cls K C ∧ ∃ p g fd, PropOf K C m p g ∧ FnOk P w K mg base CX k g fd ["self"] sp ∧ Binds K fd ["self"] []
section
variable {P : Program} {w : World} {K : PySem.W.Frag} {mg : Str → Option Value} {base : Heap} {k : Nat} {m q : Str} {st : Stmt} {C : Addr} {N ps : List Str} {sp : Sp}
theorem MetAt.ok (F : MetAt K C m q st) (S : FnScope N ps (defScope st)) (hb : BindsAs st m q ps) (len : ∀ vs H Q E, sp vs H Q E → vs.length = ps.length)
    (hbody : ∀ (f : Addr) (cdv : Value) (A : Around) (outer : List Env) (s : Shared) (H : Hp) (vs : List V) (Q : VK) (E : XK), Room k (A.deeper (envOfC q (defScope st) s.heap.objs.size f cdv)) → sp vs H Q E →
      ∃ t, PSs (cxOf CX0 P w K mg base N q (defScope st) f cdv A outer s H E).nox (defBody st) t ∧ t { nx := fun _ H' => Q .non H', rt := Q } (start N vs) H) : MetOk P w K mg base CX0 (k + 1) C m ps sp := by
  obtain ⟨f, fd, hm, F1⟩ := F.ex
  exact ⟨F.cl, f, fd, hm, F1.ok S len fun cdv A outer s H vs Q E hr h => hbody f cdv A outer s H vs Q E hr h, F1.binds hb⟩
theorem MetAt.okX (F : MetAt K C m q st) (S : FnScope N ps (defScope st)) (hb : BindsAs st m q ps) (len : ∀ vs H Q E, sp vs H Q E → vs.length = ps.length)
    (hbody : ∀ (f : Addr) (cdv : Value) (A : Around) (outer : List Env) (s : Shared) (H : Hp) (vs : List V) (Q : VK) (E : XK), Room k (A.deeper (envOfC q (defScope st) s.heap.objs.size f cdv)) → sp vs H Q E →
      ∃ t, PSs (cxOf (L2.CX P w) P w K mg base N q (defScope st) f cdv A outer s H E) (defBody st) t ∧ t { nx := fun _ H' => Q .non H', rt := Q } (start N vs) H) : MetOk P w K mg base (L2.CX P w) (k + 1) C m ps sp := by
  obtain ⟨f, fd, hm, F1⟩ := F.ex
  exact ⟨F.cl, f, fd, hm, F1.okX S len fun cdv A outer s H vs Q E hr h => hbody f cdv A outer s H vs Q E hr h, F1.binds hb⟩
theorem PrpAt.ok (F : PrpAt K C m q st) (S : FnScope N ["self"] (defScope st)) (hb : BindsAs st m q ["self"]) (len : ∀ vs H Q E, sp vs H Q E → vs.length = 1)
    (hbody : ∀ (f : Addr) (cdv : Value) (A : Around) (outer : List Env) (s : Shared) (H : Hp) (vs : List V) (Q : VK) (E : XK), Room k (A.deeper (envOfC q (defScope st) s.heap.objs.size f cdv)) → sp vs H Q E →
      ∃ t, PSs (cxOf CX0 P w K mg base N q (defScope st) f cdv A outer s H E).nox (defBody st) t ∧ t { nx := fun _ H' => Q .non H', rt := Q } (start N vs) H) : PrpOk P w K mg base CX0 (k + 1) C m sp := by
  obtain ⟨p, f, fd, hm, F1⟩ := F.ex
  exact ⟨F.cl, p, f, fd, hm, F1.ok S len fun cdv A outer s H vs Q E hr h => hbody f cdv A outer s H vs Q E hr h, F1.binds hb⟩
end
section
variable {X : Cx} {CX : CXT} {k : Nat} {C : Addr} {m : Str} {ps : List Str} {sp : Sp} {E : XK} {ES : St → XK} {o e : Expr} {es : List Expr} {ta : TE} {t : TA} {apos pos : Pos}
theorem pe_metD {pl : Sem Bool} (F : MetOk X.prog X.w X.K X.mg X.base CX k C m ps sp) (hr : Room k X.A) (hx : Passes CX X E) (he : PE X o ta) (ha : PA X (e :: es) t)
    (hst : starEach (e :: es) X.env = (false, eval e X.env) :: starEach es X.env := by rfl) (hpl : (backTo pos (starEach es X.env)).any (·.1) = false := by rfl)
    (ht : eval (.Call (.Attribute o m apos) (e :: es) [] pos) X.env = (do
      let ov ← eval o X.env
      standAt apos.atName
      let (f, first) ← holding [ov] (getMethod ov m pl)
      callWith pos f first (backTo pos (starEach (e :: es) X.env)) (backToKw pos (keywordEach [] X.env))) := by rfl) :
    PE X (.Call (.Attribute o m apos) (e :: es) [] pos) (tMeth C m sp [] E ta t) :=
  let ⟨c, _, _, hm, G, hb⟩ := F
  pe_meth he c hm G hr hb .nil hx ha hst hpl ht
theorem pe_metD0 {pl : Sem Bool} (F : MetOk X.prog X.w X.K X.mg X.base CX k C m ps sp) (hr : Room k X.A) (hx : Passes CX X E) (he : PE X o ta)
    (ht : eval (.Call (.Attribute o m apos) [] [] pos) X.env = (do
      let ov ← eval o X.env
      standAt apos.atName
      let (f, first) ← holding [ov] (getMethod ov m pl)
      callWith pos f first (backTo pos (starEach [] X.env)) (backToKw pos (keywordEach [] X.env))) := by rfl) :
    PE X (.Call (.Attribute o m apos) [] [] pos) (tMeth C m sp [] E ta tNil) :=
  let ⟨c, _, _, hm, G, hb⟩ := F
  pe_meth0 he c hm G hr hb .nil hx ht
/-- o.m(e, ..) where what is raised is wished at the slots -/
def tMetS (C : Addr) (m : Str) (sp : Sp) (E : St → XK) (ta : TE) (t : TA) : TE := fun σ H Q => ta σ H fun x H1 => ∃ a dx fs, x = .ref a ∧ H1 a = some (.ins C dx fs) ∧ fs.lookup m = none ∧
  t σ H1 fun vs H2 => sp (x :: vs) H2 Q (E σ)
theorem pe_metDS {pl : Sem Bool} (F : MetOk X.prog X.w X.K X.mg X.base CX k C m ps sp) (hr : Room k X.A) (hx : ∀ σ, PassesAt CX X σ (ES σ)) (he : PE X o ta) (ha : PA X (e :: es) t)
    (hst : starEach (e :: es) X.env = (false, eval e X.env) :: starEach es X.env := by rfl) (hpl : (backTo pos (starEach es X.env)).any (·.1) = false := by rfl)
    (ht : eval (.Call (.Attribute o m apos) (e :: es) [] pos) X.env = (do
      let ov ← eval o X.env
      standAt apos.atName
      let (f, first) ← holding [ov] (getMethod ov m pl)
      callWith pos f first (backTo pos (starEach (e :: es) X.env)) (backToKw pos (keywordEach [] X.env))) := by rfl) :
    PE X (.Call (.Attribute o m apos) (e :: es) [] pos) (tMetS C m sp ES ta t) := by
  obtain ⟨c, f, fd, hm, G, hb⟩ := F
  refine ⟨fun pins s σ H Q I h => ?_⟩
  refine PySem.W.methodCall_KW (pl := pl) (thn (he.run pins s σ H _ I h) fun u s1 ⟨x, H1, I1, rx, a, dx, fs, ex, ea, l, q⟩ => ?_) ht
  subst ex
  obtain rfl : u = Value.ref a := rx
  refine getmeth_ok I1 ea c hm l ?_
  refine PySem.W.callWith_K (first := [.ref a]) (h₀ := X.base) I.ok.mod.kin hm.kp (thn (ha.run pos pins s1 σ H1 _ I1 q) fun us s2 ⟨vs, H2, I2, r, q2⟩ => ⟨I2.kIn, ?_⟩) hst hpl
  exact run_fnS (us := .ref a :: us) (vs := .ref a :: vs) G hr hb (hx σ) I2 (.cons rfl r) q2
theorem pe_prpD (F : PrpOk X.prog X.w X.K X.mg X.base CX k C m sp) (hr : Room (k + 1) X.A) (hx : Passes CX X.nox E) (he : PE X e ta)
    (hab : attributeBase e m X.env (eval e X.env) = eval e X.env := by rfl) : PE X (.Attribute e m pos) (tProp C sp [] E ta) :=
  let ⟨c, _, _, _, hm, G, hb⟩ := F
  pe_prop he c hm G hr hb .nil hx hab
variable {σ : St} {H : Hp} {Q : VK} {dvs : List V}
theorem r_meth (k : ta σ H fun x H1 => ∃ a dx fs, x = .ref a ∧ H1 a = some (.ins C dx fs) ∧ fs.lookup m = none ∧ t σ H1 fun vs H2 => sp (x :: (vs ++ dvs)) H2 Q E) : tMeth C m sp dvs E ta t σ H Q := k
theorem r_metS (k : ta σ H fun x H1 => ∃ a dx fs, x = .ref a ∧ H1 a = some (.ins C dx fs) ∧ fs.lookup m = none ∧ t σ H1 fun vs H2 => sp (x :: vs) H2 Q (ES σ)) : tMetS C m sp ES ta t σ H Q := k
theorem r_prop (k : ta σ H fun x H1 => ∃ a dx fs, x = .ref a ∧ H1 a = some (.ins C dx fs) ∧ sp (.ref a :: dvs) H1 Q E) : tProp C sp dvs E ta σ H Q := k
theorem r_obj {R : Prop} {a dx : Addr} {fs : List (Str × V)} (h : H a = some (.ins C dx fs)) (l : fs.lookup m = none) (k : R) :
    ∃ a' dx' fs', V.ref a = .ref a' ∧ H a' = some (.ins C dx' fs') ∧ fs'.lookup m = none ∧ R := ⟨a, dx, fs, rfl, h, l, k⟩
theorem r_pobj {R : Addr → Prop} {a dx : Addr} {fs : List (Str × V)} (h : H a = some (.ins C dx fs)) (k : R a) :
    ∃ a' dx' fs', V.ref a = .ref a' ∧ H a' = some (.ins C dx' fs') ∧ R a' := ⟨a, dx, fs, rfl, h, k⟩
/-! ### stars, parallel stores -/
variable {K : PySem.W.Frag} {te : TE} {QL : List V → Hp → Prop} {D : Ends} {i j l : Nat}
theorem r_star (k : te σ H fun x H1 => ∃ p xs, x = V.ref p ∧ (SqT K H1 p xs ∨ SqL K H1 p xs) ∧ t σ H1 fun ys H2 => QL (xs ++ ys) H2) : StX.tStar K te t σ H QL := k
theorem r_st {R : List V → Prop} {p : Addr} {xs : List V} (h : SqT K H p xs ∨ SqL K H p xs) (k : R xs) : ∃ p' xs', V.ref p = V.ref p' ∧ (SqT K H p' xs' ∨ SqL K H p' xs') ∧ R xs' := ⟨p, xs, rfl, h, k⟩
theorem r_par (k : t σ H fun vs H1 => ∃ v w, vs = [v, w] ∧ D.nx ((σ.set i (some v)).set j (some w)) H1) : tPar i j t D σ H := k
theorem r_par3 (k : t σ H fun vs H1 => ∃ u v w, vs = [u, v, w] ∧ D.nx (((σ.set i (some u)).set j (some v)).set l (some w)) H1) : tPar3 i j l t D σ H := k
theorem r_v2 {v w : V} {R : V → V → Prop} (k : R v w) : ∃ v' w', [v, w] = [v', w'] ∧ R v' w' := ⟨v, w, rfl, k⟩
theorem r_v3 {u v w : V} {R : V → V → V → Prop} (k : R u v w) : ∃ u' v' w', [u, v, w] = [u', v', w'] ∧ R u' v' w' := ⟨u, v, w, rfl, k⟩
/-! ### slices -/
variable {r : V → Option Int → Option Int → Hp → VK → Prop} {tl th : TO} {QO : Option Int → Hp → Prop}
theorem r_sl (k : te σ H fun x H1 => tl σ H1 fun l H2 => th σ H2 fun u H3 => r x l u H3 Q) : tSl r te tl th σ H Q := k
theorem r_part (k : te σ H fun x H1 => ∃ i, x = .int i ∧ QO (some i) H1) : tPart te σ H QO := k
theorem r_noPart (k : QO none H) : tNoPart σ H QO := k
theorem r_i {n : Int} {R : Int → Prop} (k : R n) : ∃ i, V.int n = .int i ∧ R i := ⟨n, rfl, k⟩
theorem pa_starK (K : PySem.W.Frag) {X : Cx} {e : Expr} {es : List Expr} {te : TE} {t : TA} {p : Pos} (he : PE X e te) (hr : PA X es t) (hs : starEach (.Starred e p :: es) X.env = (true, eval e X.env) :: starEach es X.env := by rfl) (hK : X.K = K := by rfl) : PA X (.Starred e p :: es) (StX.tStar K te t) := hK ▸ StX.pa_star he hr hs
theorem slT (K : PySem.W.Frag) {X : Cx} (hK : X.K = K := by rfl) : SlR X (rSlT K) := hK ▸ sl_tup
end
/-! ### cuts -/
def tSeqC (t u : TS) : TS := fun D σ H => ∃ P : St → Hp → Prop, t { D with nx := P } σ H ∧ ∀ σ' H', P σ' H' → u D σ' H'
theorem pss_cut {X : Cx} {st : Stmt} {rest : List Stmt} {t u : TS} (h1 : PS X st t) (h2 : PSs X rest u) : PSs X (st :: rest) (tSeqC t u) := by
  refine ⟨fun pins s σ H D I h => ?_⟩
  obtain ⟨P, h, q0⟩ := h
  refine wpAny_execs_cons (thn (h1.run pins s σ H { D with nx := P } I h) fun f s1 q => ?_)
  cases f with
  | next =>
    obtain ⟨σ', H', I', q⟩ := q
    exact h2.run pins s1 σ' H' D I' (q0 _ _ q)
  | ret v => exact q
  | brk => exact q
  | cont => exact q
theorem r_cut {t u : TS} {D : Ends} {σ : St} {H : Hp} (P : St → Hp → Prop) (h : t { D with nx := P } σ H) (k : ∀ σ' H', P σ' H' → u D σ' H') : tSeqC t u D σ H := ⟨P, h, k⟩
def tCut (t : TE) : TE := fun σ H Q => ∃ P : VK, t σ H P ∧ ∀ v H', P v H' → Q v H'
theorem pe_cut {X : Cx} {e : Expr} {t : TE} (h : PE X e t) : PE X e (tCut t) := by
  refine ⟨fun pins s σ H Q I hq => ?_⟩
  obtain ⟨P, hq, q0⟩ := hq
  refine thn (h.run pins s σ H P I hq) fun u s1 ⟨v, H1, I1, r, q⟩ => ⟨v, H1, I1, r, q0 _ _ q⟩
theorem r_cutE {t : TE} {σ : St} {H : Hp} {Q : VK} (P : VK) (h : t σ H P) (k : ∀ v H', P v H' → Q v H') : tCut t σ H Q := ⟨P, h, k⟩
def tCutT (t : TT) : TT := fun σ H Q => ∃ P : Bool → Hp → Prop, t σ H P ∧ ∀ v H', P v H' → Q v H'
theorem pt_cut {X : Cx} {e : Expr} {t : TT} (h : PT X e t) : PT X e (tCutT t) := by
  refine ⟨fun pins s σ H Q I hq => ?_⟩
  obtain ⟨P, hq, q0⟩ := hq
  exact thn (h.run pins s σ H P I hq) fun u s1 ⟨H1, I1, q⟩ => ⟨H1, I1, q0 _ _ q⟩
theorem r_cutT {t : TT} {σ : St} {H : Hp} {Q : Bool → Hp → Prop} (P : Bool → Hp → Prop) (h : t σ H P) (k : ∀ v H', P v H' → Q v H') : tCutT t σ H Q := ⟨P, h, k⟩
/-! ### tuple * int -/
theorem tuple_mul1 (l : Addr) (items : Array Value) (n : Nat) (dd : Option Addr) (sl : Array (Option Value)) (u : Tok) :
    Meets (Builtin.«tuple.__mul__» ⟨[.ref l, .int 1 u], []⟩) (fun _ R s => s.heap.get? l = some { cls := .type "tuple", dict := dd, data := .seq items n, slots := sl } ∧ R (.ok (.ret (Value.ref l))) s) :=
  .of_wp fun prog w A R s h => by
    obtain ⟨hp, g, d, tk, os⟩ := s
    obtain ⟨hl, h⟩ := h
    have f1 := AutoSeq1.idx_int
    have c1 : (items.isEmpty || (1 : Int) == 1) = true := by rw [Bool.or_eq_true]; exact .inr rfl
    have c0 : (decide ((1 : Int) < -(2 ^ 63)) || decide ((1 : Int) ≥ 2 ^ 63)) = false := by decide
    wp_walk using wpAny_loadPart' hl
    repeat (first
      | (refine wpAny_ite_false (decide_eq_false (by rw [c0]; exact Bool.false_ne_true)) ?_; wp_walk using wpAny_loadPart' hl)
      | (refine wpAny_ite_true (decide_eq_true c1) ?_; wp_walk using wpAny_loadPart' hl))
    exact ⟨_, rfl, h⟩
def rRep1 (K : PySem.W.Frag) : R2 := fun x y H Q => ∃ l xs, x = .ref l ∧ y = .int 1 ∧ SqT K H l xs ∧ Q (.ref l) H
theorem op_rep1 {X : Cx} : OpR X (binaryOp .Mult) (rRep1 X.K) := by
  intro pins s σ H x y v u Q I rx ry h
  obtain ⟨l, xs, rfl, rfl, hT, q⟩ := h
  cases rx
  obtain ⟨t, rfl⟩ := ry
  obtain ⟨its, r, ⟨⟨cls, dd, data, sl⟩, ho, hc, n, hd⟩, hs⟩ := I.tuple hT
  simp only at hc hd
  subst hc hd
  refine wpAny_binaryOp_repeat_ref (T := "tuple") (U := "int") (by decide) ⟨_, ho, rfl⟩ (fun s' => typeIs_int s' 1 t) noFill_tuple_mul F.fills_int_mul F.slot_int_rmul repeat_tuple F.slot_int_index.lookup
    (call_meets F.slot_int_rmul (typeIs_int s 1 t) F.entry_int_rmul (F.args_int_rmul_2 _ _) (int_rmul_tuple 1 t l its.toArray n dd sl)
      ⟨ho, rfl, ⟨_, ho, rfl⟩, call_meets F.slot_tuple_mul ⟨_, ho, rfl⟩ F.entry_tuple_mul (F.args_tuple_mul_2 _ _) (tuple_mul1 l its.toArray n dd sl t) ⟨ho, ?_⟩⟩)
  exact ⟨.ref l, H, I, rfl, q⟩
def uMulT (K : PySem.W.Frag) : R2 := fun x y H Q => rRep1 K x y H Q ∨ rRepT K x y H Q
theorem o_mulT (K : PySem.W.Frag) {X : Cx} (hK : X.K = K := by rfl) : OpR X (binaryOp .Mult) (uMulT K) := hK ▸ OpR.or op_rep1 op_repT
theorem flat_one {α : Type} (n : Nat) (x : α) : (List.replicate n [x]).flatten = List.replicate n x := by
  induction n with
  | zero => rfl
  | succ n ih => rw [List.replicate_succ, List.flatten_cons, ih]; rfl
theorem r_mulT1 {K : PySem.W.Frag} {H : Hp} {Q : VK} {l : Addr} {v : V} {k : Int} (h : H l = some (.tup [v])) (h1 : 1 ≤ k) (h2 : k ≤ 1000)
    (q : ∀ (p : Addr) (H' : Hp), Same H H' → H' p = some (.tup (List.replicate k.toNat v)) → Q (.ref p) H') : uMulT K (.ref l) (.int k) H Q := by
  by_cases e : k = 1
  · subst e
    exact .inl ⟨l, _, rfl, rfl, SqT.of h, q l H (fun _ _ z => z) h⟩
  · refine .inr ⟨l, k, _, rfl, rfl, SqT.of h, by simp, by omega, h2, by simp, fun p hp => q p _ (same_new hp) ?_⟩
    rw [upd_same, flat_one]
/-! ### what stays -/
/-- all tuples stay -/
def Tk (H H' : Hp) : Prop := ∀ q xs, H q = some (.tup xs) → H' q = some (.tup xs)
section
variable {H0 H H' H1 H2 : Hp} {p b a : Addr} {o : HO}
theorem Tk.refl : Tk H H := fun _ _ h => h
theorem Tk.trans (h : Tk H H1) (g : Tk H1 H2) : Tk H H2 := fun q xs e => g q xs (h q xs e)
theorem Same.refl : Same H H := fun _ _ h => h
theorem Same.at (s : Same H H1) (h : H p = some o) : H1 p = some o := s p o h
theorem Same.tk (h : Same H H') : Tk H H' := fun q xs e => h q _ e
theorem Bx.tk (h : Bx b H H') (hb : BoxAt H b) : Tk H H' := fun q xs e => h.keep q _ (hb.ne e fun _ _ _ z => nomatch z) e
theorem Tk.new (h : Tk H0 H) (hp : H p = none) : Tk H0 (upd H p o) := fun q xs e => at_upd (ne_of_none (h q xs e) hp) (h q xs e)
theorem Tk.newF (h : Tk H0 H) (hp : H0 p = none) : Tk H0 (upd H p o) := fun q xs e => at_upd (ne_of_none e hp) (h q xs e)
theorem Tk.setL {xs : List V} (h : Tk H0 H) (hp : H p = some (.lst xs)) : Tk H0 (upd H p o) := fun q ys e => by
  have g := h q ys e
  refine at_upd (fun z => ?_) g
  subst z
  rw [hp] at g
  exact nomatch Option.some.inj g
theorem Tk.setI {C dx : Addr} {fs : List (Str × V)} (h : Tk H0 H) (hp : H p = some (.ins C dx fs)) : Tk H0 (upd H p o) := fun q ys e => by
  have g := h q ys e
  refine at_upd (fun z => ?_) g
  subst z
  rw [hp] at g
  exact nomatch Option.some.inj g
theorem Same.updF (s : Same H0 H) (h : H0 p = none) : Same H0 (upd H p o) := fun q u e => at_upd (ne_of_none e h) (s q u e)
theorem Same.new (s : Same H0 H) (h : H p = none) : Same H0 (upd H p o) := fun q u e => at_upd (ne_of_none (s q u e) h) (s q u e)
theorem Same.bx (s : Same H0 H) (hx : Bx b H H') (h : H0 b = none) : Same H0 H' := fun q u e => hx.keep q u (ne_of_none e h) (s q u e)
theorem Same.free (s : Same H0 H) (h : H p = none) : H0 p = none := by
  cases e : H0 p with
  | none => rfl
  | some u => rw [s p u e] at h; cases h
theorem BoxAt.same (h : BoxAt H b) (s : Same H H') : BoxAt H' b := let ⟨x, y, z, q⟩ := h; ⟨x, y, z, s _ _ q⟩
theorem BoxAt.at (h : BoxAt H b) (n : b ≠ p) : BoxAt (L2.upd H p o) b := let ⟨x, y, z, q⟩ := h; ⟨x, y, z, at_upd n q⟩
/-- all stays but x -/
def Kx (x : Addr) (H H' : Hp) : Prop := ∀ q o, q ≠ x → H q = some o → H' q = some o
theorem Kx.at (k : Kx a H H') (n : p ≠ a) (h : H p = some o) : H' p = some o := k p o n h
theorem Kx.refl : Kx a H H := fun _ _ _ h => h
theorem Kx.trans (h : Kx a H H1) (g : Kx a H1 H2) : Kx a H H2 := fun q o n e => g q o n (h q o n e)
theorem Kx.set (h : Kx a H H1) : Kx a H (upd H1 a o) := fun q u n e => at_upd n (h q u n e)
theorem Kx.new (h : Kx a H H1) (hp : H p = none) : Kx a H (upd H1 p o) := fun q u n e => at_upd (ne_of_none e hp) (h q u n e)
theorem Kx.same (h : Kx a H H1) (s : Same H1 H2) : Kx a H H2 := fun q u n e => s q u (h q u n e)
theorem Same.kx (s : Same H0 H) (k : Kx a H H') (h : H0 a = none) : Same H0 H' := fun q u e => k q u (ne_of_none e h) (s q u e)
theorem Kx.tk {C dx : Addr} {fs : List (Str × V)} (k : Kx a H H') (hp : H a = some (.ins C dx fs)) : Tk H H' := fun q ys e => k q _ (fun z => by
  subst z
  rw [hp] at e
  exact nomatch Option.some.inj e) e
theorem BoxAt.fresh (h : BoxAt H b) (hp : H p = none) : b ≠ p := fun e => by
  obtain ⟨x, y, z, q⟩ := h
  rw [e, hp] at q
  exact nomatch q
/-- a pick of a list that was just written -/
theorem r_pickN {K : PySem.W.Frag} {Q : VK} {E : XK} {xs : List V} (h : BoxAt H b) (hp : H p = none) (h1 : 1 ≤ xs.length) (h2 : xs.length < 1000000) (k : ∀ (v : V) (H' : Hp), v ∈ xs → Bx b H H' → Q v H') :
    spPick K [.ref b, .ref p] (upd H p (.lst xs)) Q E :=
  ⟨b, p, xs, rfl, h.upd hp, .inl (SqL.of upd_same), Ne.symm (h.fresh hp), h1, h2, fun v H' hv hx => k v H' hv (((Bx.refl h).upd hp).trans hx)⟩
theorem r_pickT {K : PySem.W.Frag} {Q : VK} {E : XK} {xs : List V} (h : BoxAt H b) (hp : H p = none) (h1 : 1 ≤ xs.length) (h2 : xs.length < 1000000) (k : ∀ (v : V) (H' : Hp), v ∈ xs → Bx b H H' → Q v H') :
    spPick K [.ref b, .ref p] (upd H p (.tup xs)) Q E :=
  ⟨b, p, xs, rfl, h.upd hp, .inr (SqT.of upd_same), Ne.symm (h.fresh hp), h1, h2, fun v H' hv hx => k v H' hv (((Bx.refl h).upd hp).trans hx)⟩
theorem r_take {Q : VK} {E : XK} {m : Int} (h : BoxAt H b) (h1 : 1 ≤ m) (h2 : m < 100000000000000000000) (k : ∀ (d : Int) (H' : Hp), 0 ≤ d → d < m → Bx b H H' → Q (.int d) H') : spTake [.ref b, .int m] H Q E := ⟨b, m, rfl, h, h1, h2, k⟩
theorem ne_kind {u : HO} (h : H p = some o) (g : H a = some u) (n : o ≠ u) : p ≠ a := fun e => by
  subst e
  rw [h] at g
  exact n (Option.some.inj g)
theorem Same.seqL {K : PySem.W.Frag} {l : Addr} {xs : List V} (s : Same H H') (q : SqL K H l xs) : SqL K H' l xs := by
  rcases q with (q | ⟨u, q⟩) | q
  · exact .inl (.inl (s _ _ q))
  · exact .inl (.inr ⟨u, s _ _ q⟩)
  · exact .inr q
end
end Hg
end L2
end

section
set_option Elab.async false
set_option linter.all false
set_option maxRecDepth 100000
set_option maxHeartbeats 4000000
/-! The end of a law's row from a promise that is asked where no guard is set. -/
namespace L2
namespace Hg
open PySem PySem.Spec PyProof.Rows

theorem kit_sub {K : PySem.W.Frag} {C D : Addr} {b : Bool} (hd : PySem.W.hasDictIn K C = true) (ht : PySem.W.typeIn K (.ref C) = some (.type "type")) (h : PySem.W.subIn K (.ref D) (.ref C) = some b) (self : PySem.W.subIn K (.ref D) (.ref D) = some true) : PySem.W.kitOne K (.ref D) (.ref C) = some b := by
  obtain ⟨cd, hc, _⟩ := PySem.W.any_some hd
  have e2 : ((PySem.W.clsIn K C).isSome && PySem.W.typeIn K (.ref C) == some (.type "type")) = true := by rw [hc, ht] <;> rfl
  by_cases e : D = C
  · subst e
    rw [self] at h
    cases h
    show (if ((Value.ref D == Value.ref D) = true) then some true else _) = some true
    rw [if_pos (beq_self_eq_true _)]
  · show (if ((Value.ref D == Value.ref C) = true) then some true else (if ((PySem.W.clsIn K C).isSome && PySem.W.typeIn K (.ref C) == some (.type "type")) = true then PySem.W.subIn K (.ref D) (.ref C) else none)) = some b
    rw [if_neg (fun z => e (by have := beq_iff_eq.mp z; cases this; rfl)), if_pos e2]
    exact h

theorem law_callG {P : Program} {w : World} {K : PySem.W.Frag} {mg mb : Str → Option Value} {k : Nat} {fa a : Addr} {nm x : Str} {sp : Sp} {s₁ : Shared} {vs : List Value} {ns : List Int}
    (KX : K.In s₁.heap) (hns : s₁.heap.Ns mainGlobals mg) (hb : s₁.heap.Ns builtinsNs mb) (hbb : ∀ x : Str, x ≠ "__name__" → mb x = bootBuiltins x) (hlim : s₁.heap.NoLimit) (hg : s₁.gens = #[])
    (ha : s₁.heap.get? a = some { cls := .type "list", data := .seq vs.toArray }) (hi : IntsAre vs ns) (hl : ns.length ≤ sizeLine) (hr : Room k callerA)
    (hmg : mg nm = some (.ref fa)) (F : ∀ base : Heap, K.In base → base.Ns mainGlobals mg → DefG P w K mg base CX0 k nm [x] sp)
    (hsp : ∀ H : Hp, SqL K H a (ns.map V.int) → sp [.ref a] H (fun v _ => v = .bl true) fun _ _ _ => False) :
    codeAny (model P w) callerA (.call (.ref fa) ⟨[.ref a], []⟩) (fun r s' => r = .ok (.ret (.bool true)) ∧ OldK s₁.heap s'.heap ∧ s'.os = s₁.os ∧ AllBare s'.gens) s₁ := by
  have rv := vals_ints hi
  have lenV := hi.length
  have core : ∀ H : Hp, Only H → SqL K H a (ns.map V.int) → HOk P w H s₁.heap → (∀ b, H b ≠ none → b = a) → (H a ≠ none → K.lookup a = none) →
      codeAny (model P w) callerA (.call (.ref fa) ⟨[.ref a], []⟩) (fun r s' => r = .ok (.ret (.bool true)) ∧ OldK s₁.heap s'.heap ∧ s'.os = s₁.os ∧ AllBare s'.gens) s₁ := by
    intro H hO hS hok hA hK
    have only : ∀ {b : Addr}, H b ≠ none → b = a := fun {b} n => hA b n
    have hidK : ∀ {b : Addr} {o : Obj}, s₁.heap.get? b = some o → H b = none → (hidT s₁.heap H).get? b = some o := fun z n => hidT_get z n
    have noDict : ∀ {b : Addr} {o : Obj} {es : Array DictEntry} {ep : Nat}, s₁.heap.get? b = some o → o.data = .dict es ep → H b = none := by
      intro b o es ep z d
      cases q : H b with
      | none => rfl
      | some u =>
        obtain rfl : b = a := only (by rw [q]; simp)
        rw [ha] at z
        cases z
        cases (show Data.seq vs.toArray _ = Data.dict es ep from d)
    have nsK : ∀ {b : Addr} {m : Str → Option Value}, s₁.heap.Ns b m → (hidT s₁.heap H).Ns b m := by
      rintro b m ⟨o, es, ep, z, d, r⟩
      exact ⟨o, es, ep, hidK z (noDict z d), d, r⟩
    have hKb : K.In (hidT s₁.heap H) := by
      intro b o z
      refine hidK (KX b o z) ?_
      cases q : H b with
      | none => rfl
      | some u =>
        obtain rfl : b = a := only (by rw [q]; simp)
        rw [hK (by rw [q]; simp)] at z
        cases z
    have hM : Mod K mg (hidT s₁.heap H) := by
      obtain ⟨mc, h1, h2⟩ := hlim
      exact ⟨hKb, nsK hns, ⟨mb, nsK hb, hbb⟩, ⟨mc, nsK h1, h2⟩⟩
    have e0 : Env0 P w K mg (hidT s₁.heap H) callerA [] s₁ H := by
      refine ⟨rfl, hM, fun b o z => of_hidT z, Nat.le_of_eq (hidT_size _ _), trivial, fun b hb => ?_, hok, .of_eq hg⟩
      cases (show b ∈ ([] : List Addr) from hb)
    obtain ⟨f, fd, hm, _, FG, hbind⟩ := F _ hKb (nsK hns)
    rw [hmg] at hm
    cases hm
    have main := FG.run callerA [] s₁ H ⟨[.ref a], []⟩ [.ref a] [.ref a] _ _ rfl hr e0 (hbind s₁ [.ref a] KX rfl) (.cons rfl .nil) (hsp H hS)
    refine codeAny_mono main fun r s' h => ?_
    cases r with
    | error e => exact False.elim h
    | ok fl =>
      cases fl with
      | next => exact False.elim h
      | brk => exact False.elim h
      | cont => exact False.elim h
      | ret u =>
        obtain ⟨v, H', os, bare, un, hok', r', q⟩ := h
        obtain rfl : v = .bl true := q
        obtain rfl : u = Value.bool true := r'
        refine ⟨rfl, OldK.of_keep fun b o z => ?_, os, bare⟩
        cases q : H b with
        | none => exact un.keep b o z q (fun y => by cases (show b ∈ ([] : List Addr) from y)) (by simp)
        | some u =>
          rcases hO b with y | ⟨ob, xs, y⟩
          · rw [q] at y; cases y
          · obtain ⟨e1, _⟩ := hok b _ y
            obtain ⟨e2, _⟩ := hok' b _ (un.frzs b ob _ y)
            rw [z] at e1
            cases e1
            exact e2
  cases hk : K.lookup a with
  | some o =>
    have z := KX a o hk
    rw [ha] at z
    cases z
    refine core (fun _ => none) (fun _ => .inl rfl) (.inr ⟨_, vs.toArray, _, hk, rfl, rfl, rfl, ?_, by simpa using rv⟩) (fun b u y => ?_) (fun b y => absurd rfl y) fun y => absurd rfl y
    · rw [List.size_toArray, lenV]; exact hl
    · cases (show (none : Option HO) = some u from y)
  | none =>
    let ob : Obj := { cls := .type "list", data := .seq vs.toArray }
    refine core (fun b => if b = a then some (.frz ob (.lst (ns.map V.int))) else none) (fun b => ?_) (.inl (.inr ⟨ob, if_pos rfl⟩)) (fun b u y => ?_) (fun b y => ?_) fun _ => hk
    · by_cases e : b = a
      · exact .inr ⟨_, _, if_pos e⟩
      · exact .inl (if_neg e)
    · by_cases e : b = a
      · have y' := (if_pos e).symm.trans y
        cases y'
        subst e
        exact ⟨ha, by rw [List.length_map]; exact hl, vs, _, rv, ha⟩
      · have y' := (if_neg e).symm.trans y
        cases y'
    · by_cases e : b = a
      · exact e
      · exact absurd (if_neg e) y

theorem walk_ofG {l : PySem.W.OpenLaw} {n k : Nat} {q : Program} {loose : List Str} {XP : (Str → Option Value) → Heap → Prop} {YP : World → Heap → Prop} {d : DefRec} {K : Params → PySem.W.Frag} {sp : PySem.W.Frag → Sp} {x : Str}
    (hn : l.most = some n) (hn2 : n ≤ sizeLine) (hdf : d.params.defaults = []) (hr : Room k callerA)
    (hY : ∀ (w : World) (h : Heap), YP w h → (K w.params).In h)
    (F : ∀ (w : World) (mg : Str → Option Value) (h : Heap), (K w.params).In h → h.Ns mainGlobals mg →
      ∀ base : Heap, (K w.params).In base → base.Ns mainGlobals mg → DefG l.prog w (K w.params) mg base CX0 k d.name [x] (sp (K w.params)))
    (hsp : ∀ (K : PySem.W.Frag) (H : Hp) (a : Addr) (ns : List Int), ns.length ≤ n → SqL K H a (ns.map V.int) → sp K [.ref a] H (fun v _ => v = .bl true) fun _ _ _ => False) :
    PySem.W.WalkO q loose XP YP l.row.toRowW d [] (fun f vs => PySem.call f vs) := by
  refine Att.attach_call hn hdf fun w s₀ s₁ mg mb fa o pm cd doc a vs ns G Y ho hd hcd hmg hobj hints hlen hg => ?_
  exact law_callG (hY w _ Y) G.T.g G.T.b G.T.builtins G.T.nolimit hg hobj hints (Nat.le_trans hlen hn2) hr hmg (F w mg _ (hY w _ Y) G.T.g) fun H hS => hsp (K w.params) H a ns hlen hS
end Hg
end L2
end

section
set_option Elab.async false
set_option linter.all false
set_option maxRecDepth 100000
set_option maxHeartbeats 4000000
/-! Iterables that are a list or a tuple; attributes as targets; dicts: comprehensions, keys, members. -/
namespace L2
namespace Hg
open PySem PySem.Spec PyProof.Rows
def uAt (K : PySem.W.Frag) (x : V) (H1 : Hp) (R : It → Hp → Prop) : Prop := ∃ a, x = .ref a ∧ (((∃ xs, SqL K H1 a xs) ∧ R (Itl K a) H1) ∨ ((∃ xs, SqT K H1 a xs) ∧ R (Itt K a) H1))
/-- a list or a tuple -/
def uIter (K : PySem.W.Frag) (te : TE) : TI := fun σ H R => te σ H fun x H1 => uAt K x H1 R
section
variable {X : Cx} {tg l o : Expr} {tl ta : TE} {f : Str} {pos : Pos}
theorem pi_u (K : PySem.W.Frag) (hl : PE X l tl) (hK : X.K = K := by rfl) : PI X tg l (uIter K tl) := by
  subst hK
  refine ⟨fun pins s σ H R I h => ?_⟩
  refine thn (hl.run pins s σ H _ I h) fun v s1 ⟨x, H1, I1, r1, q1⟩ => ?_
  obtain ⟨a, e, q1⟩ := q1
  subst e
  cases r1
  rcases q1 with ⟨⟨xs, hq⟩, q⟩ | ⟨⟨xs, hq⟩, q⟩
  · obtain ⟨its, rv, p, hz⟩ := I1.list hq
    refine wpAny_pyIter_list p.isList ?_
    refine ⟨s1.heap.objs.size, [s1.heap.objs.size], _, _, H1, rfl, I1.kept (t' := s1.toks) fun b o e => Heap.get?_push_of_some _ e, turn_list a _, ⟨_, Heap.get?_push_size _ rfl, rfl, rfl⟩, fun b hb => ?_, q⟩
    have e : b = s1.heap.objs.size := by simpa using hb
    subst e
    exact I1.fpOk (Nat.le_refl _) (I1.hok.fresh (Nat.le_refl _))
  · obtain ⟨its, rv, p, hz⟩ := I1.tuple hq
    refine wpAny_pyIter_tuple (show s1.heap.IsTuple a its.toArray from p) ?_
    refine ⟨s1.heap.objs.size, [s1.heap.objs.size], _, _, H1, rfl, I1.kept (t' := s1.toks) fun b o e => Heap.get?_push_of_some _ e, turn_tuple a _, ⟨_, Heap.get?_push_size _ rfl, rfl, rfl⟩, fun b hb => ?_, q⟩
    have e : b = s1.heap.objs.size := by simpa using hb
    subst e
    exact I1.fpOk (Nat.le_refl _) (I1.hok.fresh (Nat.le_refl _))
theorem r_iU {K : PySem.W.Frag} {te : TE} {σ : St} {H : Hp} {R : It → Hp → Prop} (k : te σ H fun x H1 => uAt K x H1 R) : uIter K te σ H R := k
/-- the walk over a list or a tuple, told alike -/
theorem r_walk {K : PySem.W.Frag} {H : Hp} {R : It → Hp → Prop} {p : Addr} {xs : List V} (h : SqL K H p xs ∨ SqT K H p xs)
    (k : ∀ (J : It) (G : Hp → Prop), Walk J xs.length G (YAt xs) → G H → (∀ H' H'', Same H' H'' → G H' → G H'') → R J H) :
    uAt K (.ref p) H R := by
  refine ⟨p, rfl, ?_⟩
  rcases h with h | h
  · exact .inl ⟨⟨xs, h⟩, k _ _ walk_list h fun H' H'' s g => Same.seqL s g⟩
  · exact .inr ⟨⟨xs, h⟩, k _ _ walk_tup h fun H' H'' s g => sameT s g⟩
/-! ### o.f as a target -/
def gFld (K : PySem.W.Frag) (ta : TE) (f : Str) : TG := fun v σ H QS => ta σ H fun x H2 => ∃ a C dx fs, x = .ref a ∧ H2 a = some (.ins C dx fs) ∧ Cls K C ∧ NoAttr K C f ∧ fs.length < 1000 ∧ QS σ (upd H2 a (.ins C dx (putF f v fs)))
theorem pg_fld (K : PySem.W.Frag) (ho : PE X o ta) (hK : X.K = K := by rfl) : PG X (.Attribute o f pos) (gFld K ta f) := by
  subst hK
  refine ⟨fun pins s σ H v u Q I r h => ?_⟩
  rw [assign_Attribute]
  refine wpAny_bind (wpAny_holding (thn (ho.run pins s σ H _ I h) fun ov s1 ⟨x, H2, I2, rx, a, C, dx, fs, ex, ea, c, n, l, q2⟩ => ?_))
  subst ex
  obtain rfl : ov = Value.ref a := rx
  refine wpAny_bind (wpAny_standAt (wpAny_bind (wpAny_holding (setattr_ok I2 ea c n l r fun s3 I3 => ?_))))
  exact wpAny_release ⟨σ, _, I3, q2⟩
theorem r_gFld {K : PySem.W.Frag} {v : V} {σ : St} {H : Hp} {QS : St → Hp → Prop} (k : ta σ H fun x H2 => ∃ a C dx fs, x = .ref a ∧ H2 a = some (.ins C dx fs) ∧ Cls K C ∧ NoAttr K C f ∧ fs.length < 1000 ∧ QS σ (upd H2 a (.ins C dx (putF f v fs)))) : gFld K ta f v σ H QS := k
theorem r_putG {K : PySem.W.Frag} {C a dx : Addr} {H : Hp} {fs : List (Str × V)} {R : Addr → Addr → Addr → List (Str × V) → Prop} (h : H a = some (.ins C dx fs)) (c : Cls K C) (n : NoAttr K C f) (z : fs.length < 1000) (k : R a C dx fs) :
    ∃ a' C' dx' fs', V.ref a = .ref a' ∧ H a' = some (.ins C' dx' fs') ∧ Cls K C' ∧ NoAttr K C' f ∧ fs'.length < 1000 ∧ R a' C' dx' fs' := ⟨a, C, dx, fs, rfl, h, c, n, z, k⟩
end
/-! ### dicts -/
section
variable {σ : St} {H : Hp} {Q : VK} {QB : Bool → Hp → Prop} {td ty : TE}
theorem r_lockE {t : TE} {d : Addr} {kvs : List (Key × V)} (h : H d = some (.dK kvs)) (k : ∀ od, t σ (upd H d (.frz od (.dK kvs))) fun v H' => H' d = some (.frz od (.dK kvs)) ∧ Q v (upd H' d (.dK kvs))) : tLockE t σ H Q := ⟨d, _, h, trivial, k⟩
theorem r_keys {R : It → Hp → Prop} (k : td σ H fun x H1 => ∃ d o, x = .ref d ∧ ((∃ kvs, H1 d = some (.frz o (.dK kvs)) ∧ R (Itk d o kvs) H1) ∨ ∃ kvs, H1 d = some (.frz o (.dT kvs)) ∧ R (Itkt d o kvs) H1)) : iKeys td σ H R := k
theorem r_din (k : ty σ H fun y H1 => td σ H1 fun x H2 => ∃ a o, x = .ref a ∧ DGet H2 a y o ∧ Q (.bl o.isSome) H2) : tDIn ty td σ H Q := k
theorem r_dinG {p : Addr} {kvs : List (Key × V)} {k : Key} {R : Option V → Prop} (h : H p = some (.dK kvs)) (q : R (valV kvs k)) : ∃ a o, V.ref p = .ref a ∧ DGet H a (kV k) o ∧ R o := ⟨p, _, rfl, DGet.k h, q⟩
theorem r_dc {wi : TI} {g : TG} {tt : TT} {tk tv : TE} {vs : List Nat} (k : wi σ H fun J H1 => ∀ D, H1 D = none → ∃ W : Nat → Nat → Hp → Prop, (∃ m, W 0 m (upd H1 D (.dK []))) ∧ ∀ i m H, W i m H →
  (J.stop i H ∧ Q (.ref D) H) ∨ (J.go i H ∧ ∃ Nx : Hp → Prop, (∀ H', Nx H' → ∃ m', m' < m ∧ W (i + 1) m' H') ∧ ∀ x H', J.yld i H x H' → g x (wipe σ vs) H' fun σ2 H2 => wipe σ2 vs = wipe σ vs ∧ tt σ2 H2 fun b H3 =>
    if b = true then tk σ2 H3 fun y H4 => tv σ2 H4 fun z H5 => ∃ kvs k, y = kV k ∧ H5 D = some (.dK kvs) ∧ kvs.length < sizeLine ∧ Nx (upd H5 D (.dK (putK kvs k z))) else Nx H3)) : tDc wi g tt tk tv vs σ H Q := k
/-- a dict comprehension over any walk -/
theorem dc_it {J : It} {n : Nat} {G : Hp → Prop} {Y : Nat → Hp → V → Hp → Prop} (w : Walk J n G Y) {g : TG} {tt : TT} {tk tv : TE} {vs : List Nat} {H1 : Hp} {D : Addr} {Qd : Hp → Prop} (Pv : Nat → Hp → Prop) (h0 : Pv 0 (upd H1 D (.dK []))) (hG : ∀ i H, i ≤ n → Pv i H → G H)
    (hs : ∀ i x H H', i < n → Pv i H → Y i H x H' → g x (wipe σ vs) H' fun σ2 H2 => wipe σ2 vs = wipe σ vs ∧ tt σ2 H2 fun b H3 =>
      if b = true then tk σ2 H3 fun y H4 => tv σ2 H4 fun z H5 => ∃ kvs k, y = kV k ∧ H5 D = some (.dK kvs) ∧ kvs.length < sizeLine ∧ Pv (i + 1) (upd H5 D (.dK (putK kvs k z))) else Pv (i + 1) H3) (hd : ∀ H, Pv n H → Qd H) :
    ∃ W : Nat → Nat → Hp → Prop, (∃ m, W 0 m (upd H1 D (.dK []))) ∧ ∀ i m H, W i m H →
      (J.stop i H ∧ Qd H) ∨ (J.go i H ∧ ∃ Nx : Hp → Prop, (∀ H', Nx H' → ∃ m', m' < m ∧ W (i + 1) m' H') ∧ ∀ x H', J.yld i H x H' → g x (wipe σ vs) H' fun σ2 H2 => wipe σ2 vs = wipe σ vs ∧ tt σ2 H2 fun b H3 =>
        if b = true then tk σ2 H3 fun y H4 => tv σ2 H4 fun z H5 => ∃ kvs k, y = kV k ∧ H5 D = some (.dK kvs) ∧ kvs.length < sizeLine ∧ Nx (upd H5 D (.dK (putK kvs k z))) else Nx H3) := by
  refine ⟨fun i m H => m = n - i ∧ i ≤ n ∧ Pv i H, ⟨n, by simp, Nat.zero_le _, h0⟩, ?_⟩
  rintro i m H ⟨rfl, hi, p⟩
  have q := hG i H hi p
  by_cases hlt : i < n
  · refine .inr ⟨w.goes i H hlt q, Pv (i + 1), fun H' p' => ⟨n - (i + 1), by omega, rfl, hlt, p'⟩, fun x H' y => hs i x H H' hlt p (w.yields i H x H' hlt q y)⟩
  · have e : i = n := by omega
    subst e
    exact .inl ⟨w.stops H q, hd H p⟩
end
theorem r_xf {a C : Addr} {cls : Value} {d : Option Addr} {f : Str} {te : TE} {σ : St} {H : Hp} {Q : VK} (k : te σ H fun x H1 => x = .ref a ∧ cls = .ref C ∧ ∃ (dd : Addr) (fs : List (Str × V)) (v : V), d = some dd ∧ H1 dd = some (.xd fs) ∧ fs.lookup f = some v ∧ Q v H1) : tXf a cls d C f te σ H Q := k
theorem r_bm {K : PySem.W.Frag} {T : String} {r : V → List V → Hp → VK → Prop} {to : TE} {t : TA} {σ : St} {H : Hp} {Q : VK} (k : to σ H fun x H1 => tyV K T x H1 ∧ t σ H1 fun xs H2 => r x xs H2 Q) : tBM K T r to t σ H Q := k
theorem r_append {l : Addr} {xs : List V} {y : V} {H : Hp} {Q : VK} (h : H l = some (.lst xs)) (z : xs.length < sizeLine) (k : Q .non (upd H l (.lst (xs ++ [y])))) : rAppend (.ref l) [y] H Q := ⟨l, xs, y, rfl, rfl, h, z, k⟩
/-! ### a name that is a dict comprehension -/
section
variable {X : Cx}
theorem ps_setDc {i : Nat} {y : Str} {py : Pos} {kx vx tg iter : Expr} {ifs : List Expr} {scope : Scope} {own : List (Str × Nat)} {pos spos : Pos} {wi : TI} {g : TG} {tt : TT} {tk tv : TE} (hc : X.calm = true) (hN : X.N.Nodup) (hy : X.N[i]? = some y) (hyl : X.env.scope.names.lookup y = some .local)
    (hsw : swapsWith (.DictComp kx vx [⟨tg, iter, ifs, 0⟩] scope pos) (some (.Name y py)) spos.line X.env = pure true) (hi : PI X tg iter wi) (ok : BlkOk X.N X.env.scope scope own)
    (hg : ∀ (s : Shared) (H : Hp) (C : Addr) (cl : List (Str × Addr)) (fp : List Addr), PG (X.blk s H scope (compEnvC scope cl C X.env) fp) tg g) (ht : ∀ (s : Shared) (H : Hp) (C : Addr) (cl : List (Str × Addr)) (fp : List Addr), PTs (X.blk s H scope (compEnvC scope cl C X.env) fp) ifs tt)
    (hk : ∀ (s : Shared) (H : Hp) (C : Addr) (cl : List (Str × Addr)) (fp : List Addr), PE (X.blk s H scope (compEnvC scope cl C X.env) fp) kx tk)
    (he : ∀ (s : Shared) (H : Hp) (C : Addr) (cl : List (Str × Addr)) (fp : List Addr), PE (X.blk s H scope (compEnvC scope cl C X.env) fp) vx tv) (hs : ∀ x, foldedSetIterable iter X.env x = pure x := by intro _; rfl) :
    PS X (.Assign [.Name y py] (.DictComp kx vx [⟨tg, iter, ifs, 0⟩] scope pos) spos) (tAsg (tDc wi g tt tk tv (own.map (·.2))) (gName i)) := by
  refine ⟨fun pins s σ H D I h => ?_⟩
  rw [exec_Assign_Name_used _ _ _ _ hsw]
  refine wpAny_bind (wpAny_standAt (wpAny_bind ?_))
  show wpAny _ X.A (do let _ ← comprehension (.DictComp kx vx [⟨tg, iter, ifs, 0⟩] scope pos) scope X.env (firstIterPos [⟨tg, iter, ifs, 0⟩] pos) newDict false (eval iter X.env) (some (assign (.Name y py) X.env))) _ _ s
  have h : tDc wi g tt tk tv (own.map (·.2)) σ H (fun x H1 => gName i x σ H1 D.nx) := h
  refine wpAny_bind (thn (dc_core (Qf := fun _ s' => SP X pins D .next s') hc hN I hi ok hg ht hk he hs h fun L C s' m H' I' q hn f => ?_) fun _ s' hq => wpAny_pure (wpAny_pure hq))
  show wpAny _ _ (assign (.Name y py) X.env (.ref L)) _ _ _
  refine wpAny_assign_Name (store_ok2 (v := V.ref L) I' hN hy (.inl hyl) rfl (fun s2 I2 ⟨a, sb, ha⟩ => ?_) (.inr hyl))
  obtain ⟨f0, f1, f2, f3, f4, f5⟩ := f
  have haC : C ≠ a := by
    rcases ha with z | z
    · rw [z]; exact f1
    · exact fun e => f4 y a z e.symm
  refine ⟨m, hn.sameBut sb haC, fun h3 sb3 => ?_⟩
  exact ⟨_, H', I2.turned (t' := s2.toks) (fun b o hb e => (sb3.2 b hb).trans e) f0 f1 f3 f4 f5, q⟩
theorem sw_trueD {k v : Expr} {gs : List Comprehension} {scope : Scope} {pos py : Pos} {y : Str} {l : Nat} {env : Env} (hk : env.scope.kind = .function) (hy : env.scope.names.lookup y = some .local) (hl : (py.line == pos.line) = true)
    (ha : (scope.names.any fun (n, k) => n == y && (k == .local || k == .cell)) = false) : swapsWith (.DictComp k v gs scope pos) (some (.Name y py)) l env = pure true := by
  have ky : env.kindOf y = some .local := hy
  have hb : env.blockKind = .function := by unfold Env.blockKind; rw [hk]; rfl
  unfold swapsWith
  simp only [hb, ky, ha, Expr.pos, hl]
  rfl
end
end Hg
end L2
end

section
set_option Elab.async false
set_option linter.all false
set_option maxRecDepth 100000
set_option maxHeartbeats 4000000
/-! Operators of own classes: a op b, -a, x in a, a == b, a[i], a as a test. -/
namespace L2
namespace Hg
open PySem PySem.Spec PyProof.Rows
section
variable {X : Cx} {CX : CXT} {k : Nat} {C : Addr} {ps : List Str} {sp : Sp} {E : XK}
/-- the method runs at an instance and what stands behind it -/
theorem own_call {f : Addr} {fd : FuncData} {pins : List (Addr × Obj)} {σ : St} {H : Hp} {s : Shared} {Q : VK} {us : List Value} {vs : List V} (F : FnOk X.prog X.w X.K X.mg X.base CX k f fd ps sp) (hb : Binds X.K fd ps []) (hr : Room k X.A) (hx : Passes CX X E)
    (I : Inv X pins σ H s) (r : Vals vs us) (h : sp vs H Q E) : wpAny (model X.prog X.w) X.A (call (.ref f) us) (EP X pins σ Q) X.xe s := by
  have h' : sp (vs ++ []) H Q E := by rw [List.append_nil]; exact h
  exact run_fn F hr hb .nil hx I r h'
theorem relV_back {v : V} {u : Value} {s : Shared} {Q : Value → Shared → Prop} (r : RelV v u) (q : Q u s) : PySem.W.CmpBack Q u s := by
  cases v with
  | non => cases r; exact q
  | bl b => cases r; exact q
  | int i => obtain ⟨t, rfl⟩ := r; exact q
  | str x => obtain ⟨t, rfl⟩ := r; exact q
  | ref a => cases r; exact q
  | byt b => obtain ⟨t, rfl⟩ := r; exact q
  | flt b => obtain ⟨t, rfl⟩ := r; exact q
  | ty n => cases r; exact q
theorem ins_at {pins : List (Addr × Obj)} {σ : St} {H : Hp} {s : Shared} {a dx : Addr} {fs : List (Str × V)} (I : Inv X pins σ H s) (e : H a = some (.ins C dx fs)) : ∃ ox od, PySem.W.InstAt s.heap a ox C od := by
  obtain ⟨mA, O, _⟩ := ins_get I.hok e
  obtain ⟨od, J, _⟩ := O.look
  exact ⟨_, _, J⟩
/-- a op b, both of the class C -/
def rOwn (C : Addr) (sp : Sp) (E : XK) : R2 := fun x y H Q => ∃ (a dx : Addr) (fs : List (Str × V)) (b dy : Addr) (gs : List (Str × V)), x = .ref a ∧ y = .ref b ∧ H a = some (.ins C dx fs) ∧ H b = some (.ins C dy gs) ∧ sp [x, y] H Q E
theorem o_own {op : Operator} {m : Str} (M : MetOk X.prog X.w X.K X.mg X.base CX k C m ps sp) (sf : PySem.W.selfFirst X.K C = true) (hr : Room k X.A) (hx : Passes CX X E) (hm : PySem.dunder op.info.2 = m := by rfl) : OpR X (binaryOp op) (rOwn C sp E) := by
  subst hm
  obtain ⟨_, f, fd, hM, F, hb⟩ := M
  intro pins s σ H x y v u Q I rx ry h
  obtain ⟨a, dx, fs, b, dy, gs, rfl, rfl, ha, hb', q⟩ := h
  obtain rfl : v = Value.ref a := rx
  obtain rfl : u = Value.ref b := ry
  obtain ⟨m, Fr⟩ := I.fr
  obtain ⟨ox, od, J⟩ := ins_at I ha
  obtain ⟨oy, oe, J2⟩ := ins_at I hb'
  refine PySem.W.binop_K Fr I.ok.mod.kin J J2.type sf hM.at_ hM.fn (wpAny_mono (own_call (vs := [V.ref a, V.ref b]) F hb hr hx I (.cons rfl (.cons rfl .nil)) q) (fun w s' hq => ?_) fun _ _ z => z)
  obtain ⟨z, H1, I1, rz, q1⟩ := hq
  exact relV_back rz ⟨z, H1, I1, rz, q1⟩
/-- x in b, b of the class C -/
def rInOwn (C : Addr) (sp : Sp) (E : XK) : R2 := fun x y H Q => ∃ (b dy : Addr) (gs : List (Str × V)), y = .ref b ∧ H b = some (.ins C dy gs) ∧ sp [y, x] H (fun v H' => ∃ c, v = .bl c ∧ Q (.bl c) H') E
theorem truthy_bool {M : Model} {A : Around} {b : Bool} {Q : Bool → Shared → Prop} {E' : Value → Shared → Prop} {s : Shared} (h : Q b s) : wpAny M A (truthy (.bool b)) Q E' s := wpAny_pure h
theorem o_inOwn (M : MetOk X.prog X.w X.K X.mg X.base CX k C "__contains__" ps sp) (hr : Room k X.A) (hx : Passes CX X E) : OpR X (compareOp .In) (rInOwn C sp E) := by
  obtain ⟨_, f, fd, hM, F, hb⟩ := M
  intro pins s σ H x y v u Q I rx ry h
  obtain ⟨b, dy, gs, rfl, hb', q⟩ := h
  obtain rfl : u = Value.ref b := ry
  obtain ⟨m, Fr⟩ := I.fr
  obtain ⟨ox, od, J⟩ := ins_at I hb'
  refine PySem.W.in_K Fr I.ok.mod.kin J hM.at_ hM.fn (wpAny_mono (own_call (vs := [V.ref b, x]) F hb hr hx I (.cons rfl (.cons rx .nil)) q) (fun w s' hq => ?_) fun _ _ z => z)
  obtain ⟨z, H1, I1, rz, c, rfl, q1⟩ := hq
  obtain rfl : w = Value.bool c := rz
  exact truthy_bool ⟨.bl c, H1, I1, rfl, q1⟩
theorem o_notInOwn (M : MetOk X.prog X.w X.K X.mg X.base CX k C "__contains__" ps sp) (hr : Room k X.A) (hx : Passes CX X E) :
    OpR X (compareOp .NotIn) (fun x y H Q => ∃ (b dy : Addr) (gs : List (Str × V)), y = .ref b ∧ H b = some (.ins C dy gs) ∧ sp [y, x] H (fun v H' => ∃ c, v = .bl c ∧ Q (.bl (!c)) H') E) := by
  obtain ⟨_, f, fd, hM, F, hb⟩ := M
  intro pins s σ H x y v u Q I rx ry h
  obtain ⟨b, dy, gs, rfl, hb', q⟩ := h
  obtain rfl : u = Value.ref b := ry
  obtain ⟨m, Fr⟩ := I.fr
  obtain ⟨ox, od, J⟩ := ins_at I hb'
  refine PySem.W.notIn_K Fr I.ok.mod.kin J hM.at_ hM.fn (wpAny_mono (own_call (vs := [V.ref b, x]) F hb hr hx I (.cons rfl (.cons rx .nil)) q) (fun w s' hq => ?_) fun _ _ z => z)
  obtain ⟨z, H1, I1, rz, c, rfl, q1⟩ := hq
  obtain rfl : w = Value.bool c := rz
  exact truthy_bool ⟨.bl (!c), H1, I1, rfl, q1⟩
/-- a < b, a == b and so on, both of the class C -/
theorem o_cmpOwn {op : CmpOp} {m : Str} (M : MetOk X.prog X.w X.K X.mg X.base CX k C m ps sp) (hu : X.A.units < cLine) (hn : PySem.W.notFirst X.K C (.ref C) = true) (hr : Room k X.A) (hx : Passes CX X E) (hm : (cmpInfo op).2.1 = m := by rfl)
    (ho : ∀ a b, compareOp op a b = richCompare op a b := by intro _ _; rfl) : OpR X (compareOp op) (rOwn C sp E) := by
  subst hm
  obtain ⟨_, f, fd, hM, F, hb⟩ := M
  intro pins s σ H x y v u Q I rx ry h
  obtain ⟨a, dx, fs, b, dy, gs, rfl, rfl, ha, hb', q⟩ := h
  obtain rfl : v = Value.ref a := rx
  obtain rfl : u = Value.ref b := ry
  obtain ⟨m, Fr⟩ := I.fr
  obtain ⟨ox, od, J⟩ := ins_at I ha
  obtain ⟨oy, oe, J2⟩ := ins_at I hb'
  rw [ho]
  refine PySem.W.cmp_K hu Fr I.ok.mod.kin J J2.type hn hM.at_ hM.fn (wpAny_mono (own_call (vs := [V.ref a, V.ref b]) F hb hr hx I (.cons rfl (.cons rfl .nil)) q) (fun w s' hq => ?_) fun _ _ z => z)
  obtain ⟨z, H1, I1, rz, q1⟩ := hq
  exact relV_back rz ⟨z, H1, I1, rz, q1⟩
/-- -a, ~a -/
def rUnOwn (C : Addr) (sp : Sp) (E : XK) : V → Hp → VK → Prop := fun x H Q => ∃ (a dx : Addr) (fs : List (Str × V)), x = .ref a ∧ H a = some (.ins C dx fs) ∧ sp [x] H Q E
theorem un_invOwn (M : MetOk X.prog X.w X.K X.mg X.base CX k C "__invert__" ps sp) (hr : Room k X.A) (hx : Passes CX X E) : UnR X (unaryOp .Invert) (rUnOwn C sp E) := by
  obtain ⟨_, f, fd, hM, F, hb⟩ := M
  intro pins s σ H x v Q I rx h
  obtain ⟨a, dx, fs, rfl, ha, q⟩ := h
  obtain rfl : v = Value.ref a := rx
  obtain ⟨ox, od, J⟩ := ins_at I ha
  unfold unaryOp
  refine wpAny_holding ?_
  refine wpAny_bind (m := callSpecial? (.ref a) (Str.ofString "__invert__")) (PySem.W.special_fn I.kIn J hM.at_ (beq_iff_eq.mp hM.fn) ?_)
  exact wpAny_mono (own_call (vs := [V.ref a]) F hb hr hx I (.cons rfl .nil) q) (fun w s' hq => wpAny_pure hq) fun _ _ z => z
theorem un_negOwn (M : MetOk X.prog X.w X.K X.mg X.base CX k C "__neg__" ps sp) (hr : Room k X.A) (hx : Passes CX X E) : UnR X (unaryOp .USub) (rUnOwn C sp E) := by
  obtain ⟨_, f, fd, hM, F, hb⟩ := M
  intro pins s σ H x v Q I rx h
  obtain ⟨a, dx, fs, rfl, ha, q⟩ := h
  obtain rfl : v = Value.ref a := rx
  obtain ⟨ox, od, J⟩ := ins_at I ha
  unfold unaryOp
  refine wpAny_holding ?_
  refine wpAny_bind (m := callSpecial? (.ref a) (Str.ofString "__neg__")) (PySem.W.special_fn I.kIn J hM.at_ (beq_iff_eq.mp hM.fn) ?_)
  exact wpAny_mono (own_call (vs := [V.ref a]) F hb hr hx I (.cons rfl .nil) q) (fun w s' hq => wpAny_pure hq) fun _ _ z => z
/-- a as a test, by its `__bool__` -/
def rTruOwn (C : Addr) (sp : Sp) (E : XK) : V → Hp → (Bool → Hp → Prop) → Prop := fun x H Q => ∃ (a dx : Addr) (fs : List (Str × V)), x = .ref a ∧ H a = some (.ins C dx fs) ∧ sp [x] H (fun v H' => ∃ c, v = .bl c ∧ Q c H') E
theorem tru_own (M : MetOk X.prog X.w X.K X.mg X.base CX k C "__bool__" ps sp) (hr : Room k X.A) (hx : Passes CX X E) : TruR X (rTruOwn C sp E) := by
  obtain ⟨_, f, fd, hM, F, hb⟩ := M
  intro pins s σ H x v Q I rx h
  obtain ⟨a, dx, fs, rfl, ha, q⟩ := h
  obtain rfl : v = Value.ref a := rx
  obtain ⟨ox, od, J⟩ := ins_at I ha
  obtain ⟨m, Fr⟩ := I.fr
  refine PySem.W.truthy_K Fr I.ok.mod.kin J hM.at_ hM.fn (wpAny_mono (own_call (vs := [V.ref a]) F hb hr hx I (.cons rfl .nil) q) (fun w s' hq => ?_) fun _ _ z => z)
  obtain ⟨z, H1, I1, rz, c, rfl, q1⟩ := hq
  obtain rfl : w = Value.bool c := rz
  exact ⟨H1, I1, q1⟩
end
theorem ifBound_B {M : Model} {A : Around} {E : Value → Shared → Prop} {s : Shared} {K : PySem.W.Frag} {x C : Addr} {ox : Obj} {od : Option Obj} {name : Str} {id : String} {args : List Value} {Q : Option Value → Shared → Prop}
    (X : K.In s.heap) (J : PySem.W.InstAt s.heap x ox C od) (hs : PySem.W.findIn K (.ref C) name = some (some (.builtin id))) (hbd : bindSpecial (.builtin id) (.ref x) = pure (.builtin id, [.ref x]))
    (h : wpAny M A (call (.builtin id) (.ref x :: args)) (fun v => Q (some v)) E s) : wpAny M A (callSpecialIfBound? (.ref x) name args) Q E s := by
  simp only [callSpecialIfBound?, bindSpecialIfBound?, hbd]
  refine wpAny_holding ?_
  refine wpAny_bind (wpAny_bind (wpAny_bind (J.type.here ?_)))
  refine (PySem.W.looks_findIn X hs).here ?_
  refine wpAny_bind (wpAny_askSetting (wpAny_ite ?_))
  have last : wpAny M A (call (.builtin id) ([.ref x] ++ args) >>= fun v => pure (some v)) Q E s := wpAny_bind (wpAny_mono h (fun _ _ z => wpAny_pure z) fun _ _ z => z)
  split
  · exact wpAny_bind (wpAny_of_eq hbd (wpAny_pure (by exact last)))
  · exact wpAny_tryCatch (wpAny_bind (wpAny_of_eq hbd (wpAny_pure (by exact last))))
theorem ne_bind (self : Value) : bindSpecial (.builtin "object.__ne__") self = pure (.builtin "object.__ne__", [self]) := PySem.F.slot_object_ne.bind self
theorem ne_kind' : builtinKind "object.__ne__" = some .slot := by decide +kernel
theorem ne_split : splitId "object.__ne__" = some ("object", "__ne__") := by decide +kernel
theorem ne_plain : plainId "object.__ne__" = true := by decide +kernel
section
variable {X : Cx} {k : Nat} {C : Addr} {ps : List Str} {sp : Sp}
/-- a != b by object's own, which asks the class's == -/
theorem o_neOwn (M : MetOk X.prog X.w X.K X.mg X.base CX0 k C "__eq__" ps sp) (hne : PySem.W.findIn X.K (.ref C) "__ne__" = some (some (.builtin "object.__ne__"))) (hob : PySem.W.mroIn X.K C (.type "object") = some true)
    (hu : X.A.units + 64 < cLine) (hr : Room (k + 1) X.A) : OpR X (compareOp .NotEq) (fun x y H Q => ∃ (a dx : Addr) (fs : List (Str × V)) (b dy : Addr) (gs : List (Str × V)), x = .ref a ∧ y = .ref b ∧ H a = some (.ins C dx fs) ∧ H b = some (.ins C dy gs) ∧
      sp [x, y] H (fun v H' => ∃ c, v = .bl c ∧ Q (.bl (!c)) H') E0) := by
  obtain ⟨_, f, fd, hM, F, hb⟩ := M
  intro pins s σ H x y v u Q I rx ry h
  obtain ⟨a, dx, fs, b, dy, gs, rfl, rfl, ha, hb', q⟩ := h
  obtain rfl : v = Value.ref a := rx
  obtain rfl : u = Value.ref b := ry
  obtain ⟨ox, od, J⟩ := ins_at I ha
  obtain ⟨oy, oe, J2⟩ := ins_at I hb'
  show wpAny _ _ (richCompare .NotEq (.ref a) (.ref b)) _ _ _
  have run : wpAny (model X.prog X.w) X.A.in1 (call (.ref f) [.ref a, .ref b]) (EP X pins σ fun v H' => ∃ c, v = .bl c ∧ Q (.bl (!c)) H') (fun _ _ => False) s := by
    have h' : sp ([V.ref a, V.ref b] ++ []) H (fun v H' => ∃ c, v = .bl c ∧ Q (.bl (!c)) H') E0 := by rw [List.append_nil]; exact q
    have vals : Vals ([V.ref a, V.ref b] ++ []) ([Value.ref a, Value.ref b] ++ []) := .cons (show RelV (.ref a) (.ref a) from rfl) (.cons (show RelV (.ref b) (.ref b) from rfl) .nil)
    refine wpAny_call (codeAny_mono (F.run X.A.in1 X.stack s H ⟨[.ref a, .ref b], []⟩ ([Value.ref a, Value.ref b] ++ []) ([V.ref a, V.ref b] ++ []) _ E0 hr.in1 I.env0.in1 (hb s [.ref a, .ref b] I.kIn (F.len _ _ _ _ h')) vals h') fun r s' hq => ?_)
    cases r with
    | error e => exact False.elim hq
    | ok fl =>
      cases fl with
      | ret u => exact I.after hq
      | next => exact False.elim hq
      | brk => exact False.elim hq
      | cont => exact False.elim hq
  have inst : PySem.W.Looks (model X.prog X.w) s.heap (isInstance (.ref a) (.type "object")) true := J.type.andThen (PySem.W.looks_mroIn I.kIn hob)
  obtain ⟨m, Fr⟩ := I.fr
  have core : wpAny (model X.prog X.w) X.A (tryCompare (.ref a) "__ne__" (.ref b)) (fun r s' => ∃ v, r = some v ∧ EP X pins σ Q v s') X.xe s := by
    unfold tryCompare
    refine wpAny_bind (ifBound_B I.kIn J hne (ne_bind _) ?_)
    refine wpAny_call (codeAny_call_builtin ne_plain PySem.F.entry_object_ne ?_)
    refine PySem.W.check_slot ne_kind' ne_split inst (PySem.F.args_object_ne_2 _ _) ?_
    have hu1 : X.A.in1.units < cLine := by
      show X.A.units + 1 < cLine
      omega
    unfold Builtin.«object.__ne__»
    refine wpAny_bind (wpAny_pure ?_)
    refine wpAny_bind (wpAny_cRoomFor hu1 ?_)
    refine wpAny_bind (PySem.W.ifBound_K I.kIn J hM.at_ hM.fn (wpAny_mono run (fun w s' hq => ?_) fun _ _ z => False.elim z))
    obtain ⟨z, H1, I1, rz, c, rfl, q1⟩ := hq
    obtain rfl : w = Value.bool c := rz
    refine wpAny_bind (truthy_bool ?_)
    refine wpAny_pure ?_
    exact wpAny_pure ⟨_, rfl, .bl (!c), H1, I1, rfl, q1⟩
  have same : PySem.W.notFirst X.K C (.ref C) = true := by
    unfold PySem.W.notFirst
    rw [Bool.or_eq_true]
    exact .inl (beq_self_eq_true _)
  have hu0 : X.A.units < cLine := by omega
  unfold richCompare
  simp only [oneThing_ref]
  refine wpAny_holding (wpAny_bind (wpAny_cRoomFor hu0 ?_))
  refine wpAny_bind (J.type.here ?_)
  refine wpAny_bind (J2.type.here ?_)
  rw [if_neg (by simp)]
  refine wpAny_bind (wpAny_pure ?_)
  rw [if_neg Bool.false_ne_true]
  refine wpAny_bind (wpAny_mono core (fun r s' z => ?_) fun _ _ e => e)
  obtain ⟨v, rfl, hq⟩ := z
  exact wpAny_pure hq
end
theorem nf_self {K : PySem.W.Frag} {C : Addr} : PySem.W.notFirst K C (.ref C) = true := by
  unfold PySem.W.notFirst
  rw [Bool.or_eq_true]
  exact .inl (beq_self_eq_true _)
theorem hu0_of {A : Around} {k : Nat} (hr : Room k A) : A.units < cLine := Nat.lt_of_le_of_lt (Nat.le_add_right _ 64) hr.units
end Hg
end L2
end

section
set_option Elab.async false
set_option linter.all false
set_option maxRecDepth 100000
set_option maxHeartbeats 4000000
/-! a == b where b is of any kind; str(a) by an own `__str__`; a[i] by an own `__getitem__`; joined texts. -/
namespace L2
namespace Hg
open PySem PySem.Spec PyProof.Rows
theorem kit_tyOwn {K : PySem.W.Frag} {C : Addr} {T : String} {b : Bool} (hd : PySem.W.hasDictIn K C = true) (ht : PySem.W.typeIn K (.ref C) = some (.type "type")) (h : PySem.W.subIn K (.type T) (.ref C) = some b) : PySem.W.kitOne K (.type T) (.ref C) = some b := by
  obtain ⟨cd, hc, _⟩ := PySem.W.any_some hd
  have e2 : ((PySem.W.clsIn K C).isSome && PySem.W.typeIn K (.ref C) == some (.type "type")) = true := by rw [hc, ht] <;> rfl
  show (if ((Value.type T == Value.ref C) = true) then some true else (if ((PySem.W.clsIn K C).isSome && PySem.W.typeIn K (.ref C) == some (.type "type")) = true then PySem.W.subIn K (.type T) (.ref C) else none)) = some b
  rw [if_neg (fun z => by have := beq_iff_eq.mp z; cases this), if_pos e2]
  exact h
theorem kitAny2 {K : PySem.W.Frag} {t u1 u2 : Value} {a b : Bool} (h1 : PySem.W.kitOne K t u1 = some a) (h2 : PySem.W.kitOne K t u2 = some b) : PySem.W.kitAny K t [u1, u2] = some (a || b) := by
  unfold PySem.W.kitAny
  rw [h1]
  cases a with
  | true => rfl
  | false =>
    show (match PySem.W.kitOne K t u2 with | some true => some true | some false => PySem.W.kitAny K t [] | none => none) = _
    rw [h2]
    cases b <;> rfl
theorem nf_ty {K : PySem.W.Frag} {C : Addr} {T : String} (h : PySem.W.subIn K (.type T) (.ref C) = some false) : PySem.W.notFirst K C (.type T) = true := by
  unfold PySem.W.notFirst
  rw [Bool.or_eq_true]
  exact .inr (by rw [h]; rfl)
section
variable {X : Cx} {CX : CXT} {k : Nat} {C : Addr} {ps : List Str} {sp : Sp} {E : XK} {pins : List (Addr × Obj)} {σ : St} {H : Hp} {s : Shared}
theorem ty_at {x : V} {u t : Value} (I : Inv X pins σ H s) (rx : RelV x u) (ty : TyX X.K H x t) : PySem.W.Looks (model X.prog X.w) s.heap (typeOf u) t := by
  obtain ⟨P, kx, hp, _⟩ := kit_of I rx ty
  exact kx.ty _ _ I.kIn hp
/-- a < b, a == b, .., a of the class C, b of a kind that is no class below C -/
def rCmpA (K : PySem.W.Frag) (C : Addr) (sp : Sp) (E : XK) : R2 := fun x y H Q => ∃ (a dx : Addr) (fs : List (Str × V)) (t : Value), x = .ref a ∧ H a = some (.ins C dx fs) ∧ TyX K H y t ∧ PySem.W.notFirst K C t = true ∧ sp [x, y] H Q E
theorem o_cmpAny {op : CmpOp} {m : Str} (M : MetOk X.prog X.w X.K X.mg X.base CX k C m ps sp) (K : PySem.W.Frag) (hu : X.A.units < cLine) (hr : Room k X.A) (hx : Passes CX X E) (hm : (cmpInfo op).2.1 = m := by rfl)
    (ho : ∀ a b, compareOp op a b = richCompare op a b := by intro _ _; rfl) (hK : X.K = K := by rfl) : OpR X (compareOp op) (rCmpA K C sp E) := by
  subst hm hK
  obtain ⟨_, f, fd, hM, F, hb⟩ := M
  intro pins s σ H x y v u Q I rx ry h
  obtain ⟨a, dx, fs, t, rfl, ha, ty, hn, q⟩ := h
  obtain rfl : v = Value.ref a := rx
  obtain ⟨m, Fr⟩ := I.fr
  obtain ⟨ox, od, J⟩ := ins_at I ha
  rw [ho]
  refine PySem.W.cmp_K hu Fr I.ok.mod.kin J (ty_at I ry ty) hn hM.at_ hM.fn (wpAny_mono (own_call (vs := [V.ref a, y]) F hb hr hx I (.cons rfl (.cons ry .nil)) q) (fun w s' hq => ?_) fun _ _ z => z)
  obtain ⟨z, H1, I1, rz, q1⟩ := hq
  exact relV_back rz ⟨z, H1, I1, rz, q1⟩
theorem r_cmpA {K : PySem.W.Frag} {a dx : Addr} {fs : List (Str × V)} {t : Value} {y : V} {Q : VK} (ha : H a = some (.ins C dx fs)) (ty : TyX K H y t) (nf : PySem.W.notFirst K C t = true) (k : sp [.ref a, y] H Q E) : rCmpA K C sp E (.ref a) y H Q := ⟨a, dx, fs, t, rfl, ha, ty, nf, k⟩
theorem r_ownB {a dx b dy : Addr} {fs gs : List (Str × V)} {Q : VK} (ha : H a = some (.ins C dx fs)) (hb : H b = some (.ins C dy gs)) (k : sp [.ref a, .ref b] H Q E) : rOwn C sp E (.ref a) (.ref b) H Q := ⟨a, dx, fs, b, dy, gs, rfl, rfl, ha, hb, k⟩
theorem r_inOwn {x : V} {b dy : Addr} {gs : List (Str × V)} {Q : VK} (hb : H b = some (.ins C dy gs)) (k : sp [.ref b, x] H (fun v H' => ∃ c, v = .bl c ∧ Q (.bl c) H') E) : rInOwn C sp E x (.ref b) H Q := ⟨b, dy, gs, rfl, hb, k⟩
/-- str(a) by the class's own `__str__` -/
def rStrOwn (C : Addr) (sp : Sp) : List V → Hp → VK → Prop := fun xs H Q => ∃ (a dx : Addr) (fs : List (Str × V)), xs = [.ref a] ∧ H a = some (.ins C dx fs) ∧ sp [.ref a] H (fun v H' => ∃ y, v = .str y ∧ Q (.str y) H') E0
theorem c_strOwn (M : MetOk X.prog X.w X.K X.mg X.base CX0 k C "__str__" ps sp) (hu : X.A.units + 64 < cLine) (hr : Room (k + 2) X.A) : CallR X (.type "str") (rStrOwn C sp) := by
  obtain ⟨_, f, fd, hM, F, hb⟩ := M
  intro pins s σ H xs us Q I r h
  obtain ⟨a, dx, fs, rfl, ha, q⟩ := h
  cases r with
  | cons r1 r2 =>
    cases r2
    cases (show _ = Value.ref a from r1)
    obtain ⟨ox, od, J⟩ := ins_at I ha
    have run : wpAny (model X.prog X.w) X.A.in1.in1 (call (.ref f) [.ref a]) (EP X pins σ fun v H' => ∃ y, v = .str y ∧ Q (.str y) H') (fun _ _ => False) s := by
      have h' : sp ([V.ref a] ++ []) H (fun v H' => ∃ y, v = .str y ∧ Q (.str y) H') E0 := by rw [List.append_nil]; exact q
      have vals : Vals ([V.ref a] ++ []) ([Value.ref a] ++ []) := .cons (show RelV (.ref a) (.ref a) from rfl) .nil
      refine wpAny_call (codeAny_mono (F.run X.A.in1.in1 X.stack s H ⟨[.ref a], []⟩ ([Value.ref a] ++ []) ([V.ref a] ++ []) _ E0 hr.in1.in1 I.env0.in1.in1 (hb s [.ref a] I.kIn (F.len _ _ _ _ h')) vals h') fun r s' hq => ?_)
      cases r with
      | error e => exact False.elim hq
      | ok fl =>
        cases fl with
        | ret u => exact I.after hq
        | next => exact False.elim hq
        | brk => exact False.elim hq
        | cont => exact False.elim hq
    refine PySem.W.kso_call (by show X.A.units + 1 + 1 < cLine; omega) I.kIn J hM.at_ hM.fn (wpAny_mono run (fun u s' hq => ?_) fun _ _ z => False.elim z)
    obtain ⟨z, H1, I1, rz, y, rfl, q1⟩ := hq
    obtain ⟨t, rfl⟩ := rz
    exact ⟨.str y, H1, I1, ⟨t, rfl⟩, q1⟩
theorem r_strOwn {a dx : Addr} {fs : List (Str × V)} {Q : VK} (ha : H a = some (.ins C dx fs)) (k : sp [.ref a] H (fun v H' => ∃ y, v = .str y ∧ Q (.str y) H') E0) : rStrOwn C sp [.ref a] H Q := ⟨a, dx, fs, rfl, ha, k⟩
end
/-! ### a as a test -/
def tTrO (C : Addr) (sp : Sp) (E : XK) (ta : TE) : TT := fun σ H Q => ta σ H fun x H' => rTruOwn C sp E x H' Q
theorem pt_own {X : Cx} {CX : CXT} {k : Nat} {C : Addr} {ps : List Str} {sp : Sp} {E : XK} {a : Expr} {ta : TE} (M : MetOk X.prog X.w X.K X.mg X.base CX k C "__bool__" ps sp) (hr : Room k X.A) (hx : Passes CX X E) (ha : PE X a ta)
    (he : ∀ whole, isTrue a X.env whole = (do let v ← whole; standAt a.pos; holding [v] (truthy v)) := by intro _; rfl) : PT X a (tTrO C sp E ta) := pt_truthR ha (tru_own M hr hx) he
theorem r_trO {C : Addr} {sp : Sp} {E : XK} {ta : TE} {σ : St} {H : Hp} {Q : Bool → Hp → Prop} (k : ta σ H fun x H' => rTruOwn C sp E x H' Q) : tTrO C sp E ta σ H Q := k
theorem r_truO {C a dx : Addr} {sp : Sp} {E : XK} {fs : List (Str × V)} {H : Hp} {Q : Bool → Hp → Prop} (ha : H a = some (.ins C dx fs)) (k : sp [.ref a] H (fun v H' => ∃ c, v = .bl c ∧ Q c H') E) : rTruOwn C sp E (.ref a) H Q := ⟨a, dx, fs, rfl, ha, k⟩
/-! ### bool(a) by an own `__bool__` -/
open Builtin in
theorem bool_new_tree (v : Value) : «bool.__new__» ⟨[.type "bool", v], []⟩ = (do
    if !(← isType (.type "bool")) then
      rule "bool.__new__.no-type"; raiseError "TypeError" s!"bool.__new__(X): X is not a type object ({← typeNameOf (.type "bool")})"
    if !(← isSubtype (.type "bool") (.type "bool")) then
      rule "bool.__new__.no-subtype"; raiseError "TypeError" s!"bool.__new__({← typeName (.type "bool")}): {← typeName (.type "bool")} is not a subtype of bool"
    ret (.bool (← truthy v))) := rfl
section
variable {X : Cx} {k : Nat} {C : Addr} {ps : List Str} {sp : Sp} {H : Hp}
def rBoolOwn (C : Addr) (sp : Sp) : List V → Hp → VK → Prop := fun xs H Q => ∃ (a dx : Addr) (fs : List (Str × V)), xs = [.ref a] ∧ H a = some (.ins C dx fs) ∧ sp [.ref a] H (fun v H' => ∃ c, v = .bl c ∧ Q (.bl c) H') E0
theorem c_boolOwn (M : MetOk X.prog X.w X.K X.mg X.base CX0 k C "__bool__" ps sp) (hr : Room (k + 2) X.A) : CallR X (.type "bool") (rBoolOwn C sp) := by
  obtain ⟨_, f, fd, hM, F, hb⟩ := M
  intro pins s σ H xs us Q I r h
  obtain ⟨a, dx, fs, rfl, ha, q⟩ := h
  cases r with
  | cons r1 r2 =>
    cases r2
    cases (show _ = Value.ref a from r1)
    obtain ⟨ox, od, J⟩ := ins_at I ha
    obtain ⟨m, Fr⟩ := I.fr
    have run : wpAny (model X.prog X.w) X.A.in1.in1 (call (.ref f) [.ref a]) (EP X pins σ fun v H' => ∃ c, v = .bl c ∧ Q (.bl c) H') (fun _ _ => False) s := by
      have h' : sp ([V.ref a] ++ []) H (fun v H' => ∃ c, v = .bl c ∧ Q (.bl c) H') E0 := by rw [List.append_nil]; exact q
      have vals : Vals ([V.ref a] ++ []) ([Value.ref a] ++ []) := .cons (show RelV (.ref a) (.ref a) from rfl) .nil
      refine wpAny_call (codeAny_mono (F.run X.A.in1.in1 X.stack s H ⟨[.ref a], []⟩ ([Value.ref a] ++ []) ([V.ref a] ++ []) _ E0 hr.in1.in1 I.env0.in1.in1 (hb s [.ref a] I.kIn (F.len _ _ _ _ h')) vals h') fun r s' hq => ?_)
      cases r with
      | error e => exact False.elim hq
      | ok fl =>
        cases fl with
        | ret u => exact I.after hq
        | next => exact False.elim hq
        | brk => exact False.elim hq
        | cont => exact False.elim hq
    refine callType_codes (T := "bool") (Bi := Builtin.«object.__init__») (Q₁ := fun r s₁ => ∃ c, r = .bool c ∧ EP X pins σ Q (.bool c) s₁) PySem.F.called_bool (PySem.F.typeCall_bool_1 _) PySem.F.entry_object_init ?_ ?_
    · refine codeAny_of_tree (show wpAny _ X.A.in1.in1 (do checkBuiltinCall "bool.__new__" ⟨[.type "bool", .ref a], []⟩; again (.builtin "bool.__new__" ⟨[.type "bool", .ref a], []⟩)) _ _ s from ?_)
      refine wpAny_bind (wpAny_of_eq (PySem.F.newCall_bool_1 _) (wpAny_pure ⟨plainId_quiet (by decide +kernel) _, codeAny_builtin PySem.F.entry_bool_new ?_⟩))
      rw [Around.under_plainId (by decide +kernel) _, bool_new_tree]
      refine wpAny_bind (wpAny_pure ?_)
      refine wpAny_bind (wpAny_of_eq PySem.F.conv_sub_bool ?_)
      refine wpAny_bind (PySem.W.truthy_K Fr I.ok.mod.kin J hM.at_ hM.fn (wpAny_mono run (fun u s' hq => ?_) fun _ _ z => False.elim z))
      obtain ⟨z, H1, I1, rz, c, rfl, q1⟩ := hq
      obtain rfl : u = Value.bool c := rz
      exact wpAny_pure ⟨c, rfl, .bl c, H1, I1, rfl, q1⟩
    · rintro obj s₁ ⟨c, rfl, hq⟩
      exact ⟨rfl, PySem.F.args_object_init_2 _ _, object_init_meets PySem.F.called_bool.init.lookup PySem.F.called_bool.made (by decide) X.prog X.w X.A.in1 _ s₁ ⟨rfl, rfl, hq⟩⟩
theorem r_boolOwn {a dx : Addr} {fs : List (Str × V)} {Q : VK} (ha : H a = some (.ins C dx fs)) (k : sp [.ref a] H (fun v H' => ∃ c, v = .bl c ∧ Q (.bl c) H') E0) : rBoolOwn C sp [.ref a] H Q := ⟨a, dx, fs, rfl, ha, k⟩
end
/-! ### a[i] by an own `__getitem__` -/
def tSubO (C : Addr) (sp : Sp) (E : St → XK) (ta tb : TE) : TE := fun σ H Q => ta σ H fun x H1 => tb σ H1 fun y H2 => ∃ (a dx : Addr) (fs : List (Str × V)), x = .ref a ∧ H2 a = some (.ins C dx fs) ∧ sp [x, y] H2 Q (E σ)
section
variable {X : Cx} {CX : CXT} {k : Nat} {C : Addr} {ps : List Str} {sp : Sp} {E : St → XK} {a b : Expr} {ta tb : TE} {pos : Pos} {σ : St} {H : Hp} {Q : VK}
theorem pe_subOwn (M : MetOk X.prog X.w X.K X.mg X.base CX k C "__getitem__" ps sp) (hfi : ∀ f, PySem.W.findIn X.K (.ref C) "__getitem__" = some (some (.ref f)) → PySem.W.fnIn X.K f = true) (hr : Room (k + 1) X.A) (hx : ∀ σ, PassesAt CX X σ (E σ)) (ha : PE X a ta) (hb : PE X b tb)
    (hsl : ∀ v i, subscripted b true v i = runValue (.builtin "lifetime.subscript" ⟨[v, i], []⟩) := by intro _ _; with_unfolding_all rfl) : PE X (.Subscript a b pos) (tSubO C sp E ta tb) := by
  obtain ⟨_, f, fd, hM, F, hbi⟩ := M
  refine ⟨fun pins s σ H Q I h => ?_⟩
  refine Subscript_ (binT ha hb I (R := fun x y H2 => ∃ (a dx : Addr) (fs : List (Str × V)), x = .ref a ∧ H2 a = some (.ins C dx fs) ∧ sp [x, y] H2 Q (E σ)) h fun v u s2 x y H2 I2 rx ry q => ?_)
  obtain ⟨a, dx, fs, rfl, ea, q⟩ := q
  obtain rfl : v = Value.ref a := rx
  obtain ⟨m, Fr⟩ := I2.fr
  obtain ⟨ox, od, J⟩ := ins_at I2 ea
  refine PySem.W.sub_K Fr I2.ok.mod.kin J hM.at_ (hfi f hM.at_) hM.fn ?_ (hsl _ _)
  have h' : sp ([V.ref a, y] ++ []) H2 Q (E σ) := by rw [List.append_nil]; exact q
  have vals : Vals ([V.ref a, y] ++ []) ([Value.ref a, u] ++ []) := .cons (show RelV (.ref a) (.ref a) from rfl) (.cons ry .nil)
  refine wpAny_call (codeAny_mono (F.run X.A.in1 X.stack s2 H2 ⟨[.ref a, u], []⟩ ([Value.ref a, u] ++ []) ([V.ref a, y] ++ []) _ (E σ) hr.in1 I2.env0.in1 (hbi s2 [.ref a, u] I2.kIn (F.len _ _ _ _ h')) vals h') fun r s' hq => ?_)
  cases r with
  | error e => exact hx σ pins H2 s2 e s' I2 hq
  | ok fl =>
    cases fl with
    | ret u => exact I2.after hq
    | next => exact False.elim hq
    | brk => exact False.elim hq
    | cont => exact False.elim hq
theorem r_subO (k : ta σ H fun x H1 => tb σ H1 fun y H2 => ∃ (a dx : Addr) (fs : List (Str × V)), x = .ref a ∧ H2 a = some (.ins C dx fs) ∧ sp [x, y] H2 Q (E σ)) : tSubO C sp E ta tb σ H Q := k
theorem r_subI {p dx : Addr} {fs : List (Str × V)} {R : Addr → Prop} (h : H p = some (.ins C dx fs)) (q : R p) : ∃ (a dx : Addr) (fs : List (Str × V)), V.ref p = .ref a ∧ H a = some (.ins C dx fs) ∧ R a := ⟨p, dx, fs, rfl, h, q⟩
end
/-- raise C(name) -/
theorem r_mkV {K : PySem.W.Frag} {C : Addr} {f : Str} {v : V} {i : Nat} {σ : St} {H : Hp} {Q : XK} (T : OexC K C) (hf : PySem.W.findIn K (.ref C) f = some none) (hv : σ[i]? = some (some v)) (k : ∀ d, H d = none → Q (.ref C) (some d) (upd H d (.xd [(f, v)]))) :
    tMkO C (spInitF K C f) [] (tCons (tVar i) tNil) σ H Q := r_mkF (x := v) T hf ⟨v, hv, v, rfl, k⟩ (fun hh ⟨v, hv, h⟩ => ⟨v, hv, hh _ _ h⟩)
/-! ### str of ints and texts, joined texts -/
section
variable {X : Cx} {σ : St} {H : Hp} {Q : VK}
def uStr : List V → Hp → VK → Prop := fun xs H Q => (∃ i, xs = [.int i] ∧ i.natAbs.log2 < 1920 ∧ Q (.str (toString i)) H) ∨ ∃ a, xs = [.str a] ∧ Q (.str a) H
theorem c_str : CallR X (.type "str") uStr := CallR.or call_str_int SkE.call_str_str
theorem r_strI {i : Int} (z : i.natAbs.log2 < 1920) (k : Q (.str (toString i)) H) : uStr [.int i] H Q := .inl ⟨i, rfl, z, k⟩
def tFs (ts : List TE) : TE := fun σ H Q => tJs ts Str.empty σ H fun out H1 => Q (.str out) H1
theorem pe_fs {v1 v2 : Expr} {rest : List Expr} {ts : List TE} {pos : Pos} (h : PJ X (v1 :: v2 :: rest) ts) : PE X (.JoinedStr (v1 :: v2 :: rest) pos) (tFs ts) := pe_joined h
theorem r_fs {ts : List TE} (k : tJs ts Str.empty σ H fun out H1 => Q (.str out) H1) : tFs ts σ H Q := k
variable {QS : Str → Hp → Prop} {acc : Str} {t : TE} {ts : List TE} {te to : TE}
theorem r_js (k : t σ H fun x H1 => ∃ y, x = .str y ∧ (acc ++ y).length ≤ sizeLine ∧ tJs ts (acc ++ y) σ H1 QS) : tJs (t :: ts) acc σ H QS := k
theorem r_js0 (k : QS acc H) : tJs [] acc σ H QS := k
theorem r_jy {y : Str} {R : Str → Prop} (z : (acc ++ y).length ≤ sizeLine) (k : R y) : ∃ y', V.str y = .str y' ∧ (acc ++ y').length ≤ sizeLine ∧ R y' := ⟨y, rfl, z, k⟩
theorem r_fmt (k : te σ H fun x H1 => (∃ y : Str, x = .str y ∧ y.length ≤ sizeLine ∧ Q (.str y) H1) ∨ ∃ i : Int, x = .int i ∧ i.natAbs.log2 < 1920 ∧ Q (.str (toString i)) H1) : tFmt te σ H Q := k
theorem r_fmS {y : Str} {R : Str → Prop} {R2 : Int → Prop} (z : y.length ≤ sizeLine) (k : R y) : (∃ y' : Str, V.str y = .str y' ∧ y'.length ≤ sizeLine ∧ R y') ∨ ∃ i : Int, V.str y = .int i ∧ i.natAbs.log2 < 1920 ∧ R2 i := .inl ⟨y, rfl, z, k⟩
theorem r_fmI {i : Int} {R : Str → Prop} {R2 : Int → Prop} (z : i.natAbs.log2 < 1920) (k : R2 i) : (∃ y' : Str, V.int i = .str y' ∧ y'.length ≤ sizeLine ∧ R y') ∨ ∃ j : Int, V.int i = .int j ∧ j.natAbs.log2 < 1920 ∧ R2 j := .inr ⟨i, rfl, z, k⟩
def rJoin (K : PySem.W.Frag) : V → List V → Hp → VK → Prop := fun x xs H Q => ∃ a p, ∃ ys : List Str, x = .str a ∧ xs = [.ref p] ∧ (SqL K H p (ys.map V.str) ∨ SqT K H p (ys.map V.str)) ∧ (ys.map (·.length)).sum + ys.length * a.length ≤ 16777216 ∧ Q (.str (Txt.join a ys)) H
theorem pe_joinK {o e : Expr} {apos pos : Pos} (K : PySem.W.Frag) (ho : PE X o to) (he : PE X e te) (hs : starEach [e] X.env = [(false, eval e X.env)] := by rfl) (hbase : attributeBase o "join" X.env (eval o X.env) = eval o X.env := by rfl) (hline : (apos.endLine == pos.line) = true := by rfl) (hK : X.K = K := by rfl) :
    PE X (.Call (.Attribute o "join" apos) [e] [] pos) (tM1 (rJoin K) to te) := hK ▸ pe_join ho he hs hbase hline
def rSplit : V → List V → Hp → VK → Prop := fun x xs H Q => ∃ a b, x = .str a ∧ xs = [.str b] ∧ (b.length == 0) = false ∧ a.length + 2 ≤ sizeLine ∧ rNewStrs (Txt.split a b) H Q
theorem pe_splitK {o e : Expr} {apos pos : Pos} (ho : PE X o to) (he : PE X e te) (hs : starEach [e] X.env = [(false, eval e X.env)] := by rfl) (hbase : attributeBase o "split" X.env (eval o X.env) = eval o X.env := by rfl) (hline : (apos.endLine == pos.line) = true := by rfl) :
    PE X (.Call (.Attribute o "split" apos) [e] [] pos) (tM1 rSplit to te) := pe_split ho he hs hbase hline
theorem slL (K : PySem.W.Frag) {X : Cx} (hK : X.K = K := by rfl) : SlR X (rSlL K) := hK ▸ sl_list
theorem r_slL {K : PySem.W.Frag} {p : Addr} {xs : List V} {lo hi : Option Int} (h : SqL K H p xs) (k : ∀ q, H q = none → Q (.ref q) (upd H q (.lst (cutV xs lo hi)))) : rSlL K (.ref p) lo hi H Q := ⟨p, xs, rfl, h, k⟩
theorem cut_take (xs : List V) (n : Nat) : cutV xs none (some (n : Int)) = xs.take n := by
  unfold cutV HT.sIx
  have h : ¬ ((n : Int) < 0) := by omega
  simp only [if_neg h, List.drop_zero, Nat.sub_zero, Int.toNat_natCast]
  rw [List.take_eq_take_iff]
  omega
theorem r_bm0 {K : PySem.W.Frag} {T : String} {r : V → List V → Hp → VK → Prop} (k : to σ H fun x H1 => tyV K T x H1 ∧ r x [] H1 Q) : tBM0 K T r to σ H Q := k
theorem r_m1 {r : V → List V → Hp → VK → Prop} (k : to σ H fun x H1 => (∃ a, x = .str a) ∧ te σ H1 fun y H2 => r x [y] H2 Q) : tM1 r to te σ H Q := k
theorem r_isS {z : Str} {R : Prop} (k : R) : (∃ a, V.str z = .str a) ∧ R := ⟨⟨z, rfl⟩, k⟩
theorem r_join {K : PySem.W.Frag} {a : Str} {p : Addr} {ys : List Str} (h : SqL K H p (ys.map V.str) ∨ SqT K H p (ys.map V.str)) (z : (ys.map (·.length)).sum + ys.length * a.length ≤ 16777216) (k : Q (.str (Txt.join a ys)) H) : rJoin K (.str a) [.ref p] H Q := ⟨a, p, ys, rfl, rfl, h, z, k⟩
end
end Hg
end L2
end

section
set_option Elab.async false
set_option linter.all false
set_option maxRecDepth 100000
set_option maxHeartbeats 4000000
/-! max(xs, key=int), max(a, b, key=int). -/
namespace L2
namespace Hg
open PySem PySem.Spec PyProof.Rows
/-- what the list of the best one so far holds -/
def BestAt (h : Heap) (S : Addr) : Option Int → Prop
  | none => ∃ c, h.get? S = some (seqObj "list" #[] c)
  | some M => ∃ c t u, h.get? S = some (seqObj "list" #[.int M t, .int M u] c)
theorem BestAt.keep {h h' : Heap} {S : Addr} {b : Option Int} (k : ∀ o, h.get? S = some o → h'.get? S = some o) (x : BestAt h S b) : BestAt h' S b := by
  cases b with
  | none => obtain ⟨c, e⟩ := x; exact ⟨c, k _ e⟩
  | some M => obtain ⟨c, t, u, e⟩ := x; exact ⟨c, t, u, k _ e⟩
section
variable {prog : Program} {w : World} {A : Around} {s : Shared} {R : Result → Shared → Prop} {I S : Addr} {fp : List Addr} {n : Nat} {P : Nat → Value → Prop} {St : Nat → Heap → Prop} {ns : Nat → Int} {h0 : Heap}
theorem maxk_loop (W : Walks prog w A.in1 I fp [I] n P St) (hP : ∀ i v, P i v → ∃ t, v = .int (ns i) t) (fS : S ∉ fp) (ne : S ≠ I) (oI : h0.get? I = none) (oS : h0.get? S = none) (n0 : 0 < n)
    (fin : ∀ M t h tk, (∃ i, i < n ∧ ns i = M) → (∀ i, i < n → ns i ≤ M) → (∀ b o, h0.get? b = some o → h.get? b = some o) → R (.ok (.ret (.int M t))) { s with heap := h, toks := tk }) :
    ∀ (r j : Nat) (b : Option Int) (h : Heap) (tk : Nat), n - j = r → j ≤ n → St j h → BestAt h S b → (∀ b o, h0.get? b = some o → h.get? b = some o) → (b = none → j = 0) → (∀ M, b = some M → (∃ i, i < j ∧ ns i = M) ∧ ∀ i, i < j → ns i ≤ M) →
      codeAny (model prog w) A (.builtin "max.loop" ⟨[.ref I, .type "int", .ref S], []⟩) R { s with heap := h, toks := tk } := by
  have nm : (toString "max" ++ toString ".loop" : String) = "max.loop" := by decide
  have nbI : ∀ b o, h0.get? b = some o → b ∉ [I] := fun b o e z => by
    rw [List.mem_singleton.mp z, oI] at e
    exact nomatch e
  have nbS : ∀ b o, h0.get? b = some o → b ≠ S := fun b o e z => by
    rw [z, oS] at e
    exact nomatch e
  have SI : S ∉ [I] := fun z => ne (List.mem_singleton.mp z)
  intro r
  induction r with
  | zero =>
    intro j b h tk hr hj hst hb hk h1 h2
    have ej : j = n := by omega
    subst ej
    cases b with
    | none => have := h1 rfl; omega
    | some M =>
      obtain ⟨c, t, u, e⟩ := hb
      refine codeAny_builtin (PySem.F.entry_max_loop) ?_
      rw [Around.under_plainId (PySem.F.plain_max_loop) _]
      refine (show wpAny _ A.in1 (seqItems? (.ref S) >>= _) _ _ _ from wpAny_bind (wpAny_seqItems e rfl ?_))
      refine (show wpAny _ A.in1 (tryCatch (pyNext (.ref I)) _ >>= _) _ _ _ from wpAny_bind (wpAny_tryCatch (W.done _ _ _ hst fun g tk' kg => ?_)))
      have eS := kg S _ SI e
      have same := Heap.SameBut.update g S (Obj.mapSeq fun _ => (#[] : Array Value))
      refine (show wpAny _ A.in1 (updateSeq S (fun _ => #[]) >>= _) _ _ _ from wpAny_bind (wpAny_updateSeq eS rfl (wpAny_bind (wpAny_letGo (wpAny_pure ?_)))))
      obtain ⟨q1, q2⟩ := h2 M rfl
      exact fin M t _ _ q1 q2 fun b o z => (same.2 b (nbS b o z)).trans (kg b o (nbI b o z) (hk b o z))
  | succ r ih =>
    intro j b h tk hr hj hst hb hk h1 h2
    have lt : j < n := by omega
    have step : ∀ (d : Option Int) (t u : Tok) (g : Heap) (tk' : Nat), St (j + 1) g → BestAt g S d → (∀ b o, h0.get? b = some o → g.get? b = some o) → d ≠ none → (∀ M, d = some M → (∃ i, i < j + 1 ∧ ns i = M) ∧ ∀ i, i < j + 1 → ns i ≤ M) →
        codeAny (model prog w) A (.builtin "max.loop" ⟨[.ref I, .type "int", .ref S], []⟩) R { s with heap := g, toks := tk' } := fun d t u g tk' g1 g2 g3 g4 g5 =>
      ih (j + 1) d g tk' (by omega) lt g1 g2 g3 (fun z => absurd z g4) g5
    obtain ⟨its, c, e, hits⟩ : ∃ its c, h.get? S = some (seqObj "list" its c) ∧ ((b = none ∧ its = #[]) ∨ ∃ M t u, b = some M ∧ its = #[.int M t, .int M u]) := by
      cases b with
      | none => obtain ⟨c, e⟩ := hb; exact ⟨_, c, e, .inl ⟨rfl, rfl⟩⟩
      | some M => obtain ⟨c, t, u, e⟩ := hb; exact ⟨_, c, e, .inr ⟨M, t, u, rfl, rfl⟩⟩
    have isz : its.size ≤ sizeLine := by
      rcases hits with ⟨_, rfl⟩ | ⟨M, t, u, _, rfl⟩
      · exact Nat.zero_le _
      · exact (by decide : 2 ≤ sizeLine)
    refine codeAny_builtin (PySem.F.entry_max_loop) ?_
    rw [Around.under_plainId (PySem.F.plain_max_loop) _]
    refine (show wpAny _ A.in1 (seqItems? (.ref S) >>= _) _ _ _ from wpAny_bind (wpAny_seqItems e rfl ?_))
    refine (show wpAny _ A.in1 (tryCatch (pyNext (.ref I)) _ >>= _) _ _ _ from wpAny_bind (wpAny_tryCatch (W.item j _ _ _ lt hst fun v g tk' hv hst' kg => ?_)))
    obtain ⟨t, rfl⟩ := hP j v hv
    have eS := kg S _ SI e
    have hk' : ∀ b o, h0.get? b = some o → g.get? b = some o := fun b o z => kg b o (nbI b o z) (hk b o z)
    refine (show wpAny _ A.in1 (tryCatch (holding [Value.int (ns j) t] (call (.type "int") [.int (ns j) t])) _ >>= _) _ _ _ from wpAny_bind (wpAny_tryCatch (wpAny_holding (PySem.call_int_int ?_))))
    have put : ∀ (x y : Tok), St (j + 1) (g.update S (Obj.mapSeq fun _ => #[.int (ns j) x, .int (ns j) y])) ∧ BestAt (g.update S (Obj.mapSeq fun _ => #[.int (ns j) x, .int (ns j) y])) S (some (ns j)) ∧
        ∀ b o, h0.get? b = some o → (g.update S (Obj.mapSeq fun _ => #[.int (ns j) x, .int (ns j) y])).get? b = some o := fun x y => by
      have same := Heap.SameBut.update g S (Obj.mapSeq fun _ => #[Value.int (ns j) x, .int (ns j) y])
      exact ⟨W.frame _ _ _ hst' fun b hb o z => (same.2 b (fun q => fS (q ▸ hb))).trans z, ⟨_, _, _, get?_update_seq eS fun _ => #[.int (ns j) x, .int (ns j) y]⟩, fun b o z => (same.2 b (nbS b o z)).trans (hk' b o z)⟩
    rcases hits with ⟨rfl, rfl⟩ | ⟨M, t1, u1, rfl, rfl⟩
    · have j0 := h1 rfl
      subst j0
      obtain ⟨p1, p2, p3⟩ := put t t
      refine (show wpAny _ A.in1 (updateSeq S (fun _ => #[.int (ns 0) t, .int (ns 0) t]) >>= _) _ _ _ from wpAny_bind (wpAny_updateSeq eS rfl ?_))
      rw [nm]
      refine wpAny_pure ⟨plainId_quiet (PySem.F.plain_max_loop) _, step _ t t _ _ p1 p2 p3 (fun z => nomatch z) fun M' e' => ?_⟩
      cases e'
      exact ⟨⟨0, Nat.lt_succ_self _, rfl⟩, fun i hi => by rw [show i = 0 by omega]; exact Int.le_refl _⟩
    · obtain ⟨⟨i0, i1, rfl⟩, i3⟩ := h2 M rfl
      refine (show wpAny _ A.in1 (tryCatch (holding [Value.int (ns j) t, .int (ns j) t] (richCompare .Gt (.int (ns j) t) (.int (ns i0) u1) >>= _)) _ >>= _) _ _ _ from
        wpAny_bind (wpAny_tryCatch (wpAny_holding (wpAny_bind (CmpOf.ints_gt (P := fun i v => ∃ t, v = .int (ns i) t) ns (fun i v h => h) j i0 _ _ _ _ _ ⟨t, rfl⟩ ⟨u1, rfl⟩ ?_)))))
      refine wpAny_bind (wpAny_holding (wpAny_truthy_bool (wpAny_bind (wpAny_letGo (wpAny_pure ?_)))))
      by_cases better : ns j > ns i0
      · obtain ⟨p1, p2, p3⟩ := put t t
        simp only [better, decide_true, if_true]
        refine wpAny_bind (wpAny_updateSeq eS rfl (wpAny_bind (wpAny_letGo ?_)))
        rw [nm]
        refine wpAny_pure ⟨plainId_quiet (PySem.F.plain_max_loop) _, step _ t t _ _ p1 p2 p3 (fun z => nomatch z) fun M' e' => ?_⟩
        cases e'
        refine ⟨⟨j, Nat.lt_succ_self _, rfl⟩, fun i hi => ?_⟩
        by_cases e : i = j
        · rw [e]; exact Int.le_refl _
        · have := i3 i (by omega)
          omega
      · simp only [better, decide_false, Bool.false_eq_true, if_false]
        refine wpAny_bind (wpAny_letGo ?_)
        rw [nm]
        refine wpAny_pure ⟨plainId_quiet (PySem.F.plain_max_loop) _, step (some (ns i0)) t t _ _ hst' ⟨_, _, _, eS⟩ hk' (fun z => nomatch z) fun M' e' => ?_⟩
        cases e'
        refine ⟨⟨i0, by omega, rfl⟩, fun i hi => ?_⟩
        by_cases e : i = j
        · rw [e]; omega
        · exact i3 i (by omega)
end
/-- max(xs, key=int) of a list of ints -/
def rMaxKey (K : PySem.W.Frag) : List V → List V → Hp → VK → Prop := fun xs zs H Q => ∃ (a : Addr) (ns : List Int), xs = [.ref a] ∧ zs = [.ty "int"] ∧ SqL K H a (ns.map V.int) ∧ 0 < ns.length ∧ ∀ m, m ∈ ns → (∀ y, y ∈ ns → y ≤ m) → Q (.int m) H
theorem bind_key (v : Value) : Builtin.Builtins.bindParams "max" ["key", "default"] 0 ⟨[], [(Str.ofString "key", v)]⟩ = pure [some v, none] := rfl
theorem max_key2 (a b v : Value) : argsOk "max" ⟨[a, b], [(Str.ofString "key", v)]⟩ := by unfold argsOk; kernel_rfl
section
variable {X : Cx}
theorem cr_maxKey (K : PySem.W.Frag) (hc : X.calm = true) (hK : X.K = K := by rfl) : CallRK X (.builtin "max") [Str.ofString "key"] (rMaxKey K) := by
  subst hK
  intro pins s σ H xs zs us ws Q I r rz h
  obtain ⟨a, ns, rfl, rfl, hs, hne, q⟩ := h
  obtain ⟨its, rv, hl, _⟩ := I.list hs
  have hl := hl.isList
  rw [Vals.ref1 r]
  cases rz with
  | cons r1 r2 =>
    cases r2
    cases (show _ = Value.type "int" from r1)
    have hi := rv.ints
    have hlen := hi.length
    have la : a < s.heap.objs.size := let ⟨o, e, _⟩ := hl; Heap.lt_size e
    refine PyProof.Rows.kmk_tree (args := [.ref a]) (kw := [(Str.ofString "key", .type "int")]) PySem.F.kind_max PySem.F.plain_max PySem.F.entry_max (PyProof.Rows.kmk_max_key _ _) ?_
    refine (show wpAny _ X.A.in1 (Builtin.Builtins.bindParams "max" ["key", "default"] 0 ⟨[], [(Str.ofString "key", .type "int")]⟩ >>= _) _ _ s from wpAny_bind (wpAny_of_eq (bind_key _) (wpAny_bind (wpAny_pure (wpAny_bind (wpAny_pyIter_list hl (wpAny_bind (wpAny_newList ?_ (Nat.zero_le _)))))))))
    rw [show (toString "max" ++ toString ".loop" : String) = "max.loop" by decide]
    have sz : (s.heap.push { cls := .type "list_iterator", data := .fields #[.ref a, .int 0 0] }).objs.size = s.heap.objs.size + 1 := size_push' ..
    have eI : ((s.heap.push { cls := .type "list_iterator", data := .fields #[.ref a, .int 0 0] }).push (seqObj "list" #[] 0)).get? s.heap.objs.size = some { cls := .type "list_iterator", data := .fields #[.ref a, .int 0 0] } := Heap.get?_push_of_some _ (Heap.get?_push_size _ rfl)
    have W : Walks X.prog X.w X.A.in1 s.heap.objs.size [s.heap.objs.size, a] [s.heap.objs.size] its.toArray.size (fun i v => its.toArray[i]? = some v) (fun i h => h.IsListIter s.heap.objs.size a i ∧ h.IsList a its.toArray) := Walks.list (A := X.A.in1) (I.ok.hd hc) s.heap.objs.size a (Nat.ne_of_lt la) its.toArray
    have st0 : ((s.heap.push { cls := .type "list_iterator", data := .fields #[.ref a, .int 0 0] }).push (seqObj "list" #[] 0)).IsListIter s.heap.objs.size a 0 ∧ ((s.heap.push { cls := .type "list_iterator", data := .fields #[.ref a, .int 0 0] }).push (seqObj "list" #[] 0)).IsList a its.toArray :=
      ⟨⟨_, eI, rfl, rfl⟩, let ⟨o, e, rest⟩ := hl; ⟨o, Heap.get?_push_of_some _ (Heap.get?_push_of_some _ e), rest⟩⟩
    refine wpAny_pure ⟨plainId_quiet (PySem.F.plain_max_loop) _, ?_⟩
    refine maxk_loop (h0 := s.heap) (ns := fun i => ns.getD i 0) W (fun i v hv => ?_) (fun z => ?_) (by rw [sz]; exact Nat.succ_ne_self _) (Heap.get?_none_of_le (Nat.le_refl _)) (Heap.get?_none_of_le (by rw [sz]; exact Nat.le_succ _)) (by rw [List.size_toArray, hlen]; exact hne)
      (fun M t h tk m1 m2 k => ?_) _ 0 none _ _ rfl (Nat.zero_le _) st0 ⟨0, Heap.get?_push_size _ rfl⟩ (fun b o e => Heap.get?_push_of_some _ (Heap.get?_push_of_some _ e)) (fun _ => rfl) (fun M e => nomatch e)
    · have hv : its[i]? = some v := by simpa using hv
      have hi' : i < its.length := (List.getElem?_eq_some_iff.mp hv).1
      have hn : ns[i]? = some ns[i] := List.getElem?_eq_getElem (by omega)
      obtain ⟨t, ht⟩ := hi.get i _ hn
      rw [ht] at hv
      cases hv
      exact ⟨t, by simp [hn]⟩
    · rw [sz] at z
      rcases List.mem_cons.mp z with z | z
      · exact Nat.succ_ne_self _ z
      · exact absurd (List.mem_singleton.mp z) (Nat.ne_of_gt (Nat.lt_succ_of_lt la))
    · obtain ⟨i, i1, rfl⟩ := m1
      rw [List.size_toArray] at i1 m2
      refine ⟨.int _, H, I.kept k, ⟨_, rfl⟩, q _ ?_ fun y hy => ?_⟩
      · have hn : ns[i]? = some ns[i] := List.getElem?_eq_getElem (by omega)
        simp only [List.getD_eq_getElem?_getD, hn, Option.getD_some]
        exact List.getElem_mem _
      · obtain ⟨j, hj, rfl⟩ := List.getElem_of_mem hy
        have z := m2 j (by omega)
        have hn : ns[j]? = some ns[j] := List.getElem?_eq_getElem hj
        simp only [List.getD_eq_getElem?_getD, hn, Option.getD_some] at z ⊢
        exact z
/-- max(a, b, key=int) of two ints -/
def rMaxKey2 : List V → List V → Hp → VK → Prop := fun xs zs H Q => ∃ i j : Int, xs = [.int i, .int j] ∧ zs = [.ty "int"] ∧ Q (.int (if j > i then j else i)) H
theorem cr_maxKey2 (hc : X.calm = true) : CallRK X (.builtin "max") [Str.ofString "key"] rMaxKey2 := by
  intro pins s σ H xs zs us ws Q I r rz h
  obtain ⟨i, j, rfl, rfl, q⟩ := h
  cases r with
  | cons r1 r2 =>
  cases r2 with
  | cons r2 r3 =>
  cases r3
  obtain ⟨t1, rfl⟩ := r1
  obtain ⟨t2, rfl⟩ := r2
  cases rz with
  | cons r4 r5 =>
    cases r5
    cases (show _ = Value.type "int" from r4)
    let tup : Obj := { cls := .type "tuple", data := .seq [Value.int i t1, .int j t2].toArray }
    let itr : Obj := { cls := .type "tuple_iterator", data := .fields #[.ref s.heap.objs.size, .int 0 0] }
    have s1 : (s.heap.push tup).objs.size = s.heap.objs.size + 1 := size_push' ..
    have s2 : ((s.heap.push tup).push itr).objs.size = s.heap.objs.size + 1 + 1 := by rw [size_push', s1]
    have hT : (s.heap.push tup).IsTuple s.heap.objs.size [Value.int i t1, .int j t2].toArray := ⟨tup, Heap.get?_push_size _ rfl, rfl, _, rfl⟩
    refine PyProof.Rows.kmk_tree (args := [.int i t1, .int j t2]) (kw := [(Str.ofString "key", .type "int")]) PySem.F.kind_max PySem.F.plain_max PySem.F.entry_max (max_key2 _ _ _) ?_
    refine (show wpAny _ X.A.in1 (Builtin.Builtins.bindParams "max" ["key", "default"] 0 ⟨[], [(Str.ofString "key", .type "int")]⟩ >>= _) _ _ s from wpAny_bind (wpAny_of_eq (bind_key _) (wpAny_bind (wpAny_newTuple (wpAny_bind (wpAny_pyIter_tuple hT (wpAny_bind (wpAny_newList ?_ (Nat.zero_le _)))))))))
    rw [show (toString "max" ++ toString ".loop" : String) = "max.loop" by decide]
    have W : Walks X.prog X.w X.A.in1 (s.heap.push tup).objs.size [(s.heap.push tup).objs.size, s.heap.objs.size] [(s.heap.push tup).objs.size] [Value.int i t1, .int j t2].toArray.size (fun k v => [Value.int i t1, .int j t2].toArray[k]? = some v) (fun k h => h.IsTupleIter (s.heap.push tup).objs.size s.heap.objs.size k ∧ h.IsTuple s.heap.objs.size [Value.int i t1, .int j t2].toArray) :=
      Walks.tuple (A := X.A.in1) (I.ok.hd hc) (s.heap.push tup).objs.size s.heap.objs.size (by rw [s1]; exact Nat.ne_of_lt (Nat.lt_succ_self _)) _
    refine wpAny_pure ⟨plainId_quiet (PySem.F.plain_max_loop) _, ?_⟩
    refine maxk_loop (h0 := s.heap) (ns := fun k => if k = 0 then i else j) W (fun k v hv => ?_) (fun z => ?_) (by show ((s.heap.push tup).push itr).objs.size ≠ _; rw [s2, s1]; exact Nat.succ_ne_self _) (Heap.get?_none_of_le (by rw [s1]; exact Nat.le_succ _)) (Heap.get?_none_of_le (by show _ ≤ ((s.heap.push tup).push itr).objs.size; rw [s2]; exact Nat.le_add_right _ 2)) (show 0 < 2 by decide)
      (fun M t h tk m1 m2 k => ?_) _ 0 none _ _ rfl (Nat.zero_le _) ⟨⟨itr, Heap.get?_push_of_some _ (Heap.get?_push_size _ rfl), rfl, rfl⟩, ⟨tup, Heap.get?_push_of_some _ (Heap.get?_push_of_some _ (Heap.get?_push_size _ rfl)), rfl, _, rfl⟩⟩ ⟨0, Heap.get?_push_size _ rfl⟩
      (fun b o e => Heap.get?_push_of_some _ (Heap.get?_push_of_some _ (Heap.get?_push_of_some _ e))) (fun _ => rfl) (fun M e => nomatch e)
    · match k, hv with
      | 0, hv => exact ⟨t1, by cases hv; rfl⟩
      | 1, hv => exact ⟨t2, by cases hv; rfl⟩
      | k + 2, hv => simp at hv
    · have z : ((s.heap.push tup).push itr).objs.size ∈ [(s.heap.push tup).objs.size, s.heap.objs.size] := z
      rw [s2, s1] at z
      rcases List.mem_cons.mp z with z | z
      · exact Nat.succ_ne_self _ z
      · exact absurd (List.mem_singleton.mp z) (Nat.ne_of_gt (Nat.lt_succ_of_lt (Nat.lt_succ_self _)))
    · obtain ⟨k0, k1, rfl⟩ := m1
      have a0 := m2 0 (show 0 < 2 by decide)
      have a1 := m2 1 (show 1 < 2 by decide)
      refine ⟨.int _, H, I.kept k, ⟨_, rfl⟩, ?_⟩
      rw [if_pos rfl] at a0
      rw [if_neg (by decide)] at a1
      have e : (if k0 = 0 then i else j) = if j > i then j else i := by
        have : k0 = 0 ∨ k0 = 1 := by
          have : k0 < 2 := k1
          omega
        rcases this with rfl | rfl
        · rw [if_pos rfl] at a1 ⊢
          rw [if_neg (by omega)]
        · rw [if_neg (by decide)] at a0 ⊢
          split <;> omega
      rw [e]
      exact q
end
end Hg
end L2
end

section
set_option Elab.async false
set_option linter.all false
set_option maxRecDepth 100000
set_option maxHeartbeats 4000000
/-! Classmethods by place and by name; a class called by a local name. -/
namespace L2
namespace Hg
open PySem PySem.Spec PyProof.Rows
theorem fn_in {K : PySem.W.Frag} {f : Addr} {oc : Value} {od : Option Addr} {fd : FuncData} {sl : Array (Option Value)} (h : K.lookup f = some ⟨oc, od, .func fd, sl⟩) : PySem.W.fnIn K f = true := by
  show (match K.lookup f with | some ⟨_, _, .func _, _⟩ => true | _ => false) = true
  rw [h]
structure CmAt (K : PySem.W.Frag) (C : Addr) (m q : Str) (st : Stmt) : Prop where
  ex : ∃ (mc : Value) (p g : Addr) (fd : FuncData), ClX.CRead K C mc ∧ ClX.CMet K C mc m p g ∧ Fun K m q st g fd
def CmOk (P : Program) (w : World) (K : PySem.W.Frag) (mg : Str → Option Value) (base : Heap) (CX : CXT) (k : Nat) (C : Addr) (m q : Str) (st : Stmt) (ps : List Str) (sp : Sp) : Prop :=
  ∃ (mc : Value) (p g : Addr) (fd : FuncData), ClX.CRead K C mc ∧ ClX.CMet K C mc m p g ∧ Fun K m q st g fd ∧ FnOk P w K mg base CX k g fd ps sp ∧ Binds K fd ps []
section
variable {P : Program} {w : World} {K : PySem.W.Frag} {mg : Str → Option Value} {base : Heap} {k : Nat} {m q : Str} {st : Stmt} {C : Addr} {N ps : List Str} {sp : Sp}
theorem CmAt.ok (F : CmAt K C m q st) (S : FnScope N ps (defScope st)) (hb : BindsAs st m q ps) (len : ∀ vs H Q E, sp vs H Q E → vs.length = ps.length)
    (hbody : ∀ (f : Addr) (cdv : Value) (A : Around) (outer : List Env) (s : Shared) (H : Hp) (vs : List V) (Q : VK) (E : XK), Room k (A.deeper (envOfC q (defScope st) s.heap.objs.size f cdv)) → sp vs H Q E →
      ∃ t, PSs (cxOf CX0 P w K mg base N q (defScope st) f cdv A outer s H E).nox (defBody st) t ∧ t { nx := fun _ H' => Q .non H', rt := Q } (start N vs) H) : CmOk P w K mg base CX0 (k + 1) C m q st ps sp := by
  obtain ⟨mc, p, f, fd, r, c, F1⟩ := F.ex
  exact ⟨mc, p, f, fd, r, c, F1, F1.ok S len fun cdv A outer s H vs Q E hr h => hbody f cdv A outer s H vs Q E hr h, F1.binds hb⟩
theorem CmAt.okX (F : CmAt K C m q st) (S : FnScope N ps (defScope st)) (hb : BindsAs st m q ps) (len : ∀ vs H Q E, sp vs H Q E → vs.length = ps.length)
    (hbody : ∀ (f : Addr) (cdv : Value) (A : Around) (outer : List Env) (s : Shared) (H : Hp) (vs : List V) (Q : VK) (E : XK), Room k (A.deeper (envOfC q (defScope st) s.heap.objs.size f cdv)) → sp vs H Q E →
      ∃ t, PSs (cxOf (L2.CX P w) P w K mg base N q (defScope st) f cdv A outer s H E) (defBody st) t ∧ t { nx := fun _ H' => Q .non H', rt := Q } (start N vs) H) : CmOk P w K mg base (L2.CX P w) (k + 1) C m q st ps sp := by
  obtain ⟨mc, p, f, fd, r, c, F1⟩ := F.ex
  exact ⟨mc, p, f, fd, r, c, F1, F1.okX S len fun cdv A outer s H vs Q E hr h => hbody f cdv A outer s H vs Q E hr h, F1.binds hb⟩
/-- keywords alone, behind n values by place -/
theorem Fun.kb {f : Addr} {fd : FuncData} (F : Fun K m q st f fd) (n : Nat) (ks : List Str)
    (h : ∀ (kV doc pm : Value) (an : Option Addr) (cdv ct : Value) (us ws : List Value), us.length = n → ws.length = ks.length → bindArgs (PySem.W.fnOf m q (defArgs st) (defBody st) (defScope st) .none kV doc pm an cdv ct) ⟨us, ks.zip ws⟩ = pure (ps.zip (us ++ ws))) :
    KBn K fd ps n ks (fun us ws => us ++ ws) (fun vs zs => vs ++ zs) := by
  obtain ⟨oc, od, kV, doc, pm, an, cdv, ct, osl, rfl, lk, hcd⟩ := F.ex
  exact ⟨fun s us ws X l1 l2 => BindsTo.of_looks fun M => PySem.W.Looks.of_pure (h kV doc pm an cdv ct us ws l1 l2), fun r z => r.append z⟩
end
section
variable {X : Cx} {CX : CXT} {k : Nat} {C : Addr} {m q : Str} {st : Stmt} {ps : List Str} {sp : Sp} {E : XK} {o e : Expr} {es : List Expr} {kws : List Keyword} {pos apos p : Pos} {ta : TE} {t tk : TA} {pl : Sem Bool}
/-- C.m(e, ..) -/
def tCm (C : Addr) (sp : Sp) (E : XK) (ta : TE) (t : TA) : TE := fun σ H Q => ta σ H fun x H1 => x = .ref C ∧ t σ H1 fun vs H2 => sp (.ref C :: vs) H2 Q E
theorem pe_cm (F : CmOk X.prog X.w X.K X.mg X.base CX k C m q st ps sp) (hr : Room k X.A) (hx : Passes CX X E) (he : PE X o ta) (ha : PA X (e :: es) t)
    (hst : starEach (e :: es) X.env = (false, eval e X.env) :: starEach es X.env := by rfl) (hpl : (backTo pos (starEach es X.env)).any (·.1) = false := by rfl)
    (ht : eval (.Call (.Attribute o m apos) (e :: es) [] pos) X.env = (do
      let ov ← eval o X.env
      standAt apos.atName
      let (f, first) ← holding [ov] (getMethod ov m pl)
      callWith pos f first (backTo pos (starEach (e :: es) X.env)) (backToKw pos (keywordEach [] X.env))) := by rfl) :
    PE X (.Call (.Attribute o m apos) (e :: es) [] pos) (tCm C sp E ta t) := by
  obtain ⟨mc, pp, g, fd, r, c, F1, G, hb⟩ := F
  have R : FnR X.prog X.w X.K X.mg X.base CX k g sp := (G.raw hb .nil).imp fun vs H Q E h => by rw [List.append_nil]; exact h
  exact ClX.pe_cmeth he r c R hr hx ha hst hpl ht
/-- C.m() -/
theorem pe_cm0 (F : CmOk X.prog X.w X.K X.mg X.base CX k C m q st ps sp) (hr : Room k X.A) (hx : Passes CX X E) (he : PE X o ta)
    (ht : eval (.Call (.Attribute o m apos) [] [] pos) X.env = (do
      let ov ← eval o X.env
      standAt apos.atName
      let (f, first) ← holding [ov] (getMethod ov m pl)
      callWith pos f first (backTo pos (starEach [] X.env)) (backToKw pos (keywordEach [] X.env))) := by rfl) :
    PE X (.Call (.Attribute o m apos) [] [] pos) (tCm C sp E ta tNil) := by
  obtain ⟨mc, pp, g, fd, r, c, F1, G, hb⟩ := F
  have R : FnR X.prog X.w X.K X.mg X.base CX k g sp := (G.raw hb .nil).imp fun vs H Q E h => by rw [List.append_nil]; exact h
  refine ⟨fun pins s σ H Q I h => PySem.W.methodCall_KW (pl := pl) (thn (he.run pins s σ H _ I h) fun u s1 ⟨x, H1, I1, rx, ex, q⟩ => ?_) ht⟩
  subst ex
  obtain rfl : u = Value.ref C := rx
  refine ClX.getmethcm_ok I1 r c fun s2 I2 => ?_
  refine PySem.W.callWith_M0 (K := X.K) (g := g) (self := .ref C) ⟨ClX.pin_at I2, I2.kIn⟩ c.fi ?_
  exact ClX.run_cm R hr hx I2 .nil q
/-- C.m(k = e, ..) -/
theorem pe_cmK {ks : List Str} (F : CmOk X.prog X.w X.K X.mg X.base CX k C m q st ps sp) (hr : Room k X.A) (hx : Passes CX X E) (he : PE X o ta) (hkw : PK X kws tk)
    (hb : ∀ (kV doc pm : Value) (an : Option Addr) (cdv ct : Value) (us ws : List Value), us.length = 1 → ws.length = ks.length → bindArgs (PySem.W.fnOf m q (defArgs st) (defBody st) (defScope st) .none kV doc pm an cdv ct) ⟨us, ks.zip ws⟩ = pure (ps.zip (us ++ ws)))
    (hall : (backToKw pos (keywordEach kws X.env)).all (·.1.isSome) = true := by rfl) (hks : (backToKw pos (keywordEach kws X.env)).filterMap (·.1) = ks := by rfl)
    (hpl : ((backTo pos (starEach [] X.env)).any (·.1) || (backToKw pos (keywordEach kws X.env)).any (·.1.isNone)) = false := by rfl)
    (ht : eval (.Call (.Attribute o m apos) [] kws pos) X.env = (do
      let ov ← eval o X.env
      standAt apos.atName
      let (f, first) ← holding [ov] (getMethod ov m pl)
      callWith pos f first (backTo pos (starEach [] X.env)) (backToKw pos (keywordEach kws X.env))) := by rfl) :
    PE X (.Call (.Attribute o m apos) [] kws pos) (tCm C sp E ta fun σ H QL => tk σ H fun vs H2 => vs.length = ks.length ∧ QL vs H2) := by
  obtain ⟨mc, pp, g, fd, r, c, F1, G, _⟩ := F
  have KB := Fun.kb (ps := ps) F1 1 ks hb
  refine ⟨fun pins s σ H Q I h => PySem.W.methodCall_KW (pl := pl) (thn (he.run pins s σ H _ I h) fun u s1 ⟨x, H1, I1, rx, ex, q⟩ => ?_) ht⟩
  subst ex
  obtain rfl : u = Value.ref C := rx
  refine ClX.getmethcm_ok I1 r c fun s2 I2 => ?_
  refine PySem.W.callWith_of (P := PySem.W.MethP X.K s1.heap.objs.size g (.ref C)) hpl (PySem.W.keeps_M c.fi) (evalArgs_kw2_nil hall (thn (hkw.run pos _ s2 σ H1 _ I2 q) fun ws s3 ⟨zs, H2, I3, rz, lz, q2⟩ => ⟨⟨ClX.pin_at I3, I3.kIn⟩, ?_⟩))
  rw [hks]
  have z : wpAny (model X.prog X.w) X.A (call (.ref s1.heap.objs.size) [] (ks.zip ws)) (EP X ((s1.heap.objs.size, PySem.W.methodObj (.ref g) (.ref C)) :: pins) σ Q) X.xe s3 := by
    refine wpAny_call (PySem.W.method_call (ClX.pin_at I3) (codeAny_mono (G.run X.A X.stack s3 H2 ⟨[.ref C], ks.zip ws⟩ ([Value.ref C] ++ ws) ([V.ref C] ++ zs) Q E hr I3.env0 (KB.to s3 [.ref C] ws I3.kIn rfl (rz.length.symm.trans lz)) (KB.rel (.cons (show RelV (.ref C) (.ref C) from rfl) .nil) rz) q2) fun r s' hq => ?_))
    cases r with
    | error e => exact hx _ σ H2 s3 e s' I3 hq
    | ok fl =>
      cases fl with
      | ret u => exact I3.after hq
      | next => exact False.elim hq
      | brk => exact False.elim hq
      | cont => exact False.elim hq
  exact thn z fun _ _ y => ClX.unpinE y
/-- C.m(e, ..) where what is raised is wished at the slots -/
def tCmS (C : Addr) (sp : Sp) (ES : St → XK) (ta : TE) (t : TA) : TE := fun σ H Q => ta σ H fun x H1 => x = .ref C ∧ t σ H1 fun vs H2 => sp (.ref C :: vs) H2 Q (ES σ)
theorem pe_cmS {ES : St → XK} (F : CmOk X.prog X.w X.K X.mg X.base CX k C m q st ps sp) (hr : Room k X.A) (hx : ∀ σ, PassesAt CX X σ (ES σ)) (he : PE X o ta) (ha : PA X (e :: es) t)
    (hst : starEach (e :: es) X.env = (false, eval e X.env) :: starEach es X.env := by rfl) (hpl : (backTo pos (starEach es X.env)).any (·.1) = false := by rfl)
    (ht : eval (.Call (.Attribute o m apos) (e :: es) [] pos) X.env = (do
      let ov ← eval o X.env
      standAt apos.atName
      let (f, first) ← holding [ov] (getMethod ov m pl)
      callWith pos f first (backTo pos (starEach (e :: es) X.env)) (backToKw pos (keywordEach [] X.env))) := by rfl) :
    PE X (.Call (.Attribute o m apos) (e :: es) [] pos) (tCmS C sp ES ta t) := by
  obtain ⟨mc, pp, g, fd, r, c, F1, G, hb⟩ := F
  refine ⟨fun pins s σ H Q I h => PySem.W.methodCall_KW (pl := pl) (thn (he.run pins s σ H _ I h) fun u s1 ⟨x, H1, I1, rx, ex, q⟩ => ?_) ht⟩
  subst ex
  obtain rfl : u = Value.ref C := rx
  refine ClX.getmethcm_ok I1 r c fun s2 I2 => ?_
  refine ClX.callwith_cm I2 (ClX.base_none I1 (Nat.le_refl _)) c.fi (thn (ha.run pos _ s2 σ H1 _ I2 q) fun us s3 ⟨vs, H2, I3, rv, q2⟩ => ⟨⟨ClX.pin_at I3, I3.kIn⟩, ?_⟩) hst hpl
  have q3 : sp (V.ref C :: (vs ++ [])) H2 Q (ES σ) := by rw [List.append_nil]; exact q2
  have vals : Vals (V.ref C :: (vs ++ [])) (Value.ref C :: (us ++ [])) := .cons (show RelV (.ref C) (.ref C) from rfl) (rv.append .nil)
  have hl : ((Value.ref C :: us) ++ []).length = ps.length := by
    have z := vals.length
    rw [G.len _ _ _ _ q3] at z
    exact z.symm
  have hbb : BindsTo s3 fd ⟨.ref C :: us, []⟩ (ps.zip (Value.ref C :: (us ++ []))) := by
    have y := hb s3 (.ref C :: us) I3.kIn hl
    rwa [List.cons_append] at y
  have z : wpAny (model X.prog X.w) X.A (call (.ref s1.heap.objs.size) us) (EP X ((s1.heap.objs.size, PySem.W.methodObj (.ref g) (.ref C)) :: pins) σ Q) X.xe s3 := by
    refine wpAny_call (PySem.W.method_call (ClX.pin_at I3) (codeAny_mono (G.run X.A X.stack s3 H2 ⟨.ref C :: us, []⟩ (Value.ref C :: (us ++ [])) (V.ref C :: (vs ++ [])) Q (ES σ) hr I3.env0 hbb vals q3) fun r s' hq => ?_))
    cases r with
    | error e => exact hx σ _ H2 s3 e s' I3 hq
    | ok fl =>
      cases fl with
      | ret u => exact I3.after hq
      | next => exact False.elim hq
      | brk => exact False.elim hq
      | cont => exact False.elim hq
  exact thn z fun _ _ y => ClX.unpinE y
variable {σ : St} {H : Hp} {Q : VK} {QL : List V → Hp → Prop}
theorem r_cmS {ES : St → XK} (k : ta σ H fun x H1 => x = .ref C ∧ t σ H1 fun vs H2 => sp (.ref C :: vs) H2 Q (ES σ)) : tCmS C sp ES ta t σ H Q := k
theorem r_cm (k : ta σ H fun x H1 => x = .ref C ∧ t σ H1 fun vs H2 => sp (.ref C :: vs) H2 Q E) : tCm C sp E ta t σ H Q := k
theorem r_isC {R : Prop} (k : R) : V.ref C = .ref C ∧ R := ⟨rfl, k⟩
/-! ### isinstance of a caught error, of several classes -/
def rIsGT (K : PySem.W.Frag) (a : Addr) (cls : Value) (d : Option Addr) : List V → Hp → VK → Prop := fun xs H Q => ∃ (D tp : Addr) (cs : List V) (ws : List Value) (b : Bool), cls = .ref D ∧ d = none ∧ ExcC K D ∧ xs = [.ref a, .ref tp] ∧ H tp = some (.tup cs) ∧
  Paired ClsV cs ws ∧ PySem.W.kitAny K (.ref D) ws = some b ∧ Q (.bl b) H
theorem c_isGT {X : Cx} {a : Addr} {cls : Value} {d : Option Addr} {oe : Obj} {pn : List (Addr × Obj)} (K : PySem.W.Frag) (hz : Zc cls d oe) (hf : ∃ vs, oe.data = .fields vs) (hK : X.K = K := by rfl) :
    CallR (X.suite a ((a, oe) :: pn)) (.builtin "isinstance") (rIsGT K a cls d) := by
  subst hK
  intro pins s σ H xs us Q I r h
  obtain ⟨D, tp, cs, ws, b, rfl, rfl, C, rfl, hT, k, e, q⟩ := h
  obtain ⟨u1, u2, rfl, r1, r2⟩ := vals2 r
  cases (show u2 = Value.ref tp from r2)
  cases (show u1 = Value.ref a from r1)
  obtain ⟨hget, _⟩ := I.pin (a, oe) (List.mem_append.mpr (.inl List.mem_cons_self))
  obtain ⟨vs, hv⟩ := hf
  have J : PySem.W.InstAt s.heap a oe D none := by
    obtain ⟨oc, od, oda, osl⟩ := oe
    obtain ⟨h1, h2⟩ := hz
    dsimp only at h1 h2 hv
    subst h1 h2 hv
    exact ⟨hget, rfl, rfl, trivial⟩
  obtain ⟨_, its, rv, o, h1, h2, n, h3⟩ := (show ObjOk X.prog X.w H s.heap tp (.tup cs) from I.hok tp _ hT)
  have e3 := ClsV.all k rv
  subst e3
  obtain ⟨oc, od, dt, sl⟩ := o
  simp only at h2 h3
  subst h2 h3
  exact PySem.W.kia_tup (PySem.W.handS_kitx_exc C.hg C.hk C.hs C.hd C.ha C.hn C.ht C.hm) I.kIn J h1 e (fun z => nomatch z) fun tk => ⟨.bl b, H, I.kept (t' := tk) fun _ _ z => z, rfl, q⟩
/-! ### a class held by a local name -/
def tMakeL (i : Nat) (C : Addr) (sp : Sp) (dvs : List V) (E : XK) (t : TA) : TE := fun σ H Q => σ[i]? = some (some (.ref C)) ∧ tMakeS C sp dvs (fun _ => E) t σ H Q
theorem pe_makeL {i : Nat} {x y : Str} {dvs : List V} (F : MakeOk X.prog X.w X.K X.mg X.base CX k x C ps dvs sp) (hr : Room (k + 1) X.A) (hx : Passes CX X E) (hN : X.N[i]? = some y) (hv : Vis X.env.scope y) (ha : PA X (e :: es) t)
    (hdb : (y == ("__debug__" : Str)) = false := by decide) (hcd : (y == ("__classdict__" : Str)) = false := by decide)
    (he : starEach (e :: es) X.env = (false, eval e X.env) :: starEach es X.env := by rfl) (hpl : (backTo pos (starEach es X.env)).any (·.1) = false := by rfl) : PE X (.Call (.Name y p) (e :: es) [] pos) (tMakeL i C sp dvs E t) := by
  obtain ⟨hm, _, _, _, M, G, hb, hd⟩ := F
  refine ⟨fun pins s σ H Q I h => ?_⟩
  obtain ⟨hs, h⟩ := h
  refine wpAny_Call_Name_kw (thn ((pe_var (pos := p) hN hv hdb hcd).run pins s σ H (fun v H1 => v = .ref C ∧ H1 = H) I ⟨.ref C, hs, rfl, rfl⟩) fun u s1 ⟨v, H1, I1, r1, q1⟩ => ?_)
  obtain ⟨rfl, rfl⟩ := q1
  cases r1
  exact PySem.W.callWith_K (h₀ := X.base) I.ok.mod.kin M.kp (thn (ha.run pos pins s1 σ _ _ I1 h) fun us s2 ⟨vs, H2, I2, r, q⟩ => ⟨I2.kIn, run_makeS (E := fun _ => E) M G hr hb hd (fun pins H s e s' => hx pins σ H s e s') I2 r q⟩) he hpl
theorem r_makeL {i : Nat} {dvs : List V} (hs : σ[i]? = some (some (.ref C))) (k : tMakeS C sp dvs (fun _ => E) t σ H Q) : tMakeL i C sp dvs E t σ H Q := ⟨hs, k⟩
/-! ### xs[::-1], keywords of built-ins -/
theorem pe_revK {te : TE} {kk : Nat} {p1 p2 p3 : Pos} (K' : PySem.W.Frag) (he : PE X e te) (hK : X.K = K' := by rfl) : PE X (.Subscript e (.Slice none none (some (.UnaryOp .USub (.Constant (.int 1) kk p1) p2)) p3) pos) (tRevL K' te) := hK ▸ pe_revL he
theorem r_revL {K : PySem.W.Frag} {te : TE} (k : te σ H fun x H1 => ∃ a xs, x = .ref a ∧ SqL K H1 a xs ∧ ∀ p, H1 p = none → Q (.ref p) (upd H1 p (.lst xs.reverse))) : tRevL K te σ H Q := k
theorem r_rev {K : PySem.W.Frag} {a : Addr} {xs : List V} {R : Addr → List V → Prop} (h : SqL K H a xs) (k : R a xs) : ∃ a' xs', V.ref a = .ref a' ∧ SqL K H a' xs' ∧ R a' xs' := ⟨a, xs, rfl, h, k⟩
theorem r_iStr {te : TE} {R : It → Hp → Prop} (k : te σ H fun v H1 => ∃ x, v = .str x ∧ R (Its x) H1) : iStr te σ H R := k
theorem r_ckw {r : List V → List V → Hp → VK → Prop} (k : t σ H fun vs H1 => tk σ H1 fun zs H2 => r vs zs H2 Q) : tCKw r t tk σ H Q := k
theorem r_maxK {K : PySem.W.Frag} {a : Addr} {ns : List Int} (h : SqL K H a (ns.map V.int)) (ne : 0 < ns.length) (k : ∀ m, m ∈ ns → (∀ y, y ∈ ns → y ≤ m) → Q (.int m) H) : rMaxKey K [.ref a] [.ty "int"] H Q := ⟨a, ns, rfl, rfl, h, ne, k⟩
theorem r_maxK2 {i j : Int} (k : Q (.int (if j > i then j else i)) H) : rMaxKey2 [.int i, .int j] [.ty "int"] H Q := ⟨i, j, rfl, rfl, k⟩
end
end Hg
end L2
end

section
set_option Elab.async false
set_option linter.all false
set_option maxRecDepth 100000
set_option maxHeartbeats 4000000
/-! d.update(e) of two dicts; [a, *d] of a dict's keys. -/
namespace L2
namespace Hg
open PySem PySem.Spec PyProof.Rows
section
variable {X : Cx}
theorem mergeK_len : ∀ (more kvs : List (Key × V)), (mergeK kvs more).length ≤ kvs.length + more.length
  | [], kvs => Nat.le_refl _
  | kv :: more, kvs => by
    refine Nat.le_trans (mergeK_len more (putK kvs kv.1 kv.2)) ?_
    have : (putK kvs kv.1 kv.2).length ≤ kvs.length + 1 := by
      unfold putK
      split
      · rw [List.length_map]; omega
      · rw [List.length_append]; exact Nat.le_refl _
    rw [List.length_cons]
    omega
/-- d.update(e) -/
def rDUpd : V → List V → Hp → VK → Prop := fun x vs H Q => ∃ d o kvs more, x = .ref d ∧ vs = [.ref o] ∧ d ≠ o ∧ H d = some (.dK kvs) ∧ H o = some (.dK more) ∧ kvs.length + more.length ≤ sizeLine ∧ Q .non (upd H d (.dK (mergeK kvs more)))
theorem mt_dupd : MtM X "dict.update" rDUpd := by
  intro pins s σ H x vs v us Q I rx rv h
  obtain ⟨d, o, kvs, more, rfl, rfl, hne, hd, ho, z, q⟩ := h
  cases rx
  obtain ⟨u, rfl, ru⟩ := rv.one
  cases ru
  obtain ⟨z1, m1, ws, r1, dd⟩ := dk_of I.hok hd
  obtain ⟨z2, m2, rs, r2, dd2⟩ := dk_of I.hok ho
  refine call_meetsIn PySem.F.slot_dict_update dd.typeIs PySem.F.entry_dict_update (PySem.F.args_dict_update_2 _ _) (meets_dict_update (mixKind X.prog X.w) d o hne m2) ⟨ws, rs, dd, dd2, by rw [← r1.length, ← r2.length]; exact z, fun h' dd' _ hs => ?_⟩
  have he : ∃ q, h'.get? d = some q := let ⟨q, _, _, hq, _⟩ := dd'; ⟨q, hq⟩
  exact ⟨.non, _, d_write (t' := s.toks) I (by rw [hd]; exact True.intro) hs he (dk_new (Nat.le_trans (mergeK_len more kvs) z) m1 (KV.merge r2 r1) dd'), rfl, q⟩
theorem r_dupd {d o : Addr} {kvs more : List (Key × V)} {H : Hp} {Q : VK} (hne : d ≠ o) (hd : H d = some (.dK kvs)) (ho : H o = some (.dK more)) (z : kvs.length + more.length ≤ sizeLine) (k : Q .non (upd H d (.dK (mergeK kvs more)))) : rDUpd (.ref d) [.ref o] H Q := ⟨d, o, kvs, more, rfl, rfl, hne, hd, ho, z, k⟩
end
end Hg
end L2
end

section
set_option Elab.async false
set_option linter.all false
set_option maxRecDepth 100000
set_option maxHeartbeats 4000000
/-! [a, *d] of a dict's keys. -/
namespace L2
namespace Hg
open PySem PySem.Spec PyProof.Rows
section
variable {prog : Program} {w : World} {A : Around} {E : Value → Shared → Prop} {s : Shared} {T : String} {r d : Addr} {n : Nat} {P : Nat → Value → Prop} {OK : Heap → Prop}
theorem iadd_src {R : Result → Shared → Prop} (K : PySem.W.KdlSrc prog w T r d n P OK) (hh : A.handled = none) (hok : OK s.heap) (S : Addr) (hSr : S ≠ r) (hSd : S ≠ d) (c₀ : Nat) (hS : s.heap.get? S = some { cls := .type "list", data := .seq #[] c₀ })
    (hR : ∀ h' tk acc' c', (∀ b o, b ≠ S → s.heap.get? b = some o → h'.get? b = some o) → h'.get? S = some { cls := .type "list", dict := none, data := .seq acc' c', slots := #[] } → ItemsOf P acc' n → R (.ok (.ret (.ref S))) { s with heap := h', toks := tk }) (hn : n ≤ sizeLine) :
    codeAny (model prog w) A (.builtin "list.__iadd__" ⟨[.ref S, .ref r], []⟩) R s := by
  refine codeAny_builtin PySem.F.entry_list_iadd ?_
  rw [Around.under_plainId PySem.F.plain_list_iadd _]
  show wpAny _ A.in1 (Builtin.List.listExtendWith (.ref S) (.ref r) (.ref S)) _ _ _
  exact PySem.W.kdl_extend K hh hok S hSr hSd _ c₀ hS hR hn
/-- the items of what can be gone over, one after another -/
theorem collect_src {Q : List Value → Shared → Prop} (K : PySem.W.KdlSrc prog w T r d n P OK) (hh : A.handled = none) (hok : OK s.heap) (hn : n ≤ sizeLine)
    (hQ : ∀ h' tk acc, (∀ b o, s.heap.get? b = some o → h'.get? b = some o) → ItemsOf P acc n → Q acc.toList { s with heap := h', toks := tk }) :
    wpAny (model prog w) A (collect (.ref r)) Q E s := by
  have hlt := K.there _ hok
  unfold collect
  refine wpAny_bind (wpAny_runValue (codeAny_builtin PySem.F.entry_proto_collect ?_))
  rw [Around.under_plainId PySem.F.plain_proto_collect _]
  show wpAny _ A.in1 (newList [] >>= fun l => again (.builtin "list.__iadd__" ⟨[l, .ref r], []⟩)) _ _ s
  refine wpAny_bind (wpAny_newObj_type ?_)
  have hS : (s.heap.push { cls := .type "list", data := .seq ([] : List Value).toArray }).get? s.heap.objs.size = some { cls := .type "list", data := .seq ([] : List Value).toArray } := Heap.get?_push_size _ rfl
  refine wpAny_pure ⟨plainId_quiet PySem.F.plain_list_iadd _, iadd_src K hh (K.keep _ _ hok fun b _ o e => Heap.get?_push_of_some _ e) _ (Nat.ne_of_gt hlt.1) (Nat.ne_of_gt hlt.2) _ hS (fun h' tk acc' c' hk hS' hacc => ?_) hn⟩
  show wpAny _ A (load s.heap.objs.size >>= _) _ _ _
  refine wpAny_bind (wpAny_load hS' ?_)
  exact wpAny_pure (hQ _ _ acc' (fun b o e => hk b o (Nat.ne_of_lt (Heap.lt_size e)) (Heap.get?_push_of_some _ e)) hacc)
end
section
variable {X : Cx}
theorem star_dK {pins : List (Addr × Obj)} {σ : L2.St} {H : Hp} {s : Shared} {a : Addr} {kvs : List (Key × V)} {E : Value → Shared → Prop} {Q : List Value → Shared → Prop} (hc : X.calm = true) (I : Inv X pins σ H s) (h : H a = some (.dK kvs))
    (hQ : ∀ us s', Inv X pins σ H s' → Vals (kvs.map fun kv => kV kv.1) us → Q us s') : PySem.W.StarOf (model X.prog X.w) X.A E (.ref a) Q s := by
  obtain ⟨z, lo, vs, rk, hd⟩ := (show ObjOk X.prog X.w H s.heap a (.dK kvs) from I.hok a _ h)
  obtain ⟨ep, hat⟩ := hd.dictAt
  have hl : kvs.length = vs.length := Paired.length rk
  unfold PySem.W.StarOf notIterableAtAll
  refine wpAny_bind (wpAny_specialOf hd.typeIs PySem.F.slot_dict_iter.lookup (wpAny_pure ⟨rfl, ?_⟩))
  refine collect_src (PySem.W.kdl_dict (knd := mixKind X.prog X.w) (kvs := vs) (ep := ep) lo) (I.ok.hd hc) hat (by rw [← hl]; exact z) fun h' tk acc' hkeep hacc => ?_
  refine hQ acc'.toList _ (I.kept (t' := tk) hkeep) ?_
  have el : acc'.toList.length = acc'.size := by simp
  refine vals_of_at (by rw [List.length_map, el, hacc.1, hl]) fun j x w h1 h2 => ?_
  obtain ⟨k, y, hky, hi⟩ := hacc.2 j w (by rw [← Array.getElem?_toList]; exact h2)
  have e1 : (kvs.map (·.1))[j]? = some k := by
    rw [KV.keys rk, List.getElem?_map, hky] <;> rfl
  have e2 : (kvs.map fun kv => kV kv.1)[j]? = some (kV k) := by
    have e3 : (kvs.map fun kv => kV kv.1) = (kvs.map (·.1)).map kV := by rw [List.map_map] <;> rfl
    rw [e3, List.getElem?_map, e1] <;> rfl
  rw [e2] at h1
  cases h1
  exact keyIs_rel hi
/-- *e in a display: a dict's keys -/
def tStarD (te : TE) (t : TA) : TA := fun σ H Q => te σ H fun x H1 => ∃ p kvs, x = V.ref p ∧ H1 p = some (.dK kvs) ∧ t σ H1 fun ys H2 => Q ((kvs.map fun kv => kV kv.1) ++ ys) H2
theorem pa_starD {e : Expr} {es : List Expr} {te : TE} {t : TA} {p : Pos} (hc : X.calm = true) (he : PE X e te) (hr : PA X es t) (hs : starEach (.Starred e p :: es) X.env = (true, eval e X.env) :: starEach es X.env := by rfl) : PA X (.Starred e p :: es) (tStarD te t) := by
  refine ⟨fun pos pins s σ H Q I h => ?_⟩
  refine PySem.W.items_star (thn (he.run pins s σ H _ I h) fun v s1 ⟨y, H1, I1, ry, a, kvs, ey, hx, q⟩ => ?_) hs
  subst ey
  obtain rfl : v = Value.ref a := ry
  refine star_dK hc I1 hx fun us s2 I2 rv => ?_
  exact thn (hr.run pos pins s2 σ H1 _ I2 q) fun ws s3 ⟨vs, H3, I3, r3, q3⟩ => ⟨(kvs.map fun kv => kV kv.1) ++ vs, H3, I3, rv.append r3, q3⟩
theorem r_starD {te : TE} {t : TA} {σ : L2.St} {H : Hp} {QL : List V → Hp → Prop} (k : te σ H fun x H1 => ∃ p kvs, x = V.ref p ∧ H1 p = some (.dK kvs) ∧ t σ H1 fun ys H2 => QL ((kvs.map fun kv => kV kv.1) ++ ys) H2) : tStarD te t σ H QL := k
end
end Hg
end L2
end

section
set_option Elab.async false
set_option linter.all false
set_option maxRecDepth 100000
set_option maxHeartbeats 4000000
/-! An own error held as a value: made by place and by name, its field read, isinstance of it. -/
namespace PySem.HgX
open PySem PySem.Spec PyProof.Rows PySem.HandSPX
section
variable {M : Model} {A : Around} {E : Value → Shared → Prop} {hp : Heap} {gs : Array GenState} {dr : Drawn} {tk : Nat} {oS : OsState}
variable {nm q : Str} {C N : Addr} {bs bm bmB : List Value} {hdct : Bool} {sn : List Str} {sub : List Value} {ab : Bool} {col : Option Bool} {dd : Option Addr} {k0 k1 k2 k3 k5 : Option Value} {B newId initId : String} {us : List Value} {kw : List (Str × Value)}
theorem newCheck (F : ExcBaseFacts B newId initId bmB) (ht : ∀ Y : String, bm.contains (.type Y) = bmB.contains (.type Y)) {Q : Unit → Shared → Prop}
    (oC : hp.get? C = some (excClassObj nm q C N bs bm hdct sn sub ab col dd k0 k1 k2 k3 k5 newId)) (k : Q () ⟨hp, gs, dr, tk, oS⟩) : wpAny M A (checkBuiltinCall newId ⟨.ref C :: us, kw⟩) Q E ⟨hp, gs, dr, tk, oS⟩ := by
  have hc : (Value.ref C :: bm).contains (.type B) = true := by rw [List.contains_cons, ht, F.hasB, Bool.or_true]
  have hn := F.noStar
  simp only [F.newRow, F.newSplit, F.newKind, checkBuiltinCall]
  repeat (first | refine wpAny_loadPart_at oC ?_ | (refine wpAny_isSubtype_exc oC ?_; rw [hc]) | refine wpAny_staticBase_exc oC ?_ | refine wpAny_madeBy_exc oC ?_ | (simp only [bne_self_eq_false, Bool.false_eq_true, if_false]) | wp_step)
  exact k
theorem callCheck {Q : Unit → Shared → Prop} (oC : hp.get? C = some (excClassObj nm q C N bs bm hdct sn sub ab col dd k0 k1 k2 k3 k5 newId))
    (k : Q () ⟨hp, gs, dr, tk, oS⟩) : wpAny M A (checkBuiltinCall "type.__call__" ⟨.ref C :: us, kw⟩) Q E ⟨hp, gs, dr, tk, oS⟩ := by
  have e3 := tc_sub
  have oT : (⟨hp, gs, dr, tk, oS⟩ : Shared).TypeIs (.ref C) "type" := ⟨_, oC, rfl⟩
  simp only [tc_split, tc_kind, checkBuiltinCall]
  repeat (any_goals (first | assumption | (with_reducible refine wpAny_loadPart_at oC ?_) | (with_reducible refine wpAny_onRaise ?_) | (with_reducible refine wpAny_map ?_) | wp_step))
end
section
variable {pg : Program} {wd : World} {A : Around} {E : Value → Shared → Prop} {R : Result → Shared → Prop} {hp : Heap} {gs : Array GenState} {dr : Drawn} {tk : Nat} {oS : OsState}
variable {nm q : Str} {C N : Addr} {bs bm bmB : List Value} {hdct : Bool} {sn : List Str} {sub : List Value} {ab : Bool} {col : Option Bool} {dd : Option Addr} {k0 k1 k2 k3 k5 : Option Value} {B newId initId : String} {us : List Value} {kw : List (Str × Value)}
theorem newRun (F : ExcBaseFacts B newId initId bmB) (ht : ∀ Y : String, bm.contains (.type Y) = bmB.contains (.type Y))
    (oC : hp.get? C = some (excClassObj nm q C N bs bm hdct sn sub ab col dd k0 k1 k2 k3 k5 newId)) (hz : us.length ≤ sizeLine)
    (k : R (.ok (.ret (.ref (hp.objs.size + 1)))) ⟨(hp.push (W.kdv_tup us)).push (excO C hp.objs.size), gs, dr, tk, oS⟩) : codeAny (model pg wd) A (.builtin newId ⟨.ref C :: us, kw⟩) R ⟨hp, gs, dr, tk, oS⟩ := by
  have he := F.ends
  have c1 : (Value.ref C :: bm).contains (.type B) = true := by rw [List.contains_cons, ht, F.hasB, Bool.or_true]
  have c2 : (Value.ref C :: bm).contains (.type "AttributeError") = false := by rw [List.contains_cons, ht, F.noAttr]; rfl
  have c3 : (Value.ref C :: bm).contains (.type "NameError") = false := by rw [List.contains_cons, ht, F.noName]; rfl
  refine codeAny_builtinAt F.entry ?_
  unfold Builtin.«BaseException.__new__»
  refine wpAt_bind ?_
  show wpAt _ _ _ (stack >>= _) _ _ _
  refine wpAt_bind (wpAt_stack fun top rest => wpAt_of_wpAny ?_)
  wp_walk
  refine wpAt_of_wpAny ?_
  rw [F.owner]
  repeat (first | (with_reducible refine wpAny_madeHere_exc F.canon oC ?_) | (with_reducible refine wpAny_loadPart_at oC ?_) | (with_reducible refine wpAny_isSubtype_exc oC ?_; first | rw [c1] | rw [c2] | rw [c3]) | wp_step)
  show R _ _
  rw [Heap.size_push]
  exact k
theorem typeCall (F : ExcBaseFacts B newId initId bmB) (ht : ∀ Y : String, bm.contains (.type Y) = bmB.contains (.type Y)) {fI : Addr} {Q : Fin → Shared → Prop}
    (oC : hp.get? C = some (excClassObj nm q C N bs bm hdct sn sub ab col dd k0 k1 k2 k3 k5 newId)) (hi : W.Looks (model pg wd) hp (typeLookup (.ref C) "__init__") (some (.ref fI)))
    (hb : ∀ self, W.Looks (model pg wd) hp (bindSpecial (.ref fI) self) (.ref fI, [self])) (hz : us.length ≤ sizeLine)
    (k : codeAny (model pg wd) A (.call (.ref fI) ⟨.ref (hp.objs.size + 1) :: us, kw⟩) (fun r s' => match r with | .ok (.ret v) => v = .none ∧ Q (.done (.ret (.ref (hp.objs.size + 1)))) s' | .ok _ => False | .error e => E e s')
      ⟨(hp.push (W.kdv_tup us)).push (excO C hp.objs.size), gs, dr, tk, oS⟩) : wpAny (model pg wd) A (Builtin.«type.__call__» ⟨.ref C :: us, kw⟩) Q E ⟨hp, gs, dr, tk, oS⟩ := by
  repeat (first | (with_reducible refine wpAny_loadPart_at oC ?_) | (with_reducible refine wpAny_madeBy_exc oC ?_) | wp_step)
  refine codeAny_call_builtin_code (Code.quiet_builtin _ F.quiet) (newCheck F ht oC ?_)
  refine newRun F ht oC hz ?_
  show wpAny _ _ _ _ _ _
  have kp : ∀ b o, hp.get? b = some o → ((hp.push (W.kdv_tup us)).push (excO C hp.objs.size)).get? b = some o := fun b o e => Heap.get?_push_of_some _ (Heap.get?_push_of_some _ e)
  have oC1 := kp _ _ oC
  have oe : ((hp.push (W.kdv_tup us)).push (excO C hp.objs.size)).get? (hp.objs.size + 1) = some (excO C hp.objs.size) := by heap_get
  have cc : (Value.ref C :: bm).contains (.ref C) = true := by simp
  have i1 := hi.keeps kp
  have b1 := (hb (.ref (hp.objs.size + 1))).keeps kp
  unfold isInstance
  repeat (first | (with_reducible refine wpAny_loadPart_at oe ?_) | (with_reducible refine wpAny_isSubtype_exc oC1 ?_; rw [cc]) | wp_step)
  show wpAny _ _ (typeLookup (.ref C) _) _ _ _
  refine i1.at ?_
  refine wpAny_holding (wpAny_bind (b1.at ?_))
  refine wpAny_bind (wpAny_call (codeAny_mono k fun r s' z => ?_))
  rcases r with e | (v | _ | _ | _) <;> first | exact z | exact z.elim | skip
  obtain ⟨rfl, z⟩ := z
  first
    | exact wpAny_pure (wpAny_pure z)
    | (wp_walk; exact z)
theorem callOwn (F : ExcBaseFacts B newId initId bmB) (ht : ∀ Y : String, bm.contains (.type Y) = bmB.contains (.type Y)) {fI : Addr}
    (oC : hp.get? C = some (excClassObj nm q C N bs bm hdct sn sub ab col dd k0 k1 k2 k3 k5 newId)) (hi : W.Looks (model pg wd) hp (typeLookup (.ref C) "__init__") (some (.ref fI)))
    (hb : ∀ self, W.Looks (model pg wd) hp (bindSpecial (.ref fI) self) (.ref fI, [self])) (hz : us.length ≤ sizeLine)
    (k : codeAny (model pg wd) (A.under (.builtin "type.__call__" ⟨.ref C :: us, kw⟩)) (.call (.ref fI) ⟨.ref (hp.objs.size + 1) :: us, kw⟩) (W.InitBack (hp.objs.size + 1) R)
      ⟨(hp.push (W.kdv_tup us)).push (excO C hp.objs.size), gs, dr, tk, oS⟩) : codeAny (model pg wd) A (.call (.ref C) ⟨us, kw⟩) R ⟨hp, gs, dr, tk, oS⟩ := by
  have e1 := tc_lookup
  have e2 := tc_bind (.ref C)
  have oT : (⟨hp, gs, dr, tk, oS⟩ : Shared).TypeIs (.ref C) "type" := ⟨_, oC, rfl⟩
  refine codeAny_of_tree ?_
  show wpAny _ _ (callAny (.ref C) _) _ _ _
  repeat (any_goals (first | assumption | (with_reducible refine wpAny_loadPart_at oC ?_) | wp_step))
  refine ⟨rfl, ?_⟩
  refine codeAny_call_builtin_at (Code.quiet_builtin _ (by decide +kernel)) entry_typeCall (callCheck oC (typeCall F ht oC hi hb hz ?_))
  refine codeAny_mono k fun r s' z => ?_
  rcases r with e | (v | _ | _ | _) <;> exact z
end
end PySem.HgX
namespace PySem.W
open PySem PySem.Spec PySem.Calls PyProof.Rows
section
variable {pg : Program} {wd : World} {A : Around} {E : Value → Shared → Prop} {s : Shared} {K : Frag} {x Dc : Addr} {ox : Obj} {od : Option Obj}
theorem hg_find {name : Str} {a g : Value} (hc : (clsIn K Dc).isSome = true) (ha : findIn K (.ref Dc) name = some (some a)) (hg : specialIn K a "__get__" = some (some g)) (ht : takesIn K a = some true) : findObj K Dc od name = some (.bind g a) := by
  obtain ⟨cd, hc⟩ := Option.isSome_iff_exists.mp hc
  unfold findObj
  rw [hc, Option.bind_some, ha, Option.bind_some]
  simp [hg, ht]
theorem hg_class {Q : Option Value → Shared → Prop} (q1 : findIn K (.ref Dc) "__getattribute__" = some (some (.builtin "BaseException.__getattribute__"))) (q2 : findIn K (.ref Dc) "__getattr__" = some none) (q3 : subIn K (.ref Dc) (.type "BaseException") = some true)
    (q4 : hasDictIn K Dc = true) (q5 : findIn K (.ref Dc) "__class__" = some (some (.builtin "object.__class__"))) (q6 : specialIn K (.builtin "object.__class__") "__get__" = some (some (.builtin "getset_descriptor.__get__"))) (q7 : takesIn K (.builtin "object.__class__") = some true)
    (q8 : mroIn K Dc (.type "object") = some true) (Y : K.In s.heap) (I : InstAt s.heap x ox Dc od) (h : Q (some (.ref Dc)) { s with toks := s.toks + 1 }) : wpAny (model pg wd) A (getAttr? (.ref x) "__class__") Q E s := by
  have hf : findObj K Dc od "__class__" = some (.bind (.builtin "getset_descriptor.__get__") (.builtin "object.__class__")) := hg_find (by obtain ⟨cd, hc, _⟩ := any_some q4; rw [hc]; rfl) q5 q6 q7
  obtain ⟨hp, gs, dr, tk, oS⟩ := s
  have M0 := I.type (M := model pg wd)
  have M1 := looks_findIn (M := model pg wd) Y q1
  have M2 := looks_findIn (M := model pg wd) Y q2
  have M3 := looks_find (M := model pg wd) Y I hf
  have sub : Looks (model pg wd) hp (isInstance (.ref x) (.type "BaseException")) true := M0.andThen (looks_subIn Y q3)
  have y0 : (false && onTheHeap (Value.builtin "BaseException.__getattribute__")) = false := rfl
  have y2 : (Value.builtin "BaseException.__getattribute__" == Value.builtin "object.__getattribute__") = false := by decide +kernel
  have y1 : (onTheHeap (Value.ref Dc) && Value.builtin "BaseException.__getattribute__" == Value.builtin "object.__getattribute__") = false := by rw [y2]; rfl
  unfold getAttr?
  unfold getAttrBy? getAttrBy
  refine wpAny_bind (wpAny_mkText (wpAny_bind (wpAny_attempt (wpAny_holding (wpAny_bind (M0.at (wpAny_bind (M1.at ?_))))))))
  show wpAny _ _ (if (onTheHeap (Value.ref Dc) && Value.builtin "BaseException.__getattribute__" == Value.builtin "object.__getattribute__") = true then _ else _) _ _ _
  rw [y1, if_neg Bool.false_ne_true]
  unfold getAttrByItsOwn
  unfold hookBefore
  refine wpAny_bind ?_
  rw [if_pos (show onTheHeap (Value.ref Dc) = true from rfl)]
  refine M2.at (wpAny_bind (wpAny_attempt (wpAny_holding ?_)))
  unfold callGetattribute
  rw [y0, if_neg Bool.false_ne_true]
  unfold boundAndCalled
  rw [PySem.F.excAttr_ValueError.ga.bind (.ref x)]
  refine wpAny_bind (wpAny_pure ?_)
  show wpAny _ _ (call (.builtin "BaseException.__getattribute__") [.ref x, .str "__class__" tk]) _ _ _
  refine wpAny_call (codeAny_call_builtin PySem.F.excAttr_ValueError.ga.plain PySem.F.entry_bexc_ga ?_)
  refine @check_slot (model pg wd) _ _ ⟨hp, gs, dr, tk + 1, oS⟩ "BaseException.__getattribute__" "BaseException" "__getattribute__" (.ref x) [.str "__class__" tk] [] _ (by decide +kernel) (by decide +kernel) sub (PySem.F.args_bexc_ga (.ref x) (.str "__class__" tk)) ?_
  unfold Builtin.«object.__getattribute__»
  refine wpAny_bind (wpAny_of_eq (a := ((Value.ref x : Value), [Value.str "__class__" tk])) (by first | rfl | (simp only [slotArgs]; rfl)) ?_)
  refine wpAny_bind (wpAny_pure (wpAny_bind (M0.at (wpAny_bind (M3.at ?_)))))
  show wpAny _ _ (holding [Value.builtin "object.__class__"] (call (.builtin "getset_descriptor.__get__") [.builtin "object.__class__", .ref x, .ref Dc]) >>= ret) _ _ _
  refine wpAny_bind (wpAny_holding (wpAny_call (class_get (s := ⟨hp, gs, dr, tk + 1, oS⟩) (ox := ox) (od := od) Y I q8 ?_)))
  refine wpAny_pure ?_
  show wpAny _ _ (handedOut (.ref Dc)) _ _ _
  rw [handedOut_of (v := .ref Dc) rfl]
  first
    | exact wpAny_pure (wpAny_pure h)
    | exact wpAny_pure h
    | exact wpAny_pure (wpAny_bind (wpAny_pure (wpAny_pure h)))
theorem hg_kitx (q1 : findIn K (.ref Dc) "__getattribute__" = some (some (.builtin "BaseException.__getattribute__"))) (q2 : findIn K (.ref Dc) "__getattr__" = some none) (q3 : subIn K (.ref Dc) (.type "BaseException") = some true)
    (q4 : hasDictIn K Dc = true) (q5 : findIn K (.ref Dc) "__class__" = some (some (.builtin "object.__class__"))) (q6 : specialIn K (.builtin "object.__class__") "__get__" = some (some (.builtin "getset_descriptor.__get__"))) (q7 : takesIn K (.builtin "object.__class__") = some true)
    (q8 : mroIn K Dc (.type "object") = some true) : KitX K (.ref x) (.ref Dc) (fun h => InstAt h x ox Dc od) where
  ty := fun _ _ _ I => I.type
  it := fun _ _ Y _ => by
    obtain ⟨cdD, hcD, _⟩ := any_some q4
    unfold clsIn at hcD
    split at hcD
    · rename_i c' d' cd' sl' ho
      intro A' Q' E' s' k q
      unfold isType loadHead
      exact wpAny_bind (wpAny_loadPart (k _ _ (Y _ _ ho)) (wpAny_pure q))
    · cases hcD
  ne := fun h tp d1 its n sl Y htp => by
    obtain ⟨cdD, hcD, _⟩ := any_some q4
    refine Bool.eq_false_iff.mpr fun q => ?_
    have e : Dc = tp := Value.ref.inj (beq_iff_eq.mp q)
    subst e
    unfold clsIn at hcD
    split at hcD
    · rename_i c' d' cd' sl' ho
      have z := (Y _ _ ho).symm.trans htp
      cases z
    · cases hcD
  ca := fun Y I k => hg_class q1 q2 q3 q4 q5 q6 q7 q8 Y I k
end
end PySem.W
namespace L2
namespace Hg
open PySem PySem.Spec PyProof.Rows
section
variable {X : Cx} {k : Nat} {ps ks : List Str} {sp : Sp} {x : Str} {p pos : Pos} {C fI : Addr} {fd : FuncData} {e : Expr} {es : List Expr} {kws : List Keyword} {ta tk : TA} {gV : List V → List V → List V}
theorem run_exV {pins : List (Addr × Obj)} {σ : St} {H : Hp} {s : Shared} {Q : VK} {us xs : List Value} {kw : List (Str × Value)} {vs : List V} (T : OexC X.K C) (iC : PySem.W.findIn X.K (.ref C) "__init__" = some (some (.ref fI))) (tI : PySem.W.typeIn X.K (.ref fI) = some (.type "function"))
    (F1 : FnOk X.prog X.w X.K X.mg X.base CX0 k fI fd ps sp) (hr : Room (k + 1) X.A) (I : Inv X pins σ H s) (r : Vals vs xs) (hus : us.length ≤ sizeLine)
    (hb : ∀ (a : Addr) (s2 : Shared), X.K.In s2.heap → (Value.ref a :: xs).length = ps.length → BindsTo s2 fd ⟨Value.ref a :: us, kw⟩ (ps.zip (Value.ref a :: xs)))
    (h : ∀ a, H a = none → sp (.ref a :: vs) (upd H a (exo a C none)) (fun v H2 => v = .non ∧ Q (.ref a) H2) (fun _ _ _ => False)) :
    wpAny (model X.prog X.w) X.A (call (.ref C) us kw) (EP X pins σ Q) X.xe s := by
  obtain ⟨nm, q, N, bs, bm, sn, sub, ab, col, dd, k0, k1, k2, k3, k5, hC, hbm⟩ := T.cls
  obtain ⟨hp, gs, dr, tk, os⟩ := s
  have hsz : hp.objs.size ≤ hp.objs.size + 1 := Nat.le_succ _
  have hn : H (hp.objs.size + 1) = none := I.hok.fresh hsz
  have hq := h (hp.objs.size + 1) hn
  have kk : ∀ b o, hp.get? b = some o → ((hp.push (PySem.W.kdv_tup us)).push (PySem.HandSPX.excO C hp.objs.size)).get? b = some o :=
    fun b o z => Heap.get?_push_of_some _ (Heap.get?_push_of_some _ z)
  have hget : ((hp.push (PySem.W.kdv_tup us)).push (PySem.HandSPX.excO C hp.objs.size)).get? (hp.objs.size + 1) = some (PySem.HandSPX.excO C hp.objs.size) := by heap_get
  have I2 : Inv X pins σ (upd H (hp.objs.size + 1) (exo (hp.objs.size + 1) C none)) ⟨(hp.push (PySem.W.kdv_tup us)).push (PySem.HandSPX.excO C hp.objs.size), gs, dr, tk, os⟩ :=
    I.laid (t' := tk) (a := hp.objs.size + 1) (o := exo (hp.objs.size + 1) C none) (h' := (hp.push (PySem.W.kdv_tup us)).push (PySem.HandSPX.excO C hp.objs.size)) kk hsz (exo_ok hget)
  have r2 : Vals (V.ref (hp.objs.size + 1) :: vs) (Value.ref (hp.objs.size + 1) :: xs) := .cons rfl r
  have hl : (Value.ref (hp.objs.size + 1) :: xs).length = ps.length := by
    have z := r2.length
    rw [F1.len _ _ _ _ hq] at z
    exact z.symm
  refine wpAny_call (PySem.HgX.callOwn F.excBase_ValueError (fun Y => PySem.HandSPX.refsVE_contains Y bm hbm) (I.kIn _ _ hC) (PySem.W.looks_findIn I.kIn iC) (fun self => PySem.W.bind_fn I.kIn self tI) hus
    (codeAny_mono (F1.run _ X.stack _ _ ⟨Value.ref (hp.objs.size + 1) :: us, kw⟩ (Value.ref (hp.objs.size + 1) :: xs) _ _ (fun _ _ _ => False) (hr.make C us kw) (I2.env0.make C us kw) (hb _ _ I2.kIn hl) r2 hq) fun r s' hq' => ?_))
  cases r with
  | error er => exact hq'.elim
  | ok fl =>
    cases fl with
    | ret u =>
      obtain ⟨v, H', I3, rv, ev, q3⟩ := I2.after hq'
      subst ev
      exact ⟨rv, ⟨V.ref (hp.objs.size + 1), H', I3, rfl, q3⟩⟩
    | next => exact False.elim hq'
    | brk => exact False.elim hq'
    | cont => exact False.elim hq'
/-- C(e, ..), an own error as a value -/
def tMkV (C : Addr) (sp : Sp) (ta : TA) : TE := fun σ H Q => ta σ H fun vs H1 => vs.length ≤ 1000 ∧ ∀ a, H1 a = none → sp (.ref a :: vs) (upd H1 a (exo a C none)) (fun v H2 => v = .non ∧ Q (.ref a) H2) (fun _ _ _ => False)
theorem pe_mkV (F : ErrOk X.prog X.w X.K X.mg X.base k x C ps sp) (hr : Room (k + 1) X.A) (hg : Gl X x) (ha : PA X (e :: es) ta) (hdb : (x == ("__debug__" : Str)) = false := by decide)
    (he : starEach (e :: es) X.env = (false, eval e X.env) :: starEach es X.env := by rfl) (hpl : (backTo pos (starEach es X.env)).any (·.1) = false := by rfl) : PE X (.Call (.Name x p) (e :: es) [] pos) (tMkV C sp ta) := by
  obtain ⟨hm, T, fI, fd, iC, tI, F1, hb⟩ := F
  refine ⟨fun pins s σ H Q I h => ?_⟩
  refine wpAny_Call_Name_kw (ld_glob I hg hm ?_ hdb)
  refine PySem.W.callWith_K (h₀ := X.base) I.ok.mod.kin T.kC (thn (ha.run pos pins s σ H _ I h) fun us s1 ⟨vs, H1, I1, r1, hz, q1⟩ => ⟨I1.kIn, ?_⟩) he hpl
  refine run_exV (us := us) (xs := us) T iC tI F1 hr I1 r1 (by rw [← Paired.length r1, sizeLine_eq]; omega) (fun a s2 hk hl => ?_) q1
  have z := hb s2 (Value.ref a :: us) hk (by rw [List.append_nil]; exact hl)
  rw [List.append_nil] at z
  exact z
/-- C() -/
theorem pe_mkV0 (F : ErrOk X.prog X.w X.K X.mg X.base k x C ps sp) (hr : Room (k + 1) X.A) (hg : Gl X x) (hdb : (x == ("__debug__" : Str)) = false := by decide) : PE X (.Call (.Name x p) [] [] pos) (tMkV C sp tNil) := by
  obtain ⟨hm, T, fI, fd, iC, tI, F1, hb⟩ := F
  refine ⟨fun pins s σ H Q I h => ?_⟩
  refine wpAny_Call_Name_kw (ld_glob I hg hm ?_ hdb)
  refine PySem.W.callWith_K0 I.kIn T.kC ?_
  obtain ⟨_, h⟩ := h
  exact run_exV (us := []) (xs := []) T iC tI F1 hr I .nil (Nat.zero_le _) (fun a s2 hk hl => hb s2 [Value.ref a] hk hl) h
/-- C(k = e), the field by its name -/
def ErrKOk (P : Program) (w : World) (K : PySem.W.Frag) (mg : Str → Option Value) (base : Heap) (k : Nat) (x : Str) (C : Addr) (ps ks : List Str) (sp : Sp) : Prop :=
  mg x = some (.ref C) ∧ OexC K C ∧ ∃ f fd, PySem.W.findIn K (.ref C) "__init__" = some (some (.ref f)) ∧ PySem.W.typeIn K (.ref f) = some (.type "function") ∧ FnOk P w K mg base CX0 k f fd ps sp ∧ KBn K fd ps 1 ks (fun us ws => us ++ ws) (fun vs zs => vs ++ zs)
def tZl (n : Nat) (tk : TA) : TA := fun σ H Q => tk σ H fun zs H1 => zs.length = n ∧ Q zs H1
theorem pe_mkVK (F : ErrKOk X.prog X.w X.K X.mg X.base k x C ps ks sp) (hr : Room (k + 1) X.A) (hg : Gl X x) (hkw : PK X kws tk)
    (hall : (backToKw pos (keywordEach kws X.env)).all (·.1.isSome) = true := by rfl) (hks : (backToKw pos (keywordEach kws X.env)).filterMap (·.1) = ks := by rfl)
    (hdb : (x == ("__debug__" : Str)) = false := by decide) (hkz : ks.length ≤ 1000 := by decide)
    (hpl : ((backTo pos (starEach [] X.env)).any (·.1) || (backToKw pos (keywordEach kws X.env)).any (·.1.isNone)) = false := by rfl) :
    PE X (.Call (.Name x p) [] kws pos) (tMkV C sp (tZl ks.length tk)) := by
  obtain ⟨hm, T, fI, fd, iC, tI, F1, hb⟩ := F
  refine ⟨fun pins s σ H Q I h => ?_⟩
  refine wpAny_Call_Name_kw (ld_glob I hg hm ?_ hdb)
  refine PySem.W.callWith_KW0 (h₀ := X.base) I.ok.mod.kin T.kC hall ?_ hpl
  refine thn (hkw.run pos pins s σ H _ I h) fun ws s2 ⟨zs, H2, I2, rz, l1, l2, q2⟩ => ⟨I2.kIn, ?_⟩
  rw [hks]
  have e2 : ws.length = ks.length := rz.length.symm.trans l1
  exact run_exV (us := []) (xs := ws) (kw := ks.zip ws) T iC tI F1 hr I2 rz (Nat.zero_le _) (fun a s2 hk hl => hb.to s2 [Value.ref a] ws hk rfl e2) q2
theorem r_mkV1 {σ : St} {H : Hp} {Q : VK} (k : ta σ H fun vs H1 => vs.length ≤ 1000 ∧ ∀ a, H1 a = none → sp (.ref a :: vs) (upd H1 a (exo a C none)) (fun v H2 => v = .non ∧ Q (.ref a) H2) (fun _ _ _ => False)) : tMkV C sp ta σ H Q := k
theorem r_zl {n : Nat} {σ : St} {H : Hp} {Q : List V → Hp → Prop} (k : tk σ H fun zs H1 => zs.length = n ∧ Q zs H1) : tZl n tk σ H Q := k
end
section
variable {P : Program} {w : World} {K : PySem.W.Frag} {mg : Str → Option Value} {base : Heap} {k : Nat} {x q : Str} {st : Stmt} {C : Addr} {N ps : List Str} {sp : Sp}
theorem ErrAt.okB (F : ErrAt K mg x q st C) (S : FnScope N ps (defScope st)) (hb : BindsAs st "__init__" q ps) (ks : List Str)
    (hk : ∀ (kV doc pm : Value) (an : Option Addr) (cdv ct : Value) (us ws : List Value), us.length = 1 → ws.length = ks.length → bindArgs (PySem.W.fnOf "__init__" q (defArgs st) (defBody st) (defScope st) .none kV doc pm an cdv ct) ⟨us, ks.zip ws⟩ = pure (ps.zip (us ++ ws)))
    (len : ∀ vs H Q E, sp vs H Q E → vs.length = ps.length)
    (hbody : ∀ (f : Addr) (cdv : Value) (A : Around) (outer : List Env) (s : Shared) (H : Hp) (vs : List V) (Q : VK) (E : XK), Room k (A.deeper (envOfC q (defScope st) s.heap.objs.size f cdv)) → sp vs H Q E →
      ∃ t, PSs (cxOf CX0 P w K mg base N q (defScope st) f cdv A outer s H E).nox (defBody st) t ∧ t { nx := fun _ H' => Q .non H', rt := Q } (start N vs) H) :
    ErrOk P w K mg base (k + 1) x C ps sp ∧ ErrKOk P w K mg base (k + 1) x C ps ks sp := by
  obtain ⟨f, fd, hi, ht, F1⟩ := F.it
  have G := F1.ok S len fun cdv A outer s H vs Q E hr h => hbody f cdv A outer s H vs Q E hr h
  exact ⟨⟨F.hm, F.cl, f, fd, hi, ht, G, F1.binds hb⟩, F.hm, F.cl, f, fd, hi, ht, G, Hg.Fun.kb F1 1 ks hk⟩
end
/-! ### an error's field -/
section
variable {X : Cx} {e : Expr} {te : TE} {n : Str} {pos : Pos}
def tExf (K : PySem.W.Frag) (n : Str) (te : TE) : TE := fun σ H Q => te σ H fun x H1 => ∃ (a C dd : Addr) (fs : List (Str × V)) (v : V), x = .ref a ∧ XfC K C ∧ PySem.W.findIn K (.ref C) n = some none ∧ H1 a = some (exo a C (some dd)) ∧ H1 dd = some (exd dd fs) ∧ fs.lookup n = some v ∧ Q v H1
theorem r_exf {K : PySem.W.Frag} {σ : St} {H : Hp} {Q : VK} (k : te σ H fun x H1 => ∃ (a C dd : Addr) (fs : List (Str × V)) (v : V), x = .ref a ∧ XfC K C ∧ PySem.W.findIn K (.ref C) n = some none ∧ H1 a = some (exo a C (some dd)) ∧ H1 dd = some (exd dd fs) ∧ fs.lookup n = some v ∧ Q v H1) : tExf K n te σ H Q := k
theorem pe_exf (he : PE X e te) (hb : attributeBase e n X.env (eval e X.env) = eval e X.env := by rfl) : PE X (.Attribute e n pos) (tExf X.K n te) := by
  refine ⟨fun pins s σ H Q I h => ?_⟩
  refine attr_of hb (thn (he.run pins s σ H _ I h) fun u s1 hh => ?_)
  obtain ⟨y, H1, I1, rx, a, C, dd, fs, v, rfl, T, hno, ha, hd, l, q⟩ := hh
  obtain rfl : u = Value.ref a := rx
  obtain ⟨t1, hoe⟩ := exo_at I1.hok ha
  obtain ⟨mA, hns, hr⟩ := exd_at I1.hok hd
  obtain ⟨od, ho, hl⟩ := lookIn_ns hns
  obtain ⟨u, hu, ru⟩ := RelO.some_of (v := v) (o := mA n) (by rw [← l]; exact hr n)
  have J : PySem.W.InstAt s1.heap a _ C (some od) := ⟨hoe, rfl, rfl, ho⟩
  exact HandSPX.exc_get I1.kIn J T.ga T.gg T.exC (PySem.W.findObj_own T.hdC hno rfl (by rw [hl, hu])) (handed_of ru) ⟨v, H1, I1.tok _, ru, q⟩
theorem pe_exfK (K : PySem.W.Frag) (he : PE X e te) (hK : X.K = K := by rfl) (hb : attributeBase e n X.env (eval e X.env) = eval e X.env := by rfl) : PE X (.Attribute e n pos) (tExf K n te) := hK ▸ pe_exf he hb
/-- isinstance(e, c), e an own error held as a value -/
def rIsV (K : PySem.W.Frag) : List V → Hp → VK → Prop := fun xs H Q => ∃ (a D : Addr) (c : V) (cv : Value) (b : Bool), xs = [.ref a, c] ∧ ExcC K D ∧ (H a = some (exo a D none) ∨ ∃ dd fs, H a = some (exo a D (some dd)) ∧ H dd = some (exd dd fs)) ∧ (∀ u, RelV c u → u = cv) ∧ PySem.W.kitOne K (.ref D) cv = some b ∧ Q (.bl b) H
theorem c_isV (K : PySem.W.Frag) (hK : X.K = K := by rfl) : CallR X (.builtin "isinstance") (rIsV K) := by
  subst hK
  intro pins s σ H xs us Q I r h
  obtain ⟨a, D, c, cv, b, rfl, C, hx, hcv, e, q⟩ := h
  cases r with
  | cons rx rr =>
    cases rr with
    | cons rt rr =>
      cases rr
      cases rx
      have ec := hcv _ rt
      subst ec
      rcases hx with ha | ⟨dd, fs, ha, hd⟩
      · obtain ⟨t1, hoe⟩ := exo_at I.hok ha
        have J : PySem.W.InstAt s.heap a _ D none := ⟨hoe, rfl, rfl, trivial⟩
        exact PySem.W.kia_one (PySem.W.hg_kitx C.hg C.hk C.hs C.hd C.ha C.hn C.ht C.hm) I.kIn J e (fun z => nomatch z) fun tk => ⟨.bl b, H, I.kept (t' := tk) fun _ _ z => z, rfl, q⟩
      · obtain ⟨t1, hoe⟩ := exo_at I.hok ha
        obtain ⟨mA, hns, hr⟩ := exd_at I.hok hd
        obtain ⟨od, ho, hl⟩ := lookIn_ns hns
        have J : PySem.W.InstAt s.heap a _ D (some od) := ⟨hoe, rfl, rfl, ho⟩
        exact PySem.W.kia_one (PySem.W.hg_kitx C.hg C.hk C.hs C.hd C.ha C.hn C.ht C.hm) I.kIn J e (fun z => nomatch z) fun tk => ⟨.bl b, H, I.kept (t' := tk) fun _ _ z => z, rfl, q⟩
end
end Hg
end L2
end
set_option Elab.async false
set_option linter.all false
set_option maxRecDepth 100000
set_option autoImplicit false
set_option maxHeartbeats 200000
namespace L2
namespace Hg
open PySem PySem.Spec PyProof.Rows
local macro_rules | `(tactic| tm_at "r1") => `(tactic| first
  | with_reducible refine' r_seq ?_
  | with_reducible refine' r_asg ?_
  | ((with_reducible refine' r_gNameE ?hset ?_); (case hset => ((try simp only [start, List.map_cons, List.map_nil, List.length_cons, List.length_nil, Nat.reduceAdd, Nat.reduceSub, List.replicate_succ, List.replicate_zero, List.cons_append, List.nil_append, List.set_cons_succ, List.set_cons_zero]); exact rfl)))
  | with_reducible refine' r_op ?_
  | ((with_reducible refine' r_var ?hv ?_); (case hv => rfl))
  | with_reducible refine' r_c ?_
  | with_reducible refine' r_cons ?_
  | with_reducible refine' r_nil ?_
  | with_reducible refine' r_cb ?_
  | with_reducible refine' r_call ?_
  | with_reducible refine' r_callS ?_
  | with_reducible refine' r_ifS ?_
  | with_reducible refine' r_ret ?_
  | with_reducible refine' r_drop ?_
  | with_reducible refine' r_next ?_
  | with_reducible refine' r_test ?_
  | with_reducible refine' r_B ?_
  | with_reducible refine' r_bl ?_
  | with_reducible refine' r_tru ?_
  | with_reducible refine' r_trK ?_
  | with_reducible refine' r_and ?_
  | with_reducible refine' r_or ?_
  | with_reducible refine' r_not ?_
  | with_reducible refine' r_andV ?_
  | with_reducible refine' r_orV ?_
  | with_reducible refine' r_notV ?_
  | with_reducible refine' r_if ?_
  | with_reducible refine' r_chain ?_
  | with_reducible refine' r_un ?_
  | with_reducible refine' r_for ?_
  | with_reducible refine' r_rng1 ?_
  | with_reducible refine' r_rng2 ?_
  | with_reducible refine' r_iL ?_
  | with_reducible refine' r_iT ?_
  | with_reducible refine' r_lc ?_
  | with_reducible refine' r_yes ?_
  | with_reducible refine' r_gCons ?_
  | with_reducible refine' r_gNil ?_
  | with_reducible refine' r_pairs ?_
  | with_reducible refine' r_pairs0 ?_
  | with_reducible refine' r_disp ?_
  | with_reducible refine' r_dput ?_
  | with_reducible refine' r_dget ?_
  | with_reducible refine' r_veI ?_
  | with_reducible refine' r_sFld ?_
  | with_reducible refine' r_fld ?_
  | with_reducible refine' r_makeS ?_
  | with_reducible refine' r_make ?_
  | with_reducible refine' r_lst ?_
  | with_reducible refine' r_tup ?_
  | with_reducible refine' r_addI ?_
  | with_reducible refine' r_sub ?_
  | with_reducible refine' r_lt ?_
  | with_reducible refine' r_le ?_
  | with_reducible refine' r_gt ?_
  | with_reducible refine' r_ge ?_
  | with_reducible refine' r_abs ?_
  | with_reducible refine' r_intI ?_
  | with_reducible refine' r_intB ?_
  | with_reducible refine' r_min2 ?_
  | with_reducible refine' r_max2 ?_
  | with_reducible refine' r_isN ?_
  | with_reducible refine' r_notN ?_
  | with_reducible refine' r_neg ?_
  | ((with_reducible refine' r_mod ?hv ?_); (case hv => decide))
  | ((with_reducible refine' r_mul (cmulL ?hv) ?_); (case hv => decide))
  | ((with_reducible refine' r_mul (cmulR ?hv) ?_); (case hv => decide))
  | ((with_reducible refine' r_pow ?hv ?_); (case hv => refine ⟨?_, ?_, ?_⟩ <;> decide))
  | with_reducible refine' r_T ?_
  | with_reducible refine' r_nT ?_
  | with_reducible refine' r_nF ?_
  | with_reducible refine' r_F ?_
  | with_reducible refine' r_meth ?_
  | with_reducible refine' r_metS ?_
  | with_reducible refine' r_prop ?_
  | with_reducible refine' r_star ?_
  | with_reducible refine' r_starD ?_
  | with_reducible refine' r_par ?_
  | with_reducible refine' r_par3 ?_
  | with_reducible refine' r_v2 ?_
  | with_reducible refine' r_v3 ?_
  | with_reducible refine' r_sl ?_
  | with_reducible refine' r_part ?_
  | with_reducible refine' r_noPart ?_
  | with_reducible refine' r_i ?_
  | with_reducible refine' r_gSub ?_
  | with_reducible refine' r_gFld ?_
  | with_reducible refine' r_xf ?_
  | with_reducible refine' r_bm ?_
  | with_reducible refine' r_iU ?_
  | with_reducible refine' r_keys ?_
  | with_reducible refine' r_din ?_
  | with_reducible refine' r_dc ?_
  | with_reducible refine' r_fs ?_
  | with_reducible refine' r_js ?_
  | with_reducible refine' r_js0 ?_
  | with_reducible refine' r_fmt ?_
  | with_reducible refine' r_m1 ?_
  | with_reducible refine' r_isS ?_
  | with_reducible refine' r_bm0 ?_
  | with_reducible refine' r_trO ?_
  | with_reducible refine' r_cm ?_
  | with_reducible refine' r_cmS ?_
  | with_reducible refine' r_isC ?_
  | with_reducible refine' r_makeS ?_
  | with_reducible refine' r_revL ?_
  | with_reducible refine' r_ckw ?_
  | with_reducible refine' r_iStr ?_
  | ((with_reducible refine' r_makeL ?hv ?_); (case hv => rfl))
  | with_reducible refine' r_subO ?_
  | fail)
local macro_rules | `(tactic| tm_at "rd") => `(tactic| repeat tm_at "r1")
local macro_rules | `(tactic| tm_at "hs") => `(tactic| first
  | with_reducible assumption
  | (with_reducible refine' upd_same)
  | ((with_reducible refine' at_upd ?hn ?ho); (case hn => tm_at "ne"); (case ho => tm_at "hs"))
  | ((with_reducible refine' Bx.keep ?hx _ _ ?hn ?ho); (case hx => with_reducible assumption); (case hn => tm_at "ne"); (case ho => tm_at "hs"))
  | ((with_reducible refine' Same.at ?hx ?ho); (case hx => with_reducible assumption); (case ho => tm_at "hs"))
  | ((with_reducible refine' Kx.at ?hx ?hn ?ho); (case hx => with_reducible assumption); (case hn => tm_at "ne"); (case ho => tm_at "hs"))
  | fail)
local macro_rules | `(tactic| tm_at "ne") => `(tactic| first
  | with_reducible assumption
  | ((with_reducible refine' Ne.symm ?ha); (case ha => with_reducible assumption))
  | ((with_reducible refine' ne_of_none ?ha ?hb); (case hb => with_reducible assumption); (case ha => with_reducible assumption))
  | ((with_reducible refine' Ne.symm (ne_of_none ?ha ?hb)); (case hb => with_reducible assumption); (case ha => with_reducible assumption))
  | ((with_reducible refine' ne_of_none ?ha ?hb); (case hb => with_reducible assumption); (case ha => tm_at "hs"))
  | ((with_reducible refine' Ne.symm (ne_of_none ?ha ?hb)); (case hb => with_reducible assumption); (case ha => tm_at "hs"))
  | fail)
local macro_rules | `(tactic| tm_at "fr") => `(tactic| repeat (rename upd _ _ _ _ = Option.none => hfr; have hfr2 := free_upd hfr; clear hfr; obtain ⟨hfr3, hfr4⟩ := hfr2))
local macro_rules | `(tactic| tm_at "sq") => `(tactic| first
  | with_reducible assumption
  | ((with_reducible refine' SqL.of ?ho); (case ho => tm_at "hs"))
  | ((with_reducible refine' SqT.of ?ho); (case ho => tm_at "hs"))
  | fail)
local macro_rules | `(tactic| tm_at "r2") => `(tactic| first
  | tm_at "r1"
  | ((with_reducible refine' r_ixL ?ha ?hb ?_); (case ha => tm_at "sq"); (case hb => rfl))
  | ((with_reducible refine' r_ixT ?ha ?hb ?_); (case ha => tm_at "sq"); (case hb => rfl))
  | ((with_reducible refine' r_setL ?ha ?hb ?_); (case ha => tm_at "hs"); (case hb => rfl))
  | ((with_reducible refine' r_lenL ?ha ?_); (case ha => tm_at "sq"))
  | ((with_reducible refine' r_lenT ?ha ?_); (case ha => tm_at "sq"))
  | fail)
local macro_rules | `(tactic| tm_at "go") => `(tactic| repeat tm_at "r2")
local macro_rules | `(tactic| tm_at "fn") => `(tactic| first
  | with_reducible assumption
  | ((with_reducible refine' Same.free ?hs ?hn); (case hn => with_reducible assumption); (case hs => tm_at "sm"))
  | fail)
local macro_rules | `(tactic| tm_at "sm") => `(tactic| first
  | with_reducible assumption
  | with_reducible refine' Same.refl
  | ((with_reducible refine' Same.new ?ha ?hb); (case hb => with_reducible assumption); (case ha => tm_at "sm"))
  | ((with_reducible refine' Same.updF ?ha ?hb); (case hb => tm_at "fn"); (case ha => tm_at "sm"))
  | ((with_reducible refine' Same.bx ?ha ?hx ?hb); (case hx => with_reducible assumption); (case hb => tm_at "fn"); (case ha => tm_at "sm"))
  | ((with_reducible refine' Same.kx ?ha ?hx ?hb); (case hx => with_reducible assumption); (case hb => tm_at "fn"); (case ha => tm_at "sm"))
  | ((with_reducible refine' Same.trans ?ha ?hx); (case hx => with_reducible assumption); (case ha => tm_at "sm"))
  | fail)
local macro_rules | `(tactic| tm_at "tk") => `(tactic| first
  | with_reducible assumption
  | with_reducible refine' Tk.refl
  | ((with_reducible refine' Tk.new ?ha ?hb); (case hb => with_reducible assumption); (case ha => tm_at "tk"))
  | ((with_reducible refine' Tk.setL ?ha ?hb); (case hb => tm_at "hs"); (case ha => tm_at "tk"))
  | ((with_reducible refine' Tk.setI ?ha ?hb); (case hb => tm_at "hs"); (case ha => tm_at "tk"))
  | ((with_reducible refine' Tk.trans ?ha (Bx.tk ?hx ?hb)); (case hx => with_reducible assumption); (case hb => tm_at "bx"); (case ha => tm_at "tk"))
  | ((with_reducible refine' Tk.trans ?ha (Kx.tk ?hx ?hb)); (case hx => with_reducible assumption); (case hb => tm_at "hs"); (case ha => tm_at "tk"))
  | ((with_reducible refine' Tk.trans ?ha (Same.tk ?hx)); (case hx => with_reducible assumption); (case ha => tm_at "tk"))
  | ((with_reducible refine' Tk.trans ?ha ?hx); (case hx => with_reducible assumption); (case ha => tm_at "tk"))
  | fail)
local macro_rules | `(tactic| tm_at "bx") => `(tactic| first
  | with_reducible assumption
  | ((with_reducible refine' Bx.box ?hx); (case hx => with_reducible assumption))
  | ((with_reducible refine' BoxAt.at ?ha ?hn); (case hn => tm_at "ne"); (case ha => tm_at "bx"))
  | ((with_reducible refine' BoxAt.same ?ha ?hs); (case hs => with_reducible assumption); (case ha => tm_at "bx"))
  | exact ⟨_, _, _, by tm_at "hs"⟩
  | fail)
section
variable {P : Program} {w : World} {K : PySem.W.Frag} {mg : Str → Option Value} {base : Heap} {aGround a0 a1 a2 a3 a4 a5 a6 a7 a8 a9 a10 a11 : Addr}
/-- isinstance of the errors by the errors' classes -/
def kitAll (K : PySem.W.Frag) (cs : List Addr) : Bool := (List.range 12).all fun i => (List.range 12).all fun j => decide (PySem.W.kitOne K (.ref (cs.getD i 0)) (.ref (cs.getD j 0)) = some (decide (j = i)))
def kitBase (K : PySem.W.Frag) (cs : List Addr) (g : Addr) : Bool := (List.range 12).all fun i => decide (PySem.W.kitOne K (.ref (cs.getD i 0)) (.ref g) = some true) && decide (PySem.W.kitOne K (.ref (cs.getD i 0)) (.type "ValueError") = some true)
theorem kitAll_at {cs : List Addr} (h : kitAll K cs = true) {i j : Nat} (hi : i < 12) (hj : j < 12) : PySem.W.kitOne K (.ref (cs.getD i 0)) (.ref (cs.getD j 0)) = some (decide (j = i)) :=
  of_decide_eq_true (List.all_eq_true.mp (List.all_eq_true.mp h i (List.mem_range.mpr hi)) j (List.mem_range.mpr hj))
theorem kitBase_at {cs : List Addr} {g : Addr} (h : kitBase K cs g = true) {i : Nat} (hi : i < 12) : PySem.W.kitOne K (.ref (cs.getD i 0)) (.ref g) = some true ∧ PySem.W.kitOne K (.ref (cs.getD i 0)) (.type "ValueError") = some true := by
  have z := List.all_eq_true.mp h i (List.mem_range.mpr hi)
  rw [Bool.and_eq_true] at z
  exact ⟨of_decide_eq_true z.1, of_decide_eq_true z.2⟩
def top (i : Nat) : Stmt := PySem.Challenge.pw_heldground_k01_errors.main.body.getD i (.Pass ⟨0, 0, 0, 0⟩)
abbrev s_law_box : Stmt := top 15
theorem sc_law_box : FnScope ["_law_script", "_law_k", "_law_own", "_law_cell", "_law_seed"] ["_law_script", "_law_k", "_law_own"] (defScope s_law_box) := ⟨rfl, rfl, rfl, by decide +kernel, rfl, by decide +kernel, by decide +kernel⟩
abbrev s_law_take : Stmt := top 16
theorem sc_law_take : FnScope ["_law_box_here", "_law_many", "_law_raw", "_law_wide", "_law_digit"] ["_law_box_here", "_law_many"] (defScope s_law_take) := ⟨rfl, rfl, rfl, by decide +kernel, rfl, by decide +kernel, by decide +kernel⟩
abbrev s_law_pick : Stmt := top 17
theorem sc_law_pick : FnScope ["_law_box_here", "_law_items"] ["_law_box_here", "_law_items"] (defScope s_law_pick) := ⟨rfl, rfl, rfl, by decide +kernel, rfl, by decide +kernel, by decide +kernel⟩
abbrev s_law_value : Stmt := top 18
theorem sc_law_value : FnScope ["_law_box_here"] ["_law_box_here"] (defScope s_law_value) := ⟨rfl, rfl, rfl, by decide +kernel, rfl, by decide +kernel, by decide +kernel⟩
abbrev s_law_sorts : Stmt := top 19
theorem sc_law_sorts : FnScope ["_law_one", "_law_found"] ["_law_one"] (defScope s_law_sorts) := ⟨rfl, rfl, rfl, by decide +kernel, rfl, by decide +kernel, by decide +kernel⟩
abbrev s_law_made : Stmt := top 20
theorem sc_law_made : FnScope ["_law_some", "_law_found"] ["_law_some"] (defScope s_law_made) := ⟨rfl, rfl, rfl, by decide +kernel, rfl, by decide +kernel, by decide +kernel⟩
abbrev s_law_named : Stmt := top 21
theorem sc_law_named : FnScope ["_law_some", "_law_found"] ["_law_some"] (defScope s_law_named) := ⟨rfl, rfl, rfl, by decide +kernel, rfl, by decide +kernel, by decide +kernel⟩
abbrev s_law_kept : Stmt := top 22
theorem sc_law_kept : FnScope ["_law_made_here", "_law_found"] ["_law_made_here"] (defScope s_law_kept) := ⟨rfl, rfl, rfl, by decide +kernel, rfl, by decide +kernel, by decide +kernel⟩
abbrev s_law : Stmt := top 23
theorem sc_law : FnScope ["_law_script", "_law_k", "_law_box_here", "_law_some", "_law_made_here", "_law_row", "_law_error", "_law_spot", "_law_one", "_law_turn", "_law_other"] ["_law_script"] (defScope s_law) := ⟨rfl, rfl, rfl, by decide +kernel, rfl, by decide +kernel, by decide +kernel⟩
abbrev s_InvalidNumbers__init : Stmt := inClass (top 2) 0
theorem sc_InvalidNumbers__init : FnScope ["self", "word"] ["self", "word"] (defScope s_InvalidNumbers__init) := ⟨rfl, rfl, rfl, by decide +kernel, rfl, by decide +kernel, by decide +kernel⟩
abbrev s_InvalidText__init : Stmt := inClass (top 3) 0
theorem sc_InvalidText__init : FnScope ["self", "at"] ["self", "at"] (defScope s_InvalidText__init) := ⟨rfl, rfl, rfl, by decide +kernel, rfl, by decide +kernel, by decide +kernel⟩
abbrev s_InvalidRow__init : Stmt := inClass (top 4) 0
theorem sc_InvalidRow__init : FnScope ["self", "part"] ["self", "part"] (defScope s_InvalidRow__init) := ⟨rfl, rfl, rfl, by decide +kernel, rfl, by decide +kernel, by decide +kernel⟩
abbrev s_InvalidChooser__init : Stmt := inClass (top 5) 0
theorem sc_InvalidChooser__init : FnScope ["self", "at"] ["self", "at"] (defScope s_InvalidChooser__init) := ⟨rfl, rfl, rfl, by decide +kernel, rfl, by decide +kernel, by decide +kernel⟩
abbrev s_InvalidHouse__init : Stmt := inClass (top 6) 0
theorem sc_InvalidHouse__init : FnScope ["self", "word"] ["self", "word"] (defScope s_InvalidHouse__init) := ⟨rfl, rfl, rfl, by decide +kernel, rfl, by decide +kernel, by decide +kernel⟩
abbrev s_InvalidTurn__init : Stmt := inClass (top 7) 0
theorem sc_InvalidTurn__init : FnScope ["self", "at"] ["self", "at"] (defScope s_InvalidTurn__init) := ⟨rfl, rfl, rfl, by decide +kernel, rfl, by decide +kernel, by decide +kernel⟩
abbrev s_NoNumber__init : Stmt := inClass (top 10) 0
theorem sc_NoNumber__init : FnScope ["self", "at"] ["self", "at"] (defScope s_NoNumber__init) := ⟨rfl, rfl, rfl, by decide +kernel, rfl, by decide +kernel, by decide +kernel⟩
abbrev s_NoRow__init : Stmt := inClass (top 11) 0
theorem sc_NoRow__init : FnScope ["self", "at"] ["self", "at"] (defScope s_NoRow__init) := ⟨rfl, rfl, rfl, by decide +kernel, rfl, by decide +kernel, by decide +kernel⟩
abbrev s_NoNote__init : Stmt := inClass (top 12) 0
theorem sc_NoNote__init : FnScope ["self", "name"] ["self", "name"] (defScope s_NoNote__init) := ⟨rfl, rfl, rfl, by decide +kernel, rfl, by decide +kernel, by decide +kernel⟩
abbrev s_InvalidWord__init : Stmt := inClass (top 8) 0
theorem sc_InvalidWord__init : FnScope ["self"] ["self"] (defScope s_InvalidWord__init) := ⟨rfl, rfl, rfl, by decide +kernel, rfl, by decide +kernel, by decide +kernel⟩
abbrev s_InvalidCommand__init : Stmt := inClass (top 9) 0
theorem sc_InvalidCommand__init : FnScope ["self"] ["self"] (defScope s_InvalidCommand__init) := ⟨rfl, rfl, rfl, by decide +kernel, rfl, by decide +kernel, by decide +kernel⟩
abbrev s_Mismatch__init : Stmt := inClass (top 13) 0
theorem sc_Mismatch__init : FnScope ["self"] ["self"] (defScope s_Mismatch__init) := ⟨rfl, rfl, rfl, by decide +kernel, rfl, by decide +kernel, by decide +kernel⟩
structure Txt (K : PySem.W.Frag) (mg : Str → Option Value) (aGround a0 a1 a2 a3 a4 a5 a6 a7 a8 a9 a10 a11 : Addr) : Prop where
  m_GroundError : mg "GroundError" = some (.ref aGround)
  b_GroundError : BaseInit K aGround
  m_InvalidNumbers : mg "InvalidNumbers" = some (.ref a0)
  m_InvalidText : mg "InvalidText" = some (.ref a1)
  m_InvalidRow : mg "InvalidRow" = some (.ref a2)
  m_InvalidChooser : mg "InvalidChooser" = some (.ref a3)
  m_InvalidHouse : mg "InvalidHouse" = some (.ref a4)
  m_InvalidTurn : mg "InvalidTurn" = some (.ref a5)
  m_NoNumber : mg "NoNumber" = some (.ref a6)
  m_NoRow : mg "NoRow" = some (.ref a7)
  m_NoNote : mg "NoNote" = some (.ref a8)
  m_InvalidWord : mg "InvalidWord" = some (.ref a9)
  m_InvalidCommand : mg "InvalidCommand" = some (.ref a10)
  m_Mismatch : mg "Mismatch" = some (.ref a11)
  o0 : OexC K a0
  x0 : XfC K a0
  f0 : PySem.W.findIn K (.ref a0) "word" = some none
  o1 : OexC K a1
  x1 : XfC K a1
  f1 : PySem.W.findIn K (.ref a1) "at" = some none
  o2 : OexC K a2
  x2 : XfC K a2
  f2 : PySem.W.findIn K (.ref a2) "part" = some none
  o3 : OexC K a3
  x3 : XfC K a3
  f3 : PySem.W.findIn K (.ref a3) "at" = some none
  o4 : OexC K a4
  x4 : XfC K a4
  f4 : PySem.W.findIn K (.ref a4) "word" = some none
  o5 : OexC K a5
  x5 : XfC K a5
  f5 : PySem.W.findIn K (.ref a5) "at" = some none
  o6 : OexC K a6
  x6 : XfC K a6
  f6 : PySem.W.findIn K (.ref a6) "at" = some none
  o7 : OexC K a7
  x7 : XfC K a7
  f7 : PySem.W.findIn K (.ref a7) "at" = some none
  o8 : OexC K a8
  x8 : XfC K a8
  f8 : PySem.W.findIn K (.ref a8) "name" = some none
  o9 : OexC K a9
  x9 : XfC K a9
  o10 : OexC K a10
  x10 : XfC K a10
  o11 : OexC K a11
  x11 : XfC K a11
  ec : ∀ i, i < 12 → ExcC K (List.getD [a0, a1, a2, a3, a4, a5, a6, a7, a8, a9, a10, a11] i 0)
  kit : kitAll K [a0, a1, a2, a3, a4, a5, a6, a7, a8, a9, a10, a11] = true
  kib : kitBase K [a0, a1, a2, a3, a4, a5, a6, a7, a8, a9, a10, a11] aGround = true
  n_int : mg "int" = none
  n_len : mg "len" = none
  n_abs : mg "abs" = none
  n_repr : mg "repr" = none
  n_range : mg "range" = none
  n_min : mg "min" = none
  n_max : mg "max" = none
  n_isinstance : mg "isinstance" = none
  n_enumerate : mg "enumerate" = none
  n_ValueError : mg "ValueError" = none
theorem divw {a m : Int} (h1 : 1 ≤ m) (h2 : m < 100000000000000000000) : CDivW a m := by
  refine ⟨by omega, ?_⟩
  have e : m.natAbs ≠ 0 := by omega
  refine (Nat.log2_lt e).mpr (Nat.lt_of_lt_of_le (m := 100000000000000000000) (by omega) ?_)
  exact Nat.le_trans (Nat.le_of_ble_eq_true (by decide +kernel) : 100000000000000000000 ≤ 2 ^ 100) (Nat.pow_le_pow_right (by decide) (by decide))
theorem ok_take (F : DefAt K mg "_law_take" s_law_take) (T : Txt K mg aGround a0 a1 a2 a3 a4 a5 a6 a7 a8 a9 a10 a11) : DefOk P w K mg base CX0 1 "_law_take" ["_law_box_here", "_law_many"] spTake := by
  refine F.ok sc_law_take (fun _ _ _ _ _ _ us hl => match us, hl with | [_, _], _ => rfl) (fun vs H Q E h => ?_) (fun f cdv A outer s H vs Q E hr h => ?_)
  · obtain ⟨b, m, rfl, _⟩ := h
    rfl
  · obtain ⟨b, m, rfl, ⟨x, y, z, hb⟩, m1, m2, k⟩ := h
    refine ⟨_, (pss_cons (ps_if (pt_cmpR o_gt (pe_ix (ix_u K) (pv 0) pe_int (fun _ _ => rfl)) pe_int (nomark _)) (pss_cons (ps_set (i := 4) sc_law_take.nd rfl (Or.inl rfl) (pe_op o_mod (pe_callTy c_int (by rfl) T.n_int (by decide +kernel) (pa_cons (pe_ix (ix_u K) (pv 0) pe_int (fun _ _ => rfl)) pa_nil)) (pv 1)))
  (pss_cons (ps_asg (pe_op o_div (pe_ix (ix_u K) (pv 0) pe_int (fun _ _ => rfl)) (pv 1)) (pg_sub (pv 0) pe_int set_list))
  (pss_one (ps_ret (pv 4)))))
  pss_nil)
  (pss_cons (ps_asg (pe_op (o_add K) (pe_ix (ix_u K) (pv 0) pe_int (fun _ _ => rfl)) pe_int) (pg_sub (pv 0) pe_int set_list))
  (pss_cons (ps_set (i := 2) sc_law_take.nd rfl (Or.inl rfl) (pe_op o_mod (pe_callTy c_int (by rfl) T.n_int (by decide +kernel) (pa_cons (pe_op o_mul (pe_op (o_add K) (pe_ix (ix_u K) (pv 0) pe_int (fun _ _ => rfl)) (pe_op o_mul pe_int (pe_ix (ix_u K) (pv 0) pe_int (fun _ _ => rfl)))) pe_int) pa_nil)) pe_int))
  (pss_cons (ps_asg (pe_op (o_add K) (pe_op o_mod (pe_callTy c_int (by rfl) T.n_int (by decide +kernel) (pa_cons (pe_op (o_add K) (pe_op o_mul (pv 2) pe_int) pe_int) pa_nil)) pe_int) pe_int) (pg_sub (pv 0) pe_int set_list))
  (pss_cons (ps_if (pt_cmpR o_lt (pv 1) (pe_op o_pow pe_int pe_int) (nomark _)) (pss_one (ps_ret (pe_op o_mod (pe_callTy c_int (by rfl) T.n_int (by decide +kernel) (pa_cons (pe_op o_div (pe_op (o_add K) (pe_op o_mul (pv 2) pe_int) (pe_ix (ix_u K) (pv 0) pe_int (fun _ _ => rfl))) pe_int) pa_nil)) (pv 1))))
  pss_nil)
  (pss_cons (ps_set (i := 3) sc_law_take.nd rfl (Or.inl rfl) (pe_op o_mul (pe_op (o_add K) (pe_op o_mul (pv 2) pe_int) (pe_ix (ix_u K) (pv 0) pe_int (fun _ _ => rfl))) (pe_op o_pow pe_int pe_int)))
  (pss_one (ps_ret (pe_op o_mod (pe_callTy c_int (by rfl) T.n_int (by decide +kernel) (pa_cons (pe_op (o_add K) (pe_op (o_add K) (pv 3) (pe_op o_mul (pe_op o_pow (pe_ix (ix_u K) (pv 0) pe_int (fun _ _ => rfl)) pe_int) pe_int)) (pv 2)) pa_nil)) (pv 1)))))))))), ?_⟩
    tm_at "go"
    refine r_id (fun h0 => ?_) (fun h0 => ?_)
    · tm_at "go"
      refine r_mod (by omega) ?_
      tm_at "go"
      refine r_divW (divw m1 m2) ?_
      tm_at "go"
      exact k _ _ (Int.emod_nonneg _ (by omega)) (Int.emod_lt_of_pos _ (by omega)) ((Bx.refl ⟨_, _, _, hb⟩).set _ _ _)
    · tm_at "go"
      have b1 : ∀ x : Int, 0 ≤ x % 2147483629 + 1 ∧ x % 2147483629 + 1 < 2 ^ 31 := fun x => by
        have := Int.emod_nonneg x (b := 2147483629) (by decide)
        have := Int.emod_lt_of_pos x (b := 2147483629) (by decide)
        omega
      have b2 : ∀ x : Int, 0 ≤ x % 2147483647 ∧ x % 2147483647 < 2 ^ 31 := fun x => by
        have := Int.emod_nonneg x (b := 2147483647) (by decide)
        have := Int.emod_lt_of_pos x (b := 2147483647) (by decide)
        omega
      refine r_id (fun _ => ?_) (fun _ => ?_)
      · tm_at "go"
        refine r_div (by decide) (by decide) ?_
        tm_at "go"
        refine r_mod (by omega) ?_
        tm_at "go"
        exact k _ _ (Int.emod_nonneg _ (by omega)) (Int.emod_lt_of_pos _ (by omega)) (((Bx.refl ⟨_, _, _, hb⟩).set _ _ _).set _ _ _)
      · tm_at "go"
        have c2 := b2 ((y + 104729 * (z + 1)) * 69623)
        have c1 := b1 ((y + 104729 * (z + 1)) * 69623 % 2147483647 * 48271 + 30103)
        generalize (y + 104729 * (z + 1)) * 69623 % 2147483647 = raw at c1 c2 ⊢
        generalize (raw * 48271 + 30103) % 2147483629 + 1 = seed at c1 ⊢
        refine r_mul (cmulL ⟨by omega, by omega⟩) ?_
        tm_at "go"
        refine r_pow ⟨by decide, by decide, by omega⟩ ?_
        tm_at "go"
        refine r_mod (by omega) ?_
        tm_at "go"
        exact k _ _ (Int.emod_nonneg _ (by omega)) (Int.emod_lt_of_pos _ (by omega)) (((Bx.refl ⟨_, _, _, hb⟩).set _ _ _).set _ _ _)
theorem ok_pick (F : DefAt K mg "_law_pick" s_law_pick) (T : Txt K mg aGround a0 a1 a2 a3 a4 a5 a6 a7 a8 a9 a10 a11) (D_law_take : DefOk P w K mg base CX0 1 "_law_take" ["_law_box_here", "_law_many"] spTake) :
    DefOk P w K mg base CX0 2 "_law_pick" ["_law_box_here", "_law_items"] (spPick K) := by
  refine F.ok sc_law_pick (fun _ _ _ _ _ _ us hl => match us, hl with | [_, _], _ => rfl) (fun vs H Q E h => ?_) (fun f cdv A outer s H vs Q E hr h => ?_)
  · obtain ⟨b, l, xs, rfl, _⟩ := h
    rfl
  · obtain ⟨b, l, xs, rfl, hb, hl, nl, m1, m2, k⟩ := h
    refine ⟨_, (pss_one (ps_ret (pe_ix (ix_u K) (pv 1) (pe_callD D_law_take (hr.mono (by decide)) pass0 rfl (pa_cons (pv 0) (pa_cons (pe_callB (c_len K) (by rfl) T.n_len (by decide +kernel) (pa_cons (pv 1) pa_nil)) pa_nil))) (fun _ _ => rfl)))), ?_⟩
    have fin : ∀ (d : Int) (H' : Hp), 0 ≤ d → d < (xs.length : Nat) → Bx b H H' → rIx K (.ref l) (.int d) H' Q := fun d H' h0 h1 hx => by
      obtain ⟨j, rfl⟩ : ∃ j : Nat, d = j := ⟨d.toNat, by omega⟩
      have hj : j < xs.length := by omega
      have e : xs[j]? = some xs[j] := List.getElem?_eq_getElem hj
      rcases hl with hl | hl
      · exact r_ixL (Bx.seqL hx nl hl) (atI_nat e) (k _ _ (List.getElem_mem hj) hx)
      · exact r_ixT (Bx.seqT hx nl hl) (atI_nat e) (k _ _ (List.getElem_mem hj) hx)
    tm_at "go"
    have ln : ∀ {Q' : VK}, Q' (.int (xs.length : Nat)) H → uLen K [.ref l] H Q' := fun q => by
      rcases hl with hl | hl
      · exact r_lenL hl q
      · exact r_lenT hl q
    refine ln ?_
    tm_at "go"
    exact ⟨b, _, rfl, hb, by omega, by omega, fin⟩
theorem ok_box (F : DefAt K mg "_law_box" s_law_box) (T : Txt K mg aGround a0 a1 a2 a3 a4 a5 a6 a7 a8 a9 a10 a11) : DefOk P w K mg base CX0 1 "_law_box" ["_law_script", "_law_k", "_law_own"] (spBox K) := by
  refine F.ok sc_law_box (fun _ _ _ _ _ _ us hl => match us, hl with | [_, _, _], _ => rfl) (fun vs H Q E h => ?_) (fun f cdv A outer s H vs Q E hr h => ?_)
  · obtain ⟨a, ns, k, c, rfl, _⟩ := h
    rfl
  · obtain ⟨a, ns, k, c, rfl, hS, k0, k1, c0, c1, nl, q⟩ := h
    refine ⟨_, (pss_cons (ps_set (i := 3) sc_law_box.nd rfl (Or.inl rfl) (pe_op (o_add K) (pe_op (o_add K) (pe_op o_mul pe_int (pv 1)) (pe_op o_mul pe_int (pv 2))) pe_int))
  (pss_cons (ps_if (pt_cmpR o_lt (pv 1) (pe_callB (c_len K) (by rfl) T.n_len (by decide +kernel) (pa_cons (pv 0) pa_nil)) (nomark _)) (pss_one (ps_set (i := 3) sc_law_box.nd rfl (Or.inl rfl) (pe_callB c_abs (by rfl) T.n_abs (by decide +kernel) (pa_cons (pe_ix (ix_u K) (pv 0) (pv 1) (fun _ _ => rfl)) pa_nil))))
  (pss_one (ps_if (pt_cmpR o_gt (pe_callB (c_len K) (by rfl) T.n_len (by decide +kernel) (pa_cons (pv 0) pa_nil)) pe_int (nomark _)) (pss_one (ps_set (i := 3) sc_law_box.nd rfl (Or.inl rfl) (pe_op (o_add K) (pv 3) (pe_op o_mul (pe_op o_mod (pe_callTy c_int (by rfl) T.n_int (by decide +kernel) (pa_cons (pe_callB c_abs (by rfl) T.n_abs (by decide +kernel) (pa_cons (pe_ix (ix_u K) (pv 0) (pe_op o_mod (pe_callTy c_int (by rfl) T.n_int (by decide +kernel) (pa_cons (pv 1) pa_nil)) (pe_callB (c_len K) (by rfl) T.n_len (by decide +kernel) (pa_cons (pv 0) pa_nil))) (fun _ _ => rfl)) pa_nil)) pa_nil)) pe_int) pe_int))))
  pss_nil)))
  (pss_cons (ps_set (i := 4) sc_law_box.nd rfl (Or.inl rfl) (pe_op (o_add K) (pe_op o_mod (pe_callTy c_int (by rfl) T.n_int (by decide +kernel) (pa_cons (pe_op (o_add K) (pe_op o_mul (pe_op o_mod (pe_callTy c_int (by rfl) T.n_int (by decide +kernel) (pa_cons (pv 3) pa_nil)) pe_int) pe_int) (pe_op o_mul pe_int (pe_op (o_add K) (pv 1) (pe_op o_mul pe_int (pv 2))))) pa_nil)) pe_int) pe_int))
  (pss_one (ps_ret (pe_lst (pa_cons (pe_ix (ix_u K) (pe_lst (pa_cons pe_int (pa_cons (pv 3) pa_nil))) (pe_callTy c_int (by rfl) T.n_int (by decide +kernel) (pa_cons (pe_cmpR o_ge (pv 3) (pe_op o_pow pe_int pe_int) (nomark _)) pa_nil)) (fun _ _ => rfl)) (pa_cons (pv 4) (pa_cons pe_int pa_nil))))))))), ?_⟩
    have at_ : ∀ j : Nat, j < ns.length → ∃ n : Int, atI (ns.map V.int) (j : Int) = some (.int n) := fun j hj => ⟨ns[j], atI_nat (by simp [hj])⟩
    obtain ⟨j, rfl⟩ : ∃ j : Nat, k = j := ⟨k.toNat, by omega⟩
    tm_at "go"
    have done : ∀ (cell v seed : Int) (p p2 : Addr), H p = none → upd H p (.lst [.int 0, .int cell]) p2 = none →
        Q (.ref p2) (upd (upd H p (.lst [.int 0, .int cell])) p2 (.lst [.int v, .int seed, .int 0])) := fun cell v seed p p2 hp h2 => by
      obtain ⟨f2, _⟩ := free_upd h2
      refine q p2 _ f2 ⟨fun x o n e => ?_, v, seed, 0, upd_same⟩
      exact at_upd n (at_upd (ne_of_none e hp) e)
    have ix : ∀ (cell : Int) (p : Addr) (Q1 : VK), (∀ v : Int, Q1 (.int v) (upd H p (.lst [.int 0, .int cell]))) →
        rIx K (.ref p) (.int (if decide (10 ^ Int.toNat 18 ≤ cell) then 1 else 0)) (upd H p (.lst [.int 0, .int cell])) Q1 := fun cell p Q1 k => by
      refine r_ixL (v := .int (if decide (10 ^ Int.toNat 18 ≤ cell) then cell else 0)) (SqL.of upd_same) ?_ (k _)
      split <;> rfl
    have lenE : (List.map V.int ns).length = ns.length := List.length_map ..
    refine r_id (fun h0 => ?_) (fun h0 => ?_)
    · obtain ⟨n, hn⟩ := at_ j (by omega)
      tm_at "go"
      refine r_ixL hS hn ?_
      tm_at "go"
      refine ⟨szl rfl, fun p hp => ?_⟩
      tm_at "go"
      refine ix _ p _ fun v => ?_
      tm_at "go"
      exact ⟨szl rfl, fun p2 h2 => done _ _ _ _ _ hp h2⟩
    · tm_at "go"
      refine r_id (fun h1 => ?_) (fun h1 => ?_)
      · have hj : j % ns.length < ns.length := Nat.mod_lt _ (by omega)
        obtain ⟨n, hn⟩ := at_ _ hj
        tm_at "go"
        refine r_mod (by omega) ?_
        refine r_ixL hS (by rw [lenE, ← Int.natCast_emod]; exact hn) ?_
        tm_at "go"
        refine ⟨szl rfl, fun p hp => ?_⟩
        tm_at "go"
        refine ix _ p _ fun v => ?_
        tm_at "go"
        exact ⟨szl rfl, fun p2 h2 => done _ _ _ _ _ hp h2⟩
      · tm_at "go"
        refine ⟨szl rfl, fun p hp => ?_⟩
        tm_at "go"
        refine ix _ p _ fun v => ?_
        tm_at "go"
        exact ⟨szl rfl, fun p2 h2 => done _ _ _ _ _ hp h2⟩
/-- an error of the class C that keeps v under f -/
def FE (H : Hp) (x C : Addr) (f : Str) (v : V) : Prop := ∃ dd, H x = some (exo x C (some dd)) ∧ H dd = some (exd dd [(f, v)])
theorem FE.mono {H H' : Hp} {x C : Addr} {f : Str} {v : V} (e : Same H H') (h : FE H x C f v) : FE H' x C f v := by
  obtain ⟨dd, h1, h2⟩ := h
  exact ⟨dd, e _ _ h1, e _ _ h2⟩
/-- an error of the class C, with or without a field -/
def AE (H : Hp) (x C : Addr) : Prop := H x = some (exo x C none) ∨ ∃ dd fs, H x = some (exo x C (some dd)) ∧ H dd = some (exd dd fs)
theorem AE.mono {H H' : Hp} {x C : Addr} (e : Same H H') (h : AE H x C) : AE H' x C := h.imp (fun z => e _ _ z) fun ⟨dd, fs, h1, h2⟩ => ⟨dd, fs, e _ _ h1, e _ _ h2⟩
theorem FE.ae {H : Hp} {x C : Addr} {f : Str} {v : V} (h : FE H x C f v) : AE H x C := let ⟨dd, h1, h2⟩ := h; .inr ⟨dd, _, h1, h2⟩
def NE (H : Hp) (x C : Addr) : Prop := H x = some (exo x C none)
theorem r_mkF1 {H : Hp} {R : Addr → Hp → Prop} {C : Addr} {f : Str} {v : V} (T : OexC K C) (hf : PySem.W.findIn K (.ref C) f = some none) (k : ∀ a H', Same H H' → H a = none → FE H' a C f v → R a H') :
    ([v] : List V).length ≤ 1000 ∧ ∀ a, H a = none → spInitF K C f [.ref a, v] (upd H a (exo a C none)) (fun u H2 => u = .non ∧ R a H2) (fun _ _ _ => False) :=
  ⟨by show 1 ≤ 1000; decide, fun a ha => ⟨a, v, rfl, T, hf, upd_same, fun dx hdx ne => ⟨rfl, k a _ (by
    have hd : H dx = none := by rw [upd_ne ne] at hdx; exact hdx
    have e : upd (upd (upd H a (exo a C none)) dx (exd dx [(f, v)])) a (exo a C (some dx)) = upd (upd H dx (exd dx [(f, v)])) a (exo a C (some dx)) := by
      funext b
      by_cases h1 : b = a
      · subst h1; rw [upd_same, upd_same]
      · rw [upd_ne h1, upd_ne h1]
        by_cases h2 : b = dx
        · subst h2; rw [upd_same, upd_same]
        · rw [upd_ne h2, upd_ne h2, upd_ne h1]
    rw [e]
    exact Same.new (same_new hd) (by rw [upd_ne (Ne.symm ne)]; exact ha)) ha ⟨dx, upd_same, by rw [upd_ne ne, upd_same]⟩⟩⟩⟩
theorem r_mkF0 {H : Hp} {R : Addr → Hp → Prop} {C : Addr} (T : OexC K C) (k : ∀ a H', Same H H' → H a = none → NE H' a C → R a H') :
    ([] : List V).length ≤ 1000 ∧ ∀ a, H a = none → spInitN K C [.ref a] (upd H a (exo a C none)) (fun u H2 => u = .non ∧ R a H2) (fun _ _ _ => False) :=
  ⟨Nat.zero_le _, fun a ha => ⟨a, rfl, T, upd_same, rfl, k a _ (same_new ha) ha upd_same⟩⟩
theorem tyL {K : PySem.W.Frag} {H : Hp} {p : Addr} {xs : List V} (h : H p = some (.lst xs)) : tyV K "list" (.ref p) H := .inl ⟨rfl, xs, SqL.of h⟩
theorem new_lst {H : Hp} {D : Addr} {xs : List V} {R : Hp → Prop} (hD : H D = none) (k : ∀ G, Same H G → G D = some (.lst xs) → R G) : R (upd H D (.lst xs)) := k _ (same_new hD) upd_same
theorem exo_lst {H : Hp} {x C D : Addr} {d : Option Addr} {xs : List V} {o : HO} (h : H x = some (exo x C d)) (hl : H D = some (.lst xs)) : upd H D o x = some (exo x C d) := at_upd (ne_kind h hl fun z => nomatch z) h
theorem exd_lst {H : Hp} {x D : Addr} {fs : List (Str × V)} {xs : List V} {o : HO} (h : H x = some (exd x fs)) (hl : H D = some (.lst xs)) : upd H D o x = some (exd x fs) := at_upd (ne_kind h hl fun z => nomatch z) h
theorem FE.lst {H : Hp} {x C D : Addr} {f : Str} {v : V} {xs : List V} {o : HO} (h : FE H x C f v) (hl : H D = some (.lst xs)) : FE (upd H D o) x C f v := by
  obtain ⟨dd, h1, h2⟩ := h
  exact ⟨dd, exo_lst h1 hl, exd_lst h2 hl⟩
theorem AE.lst {H : Hp} {x C D : Addr} {xs : List V} {o : HO} (h : AE H x C) (hl : H D = some (.lst xs)) : AE (upd H D o) x C := h.imp (fun z => exo_lst z hl) fun ⟨dd, fs, h1, h2⟩ => ⟨dd, fs, exo_lst h1 hl, exd_lst h2 hl⟩
theorem NE.mono {H H' : Hp} {x C : Addr} (e : Same H H') (h : NE H x C) : NE H' x C := e _ _ h
theorem NE.lst {H : Hp} {x C D : Addr} {xs : List V} {o : HO} (h : NE H x C) (hl : H D = some (.lst xs)) : NE (upd H D o) x C := exo_lst h hl
theorem r_isV {H : Hp} {Q : VK} {cs : List Addr} (ec : ∀ i, i < 12 → ExcC K (cs.getD i 0)) (kit : kitAll K cs = true) {x a : Addr} {i : Nat} (hi : i < 12) (hx : AE H x (cs.getD i 0)) (j : Nat) (hj : j < 12) (ha : cs.getD j 0 = a) (k : Q (.bl (decide (j = i))) H) : rIsV K [.ref x, .ref a] H Q := by
  subst ha
  exact ⟨x, _, _, _, _, rfl, ec i hi, hx, fun u r => r, kitAll_at kit hi hj, k⟩
theorem r_exF {H : Hp} {R : V → Prop} {x C : Addr} {f : Str} {v : V} (h : FE H x C f v) (T : XfC K C) (hf : PySem.W.findIn K (.ref C) f = some none) (k : R v) : ∃ (a C dd : Addr) (fs : List (Str × V)) (u : V), V.ref x = .ref a ∧ XfC K C ∧ PySem.W.findIn K (.ref C) f = some none ∧ H a = some (exo a C (some dd)) ∧ H dd = some (exd dd fs) ∧ fs.lookup f = some u ∧ R u := by
  obtain ⟨dd, h1, h2⟩ := h
  refine ⟨x, C, dd, _, v, rfl, T, hf, h1, h2, ?_, k⟩
  rw [List.lookup_cons]
  simp
theorem ok_InvalidNumbers (F : ErrAt K mg "InvalidNumbers" "InvalidNumbers.__init__" s_InvalidNumbers__init a0) (T : Txt K mg aGround a0 a1 a2 a3 a4 a5 a6 a7 a8 a9 a10 a11) : ErrOk P w K mg base 1 "InvalidNumbers" a0 ["self", "word"] (spInitF K a0 "word") ∧ ErrKOk P w K mg base 1 "InvalidNumbers" a0 ["self", "word"] ["word"] (spInitF K a0 "word") := by
  refine F.okB sc_InvalidNumbers__init (fun _ _ _ _ _ _ us hl => match us, hl with | [_, _], _ => rfl) ["word"] (fun _ _ _ _ _ _ us ws hu hw => match us, ws, hu, hw with | [_], [_], _, _ => rfl) (fun vs H Q E h => ?_) (fun f cdv A outer s H vs Q E hr h => ?_)
  · obtain ⟨a, x, rfl, _⟩ := h
    rfl
  · obtain ⟨a, x, rfl, oc, hno, ha, k⟩ := h
    refine ⟨_, (pss_cons (ps_expr (pe_ginit rfl T.m_GroundError T.b_GroundError (pa_cons (pv 0) (pa_cons pe_str pa_nil))))
  (pss_one (ps_ost (pv 0) (pv 1)))), ?_⟩
    tm_at "go"
    refine ⟨a, a0, _, rfl, Nat.le_of_ble_eq_true rfl, oc, ha, ?_⟩
    refine ⟨x, rfl, .ref a, rfl, a, a0, rfl, oc, hno, .inl ⟨ha, fun dx h1 h2 => ?_⟩⟩
    exact k dx h1 h2
theorem ok_InvalidText (F : ErrAt K mg "InvalidText" "InvalidText.__init__" s_InvalidText__init a1) (T : Txt K mg aGround a0 a1 a2 a3 a4 a5 a6 a7 a8 a9 a10 a11) : ErrOk P w K mg base 1 "InvalidText" a1 ["self", "at"] (spInitF K a1 "at") ∧ ErrKOk P w K mg base 1 "InvalidText" a1 ["self", "at"] ["at"] (spInitF K a1 "at") := by
  refine F.okB sc_InvalidText__init (fun _ _ _ _ _ _ us hl => match us, hl with | [_, _], _ => rfl) ["at"] (fun _ _ _ _ _ _ us ws hu hw => match us, ws, hu, hw with | [_], [_], _, _ => rfl) (fun vs H Q E h => ?_) (fun f cdv A outer s H vs Q E hr h => ?_)
  · obtain ⟨a, x, rfl, _⟩ := h
    rfl
  · obtain ⟨a, x, rfl, oc, hno, ha, k⟩ := h
    refine ⟨_, (pss_cons (ps_expr (pe_ginit rfl T.m_GroundError T.b_GroundError (pa_cons (pv 0) (pa_cons pe_str pa_nil))))
  (pss_one (ps_ost (pv 0) (pv 1)))), ?_⟩
    tm_at "go"
    refine ⟨a, a1, _, rfl, Nat.le_of_ble_eq_true rfl, oc, ha, ?_⟩
    refine ⟨x, rfl, .ref a, rfl, a, a1, rfl, oc, hno, .inl ⟨ha, fun dx h1 h2 => ?_⟩⟩
    exact k dx h1 h2
theorem ok_InvalidRow (F : ErrAt K mg "InvalidRow" "InvalidRow.__init__" s_InvalidRow__init a2) (T : Txt K mg aGround a0 a1 a2 a3 a4 a5 a6 a7 a8 a9 a10 a11) : ErrOk P w K mg base 1 "InvalidRow" a2 ["self", "part"] (spInitF K a2 "part") ∧ ErrKOk P w K mg base 1 "InvalidRow" a2 ["self", "part"] ["part"] (spInitF K a2 "part") := by
  refine F.okB sc_InvalidRow__init (fun _ _ _ _ _ _ us hl => match us, hl with | [_, _], _ => rfl) ["part"] (fun _ _ _ _ _ _ us ws hu hw => match us, ws, hu, hw with | [_], [_], _, _ => rfl) (fun vs H Q E h => ?_) (fun f cdv A outer s H vs Q E hr h => ?_)
  · obtain ⟨a, x, rfl, _⟩ := h
    rfl
  · obtain ⟨a, x, rfl, oc, hno, ha, k⟩ := h
    refine ⟨_, (pss_cons (ps_expr (pe_ginit rfl T.m_GroundError T.b_GroundError (pa_cons (pv 0) (pa_cons pe_str pa_nil))))
  (pss_one (ps_ost (pv 0) (pv 1)))), ?_⟩
    tm_at "go"
    refine ⟨a, a2, _, rfl, Nat.le_of_ble_eq_true rfl, oc, ha, ?_⟩
    refine ⟨x, rfl, .ref a, rfl, a, a2, rfl, oc, hno, .inl ⟨ha, fun dx h1 h2 => ?_⟩⟩
    exact k dx h1 h2
theorem ok_InvalidChooser (F : ErrAt K mg "InvalidChooser" "InvalidChooser.__init__" s_InvalidChooser__init a3) (T : Txt K mg aGround a0 a1 a2 a3 a4 a5 a6 a7 a8 a9 a10 a11) : ErrOk P w K mg base 1 "InvalidChooser" a3 ["self", "at"] (spInitF K a3 "at") ∧ ErrKOk P w K mg base 1 "InvalidChooser" a3 ["self", "at"] ["at"] (spInitF K a3 "at") := by
  refine F.okB sc_InvalidChooser__init (fun _ _ _ _ _ _ us hl => match us, hl with | [_, _], _ => rfl) ["at"] (fun _ _ _ _ _ _ us ws hu hw => match us, ws, hu, hw with | [_], [_], _, _ => rfl) (fun vs H Q E h => ?_) (fun f cdv A outer s H vs Q E hr h => ?_)
  · obtain ⟨a, x, rfl, _⟩ := h
    rfl
  · obtain ⟨a, x, rfl, oc, hno, ha, k⟩ := h
    refine ⟨_, (pss_cons (ps_expr (pe_ginit rfl T.m_GroundError T.b_GroundError (pa_cons (pv 0) (pa_cons pe_str pa_nil))))
  (pss_one (ps_ost (pv 0) (pv 1)))), ?_⟩
    tm_at "go"
    refine ⟨a, a3, _, rfl, Nat.le_of_ble_eq_true rfl, oc, ha, ?_⟩
    refine ⟨x, rfl, .ref a, rfl, a, a3, rfl, oc, hno, .inl ⟨ha, fun dx h1 h2 => ?_⟩⟩
    exact k dx h1 h2
theorem ok_InvalidHouse (F : ErrAt K mg "InvalidHouse" "InvalidHouse.__init__" s_InvalidHouse__init a4) (T : Txt K mg aGround a0 a1 a2 a3 a4 a5 a6 a7 a8 a9 a10 a11) : ErrOk P w K mg base 1 "InvalidHouse" a4 ["self", "word"] (spInitF K a4 "word") ∧ ErrKOk P w K mg base 1 "InvalidHouse" a4 ["self", "word"] ["word"] (spInitF K a4 "word") := by
  refine F.okB sc_InvalidHouse__init (fun _ _ _ _ _ _ us hl => match us, hl with | [_, _], _ => rfl) ["word"] (fun _ _ _ _ _ _ us ws hu hw => match us, ws, hu, hw with | [_], [_], _, _ => rfl) (fun vs H Q E h => ?_) (fun f cdv A outer s H vs Q E hr h => ?_)
  · obtain ⟨a, x, rfl, _⟩ := h
    rfl
  · obtain ⟨a, x, rfl, oc, hno, ha, k⟩ := h
    refine ⟨_, (pss_cons (ps_expr (pe_ginit rfl T.m_GroundError T.b_GroundError (pa_cons (pv 0) (pa_cons pe_str pa_nil))))
  (pss_one (ps_ost (pv 0) (pv 1)))), ?_⟩
    tm_at "go"
    refine ⟨a, a4, _, rfl, Nat.le_of_ble_eq_true rfl, oc, ha, ?_⟩
    refine ⟨x, rfl, .ref a, rfl, a, a4, rfl, oc, hno, .inl ⟨ha, fun dx h1 h2 => ?_⟩⟩
    exact k dx h1 h2
theorem ok_InvalidTurn (F : ErrAt K mg "InvalidTurn" "InvalidTurn.__init__" s_InvalidTurn__init a5) (T : Txt K mg aGround a0 a1 a2 a3 a4 a5 a6 a7 a8 a9 a10 a11) : ErrOk P w K mg base 1 "InvalidTurn" a5 ["self", "at"] (spInitF K a5 "at") ∧ ErrKOk P w K mg base 1 "InvalidTurn" a5 ["self", "at"] ["at"] (spInitF K a5 "at") := by
  refine F.okB sc_InvalidTurn__init (fun _ _ _ _ _ _ us hl => match us, hl with | [_, _], _ => rfl) ["at"] (fun _ _ _ _ _ _ us ws hu hw => match us, ws, hu, hw with | [_], [_], _, _ => rfl) (fun vs H Q E h => ?_) (fun f cdv A outer s H vs Q E hr h => ?_)
  · obtain ⟨a, x, rfl, _⟩ := h
    rfl
  · obtain ⟨a, x, rfl, oc, hno, ha, k⟩ := h
    refine ⟨_, (pss_cons (ps_expr (pe_ginit rfl T.m_GroundError T.b_GroundError (pa_cons (pv 0) (pa_cons pe_str pa_nil))))
  (pss_one (ps_ost (pv 0) (pv 1)))), ?_⟩
    tm_at "go"
    refine ⟨a, a5, _, rfl, Nat.le_of_ble_eq_true rfl, oc, ha, ?_⟩
    refine ⟨x, rfl, .ref a, rfl, a, a5, rfl, oc, hno, .inl ⟨ha, fun dx h1 h2 => ?_⟩⟩
    exact k dx h1 h2
theorem ok_NoNumber (F : ErrAt K mg "NoNumber" "NoNumber.__init__" s_NoNumber__init a6) (T : Txt K mg aGround a0 a1 a2 a3 a4 a5 a6 a7 a8 a9 a10 a11) : ErrOk P w K mg base 1 "NoNumber" a6 ["self", "at"] (spInitF K a6 "at") ∧ ErrKOk P w K mg base 1 "NoNumber" a6 ["self", "at"] ["at"] (spInitF K a6 "at") := by
  refine F.okB sc_NoNumber__init (fun _ _ _ _ _ _ us hl => match us, hl with | [_, _], _ => rfl) ["at"] (fun _ _ _ _ _ _ us ws hu hw => match us, ws, hu, hw with | [_], [_], _, _ => rfl) (fun vs H Q E h => ?_) (fun f cdv A outer s H vs Q E hr h => ?_)
  · obtain ⟨a, x, rfl, _⟩ := h
    rfl
  · obtain ⟨a, x, rfl, oc, hno, ha, k⟩ := h
    refine ⟨_, (pss_cons (ps_expr (pe_ginit rfl T.m_GroundError T.b_GroundError (pa_cons (pv 0) (pa_cons pe_str pa_nil))))
  (pss_one (ps_ost (pv 0) (pv 1)))), ?_⟩
    tm_at "go"
    refine ⟨a, a6, _, rfl, Nat.le_of_ble_eq_true rfl, oc, ha, ?_⟩
    refine ⟨x, rfl, .ref a, rfl, a, a6, rfl, oc, hno, .inl ⟨ha, fun dx h1 h2 => ?_⟩⟩
    exact k dx h1 h2
theorem ok_NoRow (F : ErrAt K mg "NoRow" "NoRow.__init__" s_NoRow__init a7) (T : Txt K mg aGround a0 a1 a2 a3 a4 a5 a6 a7 a8 a9 a10 a11) : ErrOk P w K mg base 1 "NoRow" a7 ["self", "at"] (spInitF K a7 "at") ∧ ErrKOk P w K mg base 1 "NoRow" a7 ["self", "at"] ["at"] (spInitF K a7 "at") := by
  refine F.okB sc_NoRow__init (fun _ _ _ _ _ _ us hl => match us, hl with | [_, _], _ => rfl) ["at"] (fun _ _ _ _ _ _ us ws hu hw => match us, ws, hu, hw with | [_], [_], _, _ => rfl) (fun vs H Q E h => ?_) (fun f cdv A outer s H vs Q E hr h => ?_)
  · obtain ⟨a, x, rfl, _⟩ := h
    rfl
  · obtain ⟨a, x, rfl, oc, hno, ha, k⟩ := h
    refine ⟨_, (pss_cons (ps_expr (pe_ginit rfl T.m_GroundError T.b_GroundError (pa_cons (pv 0) (pa_cons pe_str pa_nil))))
  (pss_one (ps_ost (pv 0) (pv 1)))), ?_⟩
    tm_at "go"
    refine ⟨a, a7, _, rfl, Nat.le_of_ble_eq_true rfl, oc, ha, ?_⟩
    refine ⟨x, rfl, .ref a, rfl, a, a7, rfl, oc, hno, .inl ⟨ha, fun dx h1 h2 => ?_⟩⟩
    exact k dx h1 h2
theorem ok_NoNote (F : ErrAt K mg "NoNote" "NoNote.__init__" s_NoNote__init a8) (T : Txt K mg aGround a0 a1 a2 a3 a4 a5 a6 a7 a8 a9 a10 a11) : ErrOk P w K mg base 1 "NoNote" a8 ["self", "name"] (spInitF K a8 "name") ∧ ErrKOk P w K mg base 1 "NoNote" a8 ["self", "name"] ["name"] (spInitF K a8 "name") := by
  refine F.okB sc_NoNote__init (fun _ _ _ _ _ _ us hl => match us, hl with | [_, _], _ => rfl) ["name"] (fun _ _ _ _ _ _ us ws hu hw => match us, ws, hu, hw with | [_], [_], _, _ => rfl) (fun vs H Q E h => ?_) (fun f cdv A outer s H vs Q E hr h => ?_)
  · obtain ⟨a, x, rfl, _⟩ := h
    rfl
  · obtain ⟨a, x, rfl, oc, hno, ha, k⟩ := h
    refine ⟨_, (pss_cons (ps_expr (pe_ginit rfl T.m_GroundError T.b_GroundError (pa_cons (pv 0) (pa_cons pe_str pa_nil))))
  (pss_one (ps_ost (pv 0) (pv 1)))), ?_⟩
    tm_at "go"
    refine ⟨a, a8, _, rfl, Nat.le_of_ble_eq_true rfl, oc, ha, ?_⟩
    refine ⟨x, rfl, .ref a, rfl, a, a8, rfl, oc, hno, .inl ⟨ha, fun dx h1 h2 => ?_⟩⟩
    exact k dx h1 h2
theorem ok_InvalidWord (F : ErrAt K mg "InvalidWord" "InvalidWord.__init__" s_InvalidWord__init a9) (T : Txt K mg aGround a0 a1 a2 a3 a4 a5 a6 a7 a8 a9 a10 a11) : ErrOk P w K mg base 1 "InvalidWord" a9 ["self"] (spInitN K a9) := by
  refine F.ok sc_InvalidWord__init (fun _ _ _ _ _ _ us hl => match us, hl with | [_], _ => rfl) (fun vs H Q E h => ?_) (fun f cdv A outer s H vs Q E hr h => ?_)
  · obtain ⟨a, rfl, _⟩ := h
    rfl
  · obtain ⟨a, rfl, oc, ha, k⟩ := h
    refine ⟨_, (pss_one (ps_expr (pe_ginit rfl T.m_GroundError T.b_GroundError (pa_cons (pv 0) (pa_cons pe_str pa_nil))))), ?_⟩
    tm_at "go"
    exact ⟨a, a9, _, rfl, Nat.le_of_ble_eq_true rfl, oc, ha, k⟩
theorem ok_InvalidCommand (F : ErrAt K mg "InvalidCommand" "InvalidCommand.__init__" s_InvalidCommand__init a10) (T : Txt K mg aGround a0 a1 a2 a3 a4 a5 a6 a7 a8 a9 a10 a11) : ErrOk P w K mg base 1 "InvalidCommand" a10 ["self"] (spInitN K a10) := by
  refine F.ok sc_InvalidCommand__init (fun _ _ _ _ _ _ us hl => match us, hl with | [_], _ => rfl) (fun vs H Q E h => ?_) (fun f cdv A outer s H vs Q E hr h => ?_)
  · obtain ⟨a, rfl, _⟩ := h
    rfl
  · obtain ⟨a, rfl, oc, ha, k⟩ := h
    refine ⟨_, (pss_one (ps_expr (pe_ginit rfl T.m_GroundError T.b_GroundError (pa_cons (pv 0) (pa_cons pe_str pa_nil))))), ?_⟩
    tm_at "go"
    exact ⟨a, a10, _, rfl, Nat.le_of_ble_eq_true rfl, oc, ha, k⟩
theorem ok_Mismatch (F : ErrAt K mg "Mismatch" "Mismatch.__init__" s_Mismatch__init a11) (T : Txt K mg aGround a0 a1 a2 a3 a4 a5 a6 a7 a8 a9 a10 a11) : ErrOk P w K mg base 1 "Mismatch" a11 ["self"] (spInitN K a11) := by
  refine F.ok sc_Mismatch__init (fun _ _ _ _ _ _ us hl => match us, hl with | [_], _ => rfl) (fun vs H Q E h => ?_) (fun f cdv A outer s H vs Q E hr h => ?_)
  · obtain ⟨a, rfl, _⟩ := h
    rfl
  · obtain ⟨a, rfl, oc, ha, k⟩ := h
    refine ⟨_, (pss_one (ps_expr (pe_ginit rfl T.m_GroundError T.b_GroundError (pa_cons (pv 0) (pa_cons pe_str pa_nil))))), ?_⟩
    tm_at "go"
    exact ⟨a, a11, _, rfl, Nat.le_of_ble_eq_true rfl, oc, ha, k⟩
def Nine (H : Hp) ( x0 x1 x2 x3 x4 x5 x6 x7 x8 a0 a1 a2 a3 a4 a5 a6 a7 a8 : Addr) (v0 v1 v2 v3 v4 v5 v6 v7 v8 : V) : Prop := FE H x0 a0 "word" v0 ∧ FE H x1 a1 "at" v1 ∧ FE H x2 a2 "part" v2 ∧ FE H x3 a3 "at" v3 ∧ FE H x4 a4 "word" v4 ∧ FE H x5 a5 "at" v5 ∧ FE H x6 a6 "at" v6 ∧ FE H x7 a7 "at" v7 ∧ FE H x8 a8 "name" v8
theorem Nine.mono {H H' : Hp} {x0 x1 x2 x3 x4 x5 x6 x7 x8 a0 a1 a2 a3 a4 a5 a6 a7 a8 : Addr} {v0 v1 v2 v3 v4 v5 v6 v7 v8 : V} (e : Same H H') (h : Nine H x0 x1 x2 x3 x4 x5 x6 x7 x8 a0 a1 a2 a3 a4 a5 a6 a7 a8 v0 v1 v2 v3 v4 v5 v6 v7 v8) : Nine H' x0 x1 x2 x3 x4 x5 x6 x7 x8 a0 a1 a2 a3 a4 a5 a6 a7 a8 v0 v1 v2 v3 v4 v5 v6 v7 v8 := by
  obtain ⟨h0, h1, h2, h3, h4, h5, h6, h7, h8⟩ := h
  exact ⟨h0.mono e, h1.mono e, h2.mono e, h3.mono e, h4.mono e, h5.mono e, h6.mono e, h7.mono e, h8.mono e⟩
def spMade (a0 a1 a2 a3 a4 a5 a6 a7 a8 a9 a10 a11 : Addr) : Sp := fun vs H Q _ => ∃ (l : Addr) (v0 v1 v2 v3 v4 v5 v6 v7 v8 : V), vs = [.ref l] ∧ H l = some (.lst [v0, v1, v2, v3, v4, v5, v6, v7, v8]) ∧ ∀ (D x0 x1 x2 x3 x4 x5 x6 x7 x8 x9 x10 x11 : Addr) (H' : Hp), Same H H' → H' D = some (.lst [.ref x0, .ref x1, .ref x2, .ref x3, .ref x4, .ref x5, .ref x6, .ref x7, .ref x8, .ref x9, .ref x10, .ref x11]) → Nine H' x0 x1 x2 x3 x4 x5 x6 x7 x8 a0 a1 a2 a3 a4 a5 a6 a7 a8 v0 v1 v2 v3 v4 v5 v6 v7 v8 → NE H' x9 a9 → NE H' x10 a10 → NE H' x11 a11 → Q (.ref D) H' 
def spNamed (a0 a1 a2 a3 a4 a5 a6 a7 a8 : Addr) : Sp := fun vs H Q _ => ∃ (l : Addr) (v0 v1 v2 v3 v4 v5 v6 v7 v8 : V), vs = [.ref l] ∧ H l = some (.lst [v0, v1, v2, v3, v4, v5, v6, v7, v8]) ∧ ∀ (D x0 x1 x2 x3 x4 x5 x6 x7 x8 : Addr) (H' : Hp), Same H H' → H' D = some (.lst [.ref x0, .ref x1, .ref x2, .ref x3, .ref x4, .ref x5, .ref x6, .ref x7, .ref x8]) → Nine H' x0 x1 x2 x3 x4 x5 x6 x7 x8 a0 a1 a2 a3 a4 a5 a6 a7 a8 v0 v1 v2 v3 v4 v5 v6 v7 v8 → Q (.ref D) H' 
def spKept (a0 a1 a2 a3 a4 a5 a6 a7 a8 : Addr) : Sp := fun vs H Q _ => ∃ (l x0 x1 x2 x3 x4 x5 x6 x7 x8 : Addr) (xs : List V) (v0 v1 v2 v3 v4 v5 v6 v7 v8 : V), vs = [.ref l] ∧ H l = some (.lst ([.ref x0, .ref x1, .ref x2, .ref x3, .ref x4, .ref x5, .ref x6, .ref x7, .ref x8] ++ xs)) ∧ Nine H x0 x1 x2 x3 x4 x5 x6 x7 x8 a0 a1 a2 a3 a4 a5 a6 a7 a8 v0 v1 v2 v3 v4 v5 v6 v7 v8 ∧ ∀ (D : Addr) (H' : Hp), Same H H' → H' D = some (.lst [v0, v1, v2, v3, v4, v5, v6, v7, v8]) → Q (.ref D) H' 
def spSorts (cs : List Addr) : Sp := fun vs H Q _ => ∃ (x : Addr) (i : Nat), vs = [.ref x] ∧ i < 12 ∧ AE H x (cs.getD i 0) ∧ ∀ (D : Addr) (H' : Hp), Same H H' → H' D = some (.lst (((List.range 12).map fun j => decide (j = i)).map V.bl)) → Q (.ref D) H'
section
variable {K : PySem.W.Frag}

theorem ok_sorts (F : DefAt K mg "_law_sorts" s_law_sorts) (T : Txt K mg aGround a0 a1 a2 a3 a4 a5 a6 a7 a8 a9 a10 a11) : DefOk P w K mg base CX0 1 "_law_sorts" ["_law_one"] (spSorts [a0, a1, a2, a3, a4, a5, a6, a7, a8, a9, a10, a11]) := by
  refine F.ok sc_law_sorts (fun _ _ _ _ _ _ us hl => match us, hl with | [_], _ => rfl) (fun vs H Q E h => ?_) (fun f cdv A outer s H vs Q E hr h => ?_)
  · obtain ⟨x, i, rfl, _⟩ := h
    rfl
  · obtain ⟨x, i, rfl, hi, hx, k⟩ := h
    refine ⟨_, (pss_cons (ps_set (i := 1) sc_law_sorts.nd rfl (Or.inl rfl) (pe_lst (pa_cons (pe_callB (c_isV K) (by rfl) T.n_isinstance (by decide +kernel) (pa_cons (pv 0) (pa_cons (pe_gR rfl T.m_InvalidNumbers) pa_nil))) (pa_cons (pe_callB (c_isV K) (by rfl) T.n_isinstance (by decide +kernel) (pa_cons (pv 0) (pa_cons (pe_gR rfl T.m_InvalidText) pa_nil))) (pa_cons (pe_callB (c_isV K) (by rfl) T.n_isinstance (by decide +kernel) (pa_cons (pv 0) (pa_cons (pe_gR rfl T.m_InvalidRow) pa_nil))) pa_nil)))))
  (pss_cons (ps_expr (pe_bm PySem.F.plainAttrs_list PySem.F.slot_list_extend PySem.F.type_list_extend mt_extend (pv 1) (pa_cons (pe_lst (pa_cons (pe_callB (c_isV K) (by rfl) T.n_isinstance (by decide +kernel) (pa_cons (pv 0) (pa_cons (pe_gR rfl T.m_InvalidChooser) pa_nil))) (pa_cons (pe_callB (c_isV K) (by rfl) T.n_isinstance (by decide +kernel) (pa_cons (pv 0) (pa_cons (pe_gR rfl T.m_InvalidHouse) pa_nil))) (pa_cons (pe_callB (c_isV K) (by rfl) T.n_isinstance (by decide +kernel) (pa_cons (pv 0) (pa_cons (pe_gR rfl T.m_InvalidTurn) pa_nil))) pa_nil)))) pa_nil)))
  (pss_cons (ps_expr (pe_bm PySem.F.plainAttrs_list PySem.F.slot_list_extend PySem.F.type_list_extend mt_extend (pv 1) (pa_cons (pe_lst (pa_cons (pe_callB (c_isV K) (by rfl) T.n_isinstance (by decide +kernel) (pa_cons (pv 0) (pa_cons (pe_gR rfl T.m_NoNumber) pa_nil))) (pa_cons (pe_callB (c_isV K) (by rfl) T.n_isinstance (by decide +kernel) (pa_cons (pv 0) (pa_cons (pe_gR rfl T.m_NoRow) pa_nil))) (pa_cons (pe_callB (c_isV K) (by rfl) T.n_isinstance (by decide +kernel) (pa_cons (pv 0) (pa_cons (pe_gR rfl T.m_NoNote) pa_nil))) pa_nil)))) pa_nil)))
  (pss_one (ps_ret (pe_op (o_add K) (pv 1) (pe_lst (pa_cons (pe_callB (c_isV K) (by rfl) T.n_isinstance (by decide +kernel) (pa_cons (pv 0) (pa_cons (pe_gR rfl T.m_InvalidWord) pa_nil))) (pa_cons (pe_callB (c_isV K) (by rfl) T.n_isinstance (by decide +kernel) (pa_cons (pv 0) (pa_cons (pe_gR rfl T.m_InvalidCommand) pa_nil))) (pa_cons (pe_callB (c_isV K) (by rfl) T.n_isinstance (by decide +kernel) (pa_cons (pv 0) (pa_cons (pe_gR rfl T.m_Mismatch) pa_nil))) pa_nil)))))))))), ?_⟩
    tm_at "go"
    refine r_isV T.ec T.kit hi hx 0 (by decide) rfl ?_
    tm_at "go"
    refine r_isV T.ec T.kit hi hx 1 (by decide) rfl ?_
    tm_at "go"
    refine r_isV T.ec T.kit hi hx 2 (by decide) rfl ?_
    tm_at "go"
    refine ⟨szl rfl, fun D hD => ?_⟩
    have hD0 : H D = Option.none := hD
    have sn := same_new hD (o := .lst [.bl (decide (0 = i)), .bl (decide (1 = i)), .bl (decide (2 = i))])
    have hl : upd H D (.lst [.bl (decide (0 = i)), .bl (decide (1 = i)), .bl (decide (2 = i))]) D = some (.lst [.bl (decide (0 = i)), .bl (decide (1 = i)), .bl (decide (2 = i))]) := upd_same
    generalize upd H D (.lst [.bl (decide (0 = i)), .bl (decide (1 = i)), .bl (decide (2 = i))]) = G0 at sn hl ⊢
    replace hx := hx.mono sn
    have smA := sn
    clear sn
    tm_at "go"
    refine ⟨tyL hl, ?_⟩
    tm_at "go"
    refine r_isV T.ec T.kit hi hx 3 (by decide) rfl ?_
    tm_at "go"
    refine r_isV T.ec T.kit hi hx 4 (by decide) rfl ?_
    tm_at "go"
    refine r_isV T.ec T.kit hi hx 5 (by decide) rfl ?_
    tm_at "go"
    refine ⟨szl rfl, fun q hq => ?_⟩
    have sn := same_new hq (o := .lst [.bl (decide (3 = i)), .bl (decide (4 = i)), .bl (decide (5 = i))])
    have hlq : upd G0 q (.lst [.bl (decide (3 = i)), .bl (decide (4 = i)), .bl (decide (5 = i))]) q = some (.lst [.bl (decide (3 = i)), .bl (decide (4 = i)), .bl (decide (5 = i))]) := upd_same
    generalize upd G0 q (.lst [.bl (decide (3 = i)), .bl (decide (4 = i)), .bl (decide (5 = i))]) = G1 at sn hlq ⊢
    replace hx := hx.mono sn
    replace hl := sn _ _ hl
    replace smA := smA.trans sn
    clear sn
    clear hq
    tm_at "go"
    refine ⟨D, q, _, _, rfl, rfl, hl, hlq, szl rfl, ?_⟩
    clear hlq
    replace hx := hx.lst (o := .lst [.bl (decide (0 = i)), .bl (decide (1 = i)), .bl (decide (2 = i)), .bl (decide (3 = i)), .bl (decide (4 = i)), .bl (decide (5 = i))]) hl
    replace smA := Same.updF (o := .lst [.bl (decide (0 = i)), .bl (decide (1 = i)), .bl (decide (2 = i)), .bl (decide (3 = i)), .bl (decide (4 = i)), .bl (decide (5 = i))]) smA hD0
    replace hl : upd G1 D (.lst [.bl (decide (0 = i)), .bl (decide (1 = i)), .bl (decide (2 = i)), .bl (decide (3 = i)), .bl (decide (4 = i)), .bl (decide (5 = i))]) D = some (.lst [.bl (decide (0 = i)), .bl (decide (1 = i)), .bl (decide (2 = i)), .bl (decide (3 = i)), .bl (decide (4 = i)), .bl (decide (5 = i))]) := upd_same
    simp only [List.cons_append, List.nil_append]
    generalize upd G1 D (.lst [.bl (decide (0 = i)), .bl (decide (1 = i)), .bl (decide (2 = i)), .bl (decide (3 = i)), .bl (decide (4 = i)), .bl (decide (5 = i))]) = U1 at hl smA hx ⊢
    tm_at "go"
    refine ⟨tyL hl, ?_⟩
    tm_at "go"
    refine r_isV T.ec T.kit hi hx 6 (by decide) rfl ?_
    tm_at "go"
    refine r_isV T.ec T.kit hi hx 7 (by decide) rfl ?_
    tm_at "go"
    refine r_isV T.ec T.kit hi hx 8 (by decide) rfl ?_
    tm_at "go"
    refine ⟨szl rfl, fun q hq => ?_⟩
    have sn := same_new hq (o := .lst [.bl (decide (6 = i)), .bl (decide (7 = i)), .bl (decide (8 = i))])
    have hlq : upd U1 q (.lst [.bl (decide (6 = i)), .bl (decide (7 = i)), .bl (decide (8 = i))]) q = some (.lst [.bl (decide (6 = i)), .bl (decide (7 = i)), .bl (decide (8 = i))]) := upd_same
    generalize upd U1 q (.lst [.bl (decide (6 = i)), .bl (decide (7 = i)), .bl (decide (8 = i))]) = G2 at sn hlq ⊢
    replace hx := hx.mono sn
    replace hl := sn _ _ hl
    replace smA := smA.trans sn
    clear sn
    clear hq
    tm_at "go"
    refine ⟨D, q, _, _, rfl, rfl, hl, hlq, szl rfl, ?_⟩
    clear hlq
    replace hx := hx.lst (o := .lst [.bl (decide (0 = i)), .bl (decide (1 = i)), .bl (decide (2 = i)), .bl (decide (3 = i)), .bl (decide (4 = i)), .bl (decide (5 = i)), .bl (decide (6 = i)), .bl (decide (7 = i)), .bl (decide (8 = i))]) hl
    replace smA := Same.updF (o := .lst [.bl (decide (0 = i)), .bl (decide (1 = i)), .bl (decide (2 = i)), .bl (decide (3 = i)), .bl (decide (4 = i)), .bl (decide (5 = i)), .bl (decide (6 = i)), .bl (decide (7 = i)), .bl (decide (8 = i))]) smA hD0
    replace hl : upd G2 D (.lst [.bl (decide (0 = i)), .bl (decide (1 = i)), .bl (decide (2 = i)), .bl (decide (3 = i)), .bl (decide (4 = i)), .bl (decide (5 = i)), .bl (decide (6 = i)), .bl (decide (7 = i)), .bl (decide (8 = i))]) D = some (.lst [.bl (decide (0 = i)), .bl (decide (1 = i)), .bl (decide (2 = i)), .bl (decide (3 = i)), .bl (decide (4 = i)), .bl (decide (5 = i)), .bl (decide (6 = i)), .bl (decide (7 = i)), .bl (decide (8 = i))]) := upd_same
    simp only [List.cons_append, List.nil_append]
    generalize upd G2 D (.lst [.bl (decide (0 = i)), .bl (decide (1 = i)), .bl (decide (2 = i)), .bl (decide (3 = i)), .bl (decide (4 = i)), .bl (decide (5 = i)), .bl (decide (6 = i)), .bl (decide (7 = i)), .bl (decide (8 = i))]) = U2 at hl smA hx ⊢
    tm_at "go"
    refine r_isV T.ec T.kit hi hx 9 (by decide) rfl ?_
    tm_at "go"
    refine r_isV T.ec T.kit hi hx 10 (by decide) rfl ?_
    tm_at "go"
    refine r_isV T.ec T.kit hi hx 11 (by decide) rfl ?_
    tm_at "go"
    refine ⟨szl rfl, fun q hq => ?_⟩
    have sn := same_new hq (o := .lst [.bl (decide (9 = i)), .bl (decide (10 = i)), .bl (decide (11 = i))])
    have hlq : upd U2 q (.lst [.bl (decide (9 = i)), .bl (decide (10 = i)), .bl (decide (11 = i))]) q = some (.lst [.bl (decide (9 = i)), .bl (decide (10 = i)), .bl (decide (11 = i))]) := upd_same
    generalize upd U2 q (.lst [.bl (decide (9 = i)), .bl (decide (10 = i)), .bl (decide (11 = i))]) = G3 at sn hlq ⊢
    replace hx := hx.mono sn
    replace hl := sn _ _ hl
    replace smA := smA.trans sn
    clear sn
    clear hq
    tm_at "go"
    refine r_addL hl hlq (szl rfl) fun p hp => ?_
    have sn := same_new hp (o := .lst [.bl (decide (0 = i)), .bl (decide (1 = i)), .bl (decide (2 = i)), .bl (decide (3 = i)), .bl (decide (4 = i)), .bl (decide (5 = i)), .bl (decide (6 = i)), .bl (decide (7 = i)), .bl (decide (8 = i)), .bl (decide (9 = i)), .bl (decide (10 = i)), .bl (decide (11 = i))])
    replace hx := hx.mono sn
    exact k p _ (smA.trans sn) upd_same
theorem ok_made (F : DefAt K mg "_law_made" s_law_made) (T : Txt K mg aGround a0 a1 a2 a3 a4 a5 a6 a7 a8 a9 a10 a11) (R_InvalidNumbers : ErrOk P w K mg base 1 "InvalidNumbers" a0 ["self", "word"] (spInitF K a0 "word")) (R_InvalidText : ErrOk P w K mg base 1 "InvalidText" a1 ["self", "at"] (spInitF K a1 "at")) (R_InvalidRow : ErrOk P w K mg base 1 "InvalidRow" a2 ["self", "part"] (spInitF K a2 "part")) (R_InvalidChooser : ErrOk P w K mg base 1 "InvalidChooser" a3 ["self", "at"] (spInitF K a3 "at")) (R_InvalidHouse : ErrOk P w K mg base 1 "InvalidHouse" a4 ["self", "word"] (spInitF K a4 "word")) (R_InvalidTurn : ErrOk P w K mg base 1 "InvalidTurn" a5 ["self", "at"] (spInitF K a5 "at")) (R_NoNumber : ErrOk P w K mg base 1 "NoNumber" a6 ["self", "at"] (spInitF K a6 "at")) (R_NoRow : ErrOk P w K mg base 1 "NoRow" a7 ["self", "at"] (spInitF K a7 "at")) (R_NoNote : ErrOk P w K mg base 1 "NoNote" a8 ["self", "name"] (spInitF K a8 "name")) (R_InvalidWord : ErrOk P w K mg base 1 "InvalidWord" a9 ["self"] (spInitN K a9)) (R_InvalidCommand : ErrOk P w K mg base 1 "InvalidCommand" a10 ["self"] (spInitN K a10)) (R_Mismatch : ErrOk P w K mg base 1 "Mismatch" a11 ["self"] (spInitN K a11)) : DefOk P w K mg base CX0 3 "_law_made" ["_law_some"] (spMade a0 a1 a2 a3 a4 a5 a6 a7 a8 a9 a10 a11) := by
  refine F.ok sc_law_made (fun _ _ _ _ _ _ us hl => match us, hl with | [_], _ => rfl) (fun vs H Q E h => ?_) (fun f cdv A outer s H vs Q E hr h => ?_)
  · obtain ⟨l, v0, v1, v2, v3, v4, v5, v6, v7, v8, rfl, _⟩ := h
    rfl
  · obtain ⟨l, v0, v1, v2, v3, v4, v5, v6, v7, v8, rfl, hls, k⟩ := h
    refine ⟨_, (pss_cons (ps_set (i := 1) sc_law_made.nd rfl (Or.inl rfl) (pe_lst (pa_cons (pe_mkV R_InvalidNumbers (hr.mono (by decide)) rfl (pa_cons (pe_ix (ix_u K) (pv 0) pe_int (fun _ _ => rfl)) pa_nil)) (pa_cons (pe_mkV R_InvalidText (hr.mono (by decide)) rfl (pa_cons (pe_ix (ix_u K) (pv 0) pe_int (fun _ _ => rfl)) pa_nil)) (pa_cons (pe_mkV R_InvalidRow (hr.mono (by decide)) rfl (pa_cons (pe_ix (ix_u K) (pv 0) pe_int (fun _ _ => rfl)) pa_nil)) (pa_cons (pe_mkV R_InvalidChooser (hr.mono (by decide)) rfl (pa_cons (pe_ix (ix_u K) (pv 0) pe_int (fun _ _ => rfl)) pa_nil)) pa_nil))))))
  (pss_cons (ps_expr (pe_bm PySem.F.plainAttrs_list PySem.F.slot_list_extend PySem.F.type_list_extend mt_extend (pv 1) (pa_cons (pe_lst (pa_cons (pe_mkV R_InvalidHouse (hr.mono (by decide)) rfl (pa_cons (pe_ix (ix_u K) (pv 0) pe_int (fun _ _ => rfl)) pa_nil)) (pa_cons (pe_mkV R_InvalidTurn (hr.mono (by decide)) rfl (pa_cons (pe_ix (ix_u K) (pv 0) pe_int (fun _ _ => rfl)) pa_nil)) (pa_cons (pe_mkV R_NoNumber (hr.mono (by decide)) rfl (pa_cons (pe_ix (ix_u K) (pv 0) pe_int (fun _ _ => rfl)) pa_nil)) (pa_cons (pe_mkV R_NoRow (hr.mono (by decide)) rfl (pa_cons (pe_ix (ix_u K) (pv 0) pe_int (fun _ _ => rfl)) pa_nil)) (pa_cons (pe_mkV R_NoNote (hr.mono (by decide)) rfl (pa_cons (pe_ix (ix_u K) (pv 0) pe_int (fun _ _ => rfl)) pa_nil)) pa_nil)))))) pa_nil)))
  (pss_one (ps_ret (pe_op (o_add K) (pv 1) (pe_lst (pa_cons (pe_mkV0 R_InvalidWord (hr.mono (by decide)) rfl) (pa_cons (pe_mkV0 R_InvalidCommand (hr.mono (by decide)) rfl) (pa_cons (pe_mkV0 R_Mismatch (hr.mono (by decide)) rfl) pa_nil))))))))), ?_⟩
    tm_at "go"
    refine r_mkV1 ?_
    tm_at "go"
    refine r_mkF1 T.o0 T.f0 fun x0 E0 sn _ e0 => ?_
    replace hls := sn _ _ hls
    have smA := sn
    clear sn
    tm_at "go"
    refine r_mkV1 ?_
    tm_at "go"
    refine r_mkF1 T.o1 T.f1 fun x1 E1 sn _ e1 => ?_
    replace e0 := e0.mono sn
    replace hls := sn _ _ hls
    replace smA := smA.trans sn
    clear sn
    tm_at "go"
    refine r_mkV1 ?_
    tm_at "go"
    refine r_mkF1 T.o2 T.f2 fun x2 E2 sn _ e2 => ?_
    replace e0 := e0.mono sn
    replace e1 := e1.mono sn
    replace hls := sn _ _ hls
    replace smA := smA.trans sn
    clear sn
    tm_at "go"
    refine r_mkV1 ?_
    tm_at "go"
    refine r_mkF1 T.o3 T.f3 fun x3 E3 sn _ e3 => ?_
    replace e0 := e0.mono sn
    replace e1 := e1.mono sn
    replace e2 := e2.mono sn
    replace hls := sn _ _ hls
    replace smA := smA.trans sn
    clear sn
    tm_at "go"
    refine ⟨szl rfl, fun D hD => ?_⟩
    have hD0 : H D = Option.none := Same.free smA hD
    have nlD := ne_of_none hls hD
    have sn := same_new hD (o := .lst [.ref x0, .ref x1, .ref x2, .ref x3])
    have hl : upd E3 D (.lst [.ref x0, .ref x1, .ref x2, .ref x3]) D = some (.lst [.ref x0, .ref x1, .ref x2, .ref x3]) := upd_same
    generalize upd E3 D (.lst [.ref x0, .ref x1, .ref x2, .ref x3]) = G0 at sn hl ⊢
    replace e0 := e0.mono sn
    replace e1 := e1.mono sn
    replace e2 := e2.mono sn
    replace e3 := e3.mono sn
    replace hls := sn _ _ hls
    replace smA := smA.trans sn
    clear sn
    tm_at "go"
    refine ⟨tyL hl, ?_⟩
    tm_at "go"
    refine r_mkV1 ?_
    tm_at "go"
    refine r_mkF1 T.o4 T.f4 fun x4 E4 sn _ e4 => ?_
    replace e0 := e0.mono sn
    replace e1 := e1.mono sn
    replace e2 := e2.mono sn
    replace e3 := e3.mono sn
    replace hls := sn _ _ hls
    replace hl := sn _ _ hl
    replace smA := smA.trans sn
    clear sn
    tm_at "go"
    refine r_mkV1 ?_
    tm_at "go"
    refine r_mkF1 T.o5 T.f5 fun x5 E5 sn _ e5 => ?_
    replace e0 := e0.mono sn
    replace e1 := e1.mono sn
    replace e2 := e2.mono sn
    replace e3 := e3.mono sn
    replace e4 := e4.mono sn
    replace hls := sn _ _ hls
    replace hl := sn _ _ hl
    replace smA := smA.trans sn
    clear sn
    tm_at "go"
    refine r_mkV1 ?_
    tm_at "go"
    refine r_mkF1 T.o6 T.f6 fun x6 E6 sn _ e6 => ?_
    replace e0 := e0.mono sn
    replace e1 := e1.mono sn
    replace e2 := e2.mono sn
    replace e3 := e3.mono sn
    replace e4 := e4.mono sn
    replace e5 := e5.mono sn
    replace hls := sn _ _ hls
    replace hl := sn _ _ hl
    replace smA := smA.trans sn
    clear sn
    tm_at "go"
    refine r_mkV1 ?_
    tm_at "go"
    refine r_mkF1 T.o7 T.f7 fun x7 E7 sn _ e7 => ?_
    replace e0 := e0.mono sn
    replace e1 := e1.mono sn
    replace e2 := e2.mono sn
    replace e3 := e3.mono sn
    replace e4 := e4.mono sn
    replace e5 := e5.mono sn
    replace e6 := e6.mono sn
    replace hls := sn _ _ hls
    replace hl := sn _ _ hl
    replace smA := smA.trans sn
    clear sn
    tm_at "go"
    refine r_mkV1 ?_
    tm_at "go"
    refine r_mkF1 T.o8 T.f8 fun x8 E8 sn _ e8 => ?_
    replace e0 := e0.mono sn
    replace e1 := e1.mono sn
    replace e2 := e2.mono sn
    replace e3 := e3.mono sn
    replace e4 := e4.mono sn
    replace e5 := e5.mono sn
    replace e6 := e6.mono sn
    replace e7 := e7.mono sn
    replace hls := sn _ _ hls
    replace hl := sn _ _ hl
    replace smA := smA.trans sn
    clear sn
    tm_at "go"
    refine ⟨szl rfl, fun q hq => ?_⟩
    have sn := same_new hq (o := .lst [.ref x4, .ref x5, .ref x6, .ref x7, .ref x8])
    have hlq : upd E8 q (.lst [.ref x4, .ref x5, .ref x6, .ref x7, .ref x8]) q = some (.lst [.ref x4, .ref x5, .ref x6, .ref x7, .ref x8]) := upd_same
    generalize upd E8 q (.lst [.ref x4, .ref x5, .ref x6, .ref x7, .ref x8]) = G1 at sn hlq ⊢
    replace e0 := e0.mono sn
    replace e1 := e1.mono sn
    replace e2 := e2.mono sn
    replace e3 := e3.mono sn
    replace e4 := e4.mono sn
    replace e5 := e5.mono sn
    replace e6 := e6.mono sn
    replace e7 := e7.mono sn
    replace e8 := e8.mono sn
    replace hls := sn _ _ hls
    replace hl := sn _ _ hl
    replace smA := smA.trans sn
    clear sn
    clear hq
    tm_at "go"
    refine ⟨D, q, _, _, rfl, rfl, hl, hlq, szl rfl, ?_⟩
    clear hlq
    replace e0 := e0.lst (o := .lst [.ref x0, .ref x1, .ref x2, .ref x3, .ref x4, .ref x5, .ref x6, .ref x7, .ref x8]) hl
    replace e1 := e1.lst (o := .lst [.ref x0, .ref x1, .ref x2, .ref x3, .ref x4, .ref x5, .ref x6, .ref x7, .ref x8]) hl
    replace e2 := e2.lst (o := .lst [.ref x0, .ref x1, .ref x2, .ref x3, .ref x4, .ref x5, .ref x6, .ref x7, .ref x8]) hl
    replace e3 := e3.lst (o := .lst [.ref x0, .ref x1, .ref x2, .ref x3, .ref x4, .ref x5, .ref x6, .ref x7, .ref x8]) hl
    replace e4 := e4.lst (o := .lst [.ref x0, .ref x1, .ref x2, .ref x3, .ref x4, .ref x5, .ref x6, .ref x7, .ref x8]) hl
    replace e5 := e5.lst (o := .lst [.ref x0, .ref x1, .ref x2, .ref x3, .ref x4, .ref x5, .ref x6, .ref x7, .ref x8]) hl
    replace e6 := e6.lst (o := .lst [.ref x0, .ref x1, .ref x2, .ref x3, .ref x4, .ref x5, .ref x6, .ref x7, .ref x8]) hl
    replace e7 := e7.lst (o := .lst [.ref x0, .ref x1, .ref x2, .ref x3, .ref x4, .ref x5, .ref x6, .ref x7, .ref x8]) hl
    replace e8 := e8.lst (o := .lst [.ref x0, .ref x1, .ref x2, .ref x3, .ref x4, .ref x5, .ref x6, .ref x7, .ref x8]) hl
    replace hls := at_upd (u := .lst [.ref x0, .ref x1, .ref x2, .ref x3, .ref x4, .ref x5, .ref x6, .ref x7, .ref x8]) nlD hls
    replace smA := Same.updF (o := .lst [.ref x0, .ref x1, .ref x2, .ref x3, .ref x4, .ref x5, .ref x6, .ref x7, .ref x8]) smA hD0
    replace hl : upd G1 D (.lst [.ref x0, .ref x1, .ref x2, .ref x3, .ref x4, .ref x5, .ref x6, .ref x7, .ref x8]) D = some (.lst [.ref x0, .ref x1, .ref x2, .ref x3, .ref x4, .ref x5, .ref x6, .ref x7, .ref x8]) := upd_same
    simp only [List.cons_append, List.nil_append]
    generalize upd G1 D (.lst [.ref x0, .ref x1, .ref x2, .ref x3, .ref x4, .ref x5, .ref x6, .ref x7, .ref x8]) = U1 at hl smA e0 e1 e2 e3 e4 e5 e6 e7 e8 hls ⊢
    tm_at "go"
    refine r_mkV1 ?_
    tm_at "go"
    refine r_mkF0 T.o9 fun x9 E9 sn _ e9 => ?_
    replace e0 := e0.mono sn
    replace e1 := e1.mono sn
    replace e2 := e2.mono sn
    replace e3 := e3.mono sn
    replace e4 := e4.mono sn
    replace e5 := e5.mono sn
    replace e6 := e6.mono sn
    replace e7 := e7.mono sn
    replace e8 := e8.mono sn
    replace hls := sn _ _ hls
    replace hl := sn _ _ hl
    replace smA := smA.trans sn
    clear sn
    tm_at "go"
    refine r_mkV1 ?_
    tm_at "go"
    refine r_mkF0 T.o10 fun x10 E10 sn _ e10 => ?_
    replace e0 := e0.mono sn
    replace e1 := e1.mono sn
    replace e2 := e2.mono sn
    replace e3 := e3.mono sn
    replace e4 := e4.mono sn
    replace e5 := e5.mono sn
    replace e6 := e6.mono sn
    replace e7 := e7.mono sn
    replace e8 := e8.mono sn
    replace e9 := e9.mono sn
    replace hls := sn _ _ hls
    replace hl := sn _ _ hl
    replace smA := smA.trans sn
    clear sn
    tm_at "go"
    refine r_mkV1 ?_
    tm_at "go"
    refine r_mkF0 T.o11 fun x11 E11 sn _ e11 => ?_
    replace e0 := e0.mono sn
    replace e1 := e1.mono sn
    replace e2 := e2.mono sn
    replace e3 := e3.mono sn
    replace e4 := e4.mono sn
    replace e5 := e5.mono sn
    replace e6 := e6.mono sn
    replace e7 := e7.mono sn
    replace e8 := e8.mono sn
    replace e9 := e9.mono sn
    replace e10 := e10.mono sn
    replace hls := sn _ _ hls
    replace hl := sn _ _ hl
    replace smA := smA.trans sn
    clear sn
    tm_at "go"
    refine ⟨szl rfl, fun q hq => ?_⟩
    have sn := same_new hq (o := .lst [.ref x9, .ref x10, .ref x11])
    have hlq : upd E11 q (.lst [.ref x9, .ref x10, .ref x11]) q = some (.lst [.ref x9, .ref x10, .ref x11]) := upd_same
    generalize upd E11 q (.lst [.ref x9, .ref x10, .ref x11]) = G2 at sn hlq ⊢
    replace e0 := e0.mono sn
    replace e1 := e1.mono sn
    replace e2 := e2.mono sn
    replace e3 := e3.mono sn
    replace e4 := e4.mono sn
    replace e5 := e5.mono sn
    replace e6 := e6.mono sn
    replace e7 := e7.mono sn
    replace e8 := e8.mono sn
    replace e9 := e9.mono sn
    replace e10 := e10.mono sn
    replace e11 := e11.mono sn
    replace hls := sn _ _ hls
    replace hl := sn _ _ hl
    replace smA := smA.trans sn
    clear sn
    clear hq
    tm_at "go"
    refine r_addL hl hlq (szl rfl) fun p hp => ?_
    have sn := same_new hp (o := .lst [.ref x0, .ref x1, .ref x2, .ref x3, .ref x4, .ref x5, .ref x6, .ref x7, .ref x8, .ref x9, .ref x10, .ref x11])
    replace e0 := e0.mono sn
    replace e1 := e1.mono sn
    replace e2 := e2.mono sn
    replace e3 := e3.mono sn
    replace e4 := e4.mono sn
    replace e5 := e5.mono sn
    replace e6 := e6.mono sn
    replace e7 := e7.mono sn
    replace e8 := e8.mono sn
    replace e9 := e9.mono sn
    replace e10 := e10.mono sn
    replace e11 := e11.mono sn
    exact k p x0 x1 x2 x3 x4 x5 x6 x7 x8 x9 x10 x11 _ (smA.trans sn) upd_same ⟨e0, e1, e2, e3, e4, e5, e6, e7, e8⟩ e9 e10 e11
theorem ok_named (F : DefAt K mg "_law_named" s_law_named) (T : Txt K mg aGround a0 a1 a2 a3 a4 a5 a6 a7 a8 a9 a10 a11) (RK_InvalidNumbers : ErrKOk P w K mg base 1 "InvalidNumbers" a0 ["self", "word"] ["word"] (spInitF K a0 "word")) (RK_InvalidText : ErrKOk P w K mg base 1 "InvalidText" a1 ["self", "at"] ["at"] (spInitF K a1 "at")) (RK_InvalidRow : ErrKOk P w K mg base 1 "InvalidRow" a2 ["self", "part"] ["part"] (spInitF K a2 "part")) (RK_InvalidChooser : ErrKOk P w K mg base 1 "InvalidChooser" a3 ["self", "at"] ["at"] (spInitF K a3 "at")) (RK_InvalidHouse : ErrKOk P w K mg base 1 "InvalidHouse" a4 ["self", "word"] ["word"] (spInitF K a4 "word")) (RK_InvalidTurn : ErrKOk P w K mg base 1 "InvalidTurn" a5 ["self", "at"] ["at"] (spInitF K a5 "at")) (RK_NoNumber : ErrKOk P w K mg base 1 "NoNumber" a6 ["self", "at"] ["at"] (spInitF K a6 "at")) (RK_NoRow : ErrKOk P w K mg base 1 "NoRow" a7 ["self", "at"] ["at"] (spInitF K a7 "at")) (RK_NoNote : ErrKOk P w K mg base 1 "NoNote" a8 ["self", "name"] ["name"] (spInitF K a8 "name")) : DefOk P w K mg base CX0 3 "_law_named" ["_law_some"] (spNamed a0 a1 a2 a3 a4 a5 a6 a7 a8) := by
  refine F.ok sc_law_named (fun _ _ _ _ _ _ us hl => match us, hl with | [_], _ => rfl) (fun vs H Q E h => ?_) (fun f cdv A outer s H vs Q E hr h => ?_)
  · obtain ⟨l, v0, v1, v2, v3, v4, v5, v6, v7, v8, rfl, _⟩ := h
    rfl
  · obtain ⟨l, v0, v1, v2, v3, v4, v5, v6, v7, v8, rfl, hls, k⟩ := h
    refine ⟨_, (pss_cons (ps_set (i := 1) sc_law_named.nd rfl (Or.inl rfl) (pe_lst (pa_cons (pe_mkVK RK_InvalidNumbers (hr.mono (by decide)) rfl (pk_cons (pe_ix (ix_u K) (pv 0) pe_int (fun _ _ => rfl)) pk_nil)) (pa_cons (pe_mkVK RK_InvalidText (hr.mono (by decide)) rfl (pk_cons (pe_ix (ix_u K) (pv 0) pe_int (fun _ _ => rfl)) pk_nil)) (pa_cons (pe_mkVK RK_InvalidRow (hr.mono (by decide)) rfl (pk_cons (pe_ix (ix_u K) (pv 0) pe_int (fun _ _ => rfl)) pk_nil)) pa_nil)))))
  (pss_cons (ps_expr (pe_bm PySem.F.plainAttrs_list PySem.F.slot_list_extend PySem.F.type_list_extend mt_extend (pv 1) (pa_cons (pe_lst (pa_cons (pe_mkVK RK_InvalidChooser (hr.mono (by decide)) rfl (pk_cons (pe_ix (ix_u K) (pv 0) pe_int (fun _ _ => rfl)) pk_nil)) (pa_cons (pe_mkVK RK_InvalidHouse (hr.mono (by decide)) rfl (pk_cons (pe_ix (ix_u K) (pv 0) pe_int (fun _ _ => rfl)) pk_nil)) (pa_cons (pe_mkVK RK_InvalidTurn (hr.mono (by decide)) rfl (pk_cons (pe_ix (ix_u K) (pv 0) pe_int (fun _ _ => rfl)) pk_nil)) pa_nil)))) pa_nil)))
  (pss_one (ps_ret (pe_op (o_add K) (pv 1) (pe_lst (pa_cons (pe_mkVK RK_NoNumber (hr.mono (by decide)) rfl (pk_cons (pe_ix (ix_u K) (pv 0) pe_int (fun _ _ => rfl)) pk_nil)) (pa_cons (pe_mkVK RK_NoRow (hr.mono (by decide)) rfl (pk_cons (pe_ix (ix_u K) (pv 0) pe_int (fun _ _ => rfl)) pk_nil)) (pa_cons (pe_mkVK RK_NoNote (hr.mono (by decide)) rfl (pk_cons (pe_ix (ix_u K) (pv 0) pe_int (fun _ _ => rfl)) pk_nil)) pa_nil))))))))), ?_⟩
    tm_at "go"
    refine r_mkV1 ?_
    refine r_zl ?_
    tm_at "go"
    refine ⟨rfl, ?_⟩
    refine r_mkF1 T.o0 T.f0 fun x0 E0 sn _ e0 => ?_
    replace hls := sn _ _ hls
    have smA := sn
    clear sn
    tm_at "go"
    refine r_mkV1 ?_
    refine r_zl ?_
    tm_at "go"
    refine ⟨rfl, ?_⟩
    refine r_mkF1 T.o1 T.f1 fun x1 E1 sn _ e1 => ?_
    replace e0 := e0.mono sn
    replace hls := sn _ _ hls
    replace smA := smA.trans sn
    clear sn
    tm_at "go"
    refine r_mkV1 ?_
    refine r_zl ?_
    tm_at "go"
    refine ⟨rfl, ?_⟩
    refine r_mkF1 T.o2 T.f2 fun x2 E2 sn _ e2 => ?_
    replace e0 := e0.mono sn
    replace e1 := e1.mono sn
    replace hls := sn _ _ hls
    replace smA := smA.trans sn
    clear sn
    tm_at "go"
    refine ⟨szl rfl, fun D hD => ?_⟩
    have hD0 : H D = Option.none := Same.free smA hD
    have nlD := ne_of_none hls hD
    have sn := same_new hD (o := .lst [.ref x0, .ref x1, .ref x2])
    have hl : upd E2 D (.lst [.ref x0, .ref x1, .ref x2]) D = some (.lst [.ref x0, .ref x1, .ref x2]) := upd_same
    generalize upd E2 D (.lst [.ref x0, .ref x1, .ref x2]) = G0 at sn hl ⊢
    replace e0 := e0.mono sn
    replace e1 := e1.mono sn
    replace e2 := e2.mono sn
    replace hls := sn _ _ hls
    replace smA := smA.trans sn
    clear sn
    tm_at "go"
    refine ⟨tyL hl, ?_⟩
    tm_at "go"
    refine r_mkV1 ?_
    refine r_zl ?_
    tm_at "go"
    refine ⟨rfl, ?_⟩
    refine r_mkF1 T.o3 T.f3 fun x3 E3 sn _ e3 => ?_
    replace e0 := e0.mono sn
    replace e1 := e1.mono sn
    replace e2 := e2.mono sn
    replace hls := sn _ _ hls
    replace hl := sn _ _ hl
    replace smA := smA.trans sn
    clear sn
    tm_at "go"
    refine r_mkV1 ?_
    refine r_zl ?_
    tm_at "go"
    refine ⟨rfl, ?_⟩
    refine r_mkF1 T.o4 T.f4 fun x4 E4 sn _ e4 => ?_
    replace e0 := e0.mono sn
    replace e1 := e1.mono sn
    replace e2 := e2.mono sn
    replace e3 := e3.mono sn
    replace hls := sn _ _ hls
    replace hl := sn _ _ hl
    replace smA := smA.trans sn
    clear sn
    tm_at "go"
    refine r_mkV1 ?_
    refine r_zl ?_
    tm_at "go"
    refine ⟨rfl, ?_⟩
    refine r_mkF1 T.o5 T.f5 fun x5 E5 sn _ e5 => ?_
    replace e0 := e0.mono sn
    replace e1 := e1.mono sn
    replace e2 := e2.mono sn
    replace e3 := e3.mono sn
    replace e4 := e4.mono sn
    replace hls := sn _ _ hls
    replace hl := sn _ _ hl
    replace smA := smA.trans sn
    clear sn
    tm_at "go"
    refine ⟨szl rfl, fun q hq => ?_⟩
    have sn := same_new hq (o := .lst [.ref x3, .ref x4, .ref x5])
    have hlq : upd E5 q (.lst [.ref x3, .ref x4, .ref x5]) q = some (.lst [.ref x3, .ref x4, .ref x5]) := upd_same
    generalize upd E5 q (.lst [.ref x3, .ref x4, .ref x5]) = G1 at sn hlq ⊢
    replace e0 := e0.mono sn
    replace e1 := e1.mono sn
    replace e2 := e2.mono sn
    replace e3 := e3.mono sn
    replace e4 := e4.mono sn
    replace e5 := e5.mono sn
    replace hls := sn _ _ hls
    replace hl := sn _ _ hl
    replace smA := smA.trans sn
    clear sn
    clear hq
    tm_at "go"
    refine ⟨D, q, _, _, rfl, rfl, hl, hlq, szl rfl, ?_⟩
    clear hlq
    replace e0 := e0.lst (o := .lst [.ref x0, .ref x1, .ref x2, .ref x3, .ref x4, .ref x5]) hl
    replace e1 := e1.lst (o := .lst [.ref x0, .ref x1, .ref x2, .ref x3, .ref x4, .ref x5]) hl
    replace e2 := e2.lst (o := .lst [.ref x0, .ref x1, .ref x2, .ref x3, .ref x4, .ref x5]) hl
    replace e3 := e3.lst (o := .lst [.ref x0, .ref x1, .ref x2, .ref x3, .ref x4, .ref x5]) hl
    replace e4 := e4.lst (o := .lst [.ref x0, .ref x1, .ref x2, .ref x3, .ref x4, .ref x5]) hl
    replace e5 := e5.lst (o := .lst [.ref x0, .ref x1, .ref x2, .ref x3, .ref x4, .ref x5]) hl
    replace hls := at_upd (u := .lst [.ref x0, .ref x1, .ref x2, .ref x3, .ref x4, .ref x5]) nlD hls
    replace smA := Same.updF (o := .lst [.ref x0, .ref x1, .ref x2, .ref x3, .ref x4, .ref x5]) smA hD0
    replace hl : upd G1 D (.lst [.ref x0, .ref x1, .ref x2, .ref x3, .ref x4, .ref x5]) D = some (.lst [.ref x0, .ref x1, .ref x2, .ref x3, .ref x4, .ref x5]) := upd_same
    simp only [List.cons_append, List.nil_append]
    generalize upd G1 D (.lst [.ref x0, .ref x1, .ref x2, .ref x3, .ref x4, .ref x5]) = U1 at hl smA e0 e1 e2 e3 e4 e5 hls ⊢
    tm_at "go"
    refine r_mkV1 ?_
    refine r_zl ?_
    tm_at "go"
    refine ⟨rfl, ?_⟩
    refine r_mkF1 T.o6 T.f6 fun x6 E6 sn _ e6 => ?_
    replace e0 := e0.mono sn
    replace e1 := e1.mono sn
    replace e2 := e2.mono sn
    replace e3 := e3.mono sn
    replace e4 := e4.mono sn
    replace e5 := e5.mono sn
    replace hls := sn _ _ hls
    replace hl := sn _ _ hl
    replace smA := smA.trans sn
    clear sn
    tm_at "go"
    refine r_mkV1 ?_
    refine r_zl ?_
    tm_at "go"
    refine ⟨rfl, ?_⟩
    refine r_mkF1 T.o7 T.f7 fun x7 E7 sn _ e7 => ?_
    replace e0 := e0.mono sn
    replace e1 := e1.mono sn
    replace e2 := e2.mono sn
    replace e3 := e3.mono sn
    replace e4 := e4.mono sn
    replace e5 := e5.mono sn
    replace e6 := e6.mono sn
    replace hls := sn _ _ hls
    replace hl := sn _ _ hl
    replace smA := smA.trans sn
    clear sn
    tm_at "go"
    refine r_mkV1 ?_
    refine r_zl ?_
    tm_at "go"
    refine ⟨rfl, ?_⟩
    refine r_mkF1 T.o8 T.f8 fun x8 E8 sn _ e8 => ?_
    replace e0 := e0.mono sn
    replace e1 := e1.mono sn
    replace e2 := e2.mono sn
    replace e3 := e3.mono sn
    replace e4 := e4.mono sn
    replace e5 := e5.mono sn
    replace e6 := e6.mono sn
    replace e7 := e7.mono sn
    replace hls := sn _ _ hls
    replace hl := sn _ _ hl
    replace smA := smA.trans sn
    clear sn
    tm_at "go"
    refine ⟨szl rfl, fun q hq => ?_⟩
    have sn := same_new hq (o := .lst [.ref x6, .ref x7, .ref x8])
    have hlq : upd E8 q (.lst [.ref x6, .ref x7, .ref x8]) q = some (.lst [.ref x6, .ref x7, .ref x8]) := upd_same
    generalize upd E8 q (.lst [.ref x6, .ref x7, .ref x8]) = G2 at sn hlq ⊢
    replace e0 := e0.mono sn
    replace e1 := e1.mono sn
    replace e2 := e2.mono sn
    replace e3 := e3.mono sn
    replace e4 := e4.mono sn
    replace e5 := e5.mono sn
    replace e6 := e6.mono sn
    replace e7 := e7.mono sn
    replace e8 := e8.mono sn
    replace hls := sn _ _ hls
    replace hl := sn _ _ hl
    replace smA := smA.trans sn
    clear sn
    clear hq
    tm_at "go"
    refine r_addL hl hlq (szl rfl) fun p hp => ?_
    have sn := same_new hp (o := .lst [.ref x0, .ref x1, .ref x2, .ref x3, .ref x4, .ref x5, .ref x6, .ref x7, .ref x8])
    replace e0 := e0.mono sn
    replace e1 := e1.mono sn
    replace e2 := e2.mono sn
    replace e3 := e3.mono sn
    replace e4 := e4.mono sn
    replace e5 := e5.mono sn
    replace e6 := e6.mono sn
    replace e7 := e7.mono sn
    replace e8 := e8.mono sn
    exact k p x0 x1 x2 x3 x4 x5 x6 x7 x8 _ (smA.trans sn) upd_same ⟨e0, e1, e2, e3, e4, e5, e6, e7, e8⟩
theorem ok_kept (F : DefAt K mg "_law_kept" s_law_kept) (T : Txt K mg aGround a0 a1 a2 a3 a4 a5 a6 a7 a8 a9 a10 a11)  : DefOk P w K mg base CX0 3 "_law_kept" ["_law_made_here"] (spKept a0 a1 a2 a3 a4 a5 a6 a7 a8) := by
  refine F.ok sc_law_kept (fun _ _ _ _ _ _ us hl => match us, hl with | [_], _ => rfl) (fun vs H Q E h => ?_) (fun f cdv A outer s H vs Q E hr h => ?_)
  · obtain ⟨l, x0, x1, x2, x3, x4, x5, x6, x7, x8, xs, v0, v1, v2, v3, v4, v5, v6, v7, v8, rfl, _⟩ := h
    rfl
  · obtain ⟨l, x0, x1, x2, x3, x4, x5, x6, x7, x8, xs, v0, v1, v2, v3, v4, v5, v6, v7, v8, rfl, hls, ⟨e0, e1, e2, e3, e4, e5, e6, e7, e8⟩, k⟩ := h
    refine ⟨_, (pss_cons (ps_set (i := 1) sc_law_kept.nd rfl (Or.inl rfl) (pe_lst (pa_cons (pe_exfK K (pe_ix (ix_u K) (pv 0) pe_int (fun _ _ => rfl))) (pa_cons (pe_exfK K (pe_ix (ix_u K) (pv 0) pe_int (fun _ _ => rfl))) (pa_cons (pe_exfK K (pe_ix (ix_u K) (pv 0) pe_int (fun _ _ => rfl))) (pa_cons (pe_exfK K (pe_ix (ix_u K) (pv 0) pe_int (fun _ _ => rfl))) (pa_cons (pe_exfK K (pe_ix (ix_u K) (pv 0) pe_int (fun _ _ => rfl))) pa_nil)))))))
  (pss_one (ps_ret (pe_op (o_add K) (pv 1) (pe_lst (pa_cons (pe_exfK K (pe_ix (ix_u K) (pv 0) pe_int (fun _ _ => rfl))) (pa_cons (pe_exfK K (pe_ix (ix_u K) (pv 0) pe_int (fun _ _ => rfl))) (pa_cons (pe_exfK K (pe_ix (ix_u K) (pv 0) pe_int (fun _ _ => rfl))) (pa_cons (pe_exfK K (pe_ix (ix_u K) (pv 0) pe_int (fun _ _ => rfl))) pa_nil))))))))), ?_⟩
    tm_at "go"
    refine r_exf ?_
    tm_at "go"
    refine r_ixL (SqL.of hls) (atI_nat (j := 0) (v := .ref x0) rfl) ?_
    refine r_exF e0 T.x0 T.f0 ?_
    tm_at "go"
    refine r_exf ?_
    tm_at "go"
    refine r_ixL (SqL.of hls) (atI_nat (j := 1) (v := .ref x1) rfl) ?_
    refine r_exF e1 T.x1 T.f1 ?_
    tm_at "go"
    refine r_exf ?_
    tm_at "go"
    refine r_ixL (SqL.of hls) (atI_nat (j := 2) (v := .ref x2) rfl) ?_
    refine r_exF e2 T.x2 T.f2 ?_
    tm_at "go"
    refine r_exf ?_
    tm_at "go"
    refine r_ixL (SqL.of hls) (atI_nat (j := 3) (v := .ref x3) rfl) ?_
    refine r_exF e3 T.x3 T.f3 ?_
    tm_at "go"
    refine r_exf ?_
    tm_at "go"
    refine r_ixL (SqL.of hls) (atI_nat (j := 4) (v := .ref x4) rfl) ?_
    refine r_exF e4 T.x4 T.f4 ?_
    tm_at "go"
    refine ⟨szl rfl, fun D hD => ?_⟩
    have hD0 : H D = Option.none := hD
    have nlD := ne_of_none hls hD
    have sn := same_new hD (o := .lst [v0, v1, v2, v3, v4])
    have hl : upd H D (.lst [v0, v1, v2, v3, v4]) D = some (.lst [v0, v1, v2, v3, v4]) := upd_same
    generalize upd H D (.lst [v0, v1, v2, v3, v4]) = G0 at sn hl ⊢
    replace e0 := e0.mono sn
    replace e1 := e1.mono sn
    replace e2 := e2.mono sn
    replace e3 := e3.mono sn
    replace e4 := e4.mono sn
    replace e5 := e5.mono sn
    replace e6 := e6.mono sn
    replace e7 := e7.mono sn
    replace e8 := e8.mono sn
    replace hls := sn _ _ hls
    have smA := sn
    clear sn
    tm_at "go"
    refine r_exf ?_
    tm_at "go"
    refine r_ixL (SqL.of hls) (atI_nat (j := 5) (v := .ref x5) rfl) ?_
    refine r_exF e5 T.x5 T.f5 ?_
    tm_at "go"
    refine r_exf ?_
    tm_at "go"
    refine r_ixL (SqL.of hls) (atI_nat (j := 6) (v := .ref x6) rfl) ?_
    refine r_exF e6 T.x6 T.f6 ?_
    tm_at "go"
    refine r_exf ?_
    tm_at "go"
    refine r_ixL (SqL.of hls) (atI_nat (j := 7) (v := .ref x7) rfl) ?_
    refine r_exF e7 T.x7 T.f7 ?_
    tm_at "go"
    refine r_exf ?_
    tm_at "go"
    refine r_ixL (SqL.of hls) (atI_nat (j := 8) (v := .ref x8) rfl) ?_
    refine r_exF e8 T.x8 T.f8 ?_
    tm_at "go"
    refine ⟨szl rfl, fun q hq => ?_⟩
    have sn := same_new hq (o := .lst [v5, v6, v7, v8])
    have hlq : upd G0 q (.lst [v5, v6, v7, v8]) q = some (.lst [v5, v6, v7, v8]) := upd_same
    generalize upd G0 q (.lst [v5, v6, v7, v8]) = G1 at sn hlq ⊢
    replace e0 := e0.mono sn
    replace e1 := e1.mono sn
    replace e2 := e2.mono sn
    replace e3 := e3.mono sn
    replace e4 := e4.mono sn
    replace e5 := e5.mono sn
    replace e6 := e6.mono sn
    replace e7 := e7.mono sn
    replace e8 := e8.mono sn
    replace hls := sn _ _ hls
    replace hl := sn _ _ hl
    replace smA := smA.trans sn
    clear sn
    clear hq
    tm_at "go"
    refine r_addL hl hlq (szl rfl) fun p hp => ?_
    have sn := same_new hp (o := .lst [v0, v1, v2, v3, v4, v5, v6, v7, v8])
    replace e0 := e0.mono sn
    replace e1 := e1.mono sn
    replace e2 := e2.mono sn
    replace e3 := e3.mono sn
    replace e4 := e4.mono sn
    replace e5 := e5.mono sn
    replace e6 := e6.mono sn
    replace e7 := e7.mono sn
    replace e8 := e8.mono sn
    exact k p _ (smA.trans sn) upd_same
end
def spLaw (K : PySem.W.Frag) : Sp := fun vs H Q _ => ∃ (a : Addr) (ns : List Int), vs = [.ref a] ∧ SqL K H a (ns.map V.int) ∧ ns.length ≤ 63 ∧ ∀ H', Q (.bl true) H'
theorem neSelf (v : V) : (!decide (v = v)) = false := by rw [decide_eq_true rfl]; rfl
theorem ends_gen {t : TS} {D : Ends} {σ : St} {H : Hp} (h : ∀ D' : Ends, D'.nx = D.nx → D'.rt = D.rt → t D' σ H) : t D σ H := h D rfl rfl
/-- what a drawn value may be -/
def VO : HO → Prop := fun o => o = .lst [] ∨ o = .lst [.int 1, .str "a"] ∨ o = .tup [.str "x", .non] ∨ o = .tup []
def VSc (v : V) : Prop := v = .int 0 ∨ v = .int (-3) ∨ v = .int (10 ^ Int.toNat 18) ∨ v = .str "" ∨ v = .str "note" ∨ v = .non ∨ v = .bl true ∨ v = .str "slots"
def VL (b : Addr) (H : Hp) (v : V) : Prop := VSc v ∨ ∃ l o, v = .ref l ∧ l ≠ b ∧ H l = some o ∧ VO o
theorem VL.bx {b : Addr} {H H' : Hp} {v : V} (e : Bx b H H') (h : VL b H v) : VL b H' v := h.imp id fun ⟨l, o, h1, h2, h3, h4⟩ => ⟨l, o, h1, h2, e.keep _ _ h2 h3, h4⟩
theorem VL.mono {b : Addr} {H H' : Hp} {v : V} (e : Same H H') (h : VL b H v) : VL b H' v := h.imp id fun ⟨l, o, h1, h2, h3, h4⟩ => ⟨l, o, h1, h2, e _ _ h3, h4⟩
theorem VL.upd {b D : Addr} {H : Hp} {v : V} {o : HO} (h : VL b H v) (n : v ≠ .ref D) : VL b (upd H D o) v := h.imp id fun ⟨l, u, h1, h2, h3, h4⟩ => ⟨l, u, h1, h2, at_upd (fun z => n (by rw [h1, z])) h3, h4⟩
section
variable {K : PySem.W.Frag}
theorem VSc.sh {v : V} (h : VSc v) : ∃ d, ∀ H, Sh K H v d 0 40 := by
  rcases h with rfl | rfl | rfl | rfl | rfl | rfl | rfl | rfl
  · exact ⟨_, fun H => sh_int (by decide)⟩
  · exact ⟨_, fun H => sh_int (by decide)⟩
  · exact ⟨_, fun H => sh_int (by decide)⟩
  · exact ⟨_, fun H => sh_str (by decide +kernel) (by decide +kernel)⟩
  · exact ⟨_, fun H => sh_str (by decide +kernel) (by decide +kernel)⟩
  · exact ⟨_, fun H => sh_non.up (Nat.le_refl _) (by decide)⟩
  · exact ⟨_, fun H => (sh_bl true).up (Nat.le_refl _) (by decide)⟩
  · exact ⟨_, fun H => sh_str (by decide +kernel) (by decide +kernel)⟩
theorem VL.sh {b : Addr} {H : Hp} {v : V} (h : VL b H v) : ∃ d, Sh K H v d 1 200 := by
  rcases h with h | ⟨l, o, rfl, _, hl, rfl | rfl | rfl | rfl⟩
  · obtain ⟨d, hd⟩ := VSc.sh (K := K) h
    exact ⟨d, (hd H).up (by decide) (by decide)⟩
  · exact ⟨_, sh_lst (k := 0) (n := 40) (SqL.of hl) .nil (by decide)⟩
  · exact ⟨_, sh_lst (k := 0) (n := 40) (SqL.of hl) (.cons (sh_int (by decide)) (.cons (sh_str (by decide +kernel) (by decide +kernel)) .nil)) (by decide)⟩
  · exact ⟨_, sh_tup (k := 0) (n := 40) (SqT.of hl) (.cons (sh_str (by decide +kernel) (by decide +kernel)) (.cons (sh_non.up (Nat.le_refl _) (by decide)) .nil)) (by decide)⟩
  · exact ⟨_, sh_tup (k := 0) (n := 40) (SqT.of hl) .nil (by decide)⟩
theorem shs {b : Addr} {H : Hp} : ∀ {vs : List V}, (∀ v ∈ vs, VL b H v) → ∃ ds, Paired (fun v d => Sh K H v d 1 200) vs ds
  | [], _ => ⟨[], .nil⟩
  | v :: vs, h => by
    obtain ⟨d, hd⟩ := (h v (List.mem_cons_self ..)).sh (K := K)
    obtain ⟨ds, hds⟩ := shs (vs := vs) fun u hu => h u (List.mem_cons_of_mem _ hu)
    exact ⟨d :: ds, .cons hd hds⟩
theorem shs_mono {H H' : Hp} (e : Same H H') : ∀ {vs : List V} {ds : List PyData}, Paired (fun v d => Sh K H v d 1 200) vs ds → Paired (fun v d => Sh K H' v d 1 200) vs ds
  | _, _, .nil => .nil
  | _, _, .cons a b => .cons (a.mono e) (shs_mono e b)
theorem eqv_bools : ∀ l : List Bool, PyData.eqvAll (l.map PyData.bool) (l.map PyData.bool) = true
  | [] => rfl
  | b :: l => by
    show (PyData.eqv (.bool b) (.bool b) && PyData.eqvAll (l.map PyData.bool) (l.map PyData.bool)) = true
    rw [eqv_bools l, Bool.and_true]
    cases b <;> rfl
theorem dp_bools {H : Hp} : ∀ l : List Bool, DpAll K H (l.map V.bl) (l.map PyData.bool)
  | [] => .nil
  | b :: l => .cons (.bl b) (dp_bools l)
theorem lay_bools : ∀ l : List Bool, PyData.canLayAll0 (l.map PyData.bool) = true
  | [] => rfl
  | b :: l => by
    show (true && PyData.canLayAll0 (l.map PyData.bool)) = true
    rw [lay_bools l]; rfl
theorem dep_bools : ∀ l : List Bool, PyData.depthAll (l.map PyData.bool) = 0
  | [] => rfl
  | b :: l => by
    have := dep_bools l
    show max 0 (PyData.depthAll (l.map PyData.bool)) = 0
    rw [this]; rfl
theorem shp_bools (l : List Bool) : SeqAt.shaped (.list (l.map PyData.bool)) = true := by
  unfold SeqAt.shaped
  simp only [PyData.canLay0, lay_bools, PyData.depth, dep_bools]
  decide
def spValue : Sp := fun vs H Q _ => ∃ b, vs = [.ref b] ∧ BoxAt H b ∧ ∀ v H', Bx b H H' → VL b H' v → (∀ l, v = .ref l → H l = none) → Q v H'

theorem ok_value (F : DefAt K mg "_law_value" s_law_value) (T : Txt K mg aGround a0 a1 a2 a3 a4 a5 a6 a7 a8 a9 a10 a11) (D_law_pick : DefOk P w K mg base CX0 2 "_law_pick" ["_law_box_here", "_law_items"] (spPick K)) : DefOk P w K mg base CX0 3 "_law_value" ["_law_box_here"] spValue := by
  refine F.ok sc_law_value (fun _ _ _ _ _ _ us hl => match us, hl with | [_], _ => rfl) (fun vs H Q E h => ?_) (fun f cdv A outer s H vs Q E hr h => ?_)
  · obtain ⟨b, rfl, _⟩ := h
    rfl
  · obtain ⟨b, rfl, hb, k⟩ := h
    refine ⟨_, (pss_one (ps_ret (pe_callD D_law_pick (hr.mono (by decide)) pass0 rfl (pa_cons (pv 0) (pa_cons (pe_lst (pa_cons pe_int (pa_cons (pe_un un_neg pe_int) (pa_cons (pe_op o_pow pe_int pe_int) (pa_cons pe_str (pa_cons pe_str (pa_cons pe_non (pa_cons pe_bl (pa_cons (pe_lst pa_nil) (pa_cons (pe_lst (pa_cons pe_int (pa_cons pe_str pa_nil))) (pa_cons (pe_tup (pa_cons pe_str (pa_cons pe_non pa_nil))) (pa_cons (pe_tup pa_nil) (pa_cons pe_str pa_nil))))))))))))) pa_nil))))), ?_⟩
    tm_at "go"
    refine ⟨szl rfl, fun q1 hq1 => ?_⟩
    have fq1 : H q1 = Option.none := hq1
    have nq1 : q1 ≠ b := Ne.symm (hb.fresh hq1)
    have sn := same_new hq1 (o := .lst [])
    have gq1 : upd H q1 (.lst []) q1 = some (.lst []) := upd_same
    generalize upd H q1 (.lst []) = G0 at sn gq1 ⊢
    have smA := sn
    have bx := hb.same sn
    clear sn hq1
    tm_at "go"
    refine ⟨szl rfl, fun q2 hq2 => ?_⟩
    have fq2 : H q2 = Option.none := Same.free smA hq2
    have nq2 : q2 ≠ b := Ne.symm (bx.fresh hq2)
    have sn := same_new hq2 (o := .lst [.int 1, .str "a"])
    have gq2 : upd G0 q2 (.lst [.int 1, .str "a"]) q2 = some (.lst [.int 1, .str "a"]) := upd_same
    generalize upd G0 q2 (.lst [.int 1, .str "a"]) = G1 at sn gq2 ⊢
    replace gq1 := sn _ _ gq1
    replace smA := smA.trans sn
    replace bx := bx.same sn
    clear sn hq2
    tm_at "go"
    refine ⟨szl rfl, fun q3 hq3 => ?_⟩
    have fq3 : H q3 = Option.none := Same.free smA hq3
    have nq3 : q3 ≠ b := Ne.symm (bx.fresh hq3)
    have sn := same_new hq3 (o := .tup [.str "x", .non])
    have gq3 : upd G1 q3 (.tup [.str "x", .non]) q3 = some (.tup [.str "x", .non]) := upd_same
    generalize upd G1 q3 (.tup [.str "x", .non]) = G2 at sn gq3 ⊢
    replace gq1 := sn _ _ gq1
    replace gq2 := sn _ _ gq2
    replace smA := smA.trans sn
    replace bx := bx.same sn
    clear sn hq3
    tm_at "go"
    refine ⟨szl rfl, fun q4 hq4 => ?_⟩
    have fq4 : H q4 = Option.none := Same.free smA hq4
    have nq4 : q4 ≠ b := Ne.symm (bx.fresh hq4)
    have sn := same_new hq4 (o := .tup [])
    have gq4 : upd G2 q4 (.tup []) q4 = some (.tup []) := upd_same
    generalize upd G2 q4 (.tup []) = G3 at sn gq4 ⊢
    replace gq1 := sn _ _ gq1
    replace gq2 := sn _ _ gq2
    replace gq3 := sn _ _ gq3
    replace smA := smA.trans sn
    replace bx := bx.same sn
    clear sn hq4
    tm_at "go"
    refine ⟨szl rfl, fun D hD => ?_⟩
    have fD : H D = Option.none := Same.free smA hD
    have nD : D ≠ b := Ne.symm (bx.fresh hD)
    have sn := same_new hD (o := .lst [.int 0, .int (-3), .int (10 ^ Int.toNat 18), .str "", .str "note", .non, .bl true, .ref q1, .ref q2, .ref q3, .ref q4, .str "slots"])
    have gD : upd G3 D (.lst [.int 0, .int (-3), .int (10 ^ Int.toNat 18), .str "", .str "note", .non, .bl true, .ref q1, .ref q2, .ref q3, .ref q4, .str "slots"]) D = some (.lst [.int 0, .int (-3), .int (10 ^ Int.toNat 18), .str "", .str "note", .non, .bl true, .ref q1, .ref q2, .ref q3, .ref q4, .str "slots"]) := upd_same
    generalize upd G3 D (.lst [.int 0, .int (-3), .int (10 ^ Int.toNat 18), .str "", .str "note", .non, .bl true, .ref q1, .ref q2, .ref q3, .ref q4, .str "slots"]) = G4 at sn gD ⊢
    replace gq1 := sn _ _ gq1
    replace gq2 := sn _ _ gq2
    replace gq3 := sn _ _ gq3
    replace gq4 := sn _ _ gq4
    replace smA := smA.trans sn
    replace bx := bx.same sn
    clear sn hD
    tm_at "go"
    refine ⟨b, D, _, rfl, bx, .inl (SqL.of gD), nD, by show 0 < 12; decide, by show 12 < 1000000; decide, fun v H' hv hx => ?_⟩
    have sx : Bx b H H' := (bx_of_same hb smA).trans hx
    simp only [List.mem_cons, List.not_mem_nil, or_false] at hv
    rcases hv with rfl | rfl | rfl | rfl | rfl | rfl | rfl | rfl | rfl | rfl | rfl | rfl
    · exact k _ H' sx (.inl (.inl rfl)) (fun l z => nomatch z)
    · exact k _ H' sx (.inl (.inr (.inl rfl))) (fun l z => nomatch z)
    · exact k _ H' sx (.inl (.inr (.inr (.inl rfl)))) (fun l z => nomatch z)
    · exact k _ H' sx (.inl (.inr (.inr (.inr (.inl rfl))))) (fun l z => nomatch z)
    · exact k _ H' sx (.inl (.inr (.inr (.inr (.inr (.inl rfl)))))) (fun l z => nomatch z)
    · exact k _ H' sx (.inl (.inr (.inr (.inr (.inr (.inr (.inl rfl))))))) (fun l z => nomatch z)
    · exact k _ H' sx (.inl (.inr (.inr (.inr (.inr (.inr (.inr (.inl rfl)))))))) (fun l z => nomatch z)
    · exact k _ H' sx (.inr ⟨q1, _, rfl, nq1, hx.keep _ _ nq1 gq1, .inl rfl⟩) (fun l z => by cases z; exact fq1)
    · exact k _ H' sx (.inr ⟨q2, _, rfl, nq2, hx.keep _ _ nq2 gq2, .inr (.inl rfl)⟩) (fun l z => by cases z; exact fq2)
    · exact k _ H' sx (.inr ⟨q3, _, rfl, nq3, hx.keep _ _ nq3 gq3, .inr (.inr (.inl rfl))⟩) (fun l z => by cases z; exact fq3)
    · exact k _ H' sx (.inr ⟨q4, _, rfl, nq4, hx.keep _ _ nq4 gq4, .inr (.inr (.inr rfl))⟩) (fun l z => by cases z; exact fq4)
    · exact k _ H' sx (.inl (.inr (.inr (.inr (.inr (.inr (.inr (.inr (rfl))))))))) (fun l z => nomatch z)
theorem all_AE {H : Hp} {X0 X1 X2 X3 X4 X5 X6 X7 X8 X9 X10 X11 : Addr} {cs : List Addr} (h0 : AE H X0 (cs.getD 0 0)) (h1 : AE H X1 (cs.getD 1 0)) (h2 : AE H X2 (cs.getD 2 0)) (h3 : AE H X3 (cs.getD 3 0)) (h4 : AE H X4 (cs.getD 4 0)) (h5 : AE H X5 (cs.getD 5 0)) (h6 : AE H X6 (cs.getD 6 0)) (h7 : AE H X7 (cs.getD 7 0)) (h8 : AE H X8 (cs.getD 8 0)) (h9 : AE H X9 (cs.getD 9 0)) (h10 : AE H X10 (cs.getD 10 0)) (h11 : AE H X11 (cs.getD 11 0)) :
    ∀ (i : Nat) (v : V), [V.ref X0, .ref X1, .ref X2, .ref X3, .ref X4, .ref X5, .ref X6, .ref X7, .ref X8, .ref X9, .ref X10, .ref X11][i]? = some v → i < 12 ∧ ∃ x, v = .ref x ∧ AE H x (cs.getD i 0)
  | 0, _, z => ⟨by decide, X0, (Option.some.inj z).symm, h0⟩
  | 1, _, z => ⟨by decide, X1, (Option.some.inj z).symm, h1⟩
  | 2, _, z => ⟨by decide, X2, (Option.some.inj z).symm, h2⟩
  | 3, _, z => ⟨by decide, X3, (Option.some.inj z).symm, h3⟩
  | 4, _, z => ⟨by decide, X4, (Option.some.inj z).symm, h4⟩
  | 5, _, z => ⟨by decide, X5, (Option.some.inj z).symm, h5⟩
  | 6, _, z => ⟨by decide, X6, (Option.some.inj z).symm, h6⟩
  | 7, _, z => ⟨by decide, X7, (Option.some.inj z).symm, h7⟩
  | 8, _, z => ⟨by decide, X8, (Option.some.inj z).symm, h8⟩
  | 9, _, z => ⟨by decide, X9, (Option.some.inj z).symm, h9⟩
  | 10, _, z => ⟨by decide, X10, (Option.some.inj z).symm, h10⟩
  | 11, _, z => ⟨by decide, X11, (Option.some.inj z).symm, h11⟩
  | i + 12, _, z => nomatch z
set_option maxHeartbeats 4000000 in

theorem ok_law (F : DefAt K mg "law" s_law) (T : Txt K mg aGround a0 a1 a2 a3 a4 a5 a6 a7 a8 a9 a10 a11) (D_law_box : DefOk P w K mg base CX0 1 "_law_box" ["_law_script", "_law_k", "_law_own"] (spBox K)) (D_law_value : DefOk P w K mg base CX0 3 "_law_value" ["_law_box_here"] spValue)
    (D_law_sorts : DefOk P w K mg base CX0 1 "_law_sorts" ["_law_one"] (spSorts [a0, a1, a2, a3, a4, a5, a6, a7, a8, a9, a10, a11])) (D_law_made : DefOk P w K mg base CX0 3 "_law_made" ["_law_some"] (spMade a0 a1 a2 a3 a4 a5 a6 a7 a8 a9 a10 a11))
    (D_law_named : DefOk P w K mg base CX0 3 "_law_named" ["_law_some"] (spNamed a0 a1 a2 a3 a4 a5 a6 a7 a8)) (D_law_kept : DefOk P w K mg base CX0 3 "_law_kept" ["_law_made_here"] (spKept a0 a1 a2 a3 a4 a5 a6 a7 a8))
    (R_InvalidHouse : ErrOk P w K mg base 1 "InvalidHouse" a4 ["self", "word"] (spInitF K a4 "word")) :
    DefG P w K mg base CX0 7 "law" ["_law_script"] (spLaw K) := by
  refine F.okG sc_law (fun _ _ _ _ _ _ us hl => match us, hl with | [_], _ => rfl) (fun vs H Q E h => ?_) (fun f cdv A outer s H vs Q E hgd hr h => ?_)
  · obtain ⟨a, ns, rfl, _⟩ := h
    rfl
  · obtain ⟨a, ns, rfl, hS, nl, k⟩ := h
    refine ⟨_, (pss_cons (ps_for PassesOwn.never rfl (pi_range1 (by rfl) T.n_range (pa_cons (pe_callB (c_max2 rfl) (by rfl) T.n_max (by decide +kernel) (pa_cons pe_int (pa_cons (pe_callB (c_min2 rfl) (by rfl) T.n_min (by decide +kernel) (pa_cons pe_int (pa_cons (pe_callB (c_len K) (by rfl) T.n_len (by decide +kernel) (pa_cons (pv 0) pa_nil)) pa_nil))) pa_nil))) pa_nil)) (pg_name (i := 1) sc_law.nd rfl (Or.inl rfl))
  (pss_cons (ps_set (i := 2) sc_law.nd rfl (Or.inr rfl) (pe_callD D_law_box (hr.mono (by decide)) pass0 rfl (pa_cons (pv 0) (pa_cons (pv 1) (pa_cons pe_int pa_nil)))))
  (pss_cons (ps_setLc (i := 3) rfl sc_law.nd rfl rfl (sw_true rfl rfl rfl (by decide +kernel)) (own := [("_law_turn", 9)]) (g := (gName 9)) (pi_range1 (by rfl) T.n_range (pa_cons pe_int pa_nil)) (blkOk_by (own := [("_law_turn", 9)]) (N := ["_law_script", "_law_k", "_law_box_here", "_law_some", "_law_made_here", "_law_row", "_law_error", "_law_spot", "_law_one", "_law_turn", "_law_other"]) (sc := defScope s_law) (by decide +kernel)) (fun _ _ _ _ _ => (pg_name (i := 9) sc_law.nd rfl (Or.inl rfl) (Or.inr rfl))) (fun _ _ _ _ _ => pts_nil) (fun _ _ _ _ _ => (pe_callD D_law_value (hr.mono (by decide)) pass0 rfl (pa_cons (pv 2) pa_nil))))
  (pss_cons (ps_set (i := 4) sc_law.nd rfl (Or.inl rfl) (pe_callD D_law_made (hr.mono (by decide)) pass0 rfl (pa_cons (pv 3) pa_nil)))
  (pss_cons (ps_for PassesOwn.never rfl (pi_enum (by rfl) T.n_enumerate (pa_cons (pv 4) pa_nil)) (pg_t (n := 2) K rfl (pgs_cons (pg_name (i := 7) sc_law.nd rfl (Or.inr rfl)) (pgs_cons (pg_name (i := 8) sc_law.nd rfl (Or.inl rfl)) pgs_nil)))
  (pss_cons (ps_if (pt_cmpR (o_ne K hr.units) (pe_callD D_law_sorts (hr.mono (by decide)) pass0 rfl (pa_cons (pv 8) pa_nil)) (pe_lc (own := [("_law_other", 10)]) (g := (gName 10)) rfl sc_law.nd (pi_range1 (by rfl) T.n_range (pa_cons pe_int pa_nil)) (blkOk_by (own := [("_law_other", 10)]) (N := ["_law_script", "_law_k", "_law_box_here", "_law_some", "_law_made_here", "_law_row", "_law_error", "_law_spot", "_law_one", "_law_turn", "_law_other"]) (sc := defScope s_law) (by decide +kernel)) (fun _ _ _ _ _ => (pg_name (i := 10) sc_law.nd rfl (Or.inl rfl) (Or.inr rfl))) (fun _ _ _ _ _ => pts_nil) (fun _ _ _ _ _ => (pe_cmpR (o_eq K hr.units) (pv 10) (pv 7) (nomark _)))) (nomark _)) (pss_one (ps_ret pe_bl))
  pss_nil)
  (pss_one (ps_if (PW.pt (pw_or (pt_not (pt_tr K (pe_callB (c_isV K) (by rfl) T.n_isinstance (by decide +kernel) (pa_cons (pv 8) (pa_cons (pe_gR rfl T.m_GroundError) pa_nil))))) (pw_or1 (pt_not (pt_tr K (pe_callB (c_isV K) (by rfl) T.n_isinstance (by decide +kernel) (pa_cons (pv 8) (pa_cons (pe_bT (T := "ValueError") (by rfl) T.n_ValueError (by decide +kernel)) pa_nil)))))))) (pss_one (ps_ret pe_bl))
  pss_nil))))
  (pss_cons (ps_if (PW.pt (pw_or (pt_cmpR (o_ne K hr.units) (pe_callB (c_repr K hgd hr.units) (by rfl) T.n_repr (by decide +kernel) (pa_cons (pe_callD D_law_kept (hr.mono (by decide)) pass0 rfl (pa_cons (pv 4) pa_nil)) pa_nil)) (pe_callB (c_repr K hgd hr.units) (by rfl) T.n_repr (by decide +kernel) (pa_cons (pv 3) pa_nil)) (nomark _)) (pw_or1 (pt_cmpR (o_ne K hr.units) (pe_callB (c_repr K hgd hr.units) (by rfl) T.n_repr (by decide +kernel) (pa_cons (pe_callD D_law_kept (hr.mono (by decide)) pass0 rfl (pa_cons (pe_callD D_law_named (hr.mono (by decide)) pass0 rfl (pa_cons (pv 3) pa_nil)) pa_nil)) pa_nil)) (pe_callB (c_repr K hgd hr.units) (by rfl) T.n_repr (by decide +kernel) (pa_cons (pv 3) pa_nil)) (nomark _))))) (pss_one (ps_ret pe_bl))
  pss_nil)
  (pss_cons (ps_set (i := 5) sc_law.nd rfl (Or.inl rfl) (pe_lst (pa_cons pe_int pa_nil)))
  (pss_cons (ps_set (i := 6) sc_law.nd rfl (Or.inl rfl) (pe_mkV R_InvalidHouse (hr.mono (by decide)) rfl (pa_cons (pv 5) pa_nil)))
  (pss_cons (ps_expr (pe_bm PySem.F.plainAttrs_list PySem.F.slot_list_append PySem.F.type_list_append mt_append (pv 5) (pa_cons pe_int pa_nil)))
  (pss_one (ps_if (pt_cmpR (o_ne K hr.units) (pe_exfK K (pv 6)) (pe_lst (pa_cons pe_int (pa_cons pe_int pa_nil))) (nomark _)) (pss_one (ps_ret pe_bl))
  pss_nil)))))))))))
  (pss_one (ps_ret pe_bl))), ?_⟩
    tm_at "go"
    refine ⟨_, rfl, by split <;> split <;> omega, by split <;> split <;> omega, for_range (lo := 0) (n := _)
      (fun i σ H' => (∃ o1 o2 o3 o4 o5 o6 o7 o8 o9 o10 : Option V, σ = [some (.ref a), o1, o2, o3, o4, o5, o6, o7, o8, o9, o10]) ∧ Same H H') ⟨⟨_, _, _, _, _, _, _, _, _, _, rfl⟩, Same.refl⟩ ?_ ?_⟩
    rotate_left
    · rintro σ H' ⟨⟨o1, o2, o3, o4, o5, o6, o7, o8, o9, o10, rfl⟩, sm⟩
      tm_at "go"
      exact k H'
    · rintro i σ H0 hi ⟨⟨o1, o2, o3, o4, o5, o6, o7, o8, o9, o10, rfl⟩, sm0⟩
      have hi4 : i < 64 := by
        have : (if (if (↑(List.map V.int ns).length : Int) < 3 then (↑(List.map V.int ns).length : Int) else 3) > 1 then
              if (↑(List.map V.int ns).length : Int) < 3 then (↑(List.map V.int ns).length : Int) else 3 else 1) ≤ 3 := by split <;> split <;> omega
        omega
      tm_at "r2"
      refine ends_gen fun DD hnx _ => ?_
      tm_at "go"
      refine ⟨a, ns, _, 1, rfl, Same.seqL sm0 hS, by omega, by omega, by decide, by decide, by omega, fun b H1 hb0 hx1 => ?_⟩
      have hb : H b = Option.none := Same.free sm0 hb0
      have sm1 : Same H H1 := Same.bx sm0 hx1 hb
      have bx1 := hx1.box
      clear sm0 hx1 hb0
      tm_at "go"
      refine ⟨9, rfl, by decide, by decide, fun D hD => ?_⟩
      have nDb : D ≠ b := Ne.symm (bx1.fresh hD)
      refine lc_range (lo := 0) (fun i H' => Bx b H1 H' ∧ ∃ vs : List V, vs.length = i ∧ (∀ v ∈ vs, VL b H' v ∧ v ≠ .ref D) ∧ H' D = some (.lst vs)) ⟨(Bx.refl bx1).upd hD, [], rfl, fun v hv => (nomatch hv), upd_same⟩ ?_ ?_
      · rintro j H2 hj ⟨hx, vs, lv, hv, hl⟩
        tm_at "go"
        refine ⟨rfl, ?_⟩
        tm_at "go"
        refine ⟨b, rfl, hx.box, fun v H3 hx3 h1 h2 => ?_⟩
        have nv : v ≠ .ref D := fun z => by
          have := h2 D z
          rw [hl] at this
          cases this
        refine ⟨_, hx3.keep _ _ nDb hl, szlt (Nat.ble_eq_true_of_le (by omega)), (hx.trans hx3).updD hD nDb, vs ++ [v], by rw [List.length_append, lv]; rfl, fun u hu => ?_, upd_same⟩
        rcases List.mem_append.mp hu with hu | hu
        · exact ⟨((hv u hu).1.bx hx3).upd (hv u hu).2, (hv u hu).2⟩
        · rw [List.mem_singleton.mp hu]
          exact ⟨h1.upd nv, nv⟩
      rintro H2 ⟨hx, vs, lv, hv, hl⟩
      have sm2 := Same.bx sm1 hx hb
      clear hx sm1 bx1 hD
      have hv : ∀ v ∈ vs, VL b H2 v := fun v h => (hv v h).1
      obtain ⟨ds, hds⟩ := shs (K := K) hv
      clear hv
      obtain ⟨v0, v1, v2, v3, v4, v5, v6, v7, v8, rfl⟩ : ∃ v0 v1 v2 v3 v4 v5 v6 v7 v8, vs = [v0, v1, v2, v3, v4, v5, v6, v7, v8] := match vs, lv with
        | [v0, v1, v2, v3, v4, v5, v6, v7, v8], _ => ⟨v0, v1, v2, v3, v4, v5, v6, v7, v8, rfl⟩
      tm_at "go"
      refine ⟨D, v0, v1, v2, v3, v4, v5, v6, v7, v8, rfl, hl, fun M x0 x1 x2 x3 x4 x5 x6 x7 x8 x9 x10 x11 H3 s3 hM e9 n9 n10 n11 => ?_⟩
      replace hl := s3 _ _ hl
      replace sm2 := sm2.trans s3
      have hds := shs_mono s3 hds
      clear s3
      tm_at "go"
      unfold iEnum
      tm_at "go"
      have hAE := all_AE (cs := [a0, a1, a2, a3, a4, a5, a6, a7, a8, a9, a10, a11]) e9.1.ae e9.2.1.ae e9.2.2.1.ae e9.2.2.2.1.ae e9.2.2.2.2.1.ae e9.2.2.2.2.2.1.ae e9.2.2.2.2.2.2.1.ae e9.2.2.2.2.2.2.2.1.ae e9.2.2.2.2.2.2.2.2.ae (.inl n9) (.inl n10) (.inl n11)
      refine ⟨M, _, rfl, SqL.of hM, ?_⟩
      refine for_it (walk_enum (xs := [V.ref x0, .ref x1, .ref x2, .ref x3, .ref x4, .ref x5, .ref x6, .ref x7, .ref x8, .ref x9, .ref x10, .ref x11])) (fun j σ H' => (∃ o7 o8 o9 o10 : Option V, σ = [some (.ref a), some (.int (0 + (i : Int))), some (.ref b), some (.ref D), some (.ref M), o5, o6, o7, o8, o9, o10]) ∧ Same H3 H')
        ⟨⟨_, _, _, _, rfl⟩, Same.refl⟩ (fun j σ H' _ q => SqL.of (q.2 _ _ hM)) ?_ ?_
      · rintro j y σ H4 H5 hj ⟨⟨o7, o8, o9, o10, rfl⟩, sm4⟩ ⟨t9, w1, w2, rfl, ht9, rfl, hv1, hv2⟩
        cases hv1
        obtain ⟨j12, x, rfl, hx⟩ := hAE j _ hv2
        refine r_gT (SqT.of upd_same) rfl ?_
        have s5 := same_new ht9 (o := .tup [.int (j : Int), .ref x])
        generalize upd H4 t9 (.tup [.int (j : Int), .ref x]) = H5 at s5 ⊢
        replace sm4 := sm4.trans s5
        replace hx := hx.mono sm4
        clear s5 ht9
        tm_at "go"
        refine ⟨x, j, rfl, j12, hx, fun D1 H6 s6 hD1 => ?_⟩
        tm_at "go"
        refine ⟨12, rfl, by decide, by decide, fun D2 hD2 => ?_⟩
        refine lc_range (lo := 0) (fun q H' => Same H6 H' ∧ H' D2 = some (.lst (((List.range q).map fun c => decide (c = j)).map V.bl))) ⟨same_new hD2, upd_same⟩ ?_ ?_
        · rintro q H7 hq ⟨s7, hl7⟩
          rw [show (0 : Int) + (q : Int) = (q : Int) by omega]
          tm_at "go"
          refine ⟨rfl, ?_⟩
          tm_at "go"
          refine r_eq rfl ?_
          rw [show decide (V.int (q : Int) = V.int (j : Int)) = decide (q = j) from by
            rw [decide_eq_decide]
            exact ⟨fun z => by have := V.int.inj z; omega, fun z => by rw [z]⟩]
          refine ⟨_, hl7, ?_, Same.updF s7 hD2, ?_⟩
          · rw [List.length_map, List.length_map, List.length_range]
            exact szlt (Nat.ble_eq_true_of_le (by have : q < 12 := hq; omega))
          · rw [upd_same, List.range_succ, List.map_append, List.map_append]
            rfl
        rintro H7 ⟨s7, hl7⟩
        have hl7 : H7 D2 = some (.lst (((List.range 12).map fun c => decide (c = j)).map V.bl)) := hl7
        replace hD1 := s7 _ _ hD1
        generalize (List.range 12).map (fun c => decide (c = j)) = bs at hD1 hl7
        have hD1 : H7 D1 = some (.lst (bs.map V.bl)) := hD1
        tm_at "go"
        refine r_neD (d := .list (bs.map PyData.bool)) (e := .list (bs.map PyData.bool)) (.lst (SqL.of hD1) (dp_bools bs)) (.lst (SqL.of hl7) (dp_bools bs)) (shp_bools bs) (shp_bools bs) ?_
        rw [show PyData.eqv (.list (bs.map PyData.bool)) (.list (bs.map PyData.bool)) = true from eqv_bools bs]
        tm_at "go"
        have s8 := s6.trans s7
        replace hx := hx.mono s8
        refine ⟨x, _, _, _, _, rfl, T.ec j j12, hx, fun u r => r, (kitBase_at T.kib j12).1, ?_⟩
        tm_at "go"
        refine ⟨x, _, _, _, _, rfl, T.ec j j12, hx, fun u r => r, (kitBase_at T.kib j12).2, ?_⟩
        tm_at "go"
        exact ⟨⟨_, _, _, _, rfl⟩, sm4.trans s8⟩
      rintro σ7 H4 ⟨⟨o7, o8, o9, o10, rfl⟩, s4⟩
      replace hl := s4 _ _ hl
      replace hM := s4 _ _ hM
      replace e9 := e9.mono s4
      replace sm2 := sm2.trans s4
      replace hds := shs_mono s4 hds
      clear s4 hAE n9 n10 n11
      tm_at "go"
      refine ⟨M, x0, x1, x2, x3, x4, x5, x6, x7, x8, [.ref x9, .ref x10, .ref x11], v0, v1, v2, v3, v4, v5, v6, v7, v8, rfl, hM, e9, fun D1 H5 s5 hD1 => ?_⟩
      replace hl := s5 _ _ hl
      replace sm2 := sm2.trans s5
      replace hds := shs_mono s5 hds
      clear s5 hM e9
      tm_at "go"
      refine (sh_lst (m := 5000) (SqL.of hD1) hds (Nat.le_of_ble_eq_true rfl)).repr (by decide) (by decide) ?_
      tm_at "go"
      refine (sh_lst (m := 5000) (SqL.of hl) hds (Nat.le_of_ble_eq_true rfl)).repr (by decide) (by decide) ?_
      refine r_ne rfl ?_
      rw [neSelf]
      tm_at "go"
      refine ⟨D, v0, v1, v2, v3, v4, v5, v6, v7, v8, rfl, hl, fun N y0 y1 y2 y3 y4 y5 y6 y7 y8 H6 s6 hN n9 => ?_⟩
      replace hl := s6 _ _ hl
      replace sm2 := sm2.trans s6
      replace hds := shs_mono s6 hds
      clear s6 hD1
      tm_at "go"
      refine ⟨N, y0, y1, y2, y3, y4, y5, y6, y7, y8, [], v0, v1, v2, v3, v4, v5, v6, v7, v8, rfl, hN, n9, fun D3 H7 s7 hD3 => ?_⟩
      replace hl := s7 _ _ hl
      replace sm2 := sm2.trans s7
      replace hds := shs_mono s7 hds
      clear s7 hN n9
      tm_at "go"
      refine (sh_lst (m := 5000) (SqL.of hD3) hds (Nat.le_of_ble_eq_true rfl)).repr (by decide) (by decide) ?_
      tm_at "go"
      refine (sh_lst (m := 5000) (SqL.of hl) hds (Nat.le_of_ble_eq_true rfl)).repr (by decide) (by decide) ?_
      refine r_ne rfl ?_
      rw [neSelf]
      clear hds hl hD3
      tm_at "go"
      refine ⟨szl rfl, fun r hr0 => ?_⟩
      have hrH : H r = Option.none := Same.free sm2 hr0
      have s8 := same_new hr0 (o := .lst [.int 1])
      have hr : upd H7 r (.lst [.int 1]) r = some (.lst [.int 1]) := upd_same
      generalize upd H7 r (.lst [.int 1]) = H8 at s8 hr ⊢
      replace sm2 := sm2.trans s8
      clear s8 hr0
      tm_at "go"
      refine r_mkV1 ?_
      tm_at "go"
      refine r_mkF1 T.o4 T.f4 fun xe H9 s9 _ he => ?_
      replace sm2 := sm2.trans s9
      replace hr := s9 _ _ hr
      clear s9
      tm_at "go"
      refine ⟨tyL hr, ?_⟩
      tm_at "go"
      refine r_append hr (szlt rfl) ?_
      replace he := he.lst (o := .lst [.int 1, .int 2]) hr
      replace sm2 := Same.updF (o := .lst [.int 1, .int 2]) sm2 hrH
      have hr : upd H9 r (.lst [.int 1, .int 2]) r = some (.lst [.int 1, .int 2]) := upd_same
      simp only [List.cons_append, List.nil_append]
      generalize upd H9 r (.lst [.int 1, .int 2]) = H10 at he sm2 hr ⊢
      tm_at "go"
      refine r_exf ?_
      tm_at "go"
      refine r_exF he T.x4 T.f4 ?_
      tm_at "go"
      refine ⟨szl rfl, fun z hz => ?_⟩
      tm_at "go"
      refine r_neD (d := .list [.int 1, .int 2]) (e := .list [.int 1, .int 2]) (.lst (SqL.of (at_upd (ne_of_none hr hz) hr)) (.cons (.int _) (.cons (.int _) .nil))) (.lst (SqL.of upd_same) (.cons (.int _) (.cons (.int _) .nil))) (by decide +kernel) (by decide +kernel) ?_
      rw [show PyData.eqv (.list [.int 1, .int 2]) (.list [.int 1, .int 2]) = true from by decide +kernel]
      tm_at "go"
      rw [hnx]
      exact ⟨⟨_, _, _, _, _, _, _, _, _, _, rfl⟩, Same.new sm2 hz⟩
end
theorem all_mk {h : Heap} (X : K.In h) (G : h.Ns mainGlobals mg)
    (a_GroundError : PySem.W.nsIn K mainGlobals "GroundError" = some (some (.ref aGround)))
    (bs_GroundError : PySem.W.specialIn K (.ref aGround) "__getattribute__" = some (some (.builtin "type.__getattribute__")))
    (br_GroundError : PySem.W.readsIn K aGround (.type "type") = true)
    (bf_GroundError : PySem.W.findCls K (.ref aGround) (.type "type") "__init__" = some (.val (.builtin "ValueError.__init__")))
    (a_InvalidNumbers : PySem.W.nsIn K mainGlobals "InvalidNumbers" = some (some (.ref a0)))
    {nm_InvalidNumbers q_InvalidNumbers : Str} {N_InvalidNumbers : Addr} {bs_InvalidNumbers : List Value} {sn_InvalidNumbers : List Str} {sub_InvalidNumbers : List Value} {ab_InvalidNumbers : Bool} {col_InvalidNumbers : Option Bool} {dd_InvalidNumbers : Option Addr} {m0_InvalidNumbers m1_InvalidNumbers m2_InvalidNumbers m3_InvalidNumbers m5_InvalidNumbers : Option Value}
    (x_InvalidNumbers : K.lookup a0 = some (excClassObj nm_InvalidNumbers q_InvalidNumbers a0 N_InvalidNumbers bs_InvalidNumbers [.ref aGround, .type "ValueError", .type "Exception", .type "BaseException", .type "object"] true sn_InvalidNumbers sub_InvalidNumbers ab_InvalidNumbers col_InvalidNumbers dd_InvalidNumbers m0_InvalidNumbers m1_InvalidNumbers m2_InvalidNumbers m3_InvalidNumbers m5_InvalidNumbers "ValueError.__new__"))
    (sa_InvalidNumbers : PySem.W.findIn K (.ref a0) "__setattr__" = some (some (.builtin "object.__setattr__")))
    (ex_InvalidNumbers : PySem.W.subIn K (.ref a0) (.type "BaseException") = some true)
    (ty_InvalidNumbers : PySem.W.typeIn K (.ref a0) = some (.type "type"))
    (kc_InvalidNumbers : PySem.W.keepIn K (.ref a0) = true)
    {f_InvalidNumbers : Addr} {od_InvalidNumbers an_InvalidNumbers : Option Addr} {sl_InvalidNumbers : Array (Option Value)} {oc_InvalidNumbers kV_InvalidNumbers dc_InvalidNumbers pm_InvalidNumbers cd_InvalidNumbers ct_InvalidNumbers : Value}
    (i_InvalidNumbers : PySem.W.findIn K (.ref a0) "__init__" = some (some (.ref f_InvalidNumbers)))
    (ti_InvalidNumbers : PySem.W.typeIn K (.ref f_InvalidNumbers) = some (.type "function"))
    (l_InvalidNumbers : K.lookup f_InvalidNumbers = some ⟨oc_InvalidNumbers, od_InvalidNumbers, .func (PySem.W.fnOf "__init__" "InvalidNumbers.__init__" (defArgs s_InvalidNumbers__init) (defBody s_InvalidNumbers__init) (defScope s_InvalidNumbers__init) .none kV_InvalidNumbers dc_InvalidNumbers pm_InvalidNumbers an_InvalidNumbers cd_InvalidNumbers ct_InvalidNumbers), sl_InvalidNumbers⟩)
    (c_InvalidNumbers : PySem.W.codeIn K cd_InvalidNumbers "InvalidNumbers.__init__" = true)
    (k_InvalidNumbers : PySem.W.keepIn K (.ref f_InvalidNumbers) = true)
    (a_InvalidText : PySem.W.nsIn K mainGlobals "InvalidText" = some (some (.ref a1)))
    {nm_InvalidText q_InvalidText : Str} {N_InvalidText : Addr} {bs_InvalidText : List Value} {sn_InvalidText : List Str} {sub_InvalidText : List Value} {ab_InvalidText : Bool} {col_InvalidText : Option Bool} {dd_InvalidText : Option Addr} {m0_InvalidText m1_InvalidText m2_InvalidText m3_InvalidText m5_InvalidText : Option Value}
    (x_InvalidText : K.lookup a1 = some (excClassObj nm_InvalidText q_InvalidText a1 N_InvalidText bs_InvalidText [.ref aGround, .type "ValueError", .type "Exception", .type "BaseException", .type "object"] true sn_InvalidText sub_InvalidText ab_InvalidText col_InvalidText dd_InvalidText m0_InvalidText m1_InvalidText m2_InvalidText m3_InvalidText m5_InvalidText "ValueError.__new__"))
    (sa_InvalidText : PySem.W.findIn K (.ref a1) "__setattr__" = some (some (.builtin "object.__setattr__")))
    (ex_InvalidText : PySem.W.subIn K (.ref a1) (.type "BaseException") = some true)
    (ty_InvalidText : PySem.W.typeIn K (.ref a1) = some (.type "type"))
    (kc_InvalidText : PySem.W.keepIn K (.ref a1) = true)
    {f_InvalidText : Addr} {od_InvalidText an_InvalidText : Option Addr} {sl_InvalidText : Array (Option Value)} {oc_InvalidText kV_InvalidText dc_InvalidText pm_InvalidText cd_InvalidText ct_InvalidText : Value}
    (i_InvalidText : PySem.W.findIn K (.ref a1) "__init__" = some (some (.ref f_InvalidText)))
    (ti_InvalidText : PySem.W.typeIn K (.ref f_InvalidText) = some (.type "function"))
    (l_InvalidText : K.lookup f_InvalidText = some ⟨oc_InvalidText, od_InvalidText, .func (PySem.W.fnOf "__init__" "InvalidText.__init__" (defArgs s_InvalidText__init) (defBody s_InvalidText__init) (defScope s_InvalidText__init) .none kV_InvalidText dc_InvalidText pm_InvalidText an_InvalidText cd_InvalidText ct_InvalidText), sl_InvalidText⟩)
    (c_InvalidText : PySem.W.codeIn K cd_InvalidText "InvalidText.__init__" = true)
    (k_InvalidText : PySem.W.keepIn K (.ref f_InvalidText) = true)
    (a_InvalidRow : PySem.W.nsIn K mainGlobals "InvalidRow" = some (some (.ref a2)))
    {nm_InvalidRow q_InvalidRow : Str} {N_InvalidRow : Addr} {bs_InvalidRow : List Value} {sn_InvalidRow : List Str} {sub_InvalidRow : List Value} {ab_InvalidRow : Bool} {col_InvalidRow : Option Bool} {dd_InvalidRow : Option Addr} {m0_InvalidRow m1_InvalidRow m2_InvalidRow m3_InvalidRow m5_InvalidRow : Option Value}
    (x_InvalidRow : K.lookup a2 = some (excClassObj nm_InvalidRow q_InvalidRow a2 N_InvalidRow bs_InvalidRow [.ref aGround, .type "ValueError", .type "Exception", .type "BaseException", .type "object"] true sn_InvalidRow sub_InvalidRow ab_InvalidRow col_InvalidRow dd_InvalidRow m0_InvalidRow m1_InvalidRow m2_InvalidRow m3_InvalidRow m5_InvalidRow "ValueError.__new__"))
    (sa_InvalidRow : PySem.W.findIn K (.ref a2) "__setattr__" = some (some (.builtin "object.__setattr__")))
    (ex_InvalidRow : PySem.W.subIn K (.ref a2) (.type "BaseException") = some true)
    (ty_InvalidRow : PySem.W.typeIn K (.ref a2) = some (.type "type"))
    (kc_InvalidRow : PySem.W.keepIn K (.ref a2) = true)
    {f_InvalidRow : Addr} {od_InvalidRow an_InvalidRow : Option Addr} {sl_InvalidRow : Array (Option Value)} {oc_InvalidRow kV_InvalidRow dc_InvalidRow pm_InvalidRow cd_InvalidRow ct_InvalidRow : Value}
    (i_InvalidRow : PySem.W.findIn K (.ref a2) "__init__" = some (some (.ref f_InvalidRow)))
    (ti_InvalidRow : PySem.W.typeIn K (.ref f_InvalidRow) = some (.type "function"))
    (l_InvalidRow : K.lookup f_InvalidRow = some ⟨oc_InvalidRow, od_InvalidRow, .func (PySem.W.fnOf "__init__" "InvalidRow.__init__" (defArgs s_InvalidRow__init) (defBody s_InvalidRow__init) (defScope s_InvalidRow__init) .none kV_InvalidRow dc_InvalidRow pm_InvalidRow an_InvalidRow cd_InvalidRow ct_InvalidRow), sl_InvalidRow⟩)
    (c_InvalidRow : PySem.W.codeIn K cd_InvalidRow "InvalidRow.__init__" = true)
    (k_InvalidRow : PySem.W.keepIn K (.ref f_InvalidRow) = true)
    (a_InvalidChooser : PySem.W.nsIn K mainGlobals "InvalidChooser" = some (some (.ref a3)))
    {nm_InvalidChooser q_InvalidChooser : Str} {N_InvalidChooser : Addr} {bs_InvalidChooser : List Value} {sn_InvalidChooser : List Str} {sub_InvalidChooser : List Value} {ab_InvalidChooser : Bool} {col_InvalidChooser : Option Bool} {dd_InvalidChooser : Option Addr} {m0_InvalidChooser m1_InvalidChooser m2_InvalidChooser m3_InvalidChooser m5_InvalidChooser : Option Value}
    (x_InvalidChooser : K.lookup a3 = some (excClassObj nm_InvalidChooser q_InvalidChooser a3 N_InvalidChooser bs_InvalidChooser [.ref aGround, .type "ValueError", .type "Exception", .type "BaseException", .type "object"] true sn_InvalidChooser sub_InvalidChooser ab_InvalidChooser col_InvalidChooser dd_InvalidChooser m0_InvalidChooser m1_InvalidChooser m2_InvalidChooser m3_InvalidChooser m5_InvalidChooser "ValueError.__new__"))
    (sa_InvalidChooser : PySem.W.findIn K (.ref a3) "__setattr__" = some (some (.builtin "object.__setattr__")))
    (ex_InvalidChooser : PySem.W.subIn K (.ref a3) (.type "BaseException") = some true)
    (ty_InvalidChooser : PySem.W.typeIn K (.ref a3) = some (.type "type"))
    (kc_InvalidChooser : PySem.W.keepIn K (.ref a3) = true)
    {f_InvalidChooser : Addr} {od_InvalidChooser an_InvalidChooser : Option Addr} {sl_InvalidChooser : Array (Option Value)} {oc_InvalidChooser kV_InvalidChooser dc_InvalidChooser pm_InvalidChooser cd_InvalidChooser ct_InvalidChooser : Value}
    (i_InvalidChooser : PySem.W.findIn K (.ref a3) "__init__" = some (some (.ref f_InvalidChooser)))
    (ti_InvalidChooser : PySem.W.typeIn K (.ref f_InvalidChooser) = some (.type "function"))
    (l_InvalidChooser : K.lookup f_InvalidChooser = some ⟨oc_InvalidChooser, od_InvalidChooser, .func (PySem.W.fnOf "__init__" "InvalidChooser.__init__" (defArgs s_InvalidChooser__init) (defBody s_InvalidChooser__init) (defScope s_InvalidChooser__init) .none kV_InvalidChooser dc_InvalidChooser pm_InvalidChooser an_InvalidChooser cd_InvalidChooser ct_InvalidChooser), sl_InvalidChooser⟩)
    (c_InvalidChooser : PySem.W.codeIn K cd_InvalidChooser "InvalidChooser.__init__" = true)
    (k_InvalidChooser : PySem.W.keepIn K (.ref f_InvalidChooser) = true)
    (a_InvalidHouse : PySem.W.nsIn K mainGlobals "InvalidHouse" = some (some (.ref a4)))
    {nm_InvalidHouse q_InvalidHouse : Str} {N_InvalidHouse : Addr} {bs_InvalidHouse : List Value} {sn_InvalidHouse : List Str} {sub_InvalidHouse : List Value} {ab_InvalidHouse : Bool} {col_InvalidHouse : Option Bool} {dd_InvalidHouse : Option Addr} {m0_InvalidHouse m1_InvalidHouse m2_InvalidHouse m3_InvalidHouse m5_InvalidHouse : Option Value}
    (x_InvalidHouse : K.lookup a4 = some (excClassObj nm_InvalidHouse q_InvalidHouse a4 N_InvalidHouse bs_InvalidHouse [.ref aGround, .type "ValueError", .type "Exception", .type "BaseException", .type "object"] true sn_InvalidHouse sub_InvalidHouse ab_InvalidHouse col_InvalidHouse dd_InvalidHouse m0_InvalidHouse m1_InvalidHouse m2_InvalidHouse m3_InvalidHouse m5_InvalidHouse "ValueError.__new__"))
    (sa_InvalidHouse : PySem.W.findIn K (.ref a4) "__setattr__" = some (some (.builtin "object.__setattr__")))
    (ex_InvalidHouse : PySem.W.subIn K (.ref a4) (.type "BaseException") = some true)
    (ty_InvalidHouse : PySem.W.typeIn K (.ref a4) = some (.type "type"))
    (kc_InvalidHouse : PySem.W.keepIn K (.ref a4) = true)
    {f_InvalidHouse : Addr} {od_InvalidHouse an_InvalidHouse : Option Addr} {sl_InvalidHouse : Array (Option Value)} {oc_InvalidHouse kV_InvalidHouse dc_InvalidHouse pm_InvalidHouse cd_InvalidHouse ct_InvalidHouse : Value}
    (i_InvalidHouse : PySem.W.findIn K (.ref a4) "__init__" = some (some (.ref f_InvalidHouse)))
    (ti_InvalidHouse : PySem.W.typeIn K (.ref f_InvalidHouse) = some (.type "function"))
    (l_InvalidHouse : K.lookup f_InvalidHouse = some ⟨oc_InvalidHouse, od_InvalidHouse, .func (PySem.W.fnOf "__init__" "InvalidHouse.__init__" (defArgs s_InvalidHouse__init) (defBody s_InvalidHouse__init) (defScope s_InvalidHouse__init) .none kV_InvalidHouse dc_InvalidHouse pm_InvalidHouse an_InvalidHouse cd_InvalidHouse ct_InvalidHouse), sl_InvalidHouse⟩)
    (c_InvalidHouse : PySem.W.codeIn K cd_InvalidHouse "InvalidHouse.__init__" = true)
    (k_InvalidHouse : PySem.W.keepIn K (.ref f_InvalidHouse) = true)
    (a_InvalidTurn : PySem.W.nsIn K mainGlobals "InvalidTurn" = some (some (.ref a5)))
    {nm_InvalidTurn q_InvalidTurn : Str} {N_InvalidTurn : Addr} {bs_InvalidTurn : List Value} {sn_InvalidTurn : List Str} {sub_InvalidTurn : List Value} {ab_InvalidTurn : Bool} {col_InvalidTurn : Option Bool} {dd_InvalidTurn : Option Addr} {m0_InvalidTurn m1_InvalidTurn m2_InvalidTurn m3_InvalidTurn m5_InvalidTurn : Option Value}
    (x_InvalidTurn : K.lookup a5 = some (excClassObj nm_InvalidTurn q_InvalidTurn a5 N_InvalidTurn bs_InvalidTurn [.ref aGround, .type "ValueError", .type "Exception", .type "BaseException", .type "object"] true sn_InvalidTurn sub_InvalidTurn ab_InvalidTurn col_InvalidTurn dd_InvalidTurn m0_InvalidTurn m1_InvalidTurn m2_InvalidTurn m3_InvalidTurn m5_InvalidTurn "ValueError.__new__"))
    (sa_InvalidTurn : PySem.W.findIn K (.ref a5) "__setattr__" = some (some (.builtin "object.__setattr__")))
    (ex_InvalidTurn : PySem.W.subIn K (.ref a5) (.type "BaseException") = some true)
    (ty_InvalidTurn : PySem.W.typeIn K (.ref a5) = some (.type "type"))
    (kc_InvalidTurn : PySem.W.keepIn K (.ref a5) = true)
    {f_InvalidTurn : Addr} {od_InvalidTurn an_InvalidTurn : Option Addr} {sl_InvalidTurn : Array (Option Value)} {oc_InvalidTurn kV_InvalidTurn dc_InvalidTurn pm_InvalidTurn cd_InvalidTurn ct_InvalidTurn : Value}
    (i_InvalidTurn : PySem.W.findIn K (.ref a5) "__init__" = some (some (.ref f_InvalidTurn)))
    (ti_InvalidTurn : PySem.W.typeIn K (.ref f_InvalidTurn) = some (.type "function"))
    (l_InvalidTurn : K.lookup f_InvalidTurn = some ⟨oc_InvalidTurn, od_InvalidTurn, .func (PySem.W.fnOf "__init__" "InvalidTurn.__init__" (defArgs s_InvalidTurn__init) (defBody s_InvalidTurn__init) (defScope s_InvalidTurn__init) .none kV_InvalidTurn dc_InvalidTurn pm_InvalidTurn an_InvalidTurn cd_InvalidTurn ct_InvalidTurn), sl_InvalidTurn⟩)
    (c_InvalidTurn : PySem.W.codeIn K cd_InvalidTurn "InvalidTurn.__init__" = true)
    (k_InvalidTurn : PySem.W.keepIn K (.ref f_InvalidTurn) = true)
    (a_NoNumber : PySem.W.nsIn K mainGlobals "NoNumber" = some (some (.ref a6)))
    {nm_NoNumber q_NoNumber : Str} {N_NoNumber : Addr} {bs_NoNumber : List Value} {sn_NoNumber : List Str} {sub_NoNumber : List Value} {ab_NoNumber : Bool} {col_NoNumber : Option Bool} {dd_NoNumber : Option Addr} {m0_NoNumber m1_NoNumber m2_NoNumber m3_NoNumber m5_NoNumber : Option Value}
    (x_NoNumber : K.lookup a6 = some (excClassObj nm_NoNumber q_NoNumber a6 N_NoNumber bs_NoNumber [.ref aGround, .type "ValueError", .type "Exception", .type "BaseException", .type "object"] true sn_NoNumber sub_NoNumber ab_NoNumber col_NoNumber dd_NoNumber m0_NoNumber m1_NoNumber m2_NoNumber m3_NoNumber m5_NoNumber "ValueError.__new__"))
    (sa_NoNumber : PySem.W.findIn K (.ref a6) "__setattr__" = some (some (.builtin "object.__setattr__")))
    (ex_NoNumber : PySem.W.subIn K (.ref a6) (.type "BaseException") = some true)
    (ty_NoNumber : PySem.W.typeIn K (.ref a6) = some (.type "type"))
    (kc_NoNumber : PySem.W.keepIn K (.ref a6) = true)
    {f_NoNumber : Addr} {od_NoNumber an_NoNumber : Option Addr} {sl_NoNumber : Array (Option Value)} {oc_NoNumber kV_NoNumber dc_NoNumber pm_NoNumber cd_NoNumber ct_NoNumber : Value}
    (i_NoNumber : PySem.W.findIn K (.ref a6) "__init__" = some (some (.ref f_NoNumber)))
    (ti_NoNumber : PySem.W.typeIn K (.ref f_NoNumber) = some (.type "function"))
    (l_NoNumber : K.lookup f_NoNumber = some ⟨oc_NoNumber, od_NoNumber, .func (PySem.W.fnOf "__init__" "NoNumber.__init__" (defArgs s_NoNumber__init) (defBody s_NoNumber__init) (defScope s_NoNumber__init) .none kV_NoNumber dc_NoNumber pm_NoNumber an_NoNumber cd_NoNumber ct_NoNumber), sl_NoNumber⟩)
    (c_NoNumber : PySem.W.codeIn K cd_NoNumber "NoNumber.__init__" = true)
    (k_NoNumber : PySem.W.keepIn K (.ref f_NoNumber) = true)
    (a_NoRow : PySem.W.nsIn K mainGlobals "NoRow" = some (some (.ref a7)))
    {nm_NoRow q_NoRow : Str} {N_NoRow : Addr} {bs_NoRow : List Value} {sn_NoRow : List Str} {sub_NoRow : List Value} {ab_NoRow : Bool} {col_NoRow : Option Bool} {dd_NoRow : Option Addr} {m0_NoRow m1_NoRow m2_NoRow m3_NoRow m5_NoRow : Option Value}
    (x_NoRow : K.lookup a7 = some (excClassObj nm_NoRow q_NoRow a7 N_NoRow bs_NoRow [.ref aGround, .type "ValueError", .type "Exception", .type "BaseException", .type "object"] true sn_NoRow sub_NoRow ab_NoRow col_NoRow dd_NoRow m0_NoRow m1_NoRow m2_NoRow m3_NoRow m5_NoRow "ValueError.__new__"))
    (sa_NoRow : PySem.W.findIn K (.ref a7) "__setattr__" = some (some (.builtin "object.__setattr__")))
    (ex_NoRow : PySem.W.subIn K (.ref a7) (.type "BaseException") = some true)
    (ty_NoRow : PySem.W.typeIn K (.ref a7) = some (.type "type"))
    (kc_NoRow : PySem.W.keepIn K (.ref a7) = true)
    {f_NoRow : Addr} {od_NoRow an_NoRow : Option Addr} {sl_NoRow : Array (Option Value)} {oc_NoRow kV_NoRow dc_NoRow pm_NoRow cd_NoRow ct_NoRow : Value}
    (i_NoRow : PySem.W.findIn K (.ref a7) "__init__" = some (some (.ref f_NoRow)))
    (ti_NoRow : PySem.W.typeIn K (.ref f_NoRow) = some (.type "function"))
    (l_NoRow : K.lookup f_NoRow = some ⟨oc_NoRow, od_NoRow, .func (PySem.W.fnOf "__init__" "NoRow.__init__" (defArgs s_NoRow__init) (defBody s_NoRow__init) (defScope s_NoRow__init) .none kV_NoRow dc_NoRow pm_NoRow an_NoRow cd_NoRow ct_NoRow), sl_NoRow⟩)
    (c_NoRow : PySem.W.codeIn K cd_NoRow "NoRow.__init__" = true)
    (k_NoRow : PySem.W.keepIn K (.ref f_NoRow) = true)
    (a_NoNote : PySem.W.nsIn K mainGlobals "NoNote" = some (some (.ref a8)))
    {nm_NoNote q_NoNote : Str} {N_NoNote : Addr} {bs_NoNote : List Value} {sn_NoNote : List Str} {sub_NoNote : List Value} {ab_NoNote : Bool} {col_NoNote : Option Bool} {dd_NoNote : Option Addr} {m0_NoNote m1_NoNote m2_NoNote m3_NoNote m5_NoNote : Option Value}
    (x_NoNote : K.lookup a8 = some (excClassObj nm_NoNote q_NoNote a8 N_NoNote bs_NoNote [.ref aGround, .type "ValueError", .type "Exception", .type "BaseException", .type "object"] true sn_NoNote sub_NoNote ab_NoNote col_NoNote dd_NoNote m0_NoNote m1_NoNote m2_NoNote m3_NoNote m5_NoNote "ValueError.__new__"))
    (sa_NoNote : PySem.W.findIn K (.ref a8) "__setattr__" = some (some (.builtin "object.__setattr__")))
    (ex_NoNote : PySem.W.subIn K (.ref a8) (.type "BaseException") = some true)
    (ty_NoNote : PySem.W.typeIn K (.ref a8) = some (.type "type"))
    (kc_NoNote : PySem.W.keepIn K (.ref a8) = true)
    {f_NoNote : Addr} {od_NoNote an_NoNote : Option Addr} {sl_NoNote : Array (Option Value)} {oc_NoNote kV_NoNote dc_NoNote pm_NoNote cd_NoNote ct_NoNote : Value}
    (i_NoNote : PySem.W.findIn K (.ref a8) "__init__" = some (some (.ref f_NoNote)))
    (ti_NoNote : PySem.W.typeIn K (.ref f_NoNote) = some (.type "function"))
    (l_NoNote : K.lookup f_NoNote = some ⟨oc_NoNote, od_NoNote, .func (PySem.W.fnOf "__init__" "NoNote.__init__" (defArgs s_NoNote__init) (defBody s_NoNote__init) (defScope s_NoNote__init) .none kV_NoNote dc_NoNote pm_NoNote an_NoNote cd_NoNote ct_NoNote), sl_NoNote⟩)
    (c_NoNote : PySem.W.codeIn K cd_NoNote "NoNote.__init__" = true)
    (k_NoNote : PySem.W.keepIn K (.ref f_NoNote) = true)
    (a_InvalidWord : PySem.W.nsIn K mainGlobals "InvalidWord" = some (some (.ref a9)))
    {nm_InvalidWord q_InvalidWord : Str} {N_InvalidWord : Addr} {bs_InvalidWord : List Value} {sn_InvalidWord : List Str} {sub_InvalidWord : List Value} {ab_InvalidWord : Bool} {col_InvalidWord : Option Bool} {dd_InvalidWord : Option Addr} {m0_InvalidWord m1_InvalidWord m2_InvalidWord m3_InvalidWord m5_InvalidWord : Option Value}
    (x_InvalidWord : K.lookup a9 = some (excClassObj nm_InvalidWord q_InvalidWord a9 N_InvalidWord bs_InvalidWord [.ref aGround, .type "ValueError", .type "Exception", .type "BaseException", .type "object"] true sn_InvalidWord sub_InvalidWord ab_InvalidWord col_InvalidWord dd_InvalidWord m0_InvalidWord m1_InvalidWord m2_InvalidWord m3_InvalidWord m5_InvalidWord "ValueError.__new__"))
    (sa_InvalidWord : PySem.W.findIn K (.ref a9) "__setattr__" = some (some (.builtin "object.__setattr__")))
    (ex_InvalidWord : PySem.W.subIn K (.ref a9) (.type "BaseException") = some true)
    (ty_InvalidWord : PySem.W.typeIn K (.ref a9) = some (.type "type"))
    (kc_InvalidWord : PySem.W.keepIn K (.ref a9) = true)
    {f_InvalidWord : Addr} {od_InvalidWord an_InvalidWord : Option Addr} {sl_InvalidWord : Array (Option Value)} {oc_InvalidWord kV_InvalidWord dc_InvalidWord pm_InvalidWord cd_InvalidWord ct_InvalidWord : Value}
    (i_InvalidWord : PySem.W.findIn K (.ref a9) "__init__" = some (some (.ref f_InvalidWord)))
    (ti_InvalidWord : PySem.W.typeIn K (.ref f_InvalidWord) = some (.type "function"))
    (l_InvalidWord : K.lookup f_InvalidWord = some ⟨oc_InvalidWord, od_InvalidWord, .func (PySem.W.fnOf "__init__" "InvalidWord.__init__" (defArgs s_InvalidWord__init) (defBody s_InvalidWord__init) (defScope s_InvalidWord__init) .none kV_InvalidWord dc_InvalidWord pm_InvalidWord an_InvalidWord cd_InvalidWord ct_InvalidWord), sl_InvalidWord⟩)
    (c_InvalidWord : PySem.W.codeIn K cd_InvalidWord "InvalidWord.__init__" = true)
    (k_InvalidWord : PySem.W.keepIn K (.ref f_InvalidWord) = true)
    (a_InvalidCommand : PySem.W.nsIn K mainGlobals "InvalidCommand" = some (some (.ref a10)))
    {nm_InvalidCommand q_InvalidCommand : Str} {N_InvalidCommand : Addr} {bs_InvalidCommand : List Value} {sn_InvalidCommand : List Str} {sub_InvalidCommand : List Value} {ab_InvalidCommand : Bool} {col_InvalidCommand : Option Bool} {dd_InvalidCommand : Option Addr} {m0_InvalidCommand m1_InvalidCommand m2_InvalidCommand m3_InvalidCommand m5_InvalidCommand : Option Value}
    (x_InvalidCommand : K.lookup a10 = some (excClassObj nm_InvalidCommand q_InvalidCommand a10 N_InvalidCommand bs_InvalidCommand [.ref aGround, .type "ValueError", .type "Exception", .type "BaseException", .type "object"] true sn_InvalidCommand sub_InvalidCommand ab_InvalidCommand col_InvalidCommand dd_InvalidCommand m0_InvalidCommand m1_InvalidCommand m2_InvalidCommand m3_InvalidCommand m5_InvalidCommand "ValueError.__new__"))
    (sa_InvalidCommand : PySem.W.findIn K (.ref a10) "__setattr__" = some (some (.builtin "object.__setattr__")))
    (ex_InvalidCommand : PySem.W.subIn K (.ref a10) (.type "BaseException") = some true)
    (ty_InvalidCommand : PySem.W.typeIn K (.ref a10) = some (.type "type"))
    (kc_InvalidCommand : PySem.W.keepIn K (.ref a10) = true)
    {f_InvalidCommand : Addr} {od_InvalidCommand an_InvalidCommand : Option Addr} {sl_InvalidCommand : Array (Option Value)} {oc_InvalidCommand kV_InvalidCommand dc_InvalidCommand pm_InvalidCommand cd_InvalidCommand ct_InvalidCommand : Value}
    (i_InvalidCommand : PySem.W.findIn K (.ref a10) "__init__" = some (some (.ref f_InvalidCommand)))
    (ti_InvalidCommand : PySem.W.typeIn K (.ref f_InvalidCommand) = some (.type "function"))
    (l_InvalidCommand : K.lookup f_InvalidCommand = some ⟨oc_InvalidCommand, od_InvalidCommand, .func (PySem.W.fnOf "__init__" "InvalidCommand.__init__" (defArgs s_InvalidCommand__init) (defBody s_InvalidCommand__init) (defScope s_InvalidCommand__init) .none kV_InvalidCommand dc_InvalidCommand pm_InvalidCommand an_InvalidCommand cd_InvalidCommand ct_InvalidCommand), sl_InvalidCommand⟩)
    (c_InvalidCommand : PySem.W.codeIn K cd_InvalidCommand "InvalidCommand.__init__" = true)
    (k_InvalidCommand : PySem.W.keepIn K (.ref f_InvalidCommand) = true)
    (a_Mismatch : PySem.W.nsIn K mainGlobals "Mismatch" = some (some (.ref a11)))
    {nm_Mismatch q_Mismatch : Str} {N_Mismatch : Addr} {bs_Mismatch : List Value} {sn_Mismatch : List Str} {sub_Mismatch : List Value} {ab_Mismatch : Bool} {col_Mismatch : Option Bool} {dd_Mismatch : Option Addr} {m0_Mismatch m1_Mismatch m2_Mismatch m3_Mismatch m5_Mismatch : Option Value}
    (x_Mismatch : K.lookup a11 = some (excClassObj nm_Mismatch q_Mismatch a11 N_Mismatch bs_Mismatch [.ref aGround, .type "ValueError", .type "Exception", .type "BaseException", .type "object"] true sn_Mismatch sub_Mismatch ab_Mismatch col_Mismatch dd_Mismatch m0_Mismatch m1_Mismatch m2_Mismatch m3_Mismatch m5_Mismatch "ValueError.__new__"))
    (sa_Mismatch : PySem.W.findIn K (.ref a11) "__setattr__" = some (some (.builtin "object.__setattr__")))
    (ex_Mismatch : PySem.W.subIn K (.ref a11) (.type "BaseException") = some true)
    (ty_Mismatch : PySem.W.typeIn K (.ref a11) = some (.type "type"))
    (kc_Mismatch : PySem.W.keepIn K (.ref a11) = true)
    {f_Mismatch : Addr} {od_Mismatch an_Mismatch : Option Addr} {sl_Mismatch : Array (Option Value)} {oc_Mismatch kV_Mismatch dc_Mismatch pm_Mismatch cd_Mismatch ct_Mismatch : Value}
    (i_Mismatch : PySem.W.findIn K (.ref a11) "__init__" = some (some (.ref f_Mismatch)))
    (ti_Mismatch : PySem.W.typeIn K (.ref f_Mismatch) = some (.type "function"))
    (l_Mismatch : K.lookup f_Mismatch = some ⟨oc_Mismatch, od_Mismatch, .func (PySem.W.fnOf "__init__" "Mismatch.__init__" (defArgs s_Mismatch__init) (defBody s_Mismatch__init) (defScope s_Mismatch__init) .none kV_Mismatch dc_Mismatch pm_Mismatch an_Mismatch cd_Mismatch ct_Mismatch), sl_Mismatch⟩)
    (c_Mismatch : PySem.W.codeIn K cd_Mismatch "Mismatch.__init__" = true)
    (k_Mismatch : PySem.W.keepIn K (.ref f_Mismatch) = true)
    (xg_InvalidNumbers : PySem.W.findIn K (.ref a0) "__getattribute__" = some (some (.builtin "BaseException.__getattribute__")))
    (xk_InvalidNumbers : PySem.W.findIn K (.ref a0) "__getattr__" = some none)
    (xd_InvalidNumbers : PySem.W.hasDictIn K a0 = true)
    (xa_InvalidNumbers : PySem.W.findIn K (.ref a0) "__class__" = some (some (.builtin "object.__class__")))
    (xn_InvalidNumbers : PySem.W.specialIn K (.builtin "object.__class__") "__get__" = some (some (.builtin "getset_descriptor.__get__")))
    (xt_InvalidNumbers : PySem.W.takesIn K (.builtin "object.__class__") = some true)
    (xm_InvalidNumbers : PySem.W.mroIn K a0 (.type "object") = some true)
    (xs_InvalidNumbers : PySem.W.subIn K (.ref a0) (.ref a0) = some true)
    (xg_InvalidText : PySem.W.findIn K (.ref a1) "__getattribute__" = some (some (.builtin "BaseException.__getattribute__")))
    (xk_InvalidText : PySem.W.findIn K (.ref a1) "__getattr__" = some none)
    (xd_InvalidText : PySem.W.hasDictIn K a1 = true)
    (xa_InvalidText : PySem.W.findIn K (.ref a1) "__class__" = some (some (.builtin "object.__class__")))
    (xn_InvalidText : PySem.W.specialIn K (.builtin "object.__class__") "__get__" = some (some (.builtin "getset_descriptor.__get__")))
    (xt_InvalidText : PySem.W.takesIn K (.builtin "object.__class__") = some true)
    (xm_InvalidText : PySem.W.mroIn K a1 (.type "object") = some true)
    (xs_InvalidText : PySem.W.subIn K (.ref a1) (.ref a1) = some true)
    (xg_InvalidRow : PySem.W.findIn K (.ref a2) "__getattribute__" = some (some (.builtin "BaseException.__getattribute__")))
    (xk_InvalidRow : PySem.W.findIn K (.ref a2) "__getattr__" = some none)
    (xd_InvalidRow : PySem.W.hasDictIn K a2 = true)
    (xa_InvalidRow : PySem.W.findIn K (.ref a2) "__class__" = some (some (.builtin "object.__class__")))
    (xn_InvalidRow : PySem.W.specialIn K (.builtin "object.__class__") "__get__" = some (some (.builtin "getset_descriptor.__get__")))
    (xt_InvalidRow : PySem.W.takesIn K (.builtin "object.__class__") = some true)
    (xm_InvalidRow : PySem.W.mroIn K a2 (.type "object") = some true)
    (xs_InvalidRow : PySem.W.subIn K (.ref a2) (.ref a2) = some true)
    (xg_InvalidChooser : PySem.W.findIn K (.ref a3) "__getattribute__" = some (some (.builtin "BaseException.__getattribute__")))
    (xk_InvalidChooser : PySem.W.findIn K (.ref a3) "__getattr__" = some none)
    (xd_InvalidChooser : PySem.W.hasDictIn K a3 = true)
    (xa_InvalidChooser : PySem.W.findIn K (.ref a3) "__class__" = some (some (.builtin "object.__class__")))
    (xn_InvalidChooser : PySem.W.specialIn K (.builtin "object.__class__") "__get__" = some (some (.builtin "getset_descriptor.__get__")))
    (xt_InvalidChooser : PySem.W.takesIn K (.builtin "object.__class__") = some true)
    (xm_InvalidChooser : PySem.W.mroIn K a3 (.type "object") = some true)
    (xs_InvalidChooser : PySem.W.subIn K (.ref a3) (.ref a3) = some true)
    (xg_InvalidHouse : PySem.W.findIn K (.ref a4) "__getattribute__" = some (some (.builtin "BaseException.__getattribute__")))
    (xk_InvalidHouse : PySem.W.findIn K (.ref a4) "__getattr__" = some none)
    (xd_InvalidHouse : PySem.W.hasDictIn K a4 = true)
    (xa_InvalidHouse : PySem.W.findIn K (.ref a4) "__class__" = some (some (.builtin "object.__class__")))
    (xn_InvalidHouse : PySem.W.specialIn K (.builtin "object.__class__") "__get__" = some (some (.builtin "getset_descriptor.__get__")))
    (xt_InvalidHouse : PySem.W.takesIn K (.builtin "object.__class__") = some true)
    (xm_InvalidHouse : PySem.W.mroIn K a4 (.type "object") = some true)
    (xs_InvalidHouse : PySem.W.subIn K (.ref a4) (.ref a4) = some true)
    (xg_InvalidTurn : PySem.W.findIn K (.ref a5) "__getattribute__" = some (some (.builtin "BaseException.__getattribute__")))
    (xk_InvalidTurn : PySem.W.findIn K (.ref a5) "__getattr__" = some none)
    (xd_InvalidTurn : PySem.W.hasDictIn K a5 = true)
    (xa_InvalidTurn : PySem.W.findIn K (.ref a5) "__class__" = some (some (.builtin "object.__class__")))
    (xn_InvalidTurn : PySem.W.specialIn K (.builtin "object.__class__") "__get__" = some (some (.builtin "getset_descriptor.__get__")))
    (xt_InvalidTurn : PySem.W.takesIn K (.builtin "object.__class__") = some true)
    (xm_InvalidTurn : PySem.W.mroIn K a5 (.type "object") = some true)
    (xs_InvalidTurn : PySem.W.subIn K (.ref a5) (.ref a5) = some true)
    (xg_NoNumber : PySem.W.findIn K (.ref a6) "__getattribute__" = some (some (.builtin "BaseException.__getattribute__")))
    (xk_NoNumber : PySem.W.findIn K (.ref a6) "__getattr__" = some none)
    (xd_NoNumber : PySem.W.hasDictIn K a6 = true)
    (xa_NoNumber : PySem.W.findIn K (.ref a6) "__class__" = some (some (.builtin "object.__class__")))
    (xn_NoNumber : PySem.W.specialIn K (.builtin "object.__class__") "__get__" = some (some (.builtin "getset_descriptor.__get__")))
    (xt_NoNumber : PySem.W.takesIn K (.builtin "object.__class__") = some true)
    (xm_NoNumber : PySem.W.mroIn K a6 (.type "object") = some true)
    (xs_NoNumber : PySem.W.subIn K (.ref a6) (.ref a6) = some true)
    (xg_NoRow : PySem.W.findIn K (.ref a7) "__getattribute__" = some (some (.builtin "BaseException.__getattribute__")))
    (xk_NoRow : PySem.W.findIn K (.ref a7) "__getattr__" = some none)
    (xd_NoRow : PySem.W.hasDictIn K a7 = true)
    (xa_NoRow : PySem.W.findIn K (.ref a7) "__class__" = some (some (.builtin "object.__class__")))
    (xn_NoRow : PySem.W.specialIn K (.builtin "object.__class__") "__get__" = some (some (.builtin "getset_descriptor.__get__")))
    (xt_NoRow : PySem.W.takesIn K (.builtin "object.__class__") = some true)
    (xm_NoRow : PySem.W.mroIn K a7 (.type "object") = some true)
    (xs_NoRow : PySem.W.subIn K (.ref a7) (.ref a7) = some true)
    (xg_NoNote : PySem.W.findIn K (.ref a8) "__getattribute__" = some (some (.builtin "BaseException.__getattribute__")))
    (xk_NoNote : PySem.W.findIn K (.ref a8) "__getattr__" = some none)
    (xd_NoNote : PySem.W.hasDictIn K a8 = true)
    (xa_NoNote : PySem.W.findIn K (.ref a8) "__class__" = some (some (.builtin "object.__class__")))
    (xn_NoNote : PySem.W.specialIn K (.builtin "object.__class__") "__get__" = some (some (.builtin "getset_descriptor.__get__")))
    (xt_NoNote : PySem.W.takesIn K (.builtin "object.__class__") = some true)
    (xm_NoNote : PySem.W.mroIn K a8 (.type "object") = some true)
    (xs_NoNote : PySem.W.subIn K (.ref a8) (.ref a8) = some true)
    (xg_InvalidWord : PySem.W.findIn K (.ref a9) "__getattribute__" = some (some (.builtin "BaseException.__getattribute__")))
    (xk_InvalidWord : PySem.W.findIn K (.ref a9) "__getattr__" = some none)
    (xd_InvalidWord : PySem.W.hasDictIn K a9 = true)
    (xa_InvalidWord : PySem.W.findIn K (.ref a9) "__class__" = some (some (.builtin "object.__class__")))
    (xn_InvalidWord : PySem.W.specialIn K (.builtin "object.__class__") "__get__" = some (some (.builtin "getset_descriptor.__get__")))
    (xt_InvalidWord : PySem.W.takesIn K (.builtin "object.__class__") = some true)
    (xm_InvalidWord : PySem.W.mroIn K a9 (.type "object") = some true)
    (xs_InvalidWord : PySem.W.subIn K (.ref a9) (.ref a9) = some true)
    (xg_InvalidCommand : PySem.W.findIn K (.ref a10) "__getattribute__" = some (some (.builtin "BaseException.__getattribute__")))
    (xk_InvalidCommand : PySem.W.findIn K (.ref a10) "__getattr__" = some none)
    (xd_InvalidCommand : PySem.W.hasDictIn K a10 = true)
    (xa_InvalidCommand : PySem.W.findIn K (.ref a10) "__class__" = some (some (.builtin "object.__class__")))
    (xn_InvalidCommand : PySem.W.specialIn K (.builtin "object.__class__") "__get__" = some (some (.builtin "getset_descriptor.__get__")))
    (xt_InvalidCommand : PySem.W.takesIn K (.builtin "object.__class__") = some true)
    (xm_InvalidCommand : PySem.W.mroIn K a10 (.type "object") = some true)
    (xs_InvalidCommand : PySem.W.subIn K (.ref a10) (.ref a10) = some true)
    (xg_Mismatch : PySem.W.findIn K (.ref a11) "__getattribute__" = some (some (.builtin "BaseException.__getattribute__")))
    (xk_Mismatch : PySem.W.findIn K (.ref a11) "__getattr__" = some none)
    (xd_Mismatch : PySem.W.hasDictIn K a11 = true)
    (xa_Mismatch : PySem.W.findIn K (.ref a11) "__class__" = some (some (.builtin "object.__class__")))
    (xn_Mismatch : PySem.W.specialIn K (.builtin "object.__class__") "__get__" = some (some (.builtin "getset_descriptor.__get__")))
    (xt_Mismatch : PySem.W.takesIn K (.builtin "object.__class__") = some true)
    (xm_Mismatch : PySem.W.mroIn K a11 (.type "object") = some true)
    (xs_Mismatch : PySem.W.subIn K (.ref a11) (.ref a11) = some true)
    (na_a0_word : PySem.W.findIn K (.ref a0) "word" = some none)
    (na_a1_at : PySem.W.findIn K (.ref a1) "at" = some none)
    (na_a2_part : PySem.W.findIn K (.ref a2) "part" = some none)
    (na_a3_at : PySem.W.findIn K (.ref a3) "at" = some none)
    (na_a4_word : PySem.W.findIn K (.ref a4) "word" = some none)
    (na_a5_at : PySem.W.findIn K (.ref a5) "at" = some none)
    (na_a6_at : PySem.W.findIn K (.ref a6) "at" = some none)
    (na_a7_at : PySem.W.findIn K (.ref a7) "at" = some none)
    (na_a8_name : PySem.W.findIn K (.ref a8) "name" = some none)
    (kit : kitAll K [a0, a1, a2, a3, a4, a5, a6, a7, a8, a9, a10, a11] = true)
    (kib : kitBase K [a0, a1, a2, a3, a4, a5, a6, a7, a8, a9, a10, a11] aGround = true)
    (z_int : PySem.W.nsIn K mainGlobals "int" = some none)
    (z_len : PySem.W.nsIn K mainGlobals "len" = some none)
    (z_abs : PySem.W.nsIn K mainGlobals "abs" = some none)
    (z_repr : PySem.W.nsIn K mainGlobals "repr" = some none)
    (z_range : PySem.W.nsIn K mainGlobals "range" = some none)
    (z_min : PySem.W.nsIn K mainGlobals "min" = some none)
    (z_max : PySem.W.nsIn K mainGlobals "max" = some none)
    (z_isinstance : PySem.W.nsIn K mainGlobals "isinstance" = some none)
    (z_enumerate : PySem.W.nsIn K mainGlobals "enumerate" = some none)
    (z_ValueError : PySem.W.nsIn K mainGlobals "ValueError" = some none)
    {f_law_box : Addr} {od_law_box an_law_box : Option Addr} {sl_law_box : Array (Option Value)} {oc_law_box kV_law_box dc_law_box pm_law_box cd_law_box ct_law_box : Value}
    (a_law_box : PySem.W.nsIn K mainGlobals "_law_box" = some (some (.ref f_law_box)))
    (l_law_box : K.lookup f_law_box = some ⟨oc_law_box, od_law_box, .func (PySem.W.fnOf "_law_box" "_law_box" (defArgs s_law_box) (defBody s_law_box) (defScope s_law_box) .none kV_law_box dc_law_box pm_law_box an_law_box cd_law_box ct_law_box), sl_law_box⟩)
    (c_law_box : PySem.W.codeIn K cd_law_box "_law_box" = true)
    (k_law_box : PySem.W.keepIn K (.ref f_law_box) = true)
    {f_law_take : Addr} {od_law_take an_law_take : Option Addr} {sl_law_take : Array (Option Value)} {oc_law_take kV_law_take dc_law_take pm_law_take cd_law_take ct_law_take : Value}
    (a_law_take : PySem.W.nsIn K mainGlobals "_law_take" = some (some (.ref f_law_take)))
    (l_law_take : K.lookup f_law_take = some ⟨oc_law_take, od_law_take, .func (PySem.W.fnOf "_law_take" "_law_take" (defArgs s_law_take) (defBody s_law_take) (defScope s_law_take) .none kV_law_take dc_law_take pm_law_take an_law_take cd_law_take ct_law_take), sl_law_take⟩)
    (c_law_take : PySem.W.codeIn K cd_law_take "_law_take" = true)
    (k_law_take : PySem.W.keepIn K (.ref f_law_take) = true)
    {f_law_pick : Addr} {od_law_pick an_law_pick : Option Addr} {sl_law_pick : Array (Option Value)} {oc_law_pick kV_law_pick dc_law_pick pm_law_pick cd_law_pick ct_law_pick : Value}
    (a_law_pick : PySem.W.nsIn K mainGlobals "_law_pick" = some (some (.ref f_law_pick)))
    (l_law_pick : K.lookup f_law_pick = some ⟨oc_law_pick, od_law_pick, .func (PySem.W.fnOf "_law_pick" "_law_pick" (defArgs s_law_pick) (defBody s_law_pick) (defScope s_law_pick) .none kV_law_pick dc_law_pick pm_law_pick an_law_pick cd_law_pick ct_law_pick), sl_law_pick⟩)
    (c_law_pick : PySem.W.codeIn K cd_law_pick "_law_pick" = true)
    (k_law_pick : PySem.W.keepIn K (.ref f_law_pick) = true)
    {f_law_value : Addr} {od_law_value an_law_value : Option Addr} {sl_law_value : Array (Option Value)} {oc_law_value kV_law_value dc_law_value pm_law_value cd_law_value ct_law_value : Value}
    (a_law_value : PySem.W.nsIn K mainGlobals "_law_value" = some (some (.ref f_law_value)))
    (l_law_value : K.lookup f_law_value = some ⟨oc_law_value, od_law_value, .func (PySem.W.fnOf "_law_value" "_law_value" (defArgs s_law_value) (defBody s_law_value) (defScope s_law_value) .none kV_law_value dc_law_value pm_law_value an_law_value cd_law_value ct_law_value), sl_law_value⟩)
    (c_law_value : PySem.W.codeIn K cd_law_value "_law_value" = true)
    (k_law_value : PySem.W.keepIn K (.ref f_law_value) = true)
    {f_law_sorts : Addr} {od_law_sorts an_law_sorts : Option Addr} {sl_law_sorts : Array (Option Value)} {oc_law_sorts kV_law_sorts dc_law_sorts pm_law_sorts cd_law_sorts ct_law_sorts : Value}
    (a_law_sorts : PySem.W.nsIn K mainGlobals "_law_sorts" = some (some (.ref f_law_sorts)))
    (l_law_sorts : K.lookup f_law_sorts = some ⟨oc_law_sorts, od_law_sorts, .func (PySem.W.fnOf "_law_sorts" "_law_sorts" (defArgs s_law_sorts) (defBody s_law_sorts) (defScope s_law_sorts) .none kV_law_sorts dc_law_sorts pm_law_sorts an_law_sorts cd_law_sorts ct_law_sorts), sl_law_sorts⟩)
    (c_law_sorts : PySem.W.codeIn K cd_law_sorts "_law_sorts" = true)
    (k_law_sorts : PySem.W.keepIn K (.ref f_law_sorts) = true)
    {f_law_made : Addr} {od_law_made an_law_made : Option Addr} {sl_law_made : Array (Option Value)} {oc_law_made kV_law_made dc_law_made pm_law_made cd_law_made ct_law_made : Value}
    (a_law_made : PySem.W.nsIn K mainGlobals "_law_made" = some (some (.ref f_law_made)))
    (l_law_made : K.lookup f_law_made = some ⟨oc_law_made, od_law_made, .func (PySem.W.fnOf "_law_made" "_law_made" (defArgs s_law_made) (defBody s_law_made) (defScope s_law_made) .none kV_law_made dc_law_made pm_law_made an_law_made cd_law_made ct_law_made), sl_law_made⟩)
    (c_law_made : PySem.W.codeIn K cd_law_made "_law_made" = true)
    (k_law_made : PySem.W.keepIn K (.ref f_law_made) = true)
    {f_law_named : Addr} {od_law_named an_law_named : Option Addr} {sl_law_named : Array (Option Value)} {oc_law_named kV_law_named dc_law_named pm_law_named cd_law_named ct_law_named : Value}
    (a_law_named : PySem.W.nsIn K mainGlobals "_law_named" = some (some (.ref f_law_named)))
    (l_law_named : K.lookup f_law_named = some ⟨oc_law_named, od_law_named, .func (PySem.W.fnOf "_law_named" "_law_named" (defArgs s_law_named) (defBody s_law_named) (defScope s_law_named) .none kV_law_named dc_law_named pm_law_named an_law_named cd_law_named ct_law_named), sl_law_named⟩)
    (c_law_named : PySem.W.codeIn K cd_law_named "_law_named" = true)
    (k_law_named : PySem.W.keepIn K (.ref f_law_named) = true)
    {f_law_kept : Addr} {od_law_kept an_law_kept : Option Addr} {sl_law_kept : Array (Option Value)} {oc_law_kept kV_law_kept dc_law_kept pm_law_kept cd_law_kept ct_law_kept : Value}
    (a_law_kept : PySem.W.nsIn K mainGlobals "_law_kept" = some (some (.ref f_law_kept)))
    (l_law_kept : K.lookup f_law_kept = some ⟨oc_law_kept, od_law_kept, .func (PySem.W.fnOf "_law_kept" "_law_kept" (defArgs s_law_kept) (defBody s_law_kept) (defScope s_law_kept) .none kV_law_kept dc_law_kept pm_law_kept an_law_kept cd_law_kept ct_law_kept), sl_law_kept⟩)
    (c_law_kept : PySem.W.codeIn K cd_law_kept "_law_kept" = true)
    (k_law_kept : PySem.W.keepIn K (.ref f_law_kept) = true)
    {f_law : Addr} {od_law an_law : Option Addr} {sl_law : Array (Option Value)} {oc_law kV_law dc_law pm_law cd_law ct_law : Value}
    (a_law : PySem.W.nsIn K mainGlobals "law" = some (some (.ref f_law)))
    (l_law : K.lookup f_law = some ⟨oc_law, od_law, .func (PySem.W.fnOf "law" "law" (defArgs s_law) (defBody s_law) (defScope s_law) .none kV_law dc_law pm_law an_law cd_law ct_law), sl_law⟩)
    (c_law : PySem.W.codeIn K cd_law "law" = true)
    (k_law : PySem.W.keepIn K (.ref f_law) = true) :
    ∀ base : Heap, K.In base → base.Ns mainGlobals mg → DefG P w K mg base CX0 7 "law" ["_law_script"] (spLaw K) := by
  have m_GroundError : mg "GroundError" = some (.ref aGround) := PySem.W.mg_of X G a_GroundError
  have b_GroundError : BaseInit K aGround := ⟨bs_GroundError, br_GroundError, bf_GroundError⟩
  have m_InvalidNumbers : mg "InvalidNumbers" = some (.ref a0) := PySem.W.mg_of X G a_InvalidNumbers
  have at_InvalidNumbers : ErrAt K mg "InvalidNumbers" "InvalidNumbers.__init__" s_InvalidNumbers__init a0 := ⟨m_InvalidNumbers, ⟨⟨nm_InvalidNumbers, q_InvalidNumbers, N_InvalidNumbers, bs_InvalidNumbers, _, sn_InvalidNumbers, sub_InvalidNumbers, ab_InvalidNumbers, col_InvalidNumbers, dd_InvalidNumbers, m0_InvalidNumbers, m1_InvalidNumbers, m2_InvalidNumbers, m3_InvalidNumbers, m5_InvalidNumbers, x_InvalidNumbers, rfl⟩, sa_InvalidNumbers, ex_InvalidNumbers, ty_InvalidNumbers, kc_InvalidNumbers⟩, _, _, i_InvalidNumbers, ti_InvalidNumbers, fun_mk (st := s_InvalidNumbers__init) l_InvalidNumbers c_InvalidNumbers k_InvalidNumbers⟩
  have m_InvalidText : mg "InvalidText" = some (.ref a1) := PySem.W.mg_of X G a_InvalidText
  have at_InvalidText : ErrAt K mg "InvalidText" "InvalidText.__init__" s_InvalidText__init a1 := ⟨m_InvalidText, ⟨⟨nm_InvalidText, q_InvalidText, N_InvalidText, bs_InvalidText, _, sn_InvalidText, sub_InvalidText, ab_InvalidText, col_InvalidText, dd_InvalidText, m0_InvalidText, m1_InvalidText, m2_InvalidText, m3_InvalidText, m5_InvalidText, x_InvalidText, rfl⟩, sa_InvalidText, ex_InvalidText, ty_InvalidText, kc_InvalidText⟩, _, _, i_InvalidText, ti_InvalidText, fun_mk (st := s_InvalidText__init) l_InvalidText c_InvalidText k_InvalidText⟩
  have m_InvalidRow : mg "InvalidRow" = some (.ref a2) := PySem.W.mg_of X G a_InvalidRow
  have at_InvalidRow : ErrAt K mg "InvalidRow" "InvalidRow.__init__" s_InvalidRow__init a2 := ⟨m_InvalidRow, ⟨⟨nm_InvalidRow, q_InvalidRow, N_InvalidRow, bs_InvalidRow, _, sn_InvalidRow, sub_InvalidRow, ab_InvalidRow, col_InvalidRow, dd_InvalidRow, m0_InvalidRow, m1_InvalidRow, m2_InvalidRow, m3_InvalidRow, m5_InvalidRow, x_InvalidRow, rfl⟩, sa_InvalidRow, ex_InvalidRow, ty_InvalidRow, kc_InvalidRow⟩, _, _, i_InvalidRow, ti_InvalidRow, fun_mk (st := s_InvalidRow__init) l_InvalidRow c_InvalidRow k_InvalidRow⟩
  have m_InvalidChooser : mg "InvalidChooser" = some (.ref a3) := PySem.W.mg_of X G a_InvalidChooser
  have at_InvalidChooser : ErrAt K mg "InvalidChooser" "InvalidChooser.__init__" s_InvalidChooser__init a3 := ⟨m_InvalidChooser, ⟨⟨nm_InvalidChooser, q_InvalidChooser, N_InvalidChooser, bs_InvalidChooser, _, sn_InvalidChooser, sub_InvalidChooser, ab_InvalidChooser, col_InvalidChooser, dd_InvalidChooser, m0_InvalidChooser, m1_InvalidChooser, m2_InvalidChooser, m3_InvalidChooser, m5_InvalidChooser, x_InvalidChooser, rfl⟩, sa_InvalidChooser, ex_InvalidChooser, ty_InvalidChooser, kc_InvalidChooser⟩, _, _, i_InvalidChooser, ti_InvalidChooser, fun_mk (st := s_InvalidChooser__init) l_InvalidChooser c_InvalidChooser k_InvalidChooser⟩
  have m_InvalidHouse : mg "InvalidHouse" = some (.ref a4) := PySem.W.mg_of X G a_InvalidHouse
  have at_InvalidHouse : ErrAt K mg "InvalidHouse" "InvalidHouse.__init__" s_InvalidHouse__init a4 := ⟨m_InvalidHouse, ⟨⟨nm_InvalidHouse, q_InvalidHouse, N_InvalidHouse, bs_InvalidHouse, _, sn_InvalidHouse, sub_InvalidHouse, ab_InvalidHouse, col_InvalidHouse, dd_InvalidHouse, m0_InvalidHouse, m1_InvalidHouse, m2_InvalidHouse, m3_InvalidHouse, m5_InvalidHouse, x_InvalidHouse, rfl⟩, sa_InvalidHouse, ex_InvalidHouse, ty_InvalidHouse, kc_InvalidHouse⟩, _, _, i_InvalidHouse, ti_InvalidHouse, fun_mk (st := s_InvalidHouse__init) l_InvalidHouse c_InvalidHouse k_InvalidHouse⟩
  have m_InvalidTurn : mg "InvalidTurn" = some (.ref a5) := PySem.W.mg_of X G a_InvalidTurn
  have at_InvalidTurn : ErrAt K mg "InvalidTurn" "InvalidTurn.__init__" s_InvalidTurn__init a5 := ⟨m_InvalidTurn, ⟨⟨nm_InvalidTurn, q_InvalidTurn, N_InvalidTurn, bs_InvalidTurn, _, sn_InvalidTurn, sub_InvalidTurn, ab_InvalidTurn, col_InvalidTurn, dd_InvalidTurn, m0_InvalidTurn, m1_InvalidTurn, m2_InvalidTurn, m3_InvalidTurn, m5_InvalidTurn, x_InvalidTurn, rfl⟩, sa_InvalidTurn, ex_InvalidTurn, ty_InvalidTurn, kc_InvalidTurn⟩, _, _, i_InvalidTurn, ti_InvalidTurn, fun_mk (st := s_InvalidTurn__init) l_InvalidTurn c_InvalidTurn k_InvalidTurn⟩
  have m_NoNumber : mg "NoNumber" = some (.ref a6) := PySem.W.mg_of X G a_NoNumber
  have at_NoNumber : ErrAt K mg "NoNumber" "NoNumber.__init__" s_NoNumber__init a6 := ⟨m_NoNumber, ⟨⟨nm_NoNumber, q_NoNumber, N_NoNumber, bs_NoNumber, _, sn_NoNumber, sub_NoNumber, ab_NoNumber, col_NoNumber, dd_NoNumber, m0_NoNumber, m1_NoNumber, m2_NoNumber, m3_NoNumber, m5_NoNumber, x_NoNumber, rfl⟩, sa_NoNumber, ex_NoNumber, ty_NoNumber, kc_NoNumber⟩, _, _, i_NoNumber, ti_NoNumber, fun_mk (st := s_NoNumber__init) l_NoNumber c_NoNumber k_NoNumber⟩
  have m_NoRow : mg "NoRow" = some (.ref a7) := PySem.W.mg_of X G a_NoRow
  have at_NoRow : ErrAt K mg "NoRow" "NoRow.__init__" s_NoRow__init a7 := ⟨m_NoRow, ⟨⟨nm_NoRow, q_NoRow, N_NoRow, bs_NoRow, _, sn_NoRow, sub_NoRow, ab_NoRow, col_NoRow, dd_NoRow, m0_NoRow, m1_NoRow, m2_NoRow, m3_NoRow, m5_NoRow, x_NoRow, rfl⟩, sa_NoRow, ex_NoRow, ty_NoRow, kc_NoRow⟩, _, _, i_NoRow, ti_NoRow, fun_mk (st := s_NoRow__init) l_NoRow c_NoRow k_NoRow⟩
  have m_NoNote : mg "NoNote" = some (.ref a8) := PySem.W.mg_of X G a_NoNote
  have at_NoNote : ErrAt K mg "NoNote" "NoNote.__init__" s_NoNote__init a8 := ⟨m_NoNote, ⟨⟨nm_NoNote, q_NoNote, N_NoNote, bs_NoNote, _, sn_NoNote, sub_NoNote, ab_NoNote, col_NoNote, dd_NoNote, m0_NoNote, m1_NoNote, m2_NoNote, m3_NoNote, m5_NoNote, x_NoNote, rfl⟩, sa_NoNote, ex_NoNote, ty_NoNote, kc_NoNote⟩, _, _, i_NoNote, ti_NoNote, fun_mk (st := s_NoNote__init) l_NoNote c_NoNote k_NoNote⟩
  have m_InvalidWord : mg "InvalidWord" = some (.ref a9) := PySem.W.mg_of X G a_InvalidWord
  have at_InvalidWord : ErrAt K mg "InvalidWord" "InvalidWord.__init__" s_InvalidWord__init a9 := ⟨m_InvalidWord, ⟨⟨nm_InvalidWord, q_InvalidWord, N_InvalidWord, bs_InvalidWord, _, sn_InvalidWord, sub_InvalidWord, ab_InvalidWord, col_InvalidWord, dd_InvalidWord, m0_InvalidWord, m1_InvalidWord, m2_InvalidWord, m3_InvalidWord, m5_InvalidWord, x_InvalidWord, rfl⟩, sa_InvalidWord, ex_InvalidWord, ty_InvalidWord, kc_InvalidWord⟩, _, _, i_InvalidWord, ti_InvalidWord, fun_mk (st := s_InvalidWord__init) l_InvalidWord c_InvalidWord k_InvalidWord⟩
  have m_InvalidCommand : mg "InvalidCommand" = some (.ref a10) := PySem.W.mg_of X G a_InvalidCommand
  have at_InvalidCommand : ErrAt K mg "InvalidCommand" "InvalidCommand.__init__" s_InvalidCommand__init a10 := ⟨m_InvalidCommand, ⟨⟨nm_InvalidCommand, q_InvalidCommand, N_InvalidCommand, bs_InvalidCommand, _, sn_InvalidCommand, sub_InvalidCommand, ab_InvalidCommand, col_InvalidCommand, dd_InvalidCommand, m0_InvalidCommand, m1_InvalidCommand, m2_InvalidCommand, m3_InvalidCommand, m5_InvalidCommand, x_InvalidCommand, rfl⟩, sa_InvalidCommand, ex_InvalidCommand, ty_InvalidCommand, kc_InvalidCommand⟩, _, _, i_InvalidCommand, ti_InvalidCommand, fun_mk (st := s_InvalidCommand__init) l_InvalidCommand c_InvalidCommand k_InvalidCommand⟩
  have m_Mismatch : mg "Mismatch" = some (.ref a11) := PySem.W.mg_of X G a_Mismatch
  have at_Mismatch : ErrAt K mg "Mismatch" "Mismatch.__init__" s_Mismatch__init a11 := ⟨m_Mismatch, ⟨⟨nm_Mismatch, q_Mismatch, N_Mismatch, bs_Mismatch, _, sn_Mismatch, sub_Mismatch, ab_Mismatch, col_Mismatch, dd_Mismatch, m0_Mismatch, m1_Mismatch, m2_Mismatch, m3_Mismatch, m5_Mismatch, x_Mismatch, rfl⟩, sa_Mismatch, ex_Mismatch, ty_Mismatch, kc_Mismatch⟩, _, _, i_Mismatch, ti_Mismatch, fun_mk (st := s_Mismatch__init) l_Mismatch c_Mismatch k_Mismatch⟩
  have xc_InvalidNumbers : ExcC K a0 := ⟨xg_InvalidNumbers, xk_InvalidNumbers, ex_InvalidNumbers, xd_InvalidNumbers, xa_InvalidNumbers, xn_InvalidNumbers, xt_InvalidNumbers, xm_InvalidNumbers⟩
  have exm_InvalidNumbers : PySem.W.exmOne K (.ref a0) (.ref a0) = some true := PySem.W.exm_ref ex_InvalidNumbers xd_InvalidNumbers ty_InvalidNumbers xs_InvalidNumbers
  have xc_InvalidText : ExcC K a1 := ⟨xg_InvalidText, xk_InvalidText, ex_InvalidText, xd_InvalidText, xa_InvalidText, xn_InvalidText, xt_InvalidText, xm_InvalidText⟩
  have exm_InvalidText : PySem.W.exmOne K (.ref a1) (.ref a1) = some true := PySem.W.exm_ref ex_InvalidText xd_InvalidText ty_InvalidText xs_InvalidText
  have xc_InvalidRow : ExcC K a2 := ⟨xg_InvalidRow, xk_InvalidRow, ex_InvalidRow, xd_InvalidRow, xa_InvalidRow, xn_InvalidRow, xt_InvalidRow, xm_InvalidRow⟩
  have exm_InvalidRow : PySem.W.exmOne K (.ref a2) (.ref a2) = some true := PySem.W.exm_ref ex_InvalidRow xd_InvalidRow ty_InvalidRow xs_InvalidRow
  have xc_InvalidChooser : ExcC K a3 := ⟨xg_InvalidChooser, xk_InvalidChooser, ex_InvalidChooser, xd_InvalidChooser, xa_InvalidChooser, xn_InvalidChooser, xt_InvalidChooser, xm_InvalidChooser⟩
  have exm_InvalidChooser : PySem.W.exmOne K (.ref a3) (.ref a3) = some true := PySem.W.exm_ref ex_InvalidChooser xd_InvalidChooser ty_InvalidChooser xs_InvalidChooser
  have xc_InvalidHouse : ExcC K a4 := ⟨xg_InvalidHouse, xk_InvalidHouse, ex_InvalidHouse, xd_InvalidHouse, xa_InvalidHouse, xn_InvalidHouse, xt_InvalidHouse, xm_InvalidHouse⟩
  have exm_InvalidHouse : PySem.W.exmOne K (.ref a4) (.ref a4) = some true := PySem.W.exm_ref ex_InvalidHouse xd_InvalidHouse ty_InvalidHouse xs_InvalidHouse
  have xc_InvalidTurn : ExcC K a5 := ⟨xg_InvalidTurn, xk_InvalidTurn, ex_InvalidTurn, xd_InvalidTurn, xa_InvalidTurn, xn_InvalidTurn, xt_InvalidTurn, xm_InvalidTurn⟩
  have exm_InvalidTurn : PySem.W.exmOne K (.ref a5) (.ref a5) = some true := PySem.W.exm_ref ex_InvalidTurn xd_InvalidTurn ty_InvalidTurn xs_InvalidTurn
  have xc_NoNumber : ExcC K a6 := ⟨xg_NoNumber, xk_NoNumber, ex_NoNumber, xd_NoNumber, xa_NoNumber, xn_NoNumber, xt_NoNumber, xm_NoNumber⟩
  have exm_NoNumber : PySem.W.exmOne K (.ref a6) (.ref a6) = some true := PySem.W.exm_ref ex_NoNumber xd_NoNumber ty_NoNumber xs_NoNumber
  have xc_NoRow : ExcC K a7 := ⟨xg_NoRow, xk_NoRow, ex_NoRow, xd_NoRow, xa_NoRow, xn_NoRow, xt_NoRow, xm_NoRow⟩
  have exm_NoRow : PySem.W.exmOne K (.ref a7) (.ref a7) = some true := PySem.W.exm_ref ex_NoRow xd_NoRow ty_NoRow xs_NoRow
  have xc_NoNote : ExcC K a8 := ⟨xg_NoNote, xk_NoNote, ex_NoNote, xd_NoNote, xa_NoNote, xn_NoNote, xt_NoNote, xm_NoNote⟩
  have exm_NoNote : PySem.W.exmOne K (.ref a8) (.ref a8) = some true := PySem.W.exm_ref ex_NoNote xd_NoNote ty_NoNote xs_NoNote
  have xc_InvalidWord : ExcC K a9 := ⟨xg_InvalidWord, xk_InvalidWord, ex_InvalidWord, xd_InvalidWord, xa_InvalidWord, xn_InvalidWord, xt_InvalidWord, xm_InvalidWord⟩
  have exm_InvalidWord : PySem.W.exmOne K (.ref a9) (.ref a9) = some true := PySem.W.exm_ref ex_InvalidWord xd_InvalidWord ty_InvalidWord xs_InvalidWord
  have xc_InvalidCommand : ExcC K a10 := ⟨xg_InvalidCommand, xk_InvalidCommand, ex_InvalidCommand, xd_InvalidCommand, xa_InvalidCommand, xn_InvalidCommand, xt_InvalidCommand, xm_InvalidCommand⟩
  have exm_InvalidCommand : PySem.W.exmOne K (.ref a10) (.ref a10) = some true := PySem.W.exm_ref ex_InvalidCommand xd_InvalidCommand ty_InvalidCommand xs_InvalidCommand
  have xc_Mismatch : ExcC K a11 := ⟨xg_Mismatch, xk_Mismatch, ex_Mismatch, xd_Mismatch, xa_Mismatch, xn_Mismatch, xt_Mismatch, xm_Mismatch⟩
  have exm_Mismatch : PySem.W.exmOne K (.ref a11) (.ref a11) = some true := PySem.W.exm_ref ex_Mismatch xd_Mismatch ty_Mismatch xs_Mismatch
  have n_int : mg "int" = none := PySem.W.mg_none_of X G z_int
  have n_len : mg "len" = none := PySem.W.mg_none_of X G z_len
  have n_abs : mg "abs" = none := PySem.W.mg_none_of X G z_abs
  have n_repr : mg "repr" = none := PySem.W.mg_none_of X G z_repr
  have n_range : mg "range" = none := PySem.W.mg_none_of X G z_range
  have n_min : mg "min" = none := PySem.W.mg_none_of X G z_min
  have n_max : mg "max" = none := PySem.W.mg_none_of X G z_max
  have n_isinstance : mg "isinstance" = none := PySem.W.mg_none_of X G z_isinstance
  have n_enumerate : mg "enumerate" = none := PySem.W.mg_none_of X G z_enumerate
  have n_ValueError : mg "ValueError" = none := PySem.W.mg_none_of X G z_ValueError
  have at_law_box : DefAt K mg "_law_box" s_law_box := ⟨_, _, PySem.W.mg_of X G a_law_box, fun_mk (st := s_law_box) l_law_box c_law_box k_law_box⟩
  have at_law_take : DefAt K mg "_law_take" s_law_take := ⟨_, _, PySem.W.mg_of X G a_law_take, fun_mk (st := s_law_take) l_law_take c_law_take k_law_take⟩
  have at_law_pick : DefAt K mg "_law_pick" s_law_pick := ⟨_, _, PySem.W.mg_of X G a_law_pick, fun_mk (st := s_law_pick) l_law_pick c_law_pick k_law_pick⟩
  have at_law_value : DefAt K mg "_law_value" s_law_value := ⟨_, _, PySem.W.mg_of X G a_law_value, fun_mk (st := s_law_value) l_law_value c_law_value k_law_value⟩
  have at_law_sorts : DefAt K mg "_law_sorts" s_law_sorts := ⟨_, _, PySem.W.mg_of X G a_law_sorts, fun_mk (st := s_law_sorts) l_law_sorts c_law_sorts k_law_sorts⟩
  have at_law_made : DefAt K mg "_law_made" s_law_made := ⟨_, _, PySem.W.mg_of X G a_law_made, fun_mk (st := s_law_made) l_law_made c_law_made k_law_made⟩
  have at_law_named : DefAt K mg "_law_named" s_law_named := ⟨_, _, PySem.W.mg_of X G a_law_named, fun_mk (st := s_law_named) l_law_named c_law_named k_law_named⟩
  have at_law_kept : DefAt K mg "_law_kept" s_law_kept := ⟨_, _, PySem.W.mg_of X G a_law_kept, fun_mk (st := s_law_kept) l_law_kept c_law_kept k_law_kept⟩
  have at_law : DefAt K mg "law" s_law := ⟨_, _, PySem.W.mg_of X G a_law, fun_mk (st := s_law) l_law c_law k_law⟩
  have T : Txt K mg aGround a0 a1 a2 a3 a4 a5 a6 a7 a8 a9 a10 a11 := ⟨m_GroundError, b_GroundError, m_InvalidNumbers, m_InvalidText, m_InvalidRow, m_InvalidChooser, m_InvalidHouse, m_InvalidTurn, m_NoNumber, m_NoRow, m_NoNote, m_InvalidWord, m_InvalidCommand, m_Mismatch,
    at_InvalidNumbers.cl, ⟨xg_InvalidNumbers, xk_InvalidNumbers, ex_InvalidNumbers, xd_InvalidNumbers⟩, na_a0_word,
    at_InvalidText.cl, ⟨xg_InvalidText, xk_InvalidText, ex_InvalidText, xd_InvalidText⟩, na_a1_at,
    at_InvalidRow.cl, ⟨xg_InvalidRow, xk_InvalidRow, ex_InvalidRow, xd_InvalidRow⟩, na_a2_part,
    at_InvalidChooser.cl, ⟨xg_InvalidChooser, xk_InvalidChooser, ex_InvalidChooser, xd_InvalidChooser⟩, na_a3_at,
    at_InvalidHouse.cl, ⟨xg_InvalidHouse, xk_InvalidHouse, ex_InvalidHouse, xd_InvalidHouse⟩, na_a4_word,
    at_InvalidTurn.cl, ⟨xg_InvalidTurn, xk_InvalidTurn, ex_InvalidTurn, xd_InvalidTurn⟩, na_a5_at,
    at_NoNumber.cl, ⟨xg_NoNumber, xk_NoNumber, ex_NoNumber, xd_NoNumber⟩, na_a6_at,
    at_NoRow.cl, ⟨xg_NoRow, xk_NoRow, ex_NoRow, xd_NoRow⟩, na_a7_at,
    at_NoNote.cl, ⟨xg_NoNote, xk_NoNote, ex_NoNote, xd_NoNote⟩, na_a8_name,
    at_InvalidWord.cl, ⟨xg_InvalidWord, xk_InvalidWord, ex_InvalidWord, xd_InvalidWord⟩,
    at_InvalidCommand.cl, ⟨xg_InvalidCommand, xk_InvalidCommand, ex_InvalidCommand, xd_InvalidCommand⟩,
    at_Mismatch.cl, ⟨xg_Mismatch, xk_Mismatch, ex_Mismatch, xd_Mismatch⟩,
    fun i hi => match i, hi with | 0, _ => xc_InvalidNumbers | 1, _ => xc_InvalidText | 2, _ => xc_InvalidRow | 3, _ => xc_InvalidChooser | 4, _ => xc_InvalidHouse | 5, _ => xc_InvalidTurn | 6, _ => xc_NoNumber | 7, _ => xc_NoRow | 8, _ => xc_NoNote | 9, _ => xc_InvalidWord | 10, _ => xc_InvalidCommand | 11, _ => xc_Mismatch | _ + 12, z => absurd z (by omega),
    kit, kib, n_int, n_len, n_abs, n_repr, n_range, n_min, n_max, n_isinstance, n_enumerate, n_ValueError⟩
  intro base hb1 hb2
  have D_take := ok_take (P := P) (w := w) (base := base) at_law_take T
  have D_pick := ok_pick (P := P) (w := w) (base := base) at_law_pick T D_take
  have D_box := ok_box (P := P) (w := w) (base := base) at_law_box T
  have D_value := ok_value (P := P) (w := w) (base := base) at_law_value T D_pick
  obtain ⟨R_InvalidNumbers, RK_InvalidNumbers⟩ := ok_InvalidNumbers (P := P) (w := w) (base := base) at_InvalidNumbers T
  obtain ⟨R_InvalidText, RK_InvalidText⟩ := ok_InvalidText (P := P) (w := w) (base := base) at_InvalidText T
  obtain ⟨R_InvalidRow, RK_InvalidRow⟩ := ok_InvalidRow (P := P) (w := w) (base := base) at_InvalidRow T
  obtain ⟨R_InvalidChooser, RK_InvalidChooser⟩ := ok_InvalidChooser (P := P) (w := w) (base := base) at_InvalidChooser T
  obtain ⟨R_InvalidHouse, RK_InvalidHouse⟩ := ok_InvalidHouse (P := P) (w := w) (base := base) at_InvalidHouse T
  obtain ⟨R_InvalidTurn, RK_InvalidTurn⟩ := ok_InvalidTurn (P := P) (w := w) (base := base) at_InvalidTurn T
  obtain ⟨R_NoNumber, RK_NoNumber⟩ := ok_NoNumber (P := P) (w := w) (base := base) at_NoNumber T
  obtain ⟨R_NoRow, RK_NoRow⟩ := ok_NoRow (P := P) (w := w) (base := base) at_NoRow T
  obtain ⟨R_NoNote, RK_NoNote⟩ := ok_NoNote (P := P) (w := w) (base := base) at_NoNote T
  have R_InvalidWord := ok_InvalidWord (P := P) (w := w) (base := base) at_InvalidWord T
  have R_InvalidCommand := ok_InvalidCommand (P := P) (w := w) (base := base) at_InvalidCommand T
  have R_Mismatch := ok_Mismatch (P := P) (w := w) (base := base) at_Mismatch T
  have D_sorts := ok_sorts (P := P) (w := w) (base := base) at_law_sorts T
  have D_kept := ok_kept (P := P) (w := w) (base := base) at_law_kept T
  have D_made := ok_made (P := P) (w := w) (base := base) at_law_made T R_InvalidNumbers R_InvalidText R_InvalidRow R_InvalidChooser R_InvalidHouse R_InvalidTurn R_NoNumber R_NoRow R_NoNote R_InvalidWord R_InvalidCommand R_Mismatch
  have D_named := ok_named (P := P) (w := w) (base := base) at_law_named T RK_InvalidNumbers RK_InvalidText RK_InvalidRow RK_InvalidChooser RK_InvalidHouse RK_InvalidTurn RK_NoNumber RK_NoRow RK_NoNote
  exact ok_law at_law T D_box D_value D_sorts D_made D_named D_kept R_InvalidHouse
end
end Hg
end L2

open PySem PySem.W PyProof.Rows in
set_option maxRecDepth 100000 in
set_option maxHeartbeats 0 in
theorem PySem.Challenge.cw_heldground_k01_errors_holds : PySem.Challenge.rw_heldground_k01_errors.Holds := by
  w_on; o_law; k_head; (case hw => w_witness2)
  k_fill
  refine L2.Hg.walk_ofG (l := PySem.Challenge.rw_heldground_k01_errors) (n := 63) (k := 7) (x := "_law_script") (sp := L2.Hg.spLaw) rfl (by decide) rfl ⟨rfl, by decide, by decide⟩ (fun w h Y => PySem.W.kIn_of Y) ?F (fun K H a ns hl hS => ⟨a, ns, rfl, hS, hl, fun _ => rfl⟩)
  case F =>
    intro w mg h KX G
    refine' L2.Hg.all_mk KX G ?a_GroundError ?bs_GroundError ?br_GroundError ?bf_GroundError ?a_InvalidNumbers ?x_InvalidNumbers ?sa_InvalidNumbers ?ex_InvalidNumbers ?ty_InvalidNumbers ?kc_InvalidNumbers ?i_InvalidNumbers ?ti_InvalidNumbers ?l_InvalidNumbers ?c_InvalidNumbers ?k_InvalidNumbers ?a_InvalidText ?x_InvalidText ?sa_InvalidText ?ex_InvalidText ?ty_InvalidText ?kc_InvalidText ?i_InvalidText ?ti_InvalidText ?l_InvalidText ?c_InvalidText ?k_InvalidText ?a_InvalidRow ?x_InvalidRow ?sa_InvalidRow ?ex_InvalidRow ?ty_InvalidRow ?kc_InvalidRow ?i_InvalidRow ?ti_InvalidRow ?l_InvalidRow ?c_InvalidRow ?k_InvalidRow ?a_InvalidChooser ?x_InvalidChooser ?sa_InvalidChooser ?ex_InvalidChooser ?ty_InvalidChooser ?kc_InvalidChooser ?i_InvalidChooser ?ti_InvalidChooser ?l_InvalidChooser ?c_InvalidChooser ?k_InvalidChooser ?a_InvalidHouse ?x_InvalidHouse ?sa_InvalidHouse ?ex_InvalidHouse ?ty_InvalidHouse ?kc_InvalidHouse ?i_InvalidHouse ?ti_InvalidHouse ?l_InvalidHouse ?c_InvalidHouse ?k_InvalidHouse ?a_InvalidTurn ?x_InvalidTurn ?sa_InvalidTurn ?ex_InvalidTurn ?ty_InvalidTurn ?kc_InvalidTurn ?i_InvalidTurn ?ti_InvalidTurn ?l_InvalidTurn ?c_InvalidTurn ?k_InvalidTurn ?a_NoNumber ?x_NoNumber ?sa_NoNumber ?ex_NoNumber ?ty_NoNumber ?kc_NoNumber ?i_NoNumber ?ti_NoNumber ?l_NoNumber ?c_NoNumber ?k_NoNumber ?a_NoRow ?x_NoRow ?sa_NoRow ?ex_NoRow ?ty_NoRow ?kc_NoRow ?i_NoRow ?ti_NoRow ?l_NoRow ?c_NoRow ?k_NoRow ?a_NoNote ?x_NoNote ?sa_NoNote ?ex_NoNote ?ty_NoNote ?kc_NoNote ?i_NoNote ?ti_NoNote ?l_NoNote ?c_NoNote ?k_NoNote ?a_InvalidWord ?x_InvalidWord ?sa_InvalidWord ?ex_InvalidWord ?ty_InvalidWord ?kc_InvalidWord ?i_InvalidWord ?ti_InvalidWord ?l_InvalidWord ?c_InvalidWord ?k_InvalidWord ?a_InvalidCommand ?x_InvalidCommand ?sa_InvalidCommand ?ex_InvalidCommand ?ty_InvalidCommand ?kc_InvalidCommand ?i_InvalidCommand ?ti_InvalidCommand ?l_InvalidCommand ?c_InvalidCommand ?k_InvalidCommand ?a_Mismatch ?x_Mismatch ?sa_Mismatch ?ex_Mismatch ?ty_Mismatch ?kc_Mismatch ?i_Mismatch ?ti_Mismatch ?l_Mismatch ?c_Mismatch ?k_Mismatch ?xg_InvalidNumbers ?xk_InvalidNumbers ?xd_InvalidNumbers ?xa_InvalidNumbers ?xn_InvalidNumbers ?xt_InvalidNumbers ?xm_InvalidNumbers ?xs_InvalidNumbers ?xg_InvalidText ?xk_InvalidText ?xd_InvalidText ?xa_InvalidText ?xn_InvalidText ?xt_InvalidText ?xm_InvalidText ?xs_InvalidText ?xg_InvalidRow ?xk_InvalidRow ?xd_InvalidRow ?xa_InvalidRow ?xn_InvalidRow ?xt_InvalidRow ?xm_InvalidRow ?xs_InvalidRow ?xg_InvalidChooser ?xk_InvalidChooser ?xd_InvalidChooser ?xa_InvalidChooser ?xn_InvalidChooser ?xt_InvalidChooser ?xm_InvalidChooser ?xs_InvalidChooser ?xg_InvalidHouse ?xk_InvalidHouse ?xd_InvalidHouse ?xa_InvalidHouse ?xn_InvalidHouse ?xt_InvalidHouse ?xm_InvalidHouse ?xs_InvalidHouse ?xg_InvalidTurn ?xk_InvalidTurn ?xd_InvalidTurn ?xa_InvalidTurn ?xn_InvalidTurn ?xt_InvalidTurn ?xm_InvalidTurn ?xs_InvalidTurn ?xg_NoNumber ?xk_NoNumber ?xd_NoNumber ?xa_NoNumber ?xn_NoNumber ?xt_NoNumber ?xm_NoNumber ?xs_NoNumber ?xg_NoRow ?xk_NoRow ?xd_NoRow ?xa_NoRow ?xn_NoRow ?xt_NoRow ?xm_NoRow ?xs_NoRow ?xg_NoNote ?xk_NoNote ?xd_NoNote ?xa_NoNote ?xn_NoNote ?xt_NoNote ?xm_NoNote ?xs_NoNote ?xg_InvalidWord ?xk_InvalidWord ?xd_InvalidWord ?xa_InvalidWord ?xn_InvalidWord ?xt_InvalidWord ?xm_InvalidWord ?xs_InvalidWord ?xg_InvalidCommand ?xk_InvalidCommand ?xd_InvalidCommand ?xa_InvalidCommand ?xn_InvalidCommand ?xt_InvalidCommand ?xm_InvalidCommand ?xs_InvalidCommand ?xg_Mismatch ?xk_Mismatch ?xd_Mismatch ?xa_Mismatch ?xn_Mismatch ?xt_Mismatch ?xm_Mismatch ?xs_Mismatch ?na_a0_word ?na_a1_at ?na_a2_part ?na_a3_at ?na_a4_word ?na_a5_at ?na_a6_at ?na_a7_at ?na_a8_name ?kit ?kib ?z_int ?z_len ?z_abs ?z_repr ?z_range ?z_min ?z_max ?z_isinstance ?z_enumerate ?z_ValueError ?a_law_box ?l_law_box ?c_law_box ?k_law_box ?a_law_take ?l_law_take ?c_law_take ?k_law_take ?a_law_pick ?l_law_pick ?c_law_pick ?k_law_pick ?a_law_value ?l_law_value ?c_law_value ?k_law_value ?a_law_sorts ?l_law_sorts ?c_law_sorts ?k_law_sorts ?a_law_made ?l_law_made ?c_law_made ?k_law_made ?a_law_named ?l_law_named ?c_law_named ?k_law_named ?a_law_kept ?l_law_kept ?c_law_kept ?k_law_kept ?a_law ?l_law ?c_law ?k_law
    (case a_GroundError => k_is)
    (case bs_GroundError => k_is)
    (case br_GroundError => k_is)
    (case bf_GroundError => k_is)
    (case a_InvalidNumbers => k_is)
    (case x_InvalidNumbers => k_is)
    (case sa_InvalidNumbers => k_is)
    (case ex_InvalidNumbers => k_is)
    (case ty_InvalidNumbers => k_is)
    (case kc_InvalidNumbers => k_is)
    (case i_InvalidNumbers => k_is)
    (case ti_InvalidNumbers => k_is)
    (case l_InvalidNumbers => k_is)
    (case c_InvalidNumbers => k_is)
    (case k_InvalidNumbers => k_is)
    (case a_InvalidText => k_is)
    (case x_InvalidText => k_is)
    (case sa_InvalidText => k_is)
    (case ex_InvalidText => k_is)
    (case ty_InvalidText => k_is)
    (case kc_InvalidText => k_is)
    (case i_InvalidText => k_is)
    (case ti_InvalidText => k_is)
    (case l_InvalidText => k_is)
    (case c_InvalidText => k_is)
    (case k_InvalidText => k_is)
    (case a_InvalidRow => k_is)
    (case x_InvalidRow => k_is)
    (case sa_InvalidRow => k_is)
    (case ex_InvalidRow => k_is)
    (case ty_InvalidRow => k_is)
    (case kc_InvalidRow => k_is)
    (case i_InvalidRow => k_is)
    (case ti_InvalidRow => k_is)
    (case l_InvalidRow => k_is)
    (case c_InvalidRow => k_is)
    (case k_InvalidRow => k_is)
    (case a_InvalidChooser => k_is)
    (case x_InvalidChooser => k_is)
    (case sa_InvalidChooser => k_is)
    (case ex_InvalidChooser => k_is)
    (case ty_InvalidChooser => k_is)
    (case kc_InvalidChooser => k_is)
    (case i_InvalidChooser => k_is)
    (case ti_InvalidChooser => k_is)
    (case l_InvalidChooser => k_is)
    (case c_InvalidChooser => k_is)
    (case k_InvalidChooser => k_is)
    (case a_InvalidHouse => k_is)
    (case x_InvalidHouse => k_is)
    (case sa_InvalidHouse => k_is)
    (case ex_InvalidHouse => k_is)
    (case ty_InvalidHouse => k_is)
    (case kc_InvalidHouse => k_is)
    (case i_InvalidHouse => k_is)
    (case ti_InvalidHouse => k_is)
    (case l_InvalidHouse => k_is)
    (case c_InvalidHouse => k_is)
    (case k_InvalidHouse => k_is)
    (case a_InvalidTurn => k_is)
    (case x_InvalidTurn => k_is)
    (case sa_InvalidTurn => k_is)
    (case ex_InvalidTurn => k_is)
    (case ty_InvalidTurn => k_is)
    (case kc_InvalidTurn => k_is)
    (case i_InvalidTurn => k_is)
    (case ti_InvalidTurn => k_is)
    (case l_InvalidTurn => k_is)
    (case c_InvalidTurn => k_is)
    (case k_InvalidTurn => k_is)
    (case a_NoNumber => k_is)
    (case x_NoNumber => k_is)
    (case sa_NoNumber => k_is)
    (case ex_NoNumber => k_is)
    (case ty_NoNumber => k_is)
    (case kc_NoNumber => k_is)
    (case i_NoNumber => k_is)
    (case ti_NoNumber => k_is)
    (case l_NoNumber => k_is)
    (case c_NoNumber => k_is)
    (case k_NoNumber => k_is)
    (case a_NoRow => k_is)
    (case x_NoRow => k_is)
    (case sa_NoRow => k_is)
    (case ex_NoRow => k_is)
    (case ty_NoRow => k_is)
    (case kc_NoRow => k_is)
    (case i_NoRow => k_is)
    (case ti_NoRow => k_is)
    (case l_NoRow => k_is)
    (case c_NoRow => k_is)
    (case k_NoRow => k_is)
    (case a_NoNote => k_is)
    (case x_NoNote => k_is)
    (case sa_NoNote => k_is)
    (case ex_NoNote => k_is)
    (case ty_NoNote => k_is)
    (case kc_NoNote => k_is)
    (case i_NoNote => k_is)
    (case ti_NoNote => k_is)
    (case l_NoNote => k_is)
    (case c_NoNote => k_is)
    (case k_NoNote => k_is)
    (case a_InvalidWord => k_is)
    (case x_InvalidWord => k_is)
    (case sa_InvalidWord => k_is)
    (case ex_InvalidWord => k_is)
    (case ty_InvalidWord => k_is)
    (case kc_InvalidWord => k_is)
    (case i_InvalidWord => k_is)
    (case ti_InvalidWord => k_is)
    (case l_InvalidWord => k_is)
    (case c_InvalidWord => k_is)
    (case k_InvalidWord => k_is)
    (case a_InvalidCommand => k_is)
    (case x_InvalidCommand => k_is)
    (case sa_InvalidCommand => k_is)
    (case ex_InvalidCommand => k_is)
    (case ty_InvalidCommand => k_is)
    (case kc_InvalidCommand => k_is)
    (case i_InvalidCommand => k_is)
    (case ti_InvalidCommand => k_is)
    (case l_InvalidCommand => k_is)
    (case c_InvalidCommand => k_is)
    (case k_InvalidCommand => k_is)
    (case a_Mismatch => k_is)
    (case x_Mismatch => k_is)
    (case sa_Mismatch => k_is)
    (case ex_Mismatch => k_is)
    (case ty_Mismatch => k_is)
    (case kc_Mismatch => k_is)
    (case i_Mismatch => k_is)
    (case ti_Mismatch => k_is)
    (case l_Mismatch => k_is)
    (case c_Mismatch => k_is)
    (case k_Mismatch => k_is)
    (case xg_InvalidNumbers => k_is)
    (case xk_InvalidNumbers => k_is)
    (case xd_InvalidNumbers => k_is)
    (case xa_InvalidNumbers => k_is)
    (case xn_InvalidNumbers => k_is)
    (case xt_InvalidNumbers => k_is)
    (case xm_InvalidNumbers => k_is)
    (case xs_InvalidNumbers => k_is)
    (case xg_InvalidText => k_is)
    (case xk_InvalidText => k_is)
    (case xd_InvalidText => k_is)
    (case xa_InvalidText => k_is)
    (case xn_InvalidText => k_is)
    (case xt_InvalidText => k_is)
    (case xm_InvalidText => k_is)
    (case xs_InvalidText => k_is)
    (case xg_InvalidRow => k_is)
    (case xk_InvalidRow => k_is)
    (case xd_InvalidRow => k_is)
    (case xa_InvalidRow => k_is)
    (case xn_InvalidRow => k_is)
    (case xt_InvalidRow => k_is)
    (case xm_InvalidRow => k_is)
    (case xs_InvalidRow => k_is)
    (case xg_InvalidChooser => k_is)
    (case xk_InvalidChooser => k_is)
    (case xd_InvalidChooser => k_is)
    (case xa_InvalidChooser => k_is)
    (case xn_InvalidChooser => k_is)
    (case xt_InvalidChooser => k_is)
    (case xm_InvalidChooser => k_is)
    (case xs_InvalidChooser => k_is)
    (case xg_InvalidHouse => k_is)
    (case xk_InvalidHouse => k_is)
    (case xd_InvalidHouse => k_is)
    (case xa_InvalidHouse => k_is)
    (case xn_InvalidHouse => k_is)
    (case xt_InvalidHouse => k_is)
    (case xm_InvalidHouse => k_is)
    (case xs_InvalidHouse => k_is)
    (case xg_InvalidTurn => k_is)
    (case xk_InvalidTurn => k_is)
    (case xd_InvalidTurn => k_is)
    (case xa_InvalidTurn => k_is)
    (case xn_InvalidTurn => k_is)
    (case xt_InvalidTurn => k_is)
    (case xm_InvalidTurn => k_is)
    (case xs_InvalidTurn => k_is)
    (case xg_NoNumber => k_is)
    (case xk_NoNumber => k_is)
    (case xd_NoNumber => k_is)
    (case xa_NoNumber => k_is)
    (case xn_NoNumber => k_is)
    (case xt_NoNumber => k_is)
    (case xm_NoNumber => k_is)
    (case xs_NoNumber => k_is)
    (case xg_NoRow => k_is)
    (case xk_NoRow => k_is)
    (case xd_NoRow => k_is)
    (case xa_NoRow => k_is)
    (case xn_NoRow => k_is)
    (case xt_NoRow => k_is)
    (case xm_NoRow => k_is)
    (case xs_NoRow => k_is)
    (case xg_NoNote => k_is)
    (case xk_NoNote => k_is)
    (case xd_NoNote => k_is)
    (case xa_NoNote => k_is)
    (case xn_NoNote => k_is)
    (case xt_NoNote => k_is)
    (case xm_NoNote => k_is)
    (case xs_NoNote => k_is)
    (case xg_InvalidWord => k_is)
    (case xk_InvalidWord => k_is)
    (case xd_InvalidWord => k_is)
    (case xa_InvalidWord => k_is)
    (case xn_InvalidWord => k_is)
    (case xt_InvalidWord => k_is)
    (case xm_InvalidWord => k_is)
    (case xs_InvalidWord => k_is)
    (case xg_InvalidCommand => k_is)
    (case xk_InvalidCommand => k_is)
    (case xd_InvalidCommand => k_is)
    (case xa_InvalidCommand => k_is)
    (case xn_InvalidCommand => k_is)
    (case xt_InvalidCommand => k_is)
    (case xm_InvalidCommand => k_is)
    (case xs_InvalidCommand => k_is)
    (case xg_Mismatch => k_is)
    (case xk_Mismatch => k_is)
    (case xd_Mismatch => k_is)
    (case xa_Mismatch => k_is)
    (case xn_Mismatch => k_is)
    (case xt_Mismatch => k_is)
    (case xm_Mismatch => k_is)
    (case xs_Mismatch => k_is)
    (case na_a0_word => k_is)
    (case na_a1_at => k_is)
    (case na_a2_part => k_is)
    (case na_a3_at => k_is)
    (case na_a4_word => k_is)
    (case na_a5_at => k_is)
    (case na_a6_at => k_is)
    (case na_a7_at => k_is)
    (case na_a8_name => k_is)
    (case kit => kernel_rfl)
    (case kib => kernel_rfl)
    (case z_int => k_is)
    (case z_len => k_is)
    (case z_abs => k_is)
    (case z_repr => k_is)
    (case z_range => k_is)
    (case z_min => k_is)
    (case z_max => k_is)
    (case z_isinstance => k_is)
    (case z_enumerate => k_is)
    (case z_ValueError => k_is)
    (case a_law_box => k_is)
    (case l_law_box => k_is)
    (case c_law_box => k_is)
    (case k_law_box => k_is)
    (case a_law_take => k_is)
    (case l_law_take => k_is)
    (case c_law_take => k_is)
    (case k_law_take => k_is)
    (case a_law_pick => k_is)
    (case l_law_pick => k_is)
    (case c_law_pick => k_is)
    (case k_law_pick => k_is)
    (case a_law_value => k_is)
    (case l_law_value => k_is)
    (case c_law_value => k_is)
    (case k_law_value => k_is)
    (case a_law_sorts => k_is)
    (case l_law_sorts => k_is)
    (case c_law_sorts => k_is)
    (case k_law_sorts => k_is)
    (case a_law_made => k_is)
    (case l_law_made => k_is)
    (case c_law_made => k_is)
    (case k_law_made => k_is)
    (case a_law_named => k_is)
    (case l_law_named => k_is)
    (case c_law_named => k_is)
    (case k_law_named => k_is)
    (case a_law_kept => k_is)
    (case l_law_kept => k_is)
    (case c_law_kept => k_is)
    (case k_law_kept => k_is)
    (case a_law => k_is)
    (case l_law => k_is)
    (case c_law => k_is)
    (case k_law => k_is)
